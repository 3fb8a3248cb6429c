import PyProof.Rows.All
import Wide.All
import OpenK.AllK
import Wide.FinOn
import HandS.ForMost
import HandS.Flow
import KE.KDictKeyed
import KE.KeyNested
import HandS.Spec
import PyProof.Rows.SeqMore
import PyProof.ListMulAny
import HandS.TupAny
import HandS.TupMul
import HandS.TupLe
import KE.GoesMore
import KE.GoesEnum
import HandS.Zip
import HandS.More
import HandS.Dict
import HandS.DictComp
import KE.OsSetLaws
import PyProof.ReprRoads
import HandS.IsInst
import HandS.SortInts
import HandS.Deep
import HandS.Style
import HandS.Conv
import HandS.Wide
import HandS.Ends
import PyProof.ReprBulk
import PyProof.Rows.StrJoinMade
import HandS.Text
import HandS.WideBits
import KE.BitLaws
import PySem.Challenge.RW_branchorders_k07_rankings_of_words
set_option Elab.async false
set_option linter.all false
set_option maxRecDepth 100000
set_option maxHeartbeats 4000000
/-! Bo, part 1: values as trees, the store of what changes, how both lie in the abstract heap. -/
namespace Bo
open PySem PySem.Spec L2

/-- a value: what never changes is a tree; obj n is the n-th thing of the store; tab: a dict of the top, with texts as keys -/
inductive D where
  | non
  | bl (b : Bool)
  | int (i : Int)
  | str (s : Str)
  | tup (ds : List D)
  | lst (ds : List D)
  | obj (n : Nat)
  | ty (n : String)
  | tab (ks : List Str) (ds : List D)

/-- the keys of a dict: by value (b: no bools; not b: no whole numbers), or tuples -/
inductive Md where
  | lf (b : Bool)
  | tp
/-- a thing that may change: a list, a dict -/
inductive O where
  | lst (ds : List D)
  | dct (m : Md) (kvs : List (D × D))

/-! ### keys -/
mutual
/-- a key up to equality -/
def keyN : D → Option NestedKey
  | .non => some .none
  | .bl b => some (.num (if b then 1 else 0))
  | .int i => some (.num i)
  | .str s => some (.text s)
  | .tup ds => match keyNs ds with
    | some ks => some (.tup ks)
    | none => none
  | _ => none
def keyNs : List D → Option (List NestedKey)
  | [] => some []
  | d :: ds => match keyN d with
    | some k => match keyNs ds with
      | some ks => some (k :: ks)
      | none => none
    | none => none
end
/-- a key by value -/
def keyL (b : Bool) : D → Option Leaf
  | .non => some .none
  | .bl c => if b then none else some (.num (if c then 1 else 0))
  | .int i => if b then some (.num i) else none
  | .str s => some (.text s)
  | _ => none
def isM (b : Bool) (k : Leaf) (v : Value) : Bool := Leaf.isOf k v && (match v with
  | .bool _ => !b
  | .int _ _ => b
  | _ => true)
theorem isM_of {b : Bool} {k : Leaf} {v : Value} (h : isM b k v = true) : Leaf.isOf k v = true := by
  unfold isM at h
  exact (Bool.and_eq_true_iff.mp h).1
/-- the kind of these keys -/
def kindM (b : Bool) (P : Program) (w : World) : KeyKind P w Leaf where
  is := isM b
  hash := fun k => k.key.hash w
  inj := fun v x y hx hy => (leafKind P w).inj v x y (isM_of hx) (isM_of hy)
  byValue := fun k v h => (leafKind P w).byValue k v (isM_of h)
  pyHash := fun h q => (leafKind P w).pyHash (isM_of h) q
  eqBool := fun h1 h2 q => (leafKind P w).eqBool (isM_of h1) (isM_of h2) q
  «strs» := fun k x t v h => by
    have h2 := (leafKind P w).strs k x t v (isM_of h)
    cases v with
    | bool c => 
      have : Leaf.isOf k (.bool c) = false := h2
      show isM b k (.bool c) = false
      unfold isM; rw [this]; rfl
    | int i t => 
      have : Leaf.isOf k (.int i t) = false := h2
      show isM b k (.int i t) = false
      unfold isM; rw [this]; rfl
    | _ => 
      show (Leaf.isOf k _ && true) = _
      rw [Bool.and_true]; exact h2

/-- where a text of values is looked at: the program, the world, what the top has written -/
structure KW where
  P : Program
  w : World
  K : PySem.W.Frag
instance : Coe KW PySem.W.Frag := ⟨KW.K⟩
abbrev _root_.L2.Cx.kw (X : Cx) : KW := ⟨X.prog, X.w, X.K⟩

/-- the addresses of the store's things, and those that a comprehension keeps to itself -/
structure Rg where
  ids : List Addr
  prv : List Addr
instance : Membership Addr Rg := ⟨fun r a => a ∈ r.ids ∨ a ∈ r.prv⟩
abbrev Store := List O
abbrev Envr := List (Option D)

/-- at a stands a dict with these tuples as keys; that they are tuples is told elsewhere -/
def ShapeH (P : Program) (w : World) (h : Heap) (a : Addr) (xs : List (NestedKey × Addr × Value)) : Prop :=
  ∃ o es ep, h.get? a = some o ∧ o.ExactDict ∧ o.data = .dict es ep ∧ es.toList = xs.map (entryOfKey (nestedKind P w)) ∧ (xs.map (·.1)).Nodup
def absD : D → V
  | .non => .non
  | .bl b => .bl b
  | .int i => .int i
  | .str s => .str s
  | _ => .non
section rel
variable (K : KW)
/-- a tuple stands at a and stays -/
def TupAt (ρ : Rg) (H : Hp) (a : Addr) (vs : List V) : Prop := (Rd H a (.tup vs) ∧ a ∉ ρ) ∨ SqT K (fun _ => none) a vs
def LstAt (ρ : Rg) (H : Hp) (a : Addr) (vs : List V) : Prop := (Rd H a (.lst vs) ∧ a ∉ ρ) ∨ (SqL K (fun _ => none) a vs ∧ ∀ o, K.K.lookup a = some o → o.slots = #[])
mutual
def RD (ρ : Rg) (H : Hp) : D → V → Prop
  | .non, v => v = .non
  | .bl b, v => v = .bl b
  | .int i, v => v = .int i
  | .str s, v => v = .str s
  | .tup ds, v => ∃ a vs, v = .ref a ∧ TupAt K ρ H a vs ∧ RDs ρ H ds vs
  | .lst ds, v => ∃ a vs, v = .ref a ∧ LstAt K ρ H a vs ∧ RDs ρ H ds vs
  | .obj n, v => ∃ a, v = .ref a ∧ ρ.ids[n]? = some a
  | .ty n, v => v = .ty n
  | .tab ks ds, v => ∃ a us vs ep, v = .ref a ∧ (a == sysModules) = false ∧ ks.length ≤ sizeLine ∧ us.length = ks.length ∧ (∀ h : Heap, K.K.In h → h.DictAt (kindM true K.P K.w) a ((ks.map Leaf.text).zip us) ep) ∧ Vals vs us ∧ RDs ρ H ds vs
def RDs (ρ : Rg) (H : Hp) : List D → List V → Prop
  | [], vs => vs = []
  | d :: ds, vs => ∃ v r, vs = v :: r ∧ RD ρ H d v ∧ RDs ρ H ds r
end
/-- an entry: a key by value; a tuple -/
def EntL (b : Bool) (ρ : Rg) (H : Hp) (p : D × D) (q : Leaf × Value) : Prop := keyL b p.1 = some q.1 ∧ ∃ v, RelV v q.2 ∧ RD K ρ H p.2 v
def EntT (ρ : Rg) (H : Hp) (p : D × D) (q : NestedKey × Addr × Value) : Prop := keyN p.1 = some q.1 ∧ q.1.depth ≤ 8 ∧ RD K ρ H p.1 (.ref q.2.1) ∧ ∃ v, RelV v q.2.2 ∧ RD K ρ H p.2 v
def RO (ρ : Rg) (H : Hp) (a : Addr) : O → Prop
  | .lst ds => ∃ vs, H a = some (.lst vs) ∧ RDs K ρ H ds vs
  | .dct (.lf b) kvs => (a == sysModules) = false ∧ kvs.length ≤ sizeLine ∧ ∃ xs, H a = some (.ext fun h => h.DictOf (kindM b K.P K.w) a xs) ∧ Paired (EntL K b ρ H) kvs xs
  | .dct .tp kvs => (a == sysModules) = false ∧ kvs.length ≤ sizeLine ∧ ∃ xs, H a = some (.ext fun h => ShapeH K.P K.w h a xs) ∧ Paired (EntT K ρ H) kvs xs
structure SR (ρ : Rg) (st : Store) (H : Hp) : Prop where
  len : ρ.ids.length = st.length
  inj : ρ.ids.Nodup
  ob : ∀ (i : Nat) o, st[i]? = some o → ∃ a, ρ.ids[i]? = some a ∧ RO K ρ H a o
  prv : ∀ a ∈ ρ.prv, a ∉ ρ.ids ∧ H a ≠ none
/-- the slots -/
structure ER (ρ : Rg) (H : Hp) (env : Envr) (σ : L2.St) : Prop where
  len : env.length = σ.length
  at_ : ∀ (i : Nat) d, env[i]? = some (some d) → ∃ v, σ[i]? = some (some v) ∧ RD K ρ H d v
/-- one state goes on to another: only what is in the store has changed -/
structure Step (ρ : Rg) (H : Hp) (ρ' : Rg) (H' : Hp) : Prop where
  pre : ρ.ids <+: ρ'.ids
  prv : ρ'.prv = ρ.prv
  new : ∀ a ∈ ρ'.ids, a ∈ ρ.ids ∨ H a = none
  fr : ∀ a o, H a = some o → a ∉ ρ.ids → H' a = some o
end rel

section
variable {K : KW} {ρ ρ' ρ1 ρ2 : Rg} {H H' H1 H2 : Hp}
theorem Rg.mem {a : Addr} : a ∈ ρ ↔ a ∈ ρ.ids ∨ a ∈ ρ.prv := Iff.rfl
theorem Rg.out {a : Addr} (h : a ∉ ρ) : a ∉ ρ.ids := fun m => h (.inl m)
theorem Step.refl : Step ρ H ρ H := ⟨List.prefix_rfl, rfl, fun _ h => .inl h, fun _ _ h _ => h⟩
theorem Step.outI (T : Step ρ H ρ' H') {a : Addr} {o : HO} (h : H a = some o) (n : a ∉ ρ.ids) : a ∉ ρ'.ids := fun m => by
  rcases T.new a m with x | x
  · exact n x
  · rw [h] at x; cases x
theorem Step.out (T : Step ρ H ρ' H') {a : Addr} {o : HO} (h : H a = some o) (n : a ∉ ρ) : a ∉ ρ' := fun m => by
  rcases m with m | m
  · exact T.outI h (Rg.out n) m
  · rw [T.prv] at m
    exact n (.inr m)
theorem Step.trans (T : Step ρ H ρ1 H1) (U : Step ρ1 H1 ρ2 H2) : Step ρ H ρ2 H2 where
  pre := T.pre.trans U.pre
  prv := U.prv.trans T.prv
  new := fun a m => by
    rcases U.new a m with x | x
    · exact T.new a x
    · by_cases hr : a ∈ ρ.ids
      · exact .inl hr
      · cases e : H a with
        | none => exact .inr rfl
        | some o => rw [T.fr a o e hr] at x; cases x
  fr := fun a o h n => U.fr a o (T.fr a o h n) (T.outI h n)
theorem Step.rd (T : Step ρ H ρ' H') {a : Addr} {u : HO} (r : Rd H a u) (n : a ∉ ρ) : Rd H' a u ∧ a ∉ ρ' := by
  rcases r with r | ⟨o, r⟩
  · exact ⟨.inl (T.fr _ _ r (Rg.out n)), T.out r n⟩
  · exact ⟨.inr ⟨o, T.fr _ _ r (Rg.out n)⟩, T.out r n⟩

/-- entries while values stay -/
theorem ents_mono {m : Md} {kvs : List (D × D)} {a : Addr} (k : ∀ d v, RD K ρ H d v → RD K ρ' H' d v) (e : H' a = H a) (h : RO K ρ H a (.dct m kvs)) : RO K ρ' H' a (.dct m kvs) := by
  cases m with
  | lf b =>
    obtain ⟨h1, h2, xs, h3, h4⟩ := h
    exact ⟨h1, h2, xs, e.trans h3, L2.Paired.mapP h4 fun p q ⟨q1, v, q2, q3⟩ => ⟨q1, v, q2, k _ _ q3⟩⟩
  | tp =>
    obtain ⟨h1, h2, xs, h3, h4⟩ := h
    exact ⟨h1, h2, xs, e.trans h3, L2.Paired.mapP h4 fun p q ⟨q1, q2, q3, v, q4, q5⟩ => ⟨q1, q2, k _ _ q3, v, q4, k _ _ q5⟩⟩
/-- the addresses of the store's things are tracked as things that may change -/
theorem SR.mut {st : Store} (S : SR K ρ st H) {a : Addr} (h : a ∈ ρ.ids) : ∃ o, H a = some o ∧ Mut (some o) := by
  obtain ⟨i, hi, e⟩ := List.mem_iff_getElem.mp h
  have hi' : i < st.length := by rw [← S.len]; exact hi
  obtain ⟨b, hb, r⟩ := S.ob i st[i] (List.getElem?_eq_getElem hi')
  rw [List.getElem?_eq_getElem hi, e] at hb
  cases hb
  cases q : st[i] with
  | lst ds => rw [q] at r; exact ⟨_, r.choose_spec.1, trivial⟩
  | dct m kvs =>
    rw [q] at r
    cases m with
    | lf b => obtain ⟨_, _, xs, h, _⟩ := r; exact ⟨_, h, trivial⟩
    | tp => obtain ⟨_, _, xs, h, _⟩ := r; exact ⟨_, h, trivial⟩

/-- a step at which more may be kept to oneself -/
structure StepW (ρ : Rg) (H : Hp) (ρ' : Rg) (H' : Hp) : Prop where
  pre : ρ.ids <+: ρ'.ids
  prv : ∀ a ∈ ρ'.prv, a ∈ ρ.prv ∨ H a = none
  new : ∀ a ∈ ρ'.ids, a ∈ ρ.ids ∨ H a = none
  fr : ∀ a o, H a = some o → a ∉ ρ → H' a = some o
theorem Step.w (T : Step ρ H ρ' H') : StepW ρ H ρ' H' := ⟨T.pre, fun a h => .inl (T.prv ▸ h), T.new, fun a o h n => T.fr a o h (Rg.out n)⟩
theorem StepW.rd (T : StepW ρ H ρ' H') {a : Addr} {u : HO} (r : Rd H a u) (n : a ∉ ρ) : Rd H' a u ∧ a ∉ ρ' := by
  have out : ∀ {o : HO}, H a = some o → a ∉ ρ' := fun {o} h m => by
    rcases m with m | m
    · rcases T.new a m with x | x
      · exact n (.inl x)
      · rw [h] at x; cases x
    · rcases T.prv a m with x | x
      · exact n (.inr x)
      · rw [h] at x; cases x
  rcases r with r | ⟨o, r⟩
  · exact ⟨.inl (T.fr _ _ r n), out r⟩
  · exact ⟨.inr ⟨o, T.fr _ _ r n⟩, out r⟩
theorem TupAt.monoW (T : StepW ρ H ρ' H') {a : Addr} {vs : List V} (h : TupAt K ρ H a vs) : TupAt K ρ' H' a vs := by
  rcases h with ⟨h, n⟩ | h
  · exact .inl (T.rd h n)
  · exact .inr h
theorem LstAt.monoW (T : StepW ρ H ρ' H') {a : Addr} {vs : List V} (h : LstAt K ρ H a vs) : LstAt K ρ' H' a vs := by
  rcases h with ⟨h, n⟩ | h
  · exact .inl (T.rd h n)
  · exact .inr h
theorem TupAt.mono (T : Step ρ H ρ' H') {a : Addr} {vs : List V} (h : TupAt K ρ H a vs) : TupAt K ρ' H' a vs := h.monoW T.w
theorem LstAt.mono (T : Step ρ H ρ' H') {a : Addr} {vs : List V} (h : LstAt K ρ H a vs) : LstAt K ρ' H' a vs := h.monoW T.w
theorem TupAt.sq {a : Addr} {vs : List V} (h : TupAt K ρ H a vs) : SqT K H a vs := by
  rcases h with ⟨h, n⟩ | (⟨h | ⟨_, h⟩⟩ | h)
  · exact .inl h
  · cases h
  · cases h
  · exact .inr h
theorem LstAt.sq {a : Addr} {vs : List V} (h : LstAt K ρ H a vs) : SqL K H a vs := by
  rcases h with ⟨h, n⟩ | ⟨⟨h | ⟨_, h⟩⟩ | h, _⟩
  · exact .inl h
  · cases h
  · cases h
  · exact .inr h
mutual
theorem RD.monoW (T : StepW ρ H ρ' H') : ∀ (d : D) (v : V), RD K ρ H d v → RD K ρ' H' d v
  | .non, _, h => h
  | .bl _, _, h => h
  | .ty _, _, h => h
  | .int _, _, h => h
  | .str _, _, h => h
  | .tup ds, v, h => by
    obtain ⟨a, vs, e, t, r⟩ := h
    exact ⟨a, vs, e, t.monoW T, RDs.monoW T ds vs r⟩
  | .lst ds, v, h => by
    obtain ⟨a, vs, e, t, r⟩ := h
    exact ⟨a, vs, e, t.monoW T, RDs.monoW T ds vs r⟩
  | .tab ks ds, v, h => by
    obtain ⟨a, us, vs, ep, e, h1, h2, h3, h4, h5, r⟩ := h
    exact ⟨a, us, vs, ep, e, h1, h2, h3, h4, h5, RDs.monoW T ds vs r⟩
  | .obj n, v, h => by
    obtain ⟨a, e, r⟩ := h
    obtain ⟨t, ht⟩ := T.pre
    refine ⟨a, e, ?_⟩
    rw [← ht, List.getElem?_append_left (List.getElem?_eq_some_iff.mp r).1]
    exact r
theorem RDs.monoW (T : StepW ρ H ρ' H') : ∀ (ds : List D) (vs : List V), RDs K ρ H ds vs → RDs K ρ' H' ds vs
  | [], _, h => h
  | d :: ds, vs, h => by
    obtain ⟨v, r, e, h1, h2⟩ := h
    exact ⟨v, r, e, RD.monoW T d v h1, RDs.monoW T ds r h2⟩
end
theorem RD.mono (T : Step ρ H ρ' H') (d : D) (v : V) (h : RD K ρ H d v) : RD K ρ' H' d v := RD.monoW T.w d v h
theorem RDs.mono (T : Step ρ H ρ' H') (ds : List D) (vs : List V) (h : RDs K ρ H ds vs) : RDs K ρ' H' ds vs := RDs.monoW T.w ds vs h
theorem ER.monoW (T : StepW ρ H ρ' H') {env : Envr} {σ : L2.St} (E : ER K ρ H env σ) : ER K ρ' H' env σ :=
  ⟨E.len, fun i d h => let ⟨v, h1, h2⟩ := E.at_ i d h; ⟨v, h1, RD.monoW T d v h2⟩⟩
theorem ER.mono (T : Step ρ H ρ' H') {env : Envr} {σ : L2.St} (E : ER K ρ H env σ) : ER K ρ' H' env σ :=
  ⟨E.len, fun i d h => let ⟨v, h1, h2⟩ := E.at_ i d h; ⟨v, h1, RD.mono T d v h2⟩⟩
theorem RDs.length : ∀ {ds : List D} {vs : List V}, RDs K ρ H ds vs → vs.length = ds.length
  | [], _, h => by cases h; rfl
  | d :: ds, _, h => by
    obtain ⟨v, r, rfl, _, h2⟩ := h
    simp [RDs.length h2]
theorem RDs.get : ∀ {ds : List D} {vs : List V} {i : Nat} {d : D}, RDs K ρ H ds vs → ds[i]? = some d → ∃ v, vs[i]? = some v ∧ RD K ρ H d v
  | [], _, _, _, _, e => by simp at e
  | d :: ds, _, i, x, h, e => by
    obtain ⟨v, r, rfl, h1, h2⟩ := h
    cases i with
    | zero => simp at e; subst e; exact ⟨v, rfl, h1⟩
    | succ i => exact RDs.get (i := i) h2 (by simpa using e)
theorem RDs.get' {ds : List D} {vs : List V} {i : Nat} {v : V} (h : RDs K ρ H ds vs) (e : vs[i]? = some v) : ∃ d, ds[i]? = some d ∧ RD K ρ H d v := by
  have hi : i < vs.length := (List.getElem?_eq_some_iff.mp e).1
  rw [h.length] at hi
  obtain ⟨v', e', r⟩ := h.get (List.getElem?_eq_getElem hi)
  rw [e] at e'; cases e'
  exact ⟨_, List.getElem?_eq_getElem hi, r⟩
theorem RDs.append : ∀ {ds es : List D} {vs ws : List V}, RDs K ρ H ds vs → RDs K ρ H es ws → RDs K ρ H (ds ++ es) (vs ++ ws)
  | [], _, _, _, h, g => by cases h; exact g
  | d :: ds, _, _, _, h, g => by
    obtain ⟨v, r, rfl, h1, h2⟩ := h
    exact ⟨v, r ++ _, rfl, h1, RDs.append h2 g⟩
theorem RDs.set {ds : List D} {vs : List V} (d : D) (v : V) (r : RD K ρ H d v) : ∀ (i : Nat) {ds : List D} {vs : List V}, RDs K ρ H ds vs → RDs K ρ H (ds.set i d) (vs.set i v)
  | _, [], _, h => by cases h; exact rfl
  | 0, x :: ds, _, h => by
    obtain ⟨w, t, rfl, h1, h2⟩ := h
    exact ⟨v, t, rfl, r, h2⟩
  | i + 1, x :: ds, _, h => by
    obtain ⟨w, t, rfl, h1, h2⟩ := h
    exact ⟨w, t.set i v, rfl, h1, RDs.set (ds := ds) (vs := t) d v r i h2⟩
theorem RDs.take : ∀ (n : Nat) {ds : List D} {vs : List V}, RDs K ρ H ds vs → RDs K ρ H (ds.take n) (vs.take n)
  | 0, _, _, _ => rfl
  | _ + 1, [], _, h => by cases h; exact rfl
  | n + 1, x :: ds, _, h => by
    obtain ⟨w, t, rfl, h1, h2⟩ := h
    exact ⟨w, t.take n, rfl, h1, RDs.take n h2⟩
theorem RDs.drop : ∀ (n : Nat) {ds : List D} {vs : List V}, RDs K ρ H ds vs → RDs K ρ H (ds.drop n) (vs.drop n)
  | 0, _, _, h => h
  | _ + 1, [], _, h => by cases h; exact rfl
  | n + 1, x :: ds, _, h => by
    obtain ⟨w, t, rfl, h1, h2⟩ := h
    exact RDs.drop n h2
theorem SR.fresh {st : Store} (S : SR K ρ st H) {a : Addr} (hn : H a = none) : a ∉ ρ := fun m => by
  rcases m with m | m
  · obtain ⟨xs, e, _⟩ := S.mut m
    rw [hn] at e; cases e
  · exact (S.prv a m).2 hn
/-- a thing laid that is read alone -/
theorem Step.laid {st : Store} {a : Addr} {o : HO} (S : SR K ρ st H) (hn : H a = none) : Step ρ H ρ (upd H a o) :=
  ⟨List.prefix_rfl, rfl, fun _ h => .inl h, fun b u h _ => by rw [upd_ne (ne_of_none h hn)]; exact h⟩
theorem RO.mono (T : Step ρ H ρ' H') {a : Addr} {o : O} (h : RO K ρ H a o) (k : H' a = H a) : RO K ρ' H' a o := by
  cases o with
  | lst ds =>
    obtain ⟨vs, e, r⟩ := h
    exact ⟨vs, by rw [k]; exact e, RDs.mono T ds vs r⟩
  | dct m kvs => exact ents_mono (fun d v => RD.mono T d v) k h
theorem SR.prvS {st : Store} (S : SR K ρ st H) (T : Step ρ H ρ' H') : ∀ a ∈ ρ'.prv, a ∉ ρ'.ids ∧ H' a ≠ none := fun a h => by
  rw [T.prv] at h
  obtain ⟨h1, h2⟩ := S.prv a h
  cases e : H a with
  | none => exact absurd e h2
  | some o => exact ⟨T.outI e h1, by rw [T.fr a o e h1]; exact fun z => nomatch z⟩
theorem SR.keep {st : Store} (S : SR K ρ st H) (hk : ∀ a ∈ ρ.ids, H' a = H a) (T : Step ρ H ρ H') : SR K ρ st H' :=
  ⟨S.len, S.inj, fun i o e => by
    obtain ⟨a, h1, h2⟩ := S.ob i o e
    exact ⟨a, h1, h2.mono T (hk a (List.mem_of_getElem? h1))⟩, S.prvS T⟩
theorem SR.laid {st : Store} {a : Addr} {o : HO} (S : SR K ρ st H) (hn : H a = none) : SR K ρ st (upd H a o) :=
  S.keep (fun b hb => upd_ne fun e => S.fresh hn (.inl (e ▸ hb))) (Step.laid (st := st) S hn)
theorem ix_inj : ∀ {l : List Addr} {i j : Nat} {x : Addr}, l.Nodup → l[i]? = some x → l[j]? = some x → i = j
  | [], _, _, _, _, h, _ => by simp at h
  | y :: l, 0, 0, _, _, _, _ => rfl
  | y :: l, 0, j + 1, x, n, h, g => by
    simp at h g
    subst h
    exact absurd (List.mem_of_getElem? g) (List.nodup_cons.mp n).1
  | y :: l, i + 1, 0, x, n, h, g => by
    simp at h g
    subst g
    exact absurd (List.mem_of_getElem? h) (List.nodup_cons.mp n).1
  | y :: l, i + 1, j + 1, x, n, h, g => by
    simp at h g
    rw [ix_inj (List.nodup_cons.mp n).2 h g]
/-- one more thing -/
def Rg.add (ρ : Rg) (a : Addr) : Rg := ⟨ρ.ids ++ [a], ρ.prv⟩
/-- a new thing of the store -/
theorem Step.push {st : Store} {a : Addr} {o : HO} (S : SR K ρ st H) (hn : H a = none) : Step ρ H (ρ.add a) (upd H a o) :=
  ⟨List.prefix_append _ _, rfl, fun b h => by
    rcases List.mem_append.mp h with h | h
    · exact .inl h
    · rw [List.mem_singleton.mp h]; exact .inr hn, fun b u h _ => by rw [upd_ne (ne_of_none h hn)]; exact h⟩
theorem SR.pushO {st : Store} {a : Addr} {o : HO} {u : O} (S : SR K ρ st H) (hn : H a = none) (r : RO K (ρ.add a) (upd H a o) a u) : SR K (ρ.add a) (st ++ [u]) (upd H a o) := by
  have T : Step ρ H (ρ.add a) (upd H a o) := Step.push (st := st) S hn
  have hfr : a ∉ ρ := S.fresh hn
  refine ⟨by simp [Rg.add, S.len], ?_, fun i o' e => ?_, S.prvS T⟩
  · show (ρ.ids ++ [a]).Nodup
    rw [List.nodup_append]
    exact ⟨S.inj, by simp, fun x hx y hy e => by
      rw [List.mem_singleton.mp hy] at e
      exact hfr (.inl (e ▸ hx))⟩
  · by_cases hi : i < st.length
    · rw [List.getElem?_append_left hi] at e
      obtain ⟨b, h1, h2⟩ := S.ob i o' e
      refine ⟨b, by show (ρ.ids ++ [a])[i]? = _; rw [List.getElem?_append_left (List.getElem?_eq_some_iff.mp h1).1]; exact h1, h2.mono T ?_⟩
      exact upd_ne fun z => hfr (.inl (z ▸ List.mem_of_getElem? h1))
    · have hl : i < (st ++ [u]).length := (List.getElem?_eq_some_iff.mp e).1
      have hi2 : i = st.length := by simp at hl; omega
      subst hi2
      simp at e
      subst e
      exact ⟨a, by show (ρ.ids ++ [a])[st.length]? = _; rw [← S.len]; simp, r⟩
theorem SR.push {st : Store} {a : Addr} {vs : List V} {ds : List D} (S : SR K ρ st H) (hn : H a = none) (r : RDs K ρ H ds vs) : SR K (ρ.add a) (st ++ [.lst ds]) (upd H a (.lst vs)) :=
  S.pushO hn ⟨vs, upd_same, RDs.mono (Step.push (st := st) S hn) _ _ r⟩
/-- a thing of the store is changed -/
theorem Step.put {st : Store} {a : Addr} {o : HO} (S : SR K ρ st H) (hm : a ∈ ρ.ids) : Step ρ H ρ (upd H a o) :=
  ⟨List.prefix_rfl, rfl, fun _ h => .inl h, fun b u h n => by
    have nb : b ≠ a := fun z => by subst z; exact n hm
    rw [upd_ne nb]; exact h⟩
theorem SR.putO {st : Store} {n : Nat} {a : Addr} {o : HO} {u : O} (S : SR K ρ st H) (hn : ρ.ids[n]? = some a) (r : RO K ρ (upd H a o) a u) : SR K ρ (st.set n u) (upd H a o) := by
  have hm := List.mem_of_getElem? hn
  have T : Step ρ H ρ (upd H a o) := Step.put (st := st) S hm
  have hnl : n < ρ.ids.length := (List.getElem?_eq_some_iff.mp hn).1
  refine ⟨by simp [S.len], S.inj, fun i o' e => ?_, S.prvS T⟩
  by_cases hi : i = n
  · subst hi
    rw [List.getElem?_set_self (by rw [← S.len]; exact hnl)] at e
    cases e
    exact ⟨a, hn, r⟩
  · rw [List.getElem?_set_ne (Ne.symm hi)] at e
    obtain ⟨b, h1, h2⟩ := S.ob i o' e
    refine ⟨b, h1, h2.mono T (upd_ne fun z => hi ?_)⟩
    subst z
    exact ix_inj S.inj h1 hn
theorem SR.put {st : Store} {n : Nat} {a : Addr} {vs : List V} {ds : List D} (S : SR K ρ st H) (hn : ρ.ids[n]? = some a) (r : RDs K ρ H ds vs) : SR K ρ (st.set n (.lst ds)) (upd H a (.lst vs)) :=
  S.putO hn ⟨vs, upd_same, RDs.mono (Step.put (st := st) S (List.mem_of_getElem? hn)) _ _ r⟩

/-! ### an address kept to oneself -/
/-- ρ and the address a, kept -/
def Rg.own (ρ : Rg) (a : Addr) : Rg := ⟨ρ.ids, a :: ρ.prv⟩
theorem own_out {a b : Addr} : b ∉ ρ.own a ↔ b ≠ a ∧ b ∉ ρ := by
  constructor
  · intro h
    refine ⟨fun e => h (.inr (by rw [e]; exact List.mem_cons_self)), fun m => ?_⟩
    rcases m with m | m
    · exact h (.inl m)
    · exact h (.inr (List.mem_cons_of_mem _ m))
  · rintro ⟨h1, h2⟩ m
    rcases m with m | m
    · exact h2 (.inl m)
    · rcases List.mem_cons.mp m with m | m
      · exact h1 m
      · exact h2 (.inr m)
/-- all but a is as it was -/
def Other (a : Addr) (H H' : Hp) : Prop := ∀ b o, b ≠ a → H b = some o → H' b = some o
theorem rd_other {a : Addr} {u : HO} {b : Addr} (k : Other a H H') (r : Rd H b u) (n : b ≠ a) : Rd H' b u := by
  rcases r with r | ⟨o, r⟩
  · exact .inl (k b _ n r)
  · exact .inr ⟨o, k b _ n r⟩
mutual
/-- into: a is new; and on, while a alone changes -/
theorem RD.into {a : Addr} (hn : H a = none) (k : Other a H H') : ∀ (d : D) (v : V), RD K ρ H d v → RD K (ρ.own a) H' d v
  | .non, _, h => h
  | .bl _, _, h => h
  | .ty _, _, h => h
  | .int _, _, h => h
  | .str _, _, h => h
  | .tup ds, v, h => by
    obtain ⟨b, vs, e, t, r⟩ := h
    refine ⟨b, vs, e, ?_, RDs.into hn k ds vs r⟩
    rcases t with ⟨t, n⟩ | t
    · have nb : b ≠ a := fun z => by
        subst z
        rcases t with t | ⟨_, t⟩ <;> (rw [hn] at t; cases t)
      exact .inl ⟨rd_other k t nb, own_out.mpr ⟨nb, n⟩⟩
    · exact .inr t
  | .lst ds, v, h => by
    obtain ⟨b, vs, e, t, r⟩ := h
    refine ⟨b, vs, e, ?_, RDs.into hn k ds vs r⟩
    rcases t with ⟨t, n⟩ | t
    · have nb : b ≠ a := fun z => by
        subst z
        rcases t with t | ⟨_, t⟩ <;> (rw [hn] at t; cases t)
      exact .inl ⟨rd_other k t nb, own_out.mpr ⟨nb, n⟩⟩
    · exact .inr t
  | .tab ks ds, v, h => by
    obtain ⟨a, us, vs, ep, e, h1, h2, h3, h4, h5, r⟩ := h
    exact ⟨a, us, vs, ep, e, h1, h2, h3, h4, h5, RDs.into hn k ds vs r⟩
  | .obj n, v, h => h
theorem RDs.into {a : Addr} (hn : H a = none) (k : Other a H H') : ∀ (ds : List D) (vs : List V), RDs K ρ H ds vs → RDs K (ρ.own a) H' ds vs
  | [], _, h => h
  | d :: ds, vs, h => by
    obtain ⟨v, r, e, h1, h2⟩ := h
    exact ⟨v, r, e, RD.into hn k d v h1, RDs.into hn k ds r h2⟩
end
mutual
/-- a alone changes, kept or no more -/
theorem RD.within {a : Addr} (k : Other a H H') : ∀ (d : D) (v : V), RD K (ρ.own a) H d v → RD K (ρ.own a) H' d v ∧ RD K ρ H' d v
  | .non, _, h => ⟨h, h⟩
  | .bl _, _, h => ⟨h, h⟩
  | .ty _, _, h => ⟨h, h⟩
  | .int _, _, h => ⟨h, h⟩
  | .str _, _, h => ⟨h, h⟩
  | .tup ds, v, h => by
    obtain ⟨b, vs, e, t, r⟩ := h
    have q := RDs.within k ds vs r
    rcases t with ⟨t, n⟩ | t
    · obtain ⟨n1, n2⟩ := own_out.mp n
      exact ⟨⟨b, vs, e, .inl ⟨rd_other k t n1, n⟩, q.1⟩, ⟨b, vs, e, .inl ⟨rd_other k t n1, n2⟩, q.2⟩⟩
    · exact ⟨⟨b, vs, e, .inr t, q.1⟩, ⟨b, vs, e, .inr t, q.2⟩⟩
  | .lst ds, v, h => by
    obtain ⟨b, vs, e, t, r⟩ := h
    have q := RDs.within k ds vs r
    rcases t with ⟨t, n⟩ | t
    · obtain ⟨n1, n2⟩ := own_out.mp n
      exact ⟨⟨b, vs, e, .inl ⟨rd_other k t n1, n⟩, q.1⟩, ⟨b, vs, e, .inl ⟨rd_other k t n1, n2⟩, q.2⟩⟩
    · exact ⟨⟨b, vs, e, .inr t, q.1⟩, ⟨b, vs, e, .inr t, q.2⟩⟩
  | .tab ks ds, v, h => by
    obtain ⟨a, us, vs, ep, e, h1, h2, h3, h4, h5, r⟩ := h
    have q := RDs.within k ds vs r
    exact ⟨⟨a, us, vs, ep, e, h1, h2, h3, h4, h5, q.1⟩, ⟨a, us, vs, ep, e, h1, h2, h3, h4, h5, q.2⟩⟩
  | .obj n, v, h => ⟨h, h⟩
theorem RDs.within {a : Addr} (k : Other a H H') : ∀ (ds : List D) (vs : List V), RDs K (ρ.own a) H ds vs → RDs K (ρ.own a) H' ds vs ∧ RDs K ρ H' ds vs
  | [], _, h => ⟨h, h⟩
  | d :: ds, vs, h => by
    obtain ⟨v, r, e, h1, h2⟩ := h
    have q1 := RD.within k d v h1
    have q2 := RDs.within k ds r h2
    exact ⟨⟨v, r, e, q1.1, q2.1⟩, ⟨v, r, e, q1.2, q2.2⟩⟩
end
theorem SR.into {st : Store} {a : Addr} {o : HO} (S : SR K ρ st H) (hn : H a = none) : SR K (ρ.own a) st (upd H a o) := by
  have k : Other a H (upd H a o) := fun b u n h => by rw [upd_ne n]; exact h
  have fr := S.fresh hn
  refine ⟨S.len, S.inj, fun i u e => ?_, fun b hb => ?_⟩
  · obtain ⟨b, h1, h2⟩ := S.ob i u e
    refine ⟨b, h1, ?_⟩
    have nb : b ≠ a := fun z => fr (.inl (z ▸ List.mem_of_getElem? h1))
    cases u with
    | lst ds =>
      obtain ⟨vs, hv, r⟩ := h2
      exact ⟨vs, k b _ nb hv, RDs.into hn k ds vs r⟩
    | dct m kvs => exact ents_mono (fun d v => RD.into hn k d v) (upd_ne nb) h2
  · rcases List.mem_cons.mp hb with rfl | hb
    · exact ⟨fun m => fr (.inl m), by rw [upd_same]; exact fun z => nomatch z⟩
    · have h := S.prv b hb
      refine ⟨h.1, ?_⟩
      by_cases e : b = a
      · subst e; rw [upd_same]; exact fun z => nomatch z
      · rw [upd_ne e]; exact h.2
/-- the kept thing changes, or is kept no more -/
theorem SR.within {st : Store} {a : Addr} {o : HO} (S : SR K (ρ.own a) st H) : SR K (ρ.own a) st (upd H a o) ∧ SR K ρ st (upd H a o) := by
  have k : Other a H (upd H a o) := fun b u n h => by rw [upd_ne n]; exact h
  have ha : a ∉ ρ.ids := (S.prv a List.mem_cons_self).1
  have ob : ∀ (i : Nat) u, st[i]? = some u → ∃ b, ρ.ids[i]? = some b ∧ RO K (ρ.own a) (upd H a o) b u ∧ RO K ρ (upd H a o) b u := fun i u e => by
    obtain ⟨b, h1, h2⟩ := S.ob i u e
    have nb : b ≠ a := fun z => ha (z ▸ List.mem_of_getElem? h1)
    cases u with
    | lst ds =>
      obtain ⟨vs, hv, r⟩ := h2
      have q := RDs.within k ds vs r
      exact ⟨b, h1, ⟨vs, k b _ nb hv, q.1⟩, ⟨vs, k b _ nb hv, q.2⟩⟩
    | dct m kvs =>
      exact ⟨b, h1, ents_mono (fun d v h => (RD.within k d v h).1) (upd_ne nb) h2, ents_mono (fun d v h => (RD.within k d v h).2) (upd_ne nb) h2⟩
  have pr : ∀ b ∈ (ρ.own a).prv, b ∉ ρ.ids ∧ upd H a o b ≠ none := fun b hb => by
    have h := S.prv b hb
    refine ⟨h.1, ?_⟩
    by_cases e : b = a
    · subst e; rw [upd_same]; exact fun z => nomatch z
    · rw [upd_ne e]; exact h.2
  exact ⟨⟨S.len, S.inj, fun i u e => let ⟨b, h1, h2, _⟩ := ob i u e; ⟨b, h1, h2⟩, pr⟩, ⟨S.len, S.inj, fun i u e => let ⟨b, h1, _, h2⟩ := ob i u e; ⟨b, h1, h2⟩, fun b hb => pr b (List.mem_cons_of_mem _ hb)⟩⟩
/-- kept no more -/
theorem SR.drop {st : Store} {a : Addr} (S : SR K (ρ.own a) st H) : SR K ρ st H :=
  ⟨S.len, S.inj, fun i u e => by
    obtain ⟨b, h1, h2⟩ := S.ob i u e
    refine ⟨b, h1, ?_⟩
    cases u with
    | lst ds =>
      obtain ⟨vs, hv, r⟩ := h2
      exact ⟨vs, hv, (RDs.within (fun _ _ _ h => h) ds vs r).2⟩
    | dct m kvs => exact ents_mono (fun d v h => (RD.within (fun _ _ _ h => h) d v h).2) rfl h2, fun b hb => S.prv b (List.mem_cons_of_mem _ hb)⟩
theorem ER.into {env : Envr} {σ : L2.St} {a : Addr} (hn : H a = none) (k : Other a H H') (E : ER K ρ H env σ) : ER K (ρ.own a) H' env σ :=
  ⟨E.len, fun i d h => let ⟨v, h1, h2⟩ := E.at_ i d h; ⟨v, h1, RD.into hn k d v h2⟩⟩
theorem ER.within {env : Envr} {σ : L2.St} {a : Addr} (k : Other a H H') (E : ER K (ρ.own a) H env σ) : ER K (ρ.own a) H' env σ :=
  ⟨E.len, fun i d h => let ⟨v, h1, h2⟩ := E.at_ i d h; ⟨v, h1, (RD.within k d v h2).1⟩⟩
end

/-! ### readings over D -/
abbrev Ev := Envr → Store → Option (D × Store)
/-- an expression's reading -/
def tD (K : KW) (f : Ev) : TE := fun σ H Q => ∃ ρ st env r st', SR K ρ st H ∧ ER K ρ H env σ ∧ f env st = some (r, st') ∧
  ∀ ρ' v H', Step ρ H ρ' H' → SR K ρ' st' H' → RD K ρ' H' r v → Q v H'
abbrev EvT := Envr → Store → Option (Bool × Store)
def tDT (K : KW) (f : EvT) : TT := fun σ H Q => ∃ ρ st env r st', SR K ρ st H ∧ ER K ρ H env σ ∧ f env st = some (r, st') ∧
  ∀ ρ' H', Step ρ H ρ' H' → SR K ρ' st' H' → Q r H'
abbrev EvA := Envr → Store → Option (List D × Store)
def tDA (K : KW) (f : EvA) : TA := fun σ H Q => ∃ ρ st env r st', SR K ρ st H ∧ ER K ρ H env σ ∧ f env st = some (r, st') ∧
  ∀ ρ' vs H', Step ρ H ρ' H' → SR K ρ' st' H' → RDs K ρ' H' r vs → Q vs H'
section
variable {X : Cx}
theorem PE.imp {e : Expr} {t t' : TE} (h : PE X e t) (k : ∀ σ H Q, t' σ H Q → t σ H Q) : PE X e t' := ⟨fun pins s σ H Q I q => h.run pins s σ H Q I (k σ H Q q)⟩
theorem PT.imp {e : Expr} {t t' : TT} (h : PT X e t) (k : ∀ σ H Q, t' σ H Q → t σ H Q) : PT X e t' := ⟨fun pins s σ H Q I q => h.run pins s σ H Q I (k σ H Q q)⟩
theorem PW.imp {e : Expr} {t t' : TT} (h : PW X e t) (k : ∀ σ H Q, t' σ H Q → t σ H Q) : PW X e t' := ⟨fun wh pins s σ H Q I q => h.run wh pins s σ H Q I (k σ H Q q)⟩
theorem PA.imp {es : List Expr} {t t' : TA} (h : PA X es t) (k : ∀ σ H Q, t' σ H Q → t σ H Q) : PA X es t' := ⟨fun p pins s σ H Q I q => h.run p pins s σ H Q I (k σ H Q q)⟩
theorem PS.imp {e : Stmt} {t t' : TS} (h : PS X e t) (k : ∀ Dn σ H, t' Dn σ H → t Dn σ H) : PS X e t' := ⟨fun pins s σ H Q I q => h.run pins s σ H Q I (k Q σ H q)⟩
theorem PSs.imp {e : List Stmt} {t t' : TS} (h : PSs X e t) (k : ∀ Dn σ H, t' Dn σ H → t Dn σ H) : PSs X e t' := ⟨fun pins s σ H Q I q => h.run pins s σ H Q I (k Q σ H q)⟩
end
end Bo

set_option Elab.async false
set_option linter.all false
set_option maxRecDepth 100000
set_option maxHeartbeats 4000000
/-! Bo, part 1d: dicts over D, and that the model does what they do. -/
namespace Bo
open PySem PySem.Spec L2

/-! ### over D -/
def eqK (a b : D) : Bool := match keyN a, keyN b with
  | some x, some y => decide (x = y)
  | _, _ => false
def getK (kvs : List (D × D)) (k : D) : Option D := (kvs.find? fun p => eqK p.1 k).map (·.2)
def setK (kvs : List (D × D)) (k v : D) : List (D × D) := if kvs.any (fun p => eqK p.1 k) then kvs.map (fun p => if eqK p.1 k then (p.1, v) else p) else kvs ++ [(k, v)]
def okK : Md → D → Bool
  | .lf b, k => (keyL b k).isSome
  | .tp, .tup ds => (match keyN (.tup ds) with
    | some n => decide (n.depth ≤ 8)
    | none => false)
  | .tp, _ => false
def dictD (st : Store) : D → Option (Md × List (D × D))
  | .tab ks ds => some (.lf true, (ks.map D.str).zip ds)
  | .obj n => match st[n]? with
    | some (.dct m kvs) => some (m, kvs)
    | _ => none
  | _ => none

theorem keyL_N {b : Bool} {d : D} {l : Leaf} (h : keyL b d = some l) : keyN d = some l.key := by
  cases d with
  | non => cases h; rfl
  | bl c =>
    simp only [keyL] at h
    split at h
    · cases h
    · cases h; rfl
  | int i =>
    simp only [keyL] at h
    split at h
    · cases h; rfl
    · cases h
  | str s => cases h; rfl
  | tup _ => cases h
  | lst _ => cases h
  | obj _ => cases h
  | ty _ => cases h
  | tab _ _ => cases h
theorem eqK_L {b : Bool} {c d : D} {x y : Leaf} (h : keyL b c = some x) (g : keyL b d = some y) : eqK c d = decide (x = y) := by
  unfold eqK
  rw [keyL_N h, keyL_N g]
  simp only
  by_cases e : x = y
  · subst e; simp
  · have : ¬ x.key = y.key := fun z => e (Leaf.key_inj z)
    simp [e, this]
theorem keyL_is {K : KW} {ρ : Rg} {H : Hp} {b : Bool} {d : D} {l : Leaf} {v : V} {u : Value} (h : keyL b d = some l) (r : RD K ρ H d v) (q : RelV v u) : isM b l u = true := by
  cases d with
  | non =>
    cases h; cases r
    cases u <;> first | rfl | cases q
  | bl c =>
    simp only [keyL] at h
    split at h
    · cases h
    · rename_i hb
      cases h; cases r
      obtain rfl : u = .bool c := q
      cases b
      · simp [isM, Leaf.isOf]
      · exact absurd rfl hb
  | int i =>
    simp only [keyL] at h
    split at h
    · rename_i hb
      cases h; cases r
      obtain ⟨t, rfl⟩ := (show ∃ t, u = .int i t from q)
      simp [isM, Leaf.isOf, hb]
    · cases h
  | str s =>
    cases h; cases r
    obtain ⟨t, rfl⟩ := (show ∃ t, u = .str s t from q)
    simp [isM, Leaf.isOf, Value.isStrOf]
  | tup _ => cases h
  | lst _ => cases h
  | obj _ => cases h
  | ty _ => cases h
  | tab _ _ => cases h

section
variable {K : KW} {ρ : Rg} {H : Hp} {b : Bool}
abbrev Leafs := List (Leaf × Value)
theorem lf_val {k : D} {l : Leaf} (hk : keyL b k = some l) : ∀ {kvs : List (D × D)} {xs : Leafs}, Paired (EntL K b ρ H) kvs xs →
    (∀ d, getK kvs k = some d → ∃ u v, valueAt xs l = some u ∧ RelV v u ∧ RD K ρ H d v) ∧ (getK kvs k = none → valueAt xs l = none)
  | _, _, .nil => ⟨fun d h => (by cases h), fun _ => rfl⟩
  | _, _, .cons (a := p) (b := q) (l₁ := kvs) (l₂ := xs) h t => by
    obtain ⟨h1, v, h2, h3⟩ := h
    have ih := lf_val hk t
    have e := eqK_L h1 hk
    by_cases c : q.1 = l
    · have e2 : eqK p.1 k = true := by rw [e]; exact decide_eq_true c
      refine ⟨fun d hd => ⟨q.2, v, by simp [valueAt, c], h2, ?_⟩, fun hd => ?_⟩
      · have : d = p.2 := by simpa [getK, e2] using hd.symm
        subst this; exact h3
      · simp [getK, e2] at hd
    · have e2 : eqK p.1 k = false := by rw [e]; exact decide_eq_false c
      have g : getK (p :: kvs) k = getK kvs k := by simp [getK, e2]
      have g2 : valueAt (q :: xs) l = valueAt xs l := by simp [valueAt, c]
      rw [g, g2]
      exact ih
theorem lf_any {k : D} {l : Leaf} (hk : keyL b k = some l) : ∀ {kvs : List (D × D)} {xs : Leafs}, Paired (EntL K b ρ H) kvs xs → (kvs.any fun p => eqK p.1 k) = (xs.any fun q => decide (q.1 = l))
  | _, _, .nil => rfl
  | _, _, .cons h t => by
    rw [List.any_cons, List.any_cons, lf_any hk t, eqK_L h.1 hk]
theorem lf_map {k d : D} {l : Leaf} {v : V} {u : Value} (hk : keyL b k = some l) (q : RelV v u) (r : RD K ρ H d v) : ∀ {kvs : List (D × D)} {xs : Leafs}, Paired (EntL K b ρ H) kvs xs →
    Paired (EntL K b ρ H) (kvs.map fun p => if eqK p.1 k then (p.1, d) else p) (xs.map fun z => if z.1 = l then (z.1, u) else z)
  | _, _, .nil => .nil
  | _, _, .cons (a := p) (b := z) h t => by
    refine .cons ?_ (lf_map hk q r t)
    have e := eqK_L h.1 hk
    show EntL K b ρ H (if eqK p.1 k then (p.1, d) else p) (if z.1 = l then (z.1, u) else z)
    by_cases c : z.1 = l
    · rw [if_pos c, if_pos (by rw [e]; exact decide_eq_true c)]
      exact ⟨h.1, v, q, r⟩
    · rw [if_neg c, if_neg (by rw [e, decide_eq_false c]; exact Bool.false_ne_true)]
      exact h
theorem lf_set {k d : D} {l : Leaf} {v : V} {u : Value} (hk : keyL b k = some l) (q : RelV v u) (r : RD K ρ H d v) {kvs : List (D × D)} {xs : Leafs} (t : Paired (EntL K b ρ H) kvs xs) : Paired (EntL K b ρ H) (setK kvs k d) (stored xs l u) := by
  unfold setK stored
  have e := lf_any hk t
  by_cases c : (xs.any fun q => decide (q.1 = l)) = true
  · rw [if_pos c, if_pos (e.trans c)]
    exact lf_map hk q r t
  · rw [if_neg c, if_neg (fun z => c (e.symm.trans z))]
    exact t.snoc ⟨hk, v, q, r⟩
/-! ### tuples as keys -/
theorem eqK_N {c d : D} {x y : NestedKey} (h : keyN c = some x) (g : keyN d = some y) : eqK c d = decide (x = y) := by
  unfold eqK
  rw [h, g]
abbrev Tups := List (NestedKey × Addr × Value)
theorem tp_val {k : D} {n : NestedKey} (hk : keyN k = some n) : ∀ {kvs : List (D × D)} {xs : Tups}, Paired (EntT K ρ H) kvs xs →
    (∀ d, getK kvs k = some d → ∃ u v, atKey xs n = some u ∧ RelV v u.2 ∧ RD K ρ H d v) ∧ (getK kvs k = none → atKey xs n = none)
  | _, _, .nil => ⟨fun d h => (by cases h), fun _ => rfl⟩
  | _, _, .cons (a := p) (b := q) (l₁ := kvs) (l₂ := xs) h t => by
    obtain ⟨h1, _, _, v, h2, h3⟩ := h
    have ih := tp_val hk t
    have e := eqK_N h1 hk
    by_cases c : q.1 = n
    · have e2 : eqK p.1 k = true := by rw [e]; exact decide_eq_true c
      refine ⟨fun d hd => ⟨q.2, v, by simp [atKey, c], h2, ?_⟩, fun hd => ?_⟩
      · have : d = p.2 := by simpa [getK, e2] using hd.symm
        subst this; exact h3
      · simp [getK, e2] at hd
    · have e2 : eqK p.1 k = false := by rw [e]; exact decide_eq_false c
      have g : getK (p :: kvs) k = getK kvs k := by simp [getK, e2]
      have g2 : atKey (q :: xs) n = atKey xs n := by simp [atKey, c]
      rw [g, g2]
      exact ih
theorem tp_map {k d : D} {n : NestedKey} {v : V} {u : Value} (hk : keyN k = some n) (q : RelV v u) (r : RD K ρ H d v) : ∀ {kvs : List (D × D)} {xs : Tups}, Paired (EntT K ρ H) kvs xs →
    Paired (EntT K ρ H) (kvs.map fun p => if eqK p.1 k then (p.1, d) else p) (xs.map (putAt n u))
  | _, _, .nil => .nil
  | _, _, .cons (a := p) (b := z) h t => by
    refine .cons ?_ (tp_map hk q r t)
    have e := eqK_N h.1 hk
    show EntT K ρ H (if eqK p.1 k then (p.1, d) else p) (if z.1 = n then (z.1, z.2.1, u) else z)
    by_cases c : z.1 = n
    · rw [if_pos c, if_pos (by rw [e]; exact decide_eq_true c)]
      exact ⟨h.1, h.2.1, h.2.2.1, v, q, r⟩
    · rw [if_neg c, if_neg (by rw [e, decide_eq_false c]; exact Bool.false_ne_true)]
      exact h
theorem tp_any {k : D} {n : NestedKey} (hk : keyN k = some n) : ∀ {kvs : List (D × D)} {xs : Tups}, Paired (EntT K ρ H) kvs xs → (kvs.any fun p => eqK p.1 k) = (atKey xs n).isSome
  | _, _, .nil => rfl
  | _, _, .cons (a := p) (b := q) (l₁ := kvs) (l₂ := xs) h t => by
    rw [List.any_cons, tp_any hk t, eqK_N h.1 hk]
    by_cases c : q.1 = n
    · simp [atKey, c]
    · simp [atKey, c]
theorem tp_set {k d : D} {n : NestedKey} {a : Addr} {v : V} {u : Value} (hk : keyN k = some n) (hd : n.depth ≤ 8) (rk : RD K ρ H k (.ref a)) (q : RelV v u) (r : RD K ρ H d v) {kvs : List (D × D)} {xs : Tups} (t : Paired (EntT K ρ H) kvs xs) :
    Paired (EntT K ρ H) (setK kvs k d) (storedH xs n a u) := by
  unfold setK storedH
  have e := tp_any hk t
  by_cases c : (atKey xs n).isSome = true
  · rw [if_pos c, if_pos (e.trans c)]
    exact tp_map hk q r t
  · rw [if_neg c, if_neg (fun z => c (e.symm.trans z))]
    exact t.snoc ⟨hk, hd, rk, v, q, r⟩
theorem setK_len (kvs : List (D × D)) (k v : D) : (setK kvs k v).length ≤ kvs.length + 1 := by
  unfold setK
  split <;> simp
end

/-! ### how a dict lies -/
def LfAt (K : KW) (H : Hp) (p : Addr) (b : Bool) (xs : Leafs) : Prop :=
  H p = some (.ext fun h => h.DictOf (kindM b K.P K.w) p xs) ∨ ∃ ep, ∀ h : Heap, K.K.In h → h.DictAt (kindM b K.P K.w) p xs ep
def Dv (K : KW) (ρ : Rg) (H : Hp) (p : Addr) (kvs : List (D × D)) : Md → Prop
  | .lf b => (p == sysModules) = false ∧ kvs.length ≤ sizeLine ∧ ∃ xs, LfAt K H p b xs ∧ Paired (EntL K b ρ H) kvs xs
  | .tp => (p == sysModules) = false ∧ kvs.length ≤ sizeLine ∧ ∃ xs, H p = some (.ext fun h => ShapeH K.P K.w h p xs) ∧ Paired (EntT K ρ H) kvs xs
theorem tab_ents {K : KW} {ρ : Rg} {H : Hp} : ∀ {ks : List Str} {ds : List D} {us : List Value} {vs : List V}, us.length = ks.length → Vals vs us → RDs K ρ H ds vs → Paired (EntL K true ρ H) ((ks.map D.str).zip ds) ((ks.map Leaf.text).zip us)
  | [], _, [], _, _, _, _ => .nil
  | [], _, _ :: _, _, h, _, _ => by cases h
  | _ :: _, _, [], _, h, _, _ => by cases h
  | k :: ks, ds, u :: us, _, h, .cons (a := v) (l₁ := vs) r1 r2, rd => by
    cases ds with
    | nil => cases rd
    | cons d ds =>
      obtain ⟨v', t, e, h1, h2⟩ := rd
      cases e
      exact .cons ⟨rfl, _, r1, h1⟩ (tab_ents (by simpa using h) r2 h2)
theorem zip_len_le {α β : Type} (xs : List α) (ys : List β) : (xs.zip ys).length ≤ xs.length := by
  rw [List.length_zip]; exact Nat.min_le_left _ _
theorem dict_ok {K : KW} {ρ : Rg} {st : Store} {H : Hp} {d : D} {v : V} {m : Md} {kvs : List (D × D)} (S : SR K ρ st H) (r : RD K ρ H d v) (e : dictD st d = some (m, kvs)) : ∃ p, v = .ref p ∧ Dv K ρ H p kvs m := by
  cases d with
  | tab ks ds =>
    cases e
    obtain ⟨a, us, vs, ep, rfl, h1, h2, h3, h4, h5, h6⟩ := r
    refine ⟨a, rfl, h1, ?_, _, .inr ⟨ep, h4⟩, tab_ents h3 h5 h6⟩
    have := zip_len_le (ks.map D.str) ds
    rw [List.length_map] at this
    omega
  | obj n =>
    simp only [dictD] at e
    split at e
    · rename_i m' kvs' q
      cases e
      obtain ⟨a, rfl, h⟩ := r
      obtain ⟨b, hb, r⟩ := S.ob n _ q
      rw [h] at hb; cases hb
      refine ⟨a, rfl, ?_⟩
      cases m with
      | lf b => obtain ⟨h1, h2, xs, h3, h4⟩ := r; exact ⟨h1, h2, xs, .inl h3, h4⟩
      | tp => exact r
    · cases e
  | non => cases e
  | bl _ => cases e
  | int _ => cases e
  | str _ => cases e
  | tup _ => cases e
  | lst _ => cases e
  | ty _ => cases e

section
variable {X : Cx} {pins : List (Addr × Obj)} {σ : L2.St} {H : Hp} {s : Shared} {ρ : Rg} {p : Addr} {b : Bool} {kvs : List (D × D)}
theorem LfAt.dict {xs : Leafs} (I : Inv X pins σ H s) (h : LfAt X.kw H p b xs) : s.heap.DictOf (kindM b X.prog X.w) p xs := by
  rcases h with h | ⟨ep, h⟩
  · exact (I.hok p _ h).1
  · exact (h _ I.kIn).dictOf
mutual
theorem nested_is (I : Inv X pins σ H s) : ∀ (d : D) (n : NestedKey) (v : V) (u : Value), keyN d = some n → RD X.kw ρ H d v → RelV v u → NestedIs s.heap n u
  | .non, _, _, u, e, r, q => by
    cases e; cases r
    obtain rfl : u = .none := q
    exact .none
  | .bl c, _, _, u, e, r, q => by
    cases e; cases r
    obtain rfl : u = .bool c := q
    exact .bool rfl
  | .int i, _, _, u, e, r, q => by
    cases e; cases r
    obtain ⟨t, rfl⟩ := (show ∃ t, u = .int i t from q)
    exact .int _ _
  | .str x, _, _, u, e, r, q => by
    cases e; cases r
    obtain ⟨t, rfl⟩ := (show ∃ t, u = .str x t from q)
    exact .text _ _
  | .tup ds, n, _, u, e, r, q => by
    obtain ⟨a, vs, rfl, t, r⟩ := r
    obtain rfl : u = .ref a := q
    unfold keyN at e
    cases hk : keyNs ds with
    | none => rw [hk] at e; cases e
    | some ks =>
      rw [hk] at e; cases e
      obtain ⟨its, o, m, hv, ho, hc, hd⟩ := sqT_at I.hok I.kIn t.sq
      exact .tup ho hc hd (by simpa using nested_all I ds ks vs its hk r hv)
  | .lst _, _, _, _, e, _, _ => by simp [keyN] at e
  | .obj _, _, _, _, e, _, _ => by simp [keyN] at e
  | .ty _, _, _, _, e, _, _ => by simp [keyN] at e
  | .tab _ _, _, _, _, e, _, _ => by simp [keyN] at e
theorem nested_all (I : Inv X pins σ H s) : ∀ (ds : List D) (ks : List NestedKey) (vs : List V) (us : List Value), keyNs ds = some ks → RDs X.kw ρ H ds vs → Vals vs us → NestedAll s.heap ks us
  | [], _, _, us, e, r, q => by
    cases e; cases r; cases q
    exact .nil
  | d :: ds, ks, vs, us, e, r, q => by
    obtain ⟨v, t, rfl, r1, r2⟩ := r
    unfold keyNs at e
    cases h1 : keyN d with
    | none => rw [h1] at e; cases e
    | some k =>
      rw [h1] at e
      cases h2 : keyNs ds with
      | none => simp [h2] at e
      | some ks' =>
        simp [h2] at e
        subst e
        cases q with
        | cons q1 q2 => exact .cons (nested_is I d k v _ h1 r1 q1) (nested_all I ds ks' t _ h2 r2 q2)
end
theorem okT {k : D} (h : okK .tp k = true) : ∃ n, keyN k = some n ∧ n.depth ≤ 8 ∧ ∀ {K : KW} {ρ : Rg} {H : Hp} {v : V}, RD K ρ H k v → ∃ a, v = .ref a := by
  cases k with
  | tup ds =>
    simp only [okK] at h
    split at h
    · rename_i n e
      exact ⟨n, e, of_decide_eq_true h, fun ⟨a, _, e, _⟩ => ⟨a, e⟩⟩
    · cases h
  | _ => cases h
theorem okL {k : D} (h : okK (.lf b) k = true) : ∃ l, keyL b k = some l := Option.isSome_iff_exists.mp h
/-- a dict of tuples in the heap -/
theorem shape_dict {xs : Tups} (I : Inv X pins σ H s) (h : H p = some (.ext fun h => ShapeH X.prog X.w h p xs)) (t : Paired (EntT X.kw ρ H) kvs xs) : s.heap.DictOfH (nestedKind X.prog X.w) p xs := by
  obtain ⟨o, es, ep, h1, h2, h3, h4, h5⟩ := (I.hok p _ h).1
  refine ⟨o, es, ep, h1, h2, h3, h4, ?_, h5⟩
  clear h h4 h5
  induction t with
  | nil => intro x hx; cases hx
  | cons q _ ih =>
    intro x hx
    rcases List.mem_cons.mp hx with rfl | hx
    · exact ⟨nested_is I _ _ _ _ q.1 q.2.2.1 rfl, q.2.1⟩
    · exact ih x hx
theorem room8 (hu : X.A.units + 64 < cLine) : (nestedKind X.prog X.w).room X.A.in1 := by
  show X.A.units + 1 + 8 < cLine
  omega

/-! ### operations -/
variable {m : Md} {k d : D}
/-- key in dict -/
theorem op_inDict (hu : X.A.units + 64 < cLine) : OpR X (compareOp .In) fun x y H Q => ∃ ρ p kvs m k, y = .ref p ∧ Dv X.kw ρ H p kvs m ∧ RD X.kw ρ H k x ∧ okK m k = true ∧ Q (.bl (getK kvs k).isSome) H := by
  intro pins s σ H x y v u Q I rx ry ⟨ρ, p, kvs, m, k, hy, D, rk, ok, q⟩
  subst hy
  obtain rfl : u = .ref p := ry
  cases m with
  | lf b =>
    obtain ⟨h1, h2, xs, h3, h4⟩ := D
    obtain ⟨l, hl⟩ := okL ok
    refine wpAny_in_of (knd := kindM b X.prog X.w) (keyL_is hl rk rx) h1 (h3.dict I).mapOf ⟨.bl (getK kvs k).isSome, H, I.tok _, ?_, q⟩
    have z := lf_val hl h4
    show Value.bool _ = Value.bool _
    cases hg : getK kvs k with
    | none => rw [z.2 hg]; rfl
    | some d => obtain ⟨u, _, e, _⟩ := z.1 d hg; rw [e]; rfl
  | tp =>
    obtain ⟨h1, h2, xs, h3, h4⟩ := D
    obtain ⟨n, hn, hd, hr⟩ := okT ok
    obtain ⟨a, rfl⟩ := hr rk
    obtain rfl : v = .ref a := rx
    refine wpAny_in_heap (knd := nestedKind X.prog X.w) (room8 hu) ⟨nested_is I _ _ _ _ hn rk rfl, hd⟩ h1 (shape_dict I h3 h4) ⟨.bl (getK kvs k).isSome, H, I.tok _, ?_, q⟩
    have z := tp_val hn h4
    show Value.bool _ = Value.bool _
    cases hg : getK kvs k with
    | none => rw [z.2 hg]; rfl
    | some d => obtain ⟨u, _, e, _⟩ := z.1 d hg; rw [e]; rfl
theorem op_notInDict (hu : X.A.units + 64 < cLine) : OpR X (compareOp .NotIn) fun x y H Q => ∃ ρ p kvs m k, y = .ref p ∧ Dv X.kw ρ H p kvs m ∧ RD X.kw ρ H k x ∧ okK m k = true ∧ Q (.bl (!(getK kvs k).isSome)) H := by
  intro pins s σ H x y v u Q I rx ry ⟨ρ, p, kvs, m, k, hy, D, rk, ok, q⟩
  subst hy
  obtain rfl : u = .ref p := ry
  cases m with
  | lf b =>
    obtain ⟨h1, h2, xs, h3, h4⟩ := D
    obtain ⟨l, hl⟩ := okL ok
    refine wpAny_notIn_of (knd := kindM b X.prog X.w) (keyL_is hl rk rx) h1 (h3.dict I).mapOf ⟨.bl (!(getK kvs k).isSome), H, I.tok _, ?_, q⟩
    have z := lf_val hl h4
    show Value.bool _ = Value.bool _
    cases hg : getK kvs k with
    | none => rw [z.2 hg]; rfl
    | some d => obtain ⟨u, _, e, _⟩ := z.1 d hg; rw [e]; rfl
  | tp =>
    obtain ⟨h1, h2, xs, h3, h4⟩ := D
    obtain ⟨n, hn, hd, hr⟩ := okT ok
    obtain ⟨a, rfl⟩ := hr rk
    obtain rfl : v = .ref a := rx
    refine PyProof.Rows.wpAny_notIn_heap (knd := nestedKind X.prog X.w) (room8 hu) ⟨nested_is I _ _ _ _ hn rk rfl, hd⟩ h1 (shape_dict I h3 h4) ⟨.bl (!(getK kvs k).isSome), H, I.tok _, ?_, q⟩
    have z := tp_val hn h4
    show Value.bool _ = Value.bool _
    cases hg : getK kvs k with
    | none => rw [z.2 hg]; rfl
    | some d => obtain ⟨u, _, e, _⟩ := z.1 d hg; rw [e]; rfl
/-- dict[key], there -/
theorem op_getDict (hu : X.A.units + 64 < cLine) : OpR X getItem fun x y H Q => ∃ ρ p kvs m k d, x = .ref p ∧ Dv X.kw ρ H p kvs m ∧ RD X.kw ρ H k y ∧ okK m k = true ∧ getK kvs k = some d ∧ ∀ v, RD X.kw ρ H d v → Q v H := by
  intro pins s σ H x y v u Q I rx ry ⟨ρ, p, kvs, m, k, d, hx, D, rk, ok, hg, q⟩
  subst hx
  obtain rfl : v = .ref p := rx
  cases m with
  | lf b =>
    obtain ⟨h1, h2, xs, h3, h4⟩ := D
    obtain ⟨l, hl⟩ := okL ok
    obtain ⟨w, z, e1, e2, e3⟩ := (lf_val hl h4).1 d hg
    exact wpAny_getItem_of (knd := kindM b X.prog X.w) (keyL_is hl rk ry) (h3.dict I).mapOf e1 ⟨z, H, I.tok _, e2, q z e3⟩
  | tp =>
    obtain ⟨h1, h2, xs, h3, h4⟩ := D
    obtain ⟨n, hn, hd, hr⟩ := okT ok
    obtain ⟨a, rfl⟩ := hr rk
    obtain rfl : u = .ref a := ry
    obtain ⟨w, z, e1, e2, e3⟩ := (tp_val hn h4).1 d hg
    exact wpAny_getItem_heap (knd := nestedKind X.prog X.w) (room8 hu) ⟨nested_is I _ _ _ _ hn rk rfl, hd⟩ (shape_dict I h3 h4) e1 ⟨z, H, I.tok _, e2, q z e3⟩
/-- what a dict's type is -/
theorem dv_type (I : Inv X pins σ H s) (D : Dv X.kw ρ H p kvs m) : s.TypeIs (.ref p) "dict" ∧ (∀ b, Value.ref p = .ref b → ∃ ob, s.heap.get? b = some ob ∧ ob.dict = none) := by
  cases m with
  | lf b =>
    obtain ⟨h1, h2, xs, h3, h4⟩ := D
    have q := (h3.dict I).mapOf
    exact ⟨q.typeIs, q.noDict⟩
  | tp =>
    obtain ⟨h1, h2, xs, h3, h4⟩ := D
    obtain ⟨o, es, ep, e1, e2, _⟩ := (I.hok p _ h3).1
    refine ⟨⟨o, e1, e2.1⟩, fun b q => ?_⟩
    cases q
    exact ⟨o, e1, e2.2.1⟩
/-- dict.get(key), dict.get(key, other) -/
theorem mt_get (hu : X.A.units + 64 < cLine) : MtR X "dict.get" fun x xs H Q => ∃ ρ p kvs m k kv, x = .ref p ∧ Dv X.kw ρ H p kvs m ∧ RD X.kw ρ H k kv ∧ okK m k = true ∧
    ((∃ (o : D) (ov : V), xs = [kv, ov] ∧ RD X.kw ρ H o ov ∧ ∀ v, RD X.kw ρ H ((getK kvs k).getD o) v → Q v H) ∨ (xs = [kv] ∧ ∀ v, RD X.kw ρ H ((getK kvs k).getD .non) v → Q v H)) := by
  intro pins s σ H x xs v us Q I rx rxs ⟨ρ, p, kvs, m, k, kv, hx, D, rk, ok, h⟩
  subst hx
  obtain rfl : v = .ref p := rx
  obtain ⟨ty, _⟩ := dv_type I D
  rcases h with ⟨o, ov, rfl, ro, q⟩ | ⟨rfl, q⟩
  · obtain ⟨ku, ou, rfl, r1, r2⟩ : ∃ ku ou, us = [ku, ou] ∧ RelV kv ku ∧ RelV ov ou := by
      cases rxs with
      | cons r1 t => cases t with
        | cons r2 t => cases t; exact ⟨_, _, rfl, r1, r2⟩
    cases m with
    | lf b =>
      obtain ⟨h1, h2, xs, h3, h4⟩ := D
      obtain ⟨l, hl⟩ := okL ok
      have z := lf_val hl h4
      refine call_meetsIn PySem.F.slot_dict_get ty PySem.F.entry_dict_get (PySem.F.args_dict_get_3 _ _ _) (meets_dict_get_default (kindM b X.prog X.w) p (keyL_is hl rk r1) h1 ou) ⟨_, (h3.dict I).mapOf, ?_⟩
      cases hg : getK kvs k with
      | none =>
        rw [hg] at q
        rw [z.2 hg]
        exact ⟨ov, H, I.tok _, r2, q _ ro⟩
      | some d =>
        rw [hg] at q
        obtain ⟨w, y, e1, e2, e3⟩ := z.1 d hg
        rw [e1]
        exact ⟨y, H, I.tok _, e2, q y e3⟩
    | tp =>
      obtain ⟨h1, h2, xs, h3, h4⟩ := D
      obtain ⟨n, hn, hd, hr⟩ := okT ok
      obtain ⟨a, rfl⟩ := hr rk
      obtain rfl : ku = .ref a := r1
      have z := tp_val hn h4
      refine call_meetsIn PySem.F.slot_dict_get ty PySem.F.entry_dict_get (PySem.F.args_dict_get_3 _ _ _) (meetsH_dict_get_default (nestedKind X.prog X.w) p a h1 ou) ⟨room8 hu, n, xs, ⟨nested_is I _ _ _ _ hn rk rfl, hd⟩, shape_dict I h3 h4, ?_⟩
      cases hg : getK kvs k with
      | none =>
        rw [hg] at q
        rw [z.2 hg]
        exact ⟨ov, H, I.tok _, r2, q _ ro⟩
      | some d =>
        rw [hg] at q
        obtain ⟨w, y, e1, e2, e3⟩ := z.1 d hg
        rw [e1]
        exact ⟨y, H, I.tok _, e2, q y e3⟩
  · obtain ⟨ku, rfl, r1⟩ : ∃ ku, us = [ku] ∧ RelV kv ku := by
      cases rxs with
      | cons r1 t => cases t; exact ⟨_, rfl, r1⟩
    cases m with
    | lf b =>
      obtain ⟨h1, h2, xs, h3, h4⟩ := D
      obtain ⟨l, hl⟩ := okL ok
      have z := lf_val hl h4
      refine call_meetsIn PySem.F.slot_dict_get ty PySem.F.entry_dict_get (PySem.F.args_dict_get_2 _ _) (meets_dict_get (kindM b X.prog X.w) p (keyL_is hl rk r1) h1) ⟨_, (h3.dict I).mapOf, ?_⟩
      cases hg : getK kvs k with
      | none =>
        rw [hg] at q
        rw [z.2 hg]
        exact ⟨.non, H, I.tok _, rfl, q _ rfl⟩
      | some d =>
        rw [hg] at q
        obtain ⟨w, y, e1, e2, e3⟩ := z.1 d hg
        rw [e1]
        exact ⟨y, H, I.tok _, e2, q y e3⟩
    | tp =>
      obtain ⟨h1, h2, xs, h3, h4⟩ := D
      obtain ⟨n, hn, hd, hr⟩ := okT ok
      obtain ⟨a, rfl⟩ := hr rk
      obtain rfl : ku = .ref a := r1
      have z := tp_val hn h4
      refine call_meetsIn PySem.F.slot_dict_get ty PySem.F.entry_dict_get (PySem.F.args_dict_get_2 _ _) (meetsH_dict_get (nestedKind X.prog X.w) p a h1) ⟨room8 hu, n, xs, ⟨nested_is I _ _ _ _ hn rk rfl, hd⟩, shape_dict I h3 h4, ?_⟩
      cases hg : getK kvs k with
      | none =>
        rw [hg] at q
        rw [z.2 hg]
        exact ⟨.non, H, I.tok _, rfl, q _ rfl⟩
      | some d =>
        rw [hg] at q
        obtain ⟨w, y, e1, e2, e3⟩ := z.1 d hg
        rw [e1]
        exact ⟨y, H, I.tok _, e2, q y e3⟩
/-- dict[key] = v, where it may change -/
theorem dict_set {st : Store} {n : Nat} {w : V} {x : V} {u r : Value} {A : Around} {E : Value → Shared → Prop} {Q : Unit → Shared → Prop} (hu : X.A.units + 64 < cLine) (hA : A = X.A) (I : Inv X pins σ H s) (S : SR X.kw ρ st H) (hn : ρ.ids[n]? = some p) (hs : st[n]? = some (.dct m kvs))
    (rk : RD X.kw ρ H k x) (rx : RelV x u) (ok : okK m k = true) (hl : kvs.length < sizeLine) (rd : RD X.kw ρ H d w) (rw' : RelV w r)
    (h : ∀ o s', Inv X pins σ (upd H p o) s' → SR X.kw ρ (st.set n (.dct m (setK kvs k d))) (upd H p o) → Q () s') : wpAny (model X.prog X.w) A (setItem (.ref p) u r) Q E s := by
  subst hA
  have hm := List.mem_of_getElem? hn
  obtain ⟨b0, hb0, ro⟩ := S.ob n _ hs
  rw [hn] at hb0; cases hb0
  have hlen : (setK kvs k d).length ≤ sizeLine := by have := setK_len kvs k d; omega
  cases m with
  | lf b =>
    obtain ⟨h1, h2, xs, h3, h4⟩ := ro
    obtain ⟨l, hl⟩ := okL ok
    have len : xs.length ≤ sizeLine := by rw [← Paired.length h4]; exact h2
    refine wpAny_setItem_pairs (knd := kindM b X.prog X.w) (hsz := len) (keyL_is hl rk rx) (I.hok p _ h3).1 fun h' hd hsb => ?_
    have he : ∃ q, h'.get? p = some q := let ⟨q, _, _, hq, _⟩ := hd; ⟨q, hq⟩
    have new : ObjOk X.prog X.w (upd H p (.ext fun h => h.DictOf (kindM b X.prog X.w) p (stored xs l r))) h' p (.ext fun h => h.DictOf (kindM b X.prog X.w) p (stored xs l r)) :=
      ⟨hd, he, fun g1 g2 f hk => let ⟨o, es, ep, e1, rest⟩ := f; ⟨o, es, ep, hk o e1, rest⟩⟩
    have I' := I.write (x := p) (e := p) (t' := s.toks + 1) (by rw [h3]; exact True.intro) (.inl rfl) (fun c q hc z => (hsb.2 c hc).trans z) he new
    refine h _ _ I' (S.putO hn ⟨h1, hlen, stored xs l r, upd_same, ?_⟩)
    have T : Step ρ H ρ (upd H p (.ext fun h => h.DictOf (kindM b X.prog X.w) p (stored xs l r))) := Step.put (st := st) S hm
    exact L2.Paired.mapP (lf_set hl rw' rd h4) fun a c ⟨z1, z2, z3, z4⟩ => ⟨z1, z2, z3, RD.mono T _ _ z4⟩
  | tp =>
    obtain ⟨h1, h2, xs, h3, h4⟩ := ro
    obtain ⟨nk, hnk, hd, hr⟩ := okT ok
    obtain ⟨a, rfl⟩ := hr rk
    obtain rfl : u = .ref a := rx
    have len : xs.length ≤ sizeLine := by rw [← Paired.length h4]; exact h2
    refine wpAny_setItem_heap (knd := nestedKind X.prog X.w) (hsz := len) (room8 hu) ⟨nested_is I _ _ _ _ hnk rk rfl, hd⟩ (shape_dict I h3 h4) fun h' hd' hsb => ?_
    obtain ⟨o, es, ep, e1, e2, e3, e4, _, e5⟩ := hd'
    have he : ∃ q, h'.get? p = some q := ⟨o, e1⟩
    have new : ObjOk X.prog X.w (upd H p (.ext fun h => ShapeH X.prog X.w h p (storedH xs nk a r))) h' p (.ext fun h => ShapeH X.prog X.w h p (storedH xs nk a r)) :=
      ⟨⟨o, es, ep, e1, e2, e3, e4, e5⟩, he, fun g1 g2 f hk => let ⟨o, es, ep, e1, rest⟩ := f; ⟨o, es, ep, hk o e1, rest⟩⟩
    have I' := I.write (x := p) (e := p) (t' := s.toks + (nestedKind X.prog X.w).draws nk) (by rw [h3]; exact True.intro) (.inl rfl) (fun c q hc z => (hsb.2 c hc).trans z) he new
    refine h _ _ I' (S.putO hn ⟨h1, hlen, storedH xs nk a r, upd_same, ?_⟩)
    have T : Step ρ H ρ (upd H p (.ext fun h => ShapeH X.prog X.w h p (storedH xs nk a r))) := Step.put (st := st) S hm
    exact L2.Paired.mapP (tp_set hnk hd rk rw' rd h4) fun a c ⟨z1, z2, z3, z4, z5, z6⟩ => ⟨z1, z2, RD.mono T _ _ z3, z4, z5, RD.mono T _ _ z6⟩
end
end Bo

set_option Elab.async false
set_option linter.all false
set_option maxRecDepth 100000
set_option maxHeartbeats 4000000
/-! Bo, part 1e: operations on any two lists. -/
namespace Bo
open PySem PySem.Spec L2 PyProof.Rows
section
variable {X : Cx}
/-- list + list, any two lists -/
theorem op_catL : OpR X (binaryOp .Add) (fun x y H Q => ∃ l b xs zs, x = .ref l ∧ y = .ref b ∧ SqL X.K H l xs ∧ SqL X.K H b zs ∧ xs.length + zs.length ≤ sizeLine ∧ ∀ p, H p = none → Q (.ref p) (upd H p (.lst (xs ++ zs)))) := by
  intro pins s σ H x y v u Q I rx ry h
  obtain ⟨l, b, xs, zs, rfl, rfl, h1, h2, hz, q⟩ := h
  cases rx
  cases ry
  obtain ⟨its, r, p1, _⟩ := I.list h1
  obtain ⟨its2, r2, p2, _⟩ := I.list h2
  obtain ⟨⟨c, dd, data, sl⟩, ho, hc, n, hd⟩ := id p1.isList
  obtain ⟨⟨c2, dd2, data2, sl2⟩, ho2, hc2, n2, hd2⟩ := id p2.isList
  simp only at hc hd hc2 hd2
  subst hc hd hc2 hd2
  have e : its.toArray ++ its2.toArray = (its ++ its2).toArray := by simp
  have l1 := r.length
  have l2 := r2.length
  refine concat_meets ⟨_, ho, rfl⟩ ⟨_, ho2, rfl⟩ noFill_list_add seq_list_add PySem.F.slot_list_add PySem.F.entry_list_add (PySem.F.args_list_add_2 _ _) (list_addW l b its.toArray its2.toArray n n2 dd dd2 sl sl2 (by rw [List.size_toArray, List.size_toArray]; omega)) ⟨ho, ho2, ?_⟩
  rw [e]
  exact ⟨.ref _, _, I.lnew (t' := s.toks) (r.append r2) (by rw [List.length_append]; omega), rfl, q _ I.fresh⟩
/-- list * number, any list -/
theorem op_repL : OpR X (binaryOp .Mult) (fun x y H Q => ∃ l k xs, x = .ref l ∧ y = .int k ∧ SqL X.K H l xs ∧ -(2 ^ 63) ≤ k ∧ k < 2 ^ 63 ∧ xs.length * k.toNat ≤ sizeLine ∧
    ∀ p, H p = none → Q (.ref p) (upd H p (.lst (List.replicate k.toNat xs).flatten))) := by
  intro pins s σ H x y v u Q I rx ry h
  obtain ⟨l, k, xs, rfl, rfl, hH, h1, h2, hz, q⟩ := h
  cases rx
  obtain ⟨t, rfl⟩ := ry
  obtain ⟨its, r, p1, _⟩ := I.list hH
  obtain ⟨⟨c, dd, data, sl⟩, e, hc, n, hd⟩ := id p1.isList
  simp only at hc hd
  subst hc hd
  have hl := r.length
  have hlen : its.toArray.size * k.toNat ≤ sizeLine := by rw [List.size_toArray, ← hl]; exact hz
  have hcap : ¬ its.toArray.size * k.toNat > (2 ^ 63 - 1) / 8 := by
    have : (sizeLine : Nat) ≤ (2 ^ 63 - 1) / 8 := by decide
    omega
  have hfit : ¬ (!Builtin.List.listFitsIndex k) = true := by
    rw [fitsIndex_both h1 h2]
    exact Bool.false_ne_true
  have hlong : ¬ Builtin.List.listTooLong (its.toArray.size * k.toNat) = true := by
    rw [notLongL hlen]
    exact Bool.false_ne_true
  have hnew : List.foldl (fun x1 x2 => x1 ++ x2) #[] (List.replicate (if its.toArray.isEmpty = true then 0 else k.toNat) its.toArray) = (List.replicate k.toNat its).flatten.toArray := by
    have f0 : ∀ m : Nat, List.foldl (fun x1 x2 => x1 ++ x2) #[] (List.replicate m its.toArray) = (List.replicate m its).flatten.toArray := fun m => by
      have := foldl_rep its m []
      rw [List.nil_append] at this
      exact this
    rw [f0]
    cases its with
    | nil => simp
    | cons a r' => rw [if_neg (by simp)]
  refine wpAny_binaryOp_repeat_ref (T := "list") (U := "int") (by decide) ⟨_, e, rfl⟩ (fun s' => typeIs_int s' k t) noFill_list_mul PySem.F.fills_int_mul PySem.F.slot_int_rmul repeat_list PySem.F.slot_int_index.lookup
    (call_meets PySem.F.slot_int_rmul (typeIs_int s k t) PySem.F.entry_int_rmul (PySem.F.args_int_rmul_2 _ _) (lm_int_rmul_list_any k t l its.toArray n dd sl)
      ⟨e, rfl, ⟨_, e, rfl⟩, call_meets PySem.F.slot_list_mul ⟨_, e, rfl⟩ PySem.F.entry_list_mul (PySem.F.args_list_mul_2 _ _) (lm_list_mul_any l its.toArray n dd sl k t hfit hcap hlong) ⟨e, ?_⟩⟩)
  rw [hnew]
  exact ⟨.ref _, _, I.lnew (t' := s.toks) (r.rep k.toNat) (by rw [PyProof.Rows.lm_len_rep_flat, Nat.mul_comm]; exact hz), rfl, q _ I.fresh⟩
end
end Bo

set_option Elab.async false
set_option linter.all false
set_option maxRecDepth 100000
set_option maxHeartbeats 4000000
/-! Bo, part 2: the operations over D, and that the model does them. -/
namespace Bo
open PySem PySem.Spec L2

/-! ### as plain data -/
mutual
def toPF (f : Nat → Option PyData) : D → Option PyData
  | .non => some .none
  | .bl b => some (.bool b)
  | .int i => some (.int i)
  | .str s => some (.str s)
  | .tup ds => match toPFs f ds with
    | some xs => some (.tuple xs)
    | none => none
  | .lst ds => match toPFs f ds with
    | some xs => some (.list xs)
    | none => none
  | .obj n => f n
  | .ty _ => none
  | .tab _ _ => none
def toPFs (f : Nat → Option PyData) : List D → Option (List PyData)
  | [] => some []
  | d :: ds => match toPF f d with
    | some x => match toPFs f ds with
      | some xs => some (x :: xs)
      | none => none
    | none => none
end
def deref (st : Store) : Nat → Nat → Option PyData
  | 0, _ => none
  | k + 1, n => match st[n]? with
    | some (.lst ds) => match toPFs (deref st k) ds with
      | some xs => some (.list xs)
      | none => none
    | _ => none
def toP (st : Store) (d : D) : Option PyData := toPF (deref st 3) d

section
variable {K : KW} {ρ : Rg} {H : Hp} {st : Store}
mutual
theorem dp_of {f : Nat → Option PyData} (hf : ∀ n p a, f n = some p → ρ.ids[n]? = some a → Dp K H (.ref a) p) : ∀ (d : D) (p : PyData) (v : V), toPF f d = some p → RD K ρ H d v → Dp K H v p
  | .non, _, _, e, r => by cases e; cases r; exact .non
  | .bl b, _, _, e, r => by cases e; cases r; exact .bl b
  | .int b, _, _, e, r => by cases e; cases r; exact .int b
  | .str b, _, _, e, r => by cases e; cases r; exact .str b
  | .tup ds, p, v, e, r => by
    obtain ⟨a, vs, rfl, t, r⟩ := r
    unfold toPF at e
    cases q : toPFs f ds with
    | none => rw [q] at e; cases e
    | some xs =>
      rw [q] at e; cases e
      exact .tup t.sq (dps_of hf ds xs vs q r)
  | .lst ds, p, v, e, r => by
    obtain ⟨a, vs, rfl, t, r⟩ := r
    unfold toPF at e
    cases q : toPFs f ds with
    | none => rw [q] at e; cases e
    | some xs =>
      rw [q] at e; cases e
      exact .lst t.sq (dps_of hf ds xs vs q r)
  | .obj n, p, v, e, r => by
    obtain ⟨a, rfl, r⟩ := r
    exact hf n p a e r
  | .ty _, p, v, e, r => by simp [toPF] at e
  | .tab _ _, p, v, e, r => by simp [toPF] at e
theorem dps_of {f : Nat → Option PyData} (hf : ∀ n p a, f n = some p → ρ.ids[n]? = some a → Dp K H (.ref a) p) : ∀ (ds : List D) (ps : List PyData) (vs : List V), toPFs f ds = some ps → RDs K ρ H ds vs → DpAll K H vs ps
  | [], _, _, e, r => by cases e; cases r; exact .nil
  | d :: ds, ps, vs, e, r => by
    obtain ⟨v, t, rfl, r1, r2⟩ := r
    unfold toPFs at e
    cases q : toPF f d with
    | none => rw [q] at e; cases e
    | some x =>
      rw [q] at e
      cases q2 : toPFs f ds with
      | none => simp [q2] at e
      | some xs =>
        simp [q2] at e
        subst e
        exact .cons (dp_of hf d x v q r1) (dps_of hf ds xs t q2 r2)
end
theorem deref_ok (S : SR K ρ st H) : ∀ (k n : Nat) (p : PyData) (a : Addr), deref st k n = some p → ρ.ids[n]? = some a → Dp K H (.ref a) p
  | 0, _, _, _, e, _ => by cases e
  | k + 1, n, p, a, e, h => by
    unfold deref at e
    cases q : st[n]? with
    | none => simp [q] at e
    | some o =>
      cases o with
      | lst ds =>
        simp only [q] at e
        cases q2 : toPFs (deref st k) ds with
        | none => simp [q2] at e
        | some xs =>
          simp [q2] at e
          subst e
          obtain ⟨b, hb, vs, hv, r⟩ := S.ob n _ q
          rw [h] at hb; cases hb
          exact .lst (.of hv) (dps_of (fun n p a e h => deref_ok S k n p a e h) ds xs vs q2 r)
      | dct _ _ => simp [q] at e
theorem toP_ok (S : SR K ρ st H) {d : D} {p : PyData} {v : V} (e : toP st d = some p) (r : RD K ρ H d v) : Dp K H v p := dp_of (fun n p a e h => deref_ok S 3 n p a e h) d p v e r
end

/-! ### posts -/
def Post (K : KW) (ρ : Rg) (H : Hp) (r : D) (st' : Store) (Q : VK) : Prop :=
  ∀ ρ' v H', Step ρ H ρ' H' → SR K ρ' st' H' → RD K ρ' H' r v → Q v H'
section
variable {K : KW} {ρ : Rg} {H : Hp} {st : Store} {Q : VK}
theorem Post.here {r : D} {v : V} (p : Post K ρ H r st Q) (S : SR K ρ st H) (h : RD K ρ H r v) : Q v H := p ρ v H .refl S h
theorem Post.tup {ds : List D} {vs : List V} (p : Post K ρ H (.tup ds) st Q) (S : SR K ρ st H) (r : RDs K ρ H ds vs) {a : Addr} (hn : H a = none) : Q (.ref a) (upd H a (.tup vs)) :=
  p ρ _ _ (Step.laid S hn) (S.laid hn) ⟨a, vs, rfl, .inl ⟨.inl upd_same, S.fresh hn⟩, RDs.mono (Step.laid S hn) ds vs r⟩
theorem Post.lst {ds : List D} {vs : List V} (p : Post K ρ H (.lst ds) st Q) (S : SR K ρ st H) (r : RDs K ρ H ds vs) {a : Addr} (hn : H a = none) : Q (.ref a) (upd H a (.lst vs)) :=
  p ρ _ _ (Step.laid S hn) (S.laid hn) ⟨a, vs, rfl, .inl ⟨.inl upd_same, S.fresh hn⟩, RDs.mono (Step.laid S hn) ds vs r⟩
theorem Post.push {ds : List D} {vs : List V} (p : Post K ρ H (.obj st.length) (st ++ [.lst ds]) Q) (S : SR K ρ st H) (r : RDs K ρ H ds vs) {a : Addr} (hn : H a = none) : Q (.ref a) (upd H a (.lst vs)) :=
  p _ _ _ (Step.push S hn) (S.push hn r) ⟨a, rfl, by show (ρ.ids ++ [a])[st.length]? = _; rw [← S.len]; simp⟩
theorem Post.step {ρ1 : Rg} {H1 : Hp} {r : D} {st' : Store} (p : Post K ρ H r st' Q) (T : Step ρ H ρ1 H1) : Post K ρ1 H1 r st' Q := fun ρ' v H' U => p ρ' v H' (T.trans U)
end

/-! ### operations on two values -/
abbrev F2 := Store → D → D → Option (D × Store)
def Op2 (X : Cx) (f : Value → Value → Sem Value) (g : F2) : Prop :=
  OpR X f fun x y H Q => ∃ ρ st a b r st', SR X.kw ρ st H ∧ RD X.kw ρ H a x ∧ RD X.kw ρ H b y ∧ g st a b = some (r, st') ∧ Post X.kw ρ H r st' Q
/-- operations that give a plain value and leave the store -/
theorem Op2.mk {X : Cx} {f : Value → Value → Sem Value} {g : F2} {r : R2} (h : OpR X f r)
    (k : ∀ ρ st a b c st' H x y Q, SR X.kw ρ st H → RD X.kw ρ H a x → RD X.kw ρ H b y → g st a b = some (c, st') → Post X.kw ρ H c st' Q → r x y H Q) : Op2 X f g := by
  intro pins s σ H x y v u Q I rx ry ⟨ρ, st, a, b, c, st', S, ra, rb, e, p⟩
  exact h pins s σ H x y v u Q I rx ry (k ρ st a b c st' H x y Q S ra rb e p)

inductive BOp where
  | add | sub | mul | fdiv | mod | pow | shl | xor | and
def BOp.of : BOp → Operator
  | .add => .Add | .sub => .Sub | .mul => .Mult | .fdiv => .FloorDiv | .mod => .Mod | .pow => .Pow | .shl => .LShift | .xor => .BitXor | .and => .BitAnd

def mulOk (i j : Int) : Bool := decide (i.natAbs.log2 + j.natAbs.log2 < 1000000)
def divOk (j : Int) : Bool := decide (0 < j) && decide (j.natAbs.log2 < 9000)
def powOk (i j : Int) : Bool := decide (0 ≤ j) && decide ((Builtin.Int.intBits i : Int) * j ≤ 2 ^ 27)
def shlOk (i j : Int) : Bool := decide (0 ≤ j) && decide (j ≤ 1000000) && decide (i.natAbs < 2 ^ 64)
/-- as many things as a list or tuple may have -/
def lineOk (n : Nat) : Bool := decide (n ≤ sizeLine)

def listD (st : Store) : D → Option (List D)
  | .lst ds => some ds
  | .obj n => match st[n]? with
    | some (.lst ds) => some ds
    | _ => none
  | _ => none
def addL (st : Store) (a b : D) : Option (D × Store) := match listD st a with
  | some xs => match listD st b with
    | some ys => if lineOk (xs.length + ys.length) then some (.lst (xs ++ ys), st) else none
    | none => none
  | none => none
def addD : F2
  | st, .int i, .int j => some (.int (i + j), st)
  | st, .str i, .str j => if lineOk (i.length + j.length) then some (.str (i ++ j), st) else none
  | st, .tup xs, .tup ys => if lineOk (xs.length + ys.length) then some (.tup (xs ++ ys), st) else none
  | st, a, b => addL st a b
def subD : F2
  | st, .int i, .int j => some (.int (i - j), st)
  | _, _, _ => none
def repOkN (n : Nat) (k : Int) : Bool := decide (-(2 ^ 63) ≤ k) && decide (k < 2 ^ 63) && lineOk (n * k.toNat)
def mulL (st : Store) (a b : D) : Option (D × Store) := match b with
  | .int k => match listD st a with
    | some xs => if repOkN xs.length k then some (.lst (List.replicate k.toNat xs).flatten, st) else none
    | none => none
  | _ => none
def mulD : F2
  | st, .int i, .int j => if mulOk i j then some (.int (i * j), st) else none
  | st, a, b => mulL st a b
def fdivD : F2
  | st, .int i, .int j => if divOk j then some (.int (i / j), st) else none
  | _, _, _ => none
def modD : F2
  | st, .int i, .int j => if 0 < j then some (.int (i % j), st) else none
  | _, _, _ => none
def powD : F2
  | st, .int i, .int j => if powOk i j then some (.int (i ^ j.toNat), st) else none
  | _, _, _ => none
def shlD : F2
  | st, .int i, .int j => if shlOk i j then some (.int (i * 2 ^ j.toNat), st) else none
  | _, _, _ => none
def xorD : F2
  | st, .int i, .int j => some (.int (Builtin.bitXor i j), st)
  | _, _, _ => none
def andD : F2
  | st, .int i, .int j => some (.int (Builtin.bitAnd i j), st)
  | _, _, _ => none
def BOp.ev : BOp → F2
  | .add => addD | .sub => subD | .mul => mulD | .fdiv => fdivD | .mod => modD | .pow => powD | .shl => shlD | .xor => xorD | .and => andD

section
variable {X : Cx}
theorem op_powW : OpR X (binaryOp .Pow) (rI (fun i j => powOk i j = true) fun i j => .int (i ^ j.toNat)) := opI fun i j _ _ _ _ _ hc q => by
  unfold powOk at hc
  rw [Bool.and_eq_true] at hc
  exact PyProof.Rows.pow_int (of_decide_eq_true hc.1) (of_decide_eq_true hc.2) q
theorem op_mulV : OpR X (binaryOp .Mult) (rI (fun i j => mulOk i j = true) fun i j => .int (i * j)) := opI fun i j _ _ _ _ _ hc q => by
  have h : i.natAbs.log2 + j.natAbs.log2 < 1000000 := of_decide_eq_true hc
  refine PyProof.Rows.mul_int q ?_
  have b : ∀ x : Int, Builtin.Int.intBits x ≤ x.natAbs.log2 + 1 := fun x => by
    unfold Builtin.Int.intBits
    split <;> omega
  have h1 := b i
  have h2 := b j
  have e : bitsLine = 134217728 := by decide
  unfold IntMulOk
  intro z
  rw [Bool.and_eq_true] at z
  have z2 := z.2
  unfold Builtin.Int.intTooBig at z2
  have z3 := of_decide_eq_true z2
  rw [e] at z3
  omega
theorem op_fdivV : OpR X (binaryOp .FloorDiv) (rI (fun _ j => divOk j = true) fun i j => .int (i / j)) := opI fun i j _ _ _ _ _ hc q => by
  unfold divOk at hc
  rw [Bool.and_eq_true] at hc
  have h1 : (0 : Int) < j := of_decide_eq_true hc.1
  exact PyProof.Rows.floordiv_int (by omega) (by rw [Int.fdiv_eq_ediv_of_nonneg i (by omega)]; exact q) (.inl (PyProof.noPylong_of_log2 (of_decide_eq_true hc.2)))
theorem RD.tup_inv {K : KW} {ρ : Rg} {H : Hp} {ds : List D} {v : V} (h : RD K ρ H (.tup ds) v) : ∃ a vs, v = .ref a ∧ TupAt K ρ H a vs ∧ RDs K ρ H ds vs := h
theorem list_ok {ρ : Rg} {st : Store} {H : Hp} {d : D} {ds : List D} {v : V} (S : SR X.kw ρ st H) (e : listD st d = some ds) (r : RD X.kw ρ H d v) :
    ∃ p vs, v = .ref p ∧ SqL X.K H p vs ∧ RDs X.kw ρ H ds vs := by
  cases d with
  | lst xs => cases e; obtain ⟨a, vs, rfl, t, r⟩ := r; exact ⟨a, vs, rfl, t.sq, r⟩
  | obj n =>
    unfold listD at e
    cases q : st[n]? with
    | none => simp [q] at e
    | some o =>
      cases o with
      | lst xs =>
        simp only [q, Option.some.injEq] at e
        subst e
        obtain ⟨a, rfl, h⟩ := r
        obtain ⟨b, hb, vs, hv, r⟩ := S.ob n _ q
        rw [h] at hb; cases hb
        exact ⟨a, vs, rfl, .of hv, r⟩
      | dct _ _ => simp [q] at e
  | _ => cases e
theorem RDs.rep {K : KW} {ρ : Rg} {H : Hp} {ds : List D} {vs : List V} (r : RDs K ρ H ds vs) : ∀ n : Nat, RDs K ρ H (List.replicate n ds).flatten (List.replicate n vs).flatten
  | 0 => rfl
  | n + 1 => by
    rw [List.replicate_succ, List.replicate_succ, List.flatten_cons, List.flatten_cons]
    exact r.append (RDs.rep r n)
theorem bin_ok (op : BOp) : Op2 X (binaryOp op.of) op.ev := by
  cases op with
  | add =>
    intro pins s σ H x y v u Q I rx ry ⟨ρ, st, a, b, c, st', S, ra, rb, e, p⟩
    change addD st a b = some (c, st') at e
    unfold addD at e
    split at e
    · cases e; cases ra; cases rb
      exact op_add pins s σ H _ _ v u Q I rx ry ⟨_, _, rfl, rfl, p.here S rfl⟩
    · split at e
      · rename_i hz
        cases e; cases ra; cases rb
        exact op_add_str pins s σ H _ _ v u Q I rx ry ⟨_, _, rfl, rfl, of_decide_eq_true hz, p.here S rfl⟩
      · cases e
    · rename_i ds es
      split at e
      · rename_i hz
        cases e
        obtain ⟨q1, vs, rfl, t1, r1⟩ := ra
        obtain ⟨q2, ws, rfl, t2, r2⟩ := rb
        refine op_catA pins s σ H _ _ v u Q I rx ry ⟨q1, q2, _, ws, rfl, rfl, t1.sq, t2.sq, ?_, fun z => ?_, fun z z2 => ?_, fun z z2 a hn => ?_⟩
        · have h := of_decide_eq_true hz
          rw [r1.length, r2.length]; exact h
        · have ez : ds = [] := by
            have := r1.length
            subst z
            exact List.length_eq_zero_iff.mp this.symm
          subst ez
          exact p.here S ⟨q2, _, rfl, t2, r2⟩
        · have ez : es = [] := by
            have := r2.length
            subst z2
            exact List.length_eq_zero_iff.mp this.symm
          subst ez
          rw [List.append_nil] at p
          exact p.here S ⟨q1, _, rfl, t1, r1⟩
        · exact p.tup S (r1.append r2) hn
      · cases e
    · unfold addL at e
      split at e
      · rename_i xs h1
        split at e
        · rename_i ys h2
          split at e
          · rename_i hz
            cases e
            obtain ⟨q1, vs, rfl, t1, r1⟩ := list_ok S h1 ra
            obtain ⟨q2, ws, rfl, t2, r2⟩ := list_ok S h2 rb
            refine op_catL pins s σ H _ _ v u Q I rx ry ⟨q1, q2, vs, ws, rfl, rfl, t1, t2, ?_, fun a hn => p.lst S (r1.append r2) hn⟩
            have h := of_decide_eq_true hz
            rw [r1.length, r2.length]; exact h
          · cases e
        · cases e
      · cases e
  | sub =>
    refine Op2.mk op_sub fun ρ st a b c st' H x y Q S ra rb e p => ?_
    change subD st a b = some (c, st') at e
    unfold subD at e
    split at e
    · cases e; cases ra; cases rb
      exact ⟨_, _, rfl, rfl, p.here S rfl⟩
    · cases e
  | mul =>
    intro pins s σ H x y v u Q I rx ry ⟨ρ, st, a, b, c, st', S, ra, rb, e, p⟩
    change mulD st a b = some (c, st') at e
    unfold mulD at e
    split at e
    · split at e
      · rename_i h
        cases e; cases ra; cases rb
        exact op_mulV pins s σ H _ _ v u Q I rx ry ⟨_, _, rfl, rfl, h, p.here S rfl⟩
      · cases e
    · unfold mulL at e
      split at e
      · split at e
        · rename_i k xs h1
          split at e
          · rename_i hz
            cases e; cases rb
            obtain ⟨q1, vs, rfl, t1, r1⟩ := list_ok S h1 ra
            unfold repOkN at hz
            simp only [Bool.and_eq_true, decide_eq_true_eq] at hz
            refine op_repL pins s σ H _ _ v u Q I rx ry ⟨q1, _, vs, rfl, rfl, t1, hz.1.1, hz.1.2, ?_, fun a hn => p.lst S (r1.rep _) hn⟩
            rw [r1.length]; exact of_decide_eq_true hz.2
          · cases e
        · cases e
      · cases e
  | fdiv =>
    refine Op2.mk op_fdivV fun ρ st a b c st' H x y Q S ra rb e p => ?_
    change fdivD st a b = some (c, st') at e
    unfold fdivD at e
    split at e
    · split at e
      · rename_i h
        cases e; cases ra; cases rb
        exact ⟨_, _, rfl, rfl, h, p.here S rfl⟩
      · cases e
    · cases e
  | mod =>
    refine Op2.mk op_mod fun ρ st a b c st' H x y Q S ra rb e p => ?_
    change modD st a b = some (c, st') at e
    unfold modD at e
    split at e
    · split at e
      · rename_i h
        cases e; cases ra; cases rb
        exact ⟨_, _, rfl, rfl, h, p.here S rfl⟩
      · cases e
    · cases e
  | pow =>
    refine Op2.mk op_powW fun ρ st a b c st' H x y Q S ra rb e p => ?_
    change powD st a b = some (c, st') at e
    unfold powD at e
    split at e
    · split at e
      · rename_i h
        cases e; cases ra; cases rb
        exact ⟨_, _, rfl, rfl, h, p.here S rfl⟩
      · cases e
    · cases e
  | shl =>
    refine Op2.mk op_shl fun ρ st a b c st' H x y Q S ra rb e p => ?_
    change shlD st a b = some (c, st') at e
    unfold shlD at e
    split at e
    · split at e
      · rename_i h
        cases e; cases ra; cases rb
        unfold shlOk at h
        simp only [Bool.and_eq_true, decide_eq_true_eq] at h
        exact ⟨_, _, rfl, rfl, ⟨h.1.1, h.1.2, h.2⟩, p.here S rfl⟩
      · cases e
    · cases e
  | xor =>
    refine Op2.mk op_xor fun ρ st a b c st' H x y Q S ra rb e p => ?_
    change xorD st a b = some (c, st') at e
    unfold xorD at e
    split at e
    · cases e; cases ra; cases rb
      exact ⟨_, _, rfl, rfl, p.here S rfl⟩
    · cases e
  | and =>
    refine Op2.mk op_and fun ρ st a b c st' H x y Q S ra rb e p => ?_
    change andD st a b = some (c, st') at e
    unfold andD at e
    split at e
    · cases e; cases ra; cases rb
      exact ⟨_, _, rfl, rfl, p.here S rfl⟩
    · cases e
end

/-! ### comparisons -/
/-! ### ints among things -/
def intsOf : List D → Option (List Int)
  | [] => some []
  | .int i :: r => (intsOf r).map (i :: ·)
  | _ => none
theorem intsOf_eq : ∀ {ds : List D} {ns : List Int}, intsOf ds = some ns → ds = ns.map D.int
  | [], _, h => by cases h; rfl
  | d :: r, ns, h => by
    cases d <;> first | cases h | skip
    rename_i i
    simp only [intsOf] at h
    obtain ⟨ms, h1, rfl⟩ := Option.map_eq_some_iff.mp h
    rw [intsOf_eq h1]; rfl
theorem intsOf_ints : ∀ ns : List Int, intsOf (ns.map D.int) = some ns
  | [] => rfl
  | i :: r => by
    show (intsOf (r.map D.int)).map (i :: ·) = _
    rw [intsOf_ints r]; rfl
theorem rds_ints {K : KW} {ρ : Rg} {H : Hp} : ∀ {ns : List Int} {vs : List V}, RDs K ρ H (ns.map D.int) vs → vs = ns.map V.int
  | [], _, h => by cases h; rfl
  | i :: r, _, h => by
    obtain ⟨v, t, rfl, h1, h2⟩ := h
    cases h1
    rw [rds_ints h2]; rfl
/-- <= of two tuples of ints -/
def leT (ns ms : List Int) : Bool := Ob.lexAt (fun j => decide (ns.getD j 0 = ms.getD j 0)) (fun j => decide (ns.getD j 0 ≤ ms.getD j 0)) (decide (ns.length ≤ ms.length)) 0 (min ns.length ms.length)
def maxI (ns : List Int) : Int := ns.foldl (fun a b => if b > a then b else a) (ns.headD 0)
def minI (ns : List Int) : Int := ns.foldl (fun a b => if b < a then b else a) (ns.headD 0)
theorem max_fold : ∀ (ns : List Int) (a : Int), (ns.foldl (fun a b => if b > a then b else a) a = a ∨ ns.foldl (fun a b => if b > a then b else a) a ∈ ns) ∧ a ≤ ns.foldl (fun a b => if b > a then b else a) a ∧ ∀ y ∈ ns, y ≤ ns.foldl (fun a b => if b > a then b else a) a
  | [], a => ⟨.inl rfl, Int.le_refl _, fun y h => by cases h⟩
  | x :: r, a => by
    rw [List.foldl_cons]
    obtain ⟨h1, h2, h3⟩ := max_fold r (if x > a then x else a)
    have h4 : a ≤ (if x > a then x else a) ∧ x ≤ (if x > a then x else a) ∧ ((if x > a then x else a) = a ∨ (if x > a then x else a) = x) := by split <;> omega
    refine ⟨?_, Int.le_trans h4.1 h2, fun y hy => ?_⟩
    · rcases h1 with h1 | h1
      · rcases h4.2.2 with h | h
        · exact .inl (h1.trans h)
        · exact .inr (by rw [h1, h]; exact List.mem_cons_self)
      · exact .inr (List.mem_cons_of_mem _ h1)
    · rcases List.mem_cons.mp hy with rfl | hy
      · exact Int.le_trans h4.2.1 h2
      · exact h3 y hy
theorem min_fold : ∀ (ns : List Int) (a : Int), (ns.foldl (fun a b => if b < a then b else a) a = a ∨ ns.foldl (fun a b => if b < a then b else a) a ∈ ns) ∧ ns.foldl (fun a b => if b < a then b else a) a ≤ a ∧ ∀ y ∈ ns, ns.foldl (fun a b => if b < a then b else a) a ≤ y
  | [], a => ⟨.inl rfl, Int.le_refl _, fun y h => by cases h⟩
  | x :: r, a => by
    rw [List.foldl_cons]
    obtain ⟨h1, h2, h3⟩ := min_fold r (if x < a then x else a)
    have h4 : (if x < a then x else a) ≤ a ∧ (if x < a then x else a) ≤ x ∧ ((if x < a then x else a) = a ∨ (if x < a then x else a) = x) := by split <;> omega
    refine ⟨?_, Int.le_trans h2 h4.1, fun y hy => ?_⟩
    · rcases h1 with h1 | h1
      · rcases h4.2.2 with h | h
        · exact .inl (h1.trans h)
        · exact .inr (by rw [h1, h]; exact List.mem_cons_self)
      · exact .inr (List.mem_cons_of_mem _ h1)
    · rcases List.mem_cons.mp hy with rfl | hy
      · exact Int.le_trans h2 h4.2.1
      · exact h3 y hy
theorem maxI_is {ns : List Int} (h : ns ≠ []) : maxI ns ∈ ns ∧ ∀ y ∈ ns, y ≤ maxI ns := by
  cases ns with
  | nil => exact absurd rfl h
  | cons x r =>
    obtain ⟨h1, _, h3⟩ := max_fold (x :: r) x
    refine ⟨?_, h3⟩
    rcases h1 with h1 | h1
    · rw [show maxI (x :: r) = x from h1]
      exact List.mem_cons_self
    · exact h1
theorem minI_is {ns : List Int} (h : ns ≠ []) : minI ns ∈ ns ∧ ∀ y ∈ ns, minI ns ≤ y := by
  cases ns with
  | nil => exact absurd rfl h
  | cons x r =>
    obtain ⟨h1, _, h3⟩ := min_fold (x :: r) x
    refine ⟨?_, h3⟩
    rcases h1 with h1 | h1
    · rw [show minI (x :: r) = x from h1]
      exact List.mem_cons_self
    · exact h1
theorem maxI_eq {ns : List Int} {m : Int} (h : m ∈ ns) (g : ∀ y ∈ ns, y ≤ m) : m = maxI ns := by
  have q := maxI_is (ns := ns) (fun z => by rw [z] at h; cases h)
  exact Int.le_antisymm (q.2 m h) (g _ q.1)
theorem minI_eq {ns : List Int} {m : Int} (h : m ∈ ns) (g : ∀ y ∈ ns, m ≤ y) : m = minI ns := by
  have q := minI_is (ns := ns) (fun z => by rw [z] at h; cases h)
  exact Int.le_antisymm (g _ q.1) (q.2 m h)
inductive COp where
  | eq | ne | lt | le | gt | ge | inn | nin | is | isn
def COp.of : COp → CmpOp
  | .eq => .Eq | .ne => .NotEq | .lt => .Lt | .le => .LtE | .gt => .Gt | .ge => .GtE | .inn => .In | .nin => .NotIn | .is => .Is | .isn => .IsNot

def okP (p : PyData) : Bool := SeqAt.shaped p
/-- flat things, compared as in 'in' -/
def flatD : D → Bool
  | .non | .bl _ | .int _ | .str _ => true
  | _ => false
def deepEq (st : Store) (a b : D) : Option Bool := match toP st a, toP st b with
  | some p, some q => if okP p && okP q then some (PyData.eqv p q) else none
  | _, _ => none
/-- scalars by themselves, others as data -/
def eqD (st : Store) (a b : D) : Option Bool := if flatD a && flatD b && scal (absD a) (absD b) then some (decide (absD a = absD b)) else deepEq st a b
def itemsD (st : Store) : D → Option (List D)
  | .tup ds => some ds
  | .lst ds => some ds
  | .obj n => match st[n]? with
    | some (.lst ds) => some ds
    | _ => none
  | _ => none
def inD (st : Store) (a b : D) : Option Bool := match itemsD st b with
  | some ds => if flatD a && ds.all flatD then some (inV (absD a) (ds.map absD)) else none
  | none => match dictD st b with
    | some (m, kvs) => if okK m a then some (getK kvs a).isSome else none
    | none => none
def COp.ev (op : COp) (st : Store) (a b : D) : Option Bool := match op with
  | .eq => eqD st a b
  | .ne => (eqD st a b).map (!·)
  | .lt => match a, b with
    | .int i, .int j => some (decide (i < j))
    | _, _ => none
  | .le => match a, b with
    | .int i, .int j => some (decide (i ≤ j))
    | .tup xs, .tup ys => (match intsOf xs, intsOf ys with
      | some ns, some ms => some (leT ns ms)
      | _, _ => none)
    | _, _ => none
  | .gt => match a, b with
    | .int i, .int j => some (decide (j < i))
    | _, _ => none
  | .ge => match a, b with
    | .int i, .int j => some (decide (j ≤ i))
    | _, _ => none
  | .inn => inD st a b
  | .nin => (inD st a b).map (!·)
  | .is => match b with
    | .non => some (match a with | .non => true | _ => false)
    | _ => none
  | .isn => match b with
    | .non => some (match a with | .non => false | _ => true)
    | _ => none
def Cmp2 (X : Cx) (f : Value → Value → Sem Value) (g : Store → D → D → Option Bool) : Prop :=
  OpR X f fun x y H Q => ∃ ρ st a b r, SR X.kw ρ st H ∧ RD X.kw ρ H a x ∧ RD X.kw ρ H b y ∧ g st a b = some r ∧ Q (.bl r) H
section
variable {X : Cx}
theorem Cmp2.mk {f : Value → Value → Sem Value} {g : Store → D → D → Option Bool} {r : R2} (h : OpR X f r)
    (k : ∀ ρ st a b c H x y Q, SR X.kw ρ st H → RD X.kw ρ H a x → RD X.kw ρ H b y → g st a b = some c → Q (.bl c) H → r x y H Q) : Cmp2 X f g := by
  intro pins s σ H x y v u Q I rx ry ⟨ρ, st, a, b, c, S, ra, rb, e, p⟩
  exact h pins s σ H x y v u Q I rx ry (k ρ st a b c H x y Q S ra rb e p)
theorem RD.non_iff {K : KW} {ρ : Rg} {H : Hp} {d : D} {v : V} (h : RD K ρ H d v) : decide (v = .non) = (match d with | .non => true | _ => false) := by
  cases d with
  | non => cases h; rfl
  | bl _ => cases h; rfl
  | int _ => cases h; rfl
  | str _ => cases h; rfl
  | tup _ => obtain ⟨_, _, rfl, _⟩ := h; rfl
  | lst _ => obtain ⟨_, _, rfl, _⟩ := h; rfl
  | obj _ => obtain ⟨_, rfl, _⟩ := h; rfl
  | ty _ => cases h; rfl
  | tab _ _ => obtain ⟨_, _, _, _, rfl, _⟩ := h; rfl
theorem RD.flat {K : KW} {ρ : Rg} {H : Hp} {d : D} {v : V} (h : RD K ρ H d v) (f : flatD d = true) : v = absD d ∧ flatV v = true := by
  cases d <;> first | (cases h; exact ⟨rfl, rfl⟩) | cases f
theorem RDs.flat {K : KW} {ρ : Rg} {H : Hp} : ∀ {ds : List D} {vs : List V}, RDs K ρ H ds vs → ds.all flatD = true → vs = ds.map absD ∧ vs.all flatV = true
  | [], _, h, _ => by cases h; exact ⟨rfl, rfl⟩
  | d :: ds, _, h, f => by
    obtain ⟨v, t, rfl, h1, h2⟩ := h
    simp only [List.all_cons, Bool.and_eq_true] at f
    obtain ⟨e1, f1⟩ := h1.flat f.1
    obtain ⟨e2, f2⟩ := RDs.flat h2 f.2
    simp [← e1, ← e2, f1, f2]
theorem items_ok {ρ : Rg} {st : Store} {H : Hp} {d : D} {ds : List D} {v : V} (S : SR X.kw ρ st H) (e : itemsD st d = some ds) (r : RD X.kw ρ H d v) :
    ∃ p vs, v = .ref p ∧ (SqL X.K H p vs ∨ SqT X.K H p vs) ∧ RDs X.kw ρ H ds vs := by
  cases d with
  | ty _ => cases e
  | tup xs => cases e; obtain ⟨a, vs, rfl, t, r⟩ := r; exact ⟨a, vs, rfl, .inr t.sq, r⟩
  | lst xs => cases e; obtain ⟨a, vs, rfl, t, r⟩ := r; exact ⟨a, vs, rfl, .inl t.sq, r⟩
  | obj n =>
    unfold itemsD at e
    cases q : st[n]? with
    | none => simp [q] at e
    | some o =>
      cases o with
      | lst xs =>
        simp only [q, Option.some.injEq] at e
        subst e
        obtain ⟨a, rfl, h⟩ := r
        obtain ⟨b, hb, vs, hv, r⟩ := S.ob n _ q
        rw [h] at hb; cases hb
        exact ⟨a, vs, rfl, .inl (.of hv), r⟩
      | dct _ _ => simp [q] at e
  | tab _ _ => cases e
  | non => cases e
  | bl _ => cases e
  | int _ => cases e
  | str _ => cases e
theorem OpR.or {f : Value → Value → Sem Value} {r1 r2 : R2} (h1 : OpR X f r1) (h2 : OpR X f r2) : OpR X f fun x y H Q => r1 x y H Q ∨ r2 x y H Q := by
  intro pins s σ H x y v u Q I rx ry h
  exact h.elim (h1 pins s σ H x y v u Q I rx ry) (h2 pins s σ H x y v u Q I rx ry)
theorem cmp_ok (hu : X.A.units + 64 < cLine) (op : COp) : Cmp2 X (compareOp op.of) op.ev := by
  have int2 : ∀ {p : Int → Int → Bool} {ρ : Rg} {a b : D} {c : Bool} {H : Hp} {x y : V} {Q : VK}, RD X.kw ρ H a x → RD X.kw ρ H b y →
      (match a, b with | .int i, .int j => some (p i j) | _, _ => none) = some c → Q (.bl c) H → ∃ i j, x = .int i ∧ y = .int j ∧ Q (.bl (p i j)) H := by
    intro p ρ a b c H x y Q ra rb e q
    split at e
    · cases e; cases ra; cases rb; exact ⟨_, _, rfl, rfl, q⟩
    · cases e
  have eqP : ∀ {ρ : Rg} {st : Store} {a b : D} {c : Bool} {H : Hp} {x y : V}, SR X.kw ρ st H → RD X.kw ρ H a x → RD X.kw ρ H b y → eqD st a b = some c →
      (scal x y = true ∧ decide (x = y) = c) ∨ ∃ d e, Dp X.K H x d ∧ Dp X.K H y e ∧ SeqAt.shaped d = true ∧ SeqAt.shaped e = true ∧ PyData.eqv d e = c := by
    intro ρ st a b c H x y S ra rb e
    unfold eqD at e
    split at e
    · rename_i hk
      rw [Bool.and_eq_true, Bool.and_eq_true] at hk
      rw [← (ra.flat hk.1.1).1, ← (rb.flat hk.1.2).1] at e hk
      exact .inl ⟨hk.2, Option.some.inj e⟩
    refine .inr ?_
    unfold deepEq at e
    cases h1 : toP st a with
    | none => simp [h1] at e
    | some d =>
      cases h2 : toP st b with
      | none => simp [h1, h2] at e
      | some d' =>
        simp only [h1, h2] at e
        split at e
        · rename_i hk
          rw [Bool.and_eq_true] at hk
          exact ⟨d, d', toP_ok S h1 ra, toP_ok S h2 rb, hk.1, hk.2, Option.some.inj e⟩
        · cases e
  have inP : ∀ {ρ : Rg} {st : Store} {a b : D} {c : Bool} {H : Hp} {x y : V}, SR X.kw ρ st H → RD X.kw ρ H a x → RD X.kw ρ H b y → inD st a b = some c →
      (∃ p xs, y = .ref p ∧ (SqL X.K H p xs ∨ SqT X.K H p xs) ∧ flatV x = true ∧ xs.all flatV = true ∧ inV x xs = c) ∨ ∃ ρ p kvs m k, y = .ref p ∧ Dv X.kw ρ H p kvs m ∧ RD X.kw ρ H k x ∧ okK m k = true ∧ (getK kvs k).isSome = c := by
    intro ρ st a b c H x y S ra rb e
    unfold inD at e
    cases h1 : itemsD st b with
    | none =>
      simp only [h1] at e
      cases h2 : dictD st b with
      | none => simp [h2] at e
      | some mk =>
        obtain ⟨m, kvs⟩ := mk
        simp only [h2] at e
        split at e
        · rename_i hk
          obtain ⟨p, rfl, D⟩ := dict_ok S rb h2
          exact .inr ⟨ρ, p, kvs, m, a, rfl, D, ra, hk, Option.some.inj e⟩
        · cases e
    | some ds =>
      simp only [h1] at e
      split at e
      · rename_i hk
        rw [Bool.and_eq_true] at hk
        obtain ⟨p, vs, rfl, hs, rs⟩ := items_ok S h1 rb
        obtain ⟨e1, f1⟩ := ra.flat hk.1
        obtain ⟨e2, f2⟩ := rs.flat hk.2
        exact .inl ⟨p, vs, rfl, hs, f1, f2, by rw [e1, e2]; exact Option.some.inj e⟩
      · cases e
  cases op with
  | eq =>
    refine Cmp2.mk (OpR.or op_eq (op_eqD hu)) fun ρ st a b c H x y Q S ra rb e q => ?_
    rcases eqP S ra rb e with ⟨h1, h2⟩ | ⟨d, d', h1, h2, h3, h4, h5⟩
    · exact .inl ⟨h1, by rw [h2]; exact q⟩
    · exact .inr ⟨d, d', h1, h2, h3, h4, by rw [h5]; exact q⟩
  | ne =>
    refine Cmp2.mk (OpR.or op_ne (op_neD hu)) fun ρ st a b c H x y Q S ra rb e q => ?_
    obtain ⟨c', e', rfl⟩ := Option.map_eq_some_iff.mp e
    rcases eqP S ra rb e' with ⟨h1, h2⟩ | ⟨d, d', h1, h2, h3, h4, h5⟩
    · exact .inl ⟨h1, by rw [h2]; exact q⟩
    · exact .inr ⟨d, d', h1, h2, h3, h4, by rw [h5]; exact q⟩
  | lt => exact Cmp2.mk op_lt fun ρ st a b c H x y Q S ra rb e q => int2 ra rb e q
  | le =>
    refine Cmp2.mk (OpR.or op_le (op_leT (by omega))) fun ρ st a b c H x y Q S ra rb e q => ?_
    simp only [COp.ev] at e
    split at e
    · exact .inl (int2 (p := fun i j => decide (i ≤ j)) ra rb e q)
    · split at e
      · rename_i ns ms h1 h2
        cases e
        rw [intsOf_eq h1] at ra
        rw [intsOf_eq h2] at rb
        obtain ⟨p, vs, rfl, t, r⟩ := ra
        obtain ⟨p', vs', rfl, t', r'⟩ := rb
        have e1 := rds_ints r
        have e2 := rds_ints r'
        subst e1 e2
        exact .inr ⟨p, p', ns, ms, rfl, rfl, t.sq, t'.sq, q⟩
      · cases e
    · cases e
  | gt => exact Cmp2.mk op_gt fun ρ st a b c H x y Q S ra rb e q => int2 ra rb e q
  | ge => exact Cmp2.mk op_ge fun ρ st a b c H x y Q S ra rb e q => int2 ra rb e q
  | inn =>
    refine Cmp2.mk (OpR.or op_in_seq (op_inDict hu)) fun ρ st a b c H x y Q S ra rb e q => ?_
    rcases inP S ra rb e with ⟨p, xs, h1, h2, h3, h4, h5⟩ | ⟨ρ, p, kvs, m, k, h1, h2, h3, h4, h5⟩
    · exact .inl ⟨p, xs, h1, h2, h3, h4, by rw [h5]; exact q⟩
    · exact .inr ⟨ρ, p, kvs, m, k, h1, h2, h3, h4, by rw [h5]; exact q⟩
  | nin =>
    refine Cmp2.mk (OpR.or op_notIn_seq (op_notInDict hu)) fun ρ st a b c H x y Q S ra rb e q => ?_
    obtain ⟨c', e', rfl⟩ := Option.map_eq_some_iff.mp e
    rcases inP S ra rb e' with ⟨p, xs, h1, h2, h3, h4, h5⟩ | ⟨ρ, p, kvs, m, k, h1, h2, h3, h4, h5⟩
    · exact .inl ⟨p, xs, h1, h2, h3, h4, by rw [h5]; exact q⟩
    · exact .inr ⟨ρ, p, kvs, m, k, h1, h2, h3, h4, by rw [h5]; exact q⟩
  | is =>
    refine Cmp2.mk op_isN fun ρ st a b c H x y Q S ra rb e q => ?_
    cases b <;> first | (cases rb; obtain rfl := Option.some.inj e; refine ⟨rfl, ?_⟩; rw [ra.non_iff]; cases a <;> exact q) | cases e
  | isn =>
    refine Cmp2.mk op_notN fun ρ st a b c H x y Q S ra rb e q => ?_
    cases b <;> first | (cases rb; obtain rfl := Option.some.inj e; refine ⟨rfl, ?_⟩; rw [ra.non_iff]; cases a <;> exact q) | cases e
end

/-! ### truth -/
def truD (st : Store) : D → Option Bool
  | .non => some false
  | .ty _ => none
  | .bl b => some b
  | .int i => some (i != 0)
  | .str s => if lineOk s.length then some ((s.length : Int) != 0) else none
  | .tup ds => some (!ds.isEmpty)
  | .lst ds => some (!ds.isEmpty)
  | .obj n => match st[n]? with
    | some (.lst ds) => some (!ds.isEmpty)
    | _ => none
  | .tab _ _ => none
theorem isEmpty_rds {K : KW} {ρ : Rg} {H : Hp} {ds : List D} {vs : List V} (r : RDs K ρ H ds vs) : vs.isEmpty = ds.isEmpty := by
  cases ds with
  | nil => cases r; rfl
  | cons d ds => obtain ⟨v, t, rfl, _⟩ := r; rfl
theorem tru_of {K : KW} {ρ : Rg} {H : Hp} {st : Store} {d : D} {v : V} {k : Bool} (S : SR K ρ st H) (r : RD K ρ H d v) (e : truD st d = some k) : TruV K v H k := by
  cases d with
  | ty _ => cases e
  | non => cases r; exact (Option.some.inj e).symm
  | bl b => cases r; exact (Option.some.inj e).symm
  | int i => cases r; exact (Option.some.inj e).symm
  | str s =>
    cases r
    simp only [truD] at e
    split at e
    · rename_i h; exact ⟨of_decide_eq_true h, (Option.some.inj e).symm⟩
    · cases e
  | tup ds =>
    obtain ⟨a, vs, rfl, t, r⟩ := r
    exact .inr (.inl ⟨vs, t.sq, by rw [isEmpty_rds r]; exact (Option.some.inj e).symm⟩)
  | lst ds =>
    obtain ⟨a, vs, rfl, t, r⟩ := r
    exact .inl ⟨vs, t.sq, by rw [isEmpty_rds r]; exact (Option.some.inj e).symm⟩
  | obj n =>
    obtain ⟨a, rfl, h⟩ := r
    unfold truD at e
    cases q : st[n]? with
    | none => simp [q] at e
    | some o =>
      cases o with
      | lst xs =>
        simp only [q, Option.some.injEq] at e
        obtain ⟨b, hb, vs, hv, r⟩ := S.ob n _ q
        rw [h] at hb; cases hb
        exact .inl ⟨vs, .of hv, by rw [isEmpty_rds r]; exact e.symm⟩
      | dct _ _ => simp [q] at e
  | tab _ _ => cases e

/-! ### sorting -/
def leS (a b : Str) : Bool := !ltCps b.cps.toList a.cps.toList
def sortS (xs : List Str) : List Str := xs.mergeSort leS
def sortI (ns : List Int) : List Int := ns.mergeSort fun a b => decide (a ≤ b)
theorem str_le {a b : Str} : leS a b = decide (a.cps.toList ≤ b.cps.toList) := by
  unfold leS
  rw [PyProof.Rows.ltCps_eq, ← decide_not]
  exact decide_eq_decide.mpr (by rw [List.not_lt])
theorem sortI_of {ns ns' : List Int} (p : ns'.Perm ns) (h : ns'.Pairwise (· ≤ ·)) : ns' = sortI ns := by
  refine List.Perm.eq_of_pairwise (le := fun a b : Int => a ≤ b) (fun a b _ _ h1 h2 => Int.le_antisymm h1 h2) h ?_ (p.trans (List.mergeSort_perm _ _).symm)
  have q := List.pairwise_mergeSort (le := fun a b : Int => decide (a ≤ b)) (fun a b c h1 h2 => decide_eq_true (Int.le_trans (of_decide_eq_true h1) (of_decide_eq_true h2))) (fun a b => by
    rcases Int.le_total a b with h | h <;> simp [h]) ns
  exact q.imp fun h => of_decide_eq_true h
theorem risingS_pw : ∀ (r : List Str) (p : Str), PyProof.Rows.risingS p r = true → (p :: r).Pairwise fun a b => leS a b = true
  | [], p, _ => by simp
  | x :: r, p, h => by
    simp only [PyProof.Rows.risingS, Bool.and_eq_true] at h
    have ih := risingS_pw r x h.2
    have hx : leS p x = true := h.1
    refine List.pairwise_cons.mpr ⟨fun y hy => ?_, ih⟩
    rcases List.mem_cons.mp hy with rfl | hy
    · exact hx
    · have h2 := (List.pairwise_cons.mp ih).1 y hy
      rw [str_le] at hx h2 ⊢
      exact decide_eq_true (List.le_trans (of_decide_eq_true hx) (of_decide_eq_true h2))
theorem str_ext {a b : Str} (h : a.cps.toList = b.cps.toList) : a = b := by
  cases a; cases b
  simp only at h
  congr 1
  exact Array.toList_inj.mp h
theorem sortS_of {xs ys : List Str} (p : ys.Perm xs) (h : PyProof.Rows.sortedS ys = true) : ys = sortS xs := by
  have hp : ys.Pairwise fun a b => leS a b = true := by
    cases ys with
    | nil => exact List.Pairwise.nil
    | cons y ys => exact risingS_pw ys y h
  have q := List.pairwise_mergeSort (le := leS) (fun a b c h1 h2 => by
    rw [str_le] at h1 h2 ⊢
    exact decide_eq_true (List.le_trans (of_decide_eq_true h1) (of_decide_eq_true h2))) (fun a b => by
    rw [str_le, str_le]
    rcases List.le_total a.cps.toList b.cps.toList with h | h <;> simp [h]) xs
  refine List.Perm.eq_of_pairwise (fun a b _ _ h1 h2 => ?_) hp q (p.trans (List.mergeSort_perm _ _).symm)
  rw [str_le] at h1 h2
  exact str_ext (List.le_antisymm (of_decide_eq_true h1) (of_decide_eq_true h2))
def strsOf : List D → Option (List Str)
  | [] => some []
  | .str i :: r => (strsOf r).map (i :: ·)
  | _ => none
theorem strsOf_eq : ∀ {ds : List D} {ns : List Str}, strsOf ds = some ns → ds = ns.map D.str
  | [], _, h => by cases h; rfl
  | d :: r, ns, h => by
    cases d <;> first | cases h | skip
    rename_i i
    simp only [strsOf] at h
    obtain ⟨ms, h1, rfl⟩ := Option.map_eq_some_iff.mp h
    rw [strsOf_eq h1]; rfl
theorem strsOf_strs : ∀ ns : List Str, strsOf (ns.map D.str) = some ns
  | [] => rfl
  | i :: r => by
    show (strsOf (r.map D.str)).map (i :: ·) = _
    rw [strsOf_strs r]; rfl
def sortD (ds : List D) : Option (List D) := match intsOf ds with
  | some ns => some ((sortI ns).map D.int)
  | none => match strsOf ds with
    | some ss => if ss.length < 64 then some ((sortS ss).map D.str) else none
    | none => none
theorem rds_strs {K : KW} {ρ : Rg} {H : Hp} : ∀ {ns : List Str} {vs : List V}, RDs K ρ H (ns.map D.str) vs → vs = ns.map V.str
  | [], _, h => by cases h; rfl
  | i :: r, _, h => by
    obtain ⟨v, t, rfl, h1, h2⟩ := h
    cases h1
    rw [rds_strs h2]; rfl
theorem ints_rds {K : KW} {ρ : Rg} {H : Hp} : ∀ ns : List Int, RDs K ρ H (ns.map D.int) (ns.map V.int)
  | [] => rfl
  | i :: r => ⟨_, _, rfl, rfl, ints_rds r⟩
theorem strs_rds {K : KW} {ρ : Rg} {H : Hp} : ∀ ns : List Str, RDs K ρ H (ns.map D.str) (ns.map V.str)
  | [] => rfl
  | i :: r => ⟨_, _, rfl, rfl, strs_rds r⟩
end Bo

set_option Elab.async false
set_option linter.all false
set_option maxRecDepth 100000
set_option maxHeartbeats 4000000
/-! Bo, part 3: the compact syntax, what it says over D, when it is a text's. -/
namespace Bo
open PySem PySem.Spec L2

/-! ### syntax -/
mutual
inductive TGt where
  | nm (i : Nat)
  | tp (ts : TGs)
inductive TGs where
  | nil
  | cons (t : TGt) (ts : TGs)
end
inductive BI where
  | len | abs | max2 | min2 | int1 | tuple1 | list1 | repr | isi | sorted1 | max1 | min1
inductive MT where
  | append | extend | get | index
mutual
inductive CE where
  | var (i : Nat)
  | non
  | bl (b : Bool)
  | int (i : Int)
  | str (s : Str)
  | gl (k : Nat)
  | ty (n : String)
  | bin (op : BOp) (a b : CE)
  | neg (a : CE)
  | nt (a : CE)
  | and (a b : CE)
  | or (a b : CE)
  | cmp (op : COp) (a b : CE)
  | chn (o1 o2 : COp) (a b c : CE)
  | ife (c a b : CE)
  | tup (as : CEs)
  | lst (as : CEs)
  | lstO (as : CEs)
  | ix (a i : CE)
  | sl (a : CE) (lo hi : CO)
  | rev (a : CE)
  | lrng (a : CE)
  | dsp (m : Md) (ps : CPs)
  | call (k : Nat) (as : CEs)
  | bi (f : BI) (as : CEs)
  | mth (m : MT) (o : CE) (as : CEs)
  | comp (elt : CE) (t : TGt) (it : CI) (cond : CO) (own : List Nat)
  | dcomp (k v : CE) (t : TGt) (it : CI) (cond : CO) (own : List Nat)
  | lset (a : CE)
  | comp2 (elt : CE) (t : TGt) (it : CI) (cond : CO) (t1 : TGt) (it1 : CI) (cond1 : CO) (own own1 : List Nat)
inductive CO where
  | none
  | some (a : CE)
inductive CEs where
  | nil
  | cons (a : CE) (as : CEs)
inductive CPs where
  | nil
  | cons (k v : CE) (ps : CPs)
inductive CI where
  | val (a : CE)
  | rng1 (a : CE)
  | rng2 (a b : CE)
  | enum (a : CE)
  | zip (a b : CE)
  | items (a : CE)
end
inductive CS where
  | skip
  | seq (a b : CS)
  | expr (e : CE)
  | asg (t : TGt) (e : CE)
  | asgC (i : Nat) (e : CE)
  | asg2 (i j : Nat) (a b : CE)
  | setix (o i e : CE)
  | setix2 (o1 i1 o2 i2 e1 e2 : CE)
  | aug (i : Nat) (op : BOp) (e : CE)
  | iff (c : CE) (a b : CS)
  | for_ (t : TGt) (it : CI) (b : CS)
  | whl (c : CE) (b : CS)
  | ret (e : CE)
  | retN
  | brk
  | cnt
  | raise_

/-- a def as it is called: its name, the keywords of this call, what it does to the arguments as they come -/
structure Fn where
  name : Str
  ks : List Str
  F : List D → Store → Option (D × Store)
structure Tab where
  fns : List Fn
  gls : List (Str × D)

/-! ### meaning -/
mutual
def asgT : TGt → D → Envr → Option Envr
  | .nm i, d, env => some (env.set i (some d))
  | .tp ts, .tup ds, env => asgTs ts ds env
  | .tp _, _, _ => none
def asgTs : TGs → List D → Envr → Option Envr
  | .nil, [], env => some env
  | .cons t ts, d :: ds, env => match asgT t d env with
    | some env' => asgTs ts ds env'
    | none => none
  | _, _, _ => none
end
mutual
def TGt.slots : TGt → List Nat
  | .nm i => [i]
  | .tp ts => ts.slots
def TGs.slots : TGs → List Nat
  | .nil => []
  | .cons t ts => t.slots ++ ts.slots
def TGs.len : TGs → Nat
  | .nil => 0
  | .cons _ ts => ts.len + 1
end
def wipeE (env : Envr) : List Nat → Envr
  | [] => env
  | v :: vs => (wipeE env vs).set v none

/-- what is walked: the items, and the list of the store that they are -/
structure Src where
  items : List D
  src : Option Nat
def Src.ok (s : Src) (st : Store) : Prop := match s.src with
  | none => True
  | some n => st[n]? = some (.lst s.items)

def cutD (xs : List D) (lo hi : Option Int) : List D := (xs.drop (HT.sIx xs.length 0 lo)).take (HT.sIx xs.length xs.length hi - HT.sIx xs.length 0 lo)
def lenD (st : Store) (d : D) : Option Nat := match d with
  | .str s => if lineOk s.length then some s.length else none
  | .obj n => (match st[n]? with
    | some (.lst ds) => some ds.length
    | some (.dct (.lf _) kvs) => some kvs.length
    | _ => none)
  | d => (itemsD st d).map List.length
def ixK (st : Store) (a k : D) : Option D := match dictD st a with
  | some (m, kvs) => if okK m k then getK kvs k else none
  | none => none
def ixD (st : Store) (a i : D) : Option D := match itemsD st a with
  | some ds => (match i with
    | .int i => atI ds i
    | _ => none)
  | none => ixK st a i
def revD (st : Store) (d : D) : Option D := match listD st d with
  | some ds => some (.lst ds.reverse)
  | none => none
/-- a dict by a display -/
def mergeD (kvs more : List (D × D)) : List (D × D) := more.foldl (fun acc p => setK acc p.1 p.2) kvs
/-- where a thing stands first -/
def findD (st : Store) (ds : List PyData) (d : PyData) : Option Nat := ds.findIdx? fun z => PyData.eqv z d
def indexD (st : Store) (a d : D) : Option Nat := match toP st a, toP st d with
  | some (.list ps), some p => if okP (.list ps) && okP p then findD st ps p else none
  | _, _ => none
def slD (st : Store) (a : D) (lo hi : Option Int) : Option D := match a with
  | .tup ds => some (.tup (cutD ds lo hi))
  | .lst ds => some (.lst (cutD ds lo hi))
  | .obj n => match st[n]? with
    | some (.lst ds) => some (.lst (cutD ds lo hi))
    | _ => none
  | _ => none
def shownOk (p : PyData) : Bool := p.showable && !p.hasDict && PyProof.Rows.isDisplay p && decide (p.depth ≤ 64) && lineOk p.shown.length
/-- the keys of a dict of the store, ints -/
def keysD (st : Store) : D → Option (List Int)
  | .obj n => match st[n]? with
    | some (.dct (.lf true) kvs) => intsOf (kvs.map (·.1))
    | _ => none
  | _ => none
/-- how many there are in a set of these -/
def setLen (ns : List Int) : Nat := (ns.foldl PyProof.Rows.step_dedup []).length
def lsetD (st : Store) (d : D) : Option D := match listD st d with
  | some ds => match intsOf ds with
    | some ns => if ns.length < 4000 then some (.int (setLen ns : Nat)) else none
    | none => none
  | none => none
/-- a dict by pairs -/
def dictOfP (rs : List D) : List (D × D) := rs.foldl (fun acc r => match r with
  | .tup [k, v] => setK acc k v
  | _ => acc) []
def keyV : D → Option L2.Key
  | .int i => some (.inl i)
  | .str s => some (.inr s)
  | _ => none
def BI.ev1 (f : BI) (st : Store) (d : D) : Option D := match f with
  | .len => match lenD st d with
    | some n => some (.int n)
    | none => none
  | .abs => match d with
    | .int i => some (.int (if i < 0 then -i else i))
    | _ => none
  | .int1 => match d with
    | .int i => some (.int i)
    | .bl b => some (.int (if b then 1 else 0))
    | _ => none
  | .tuple1 => match itemsD st d with
    | some ds => some (.tup ds)
    | none => none
  | .list1 => match itemsD st d with
    | some ds => some (.lst ds)
    | none => none
  | .repr => match toP st d with
    | some p => if shownOk p then some (.str p.shown) else none
    | none => none
  | .sorted1 => match listD st d with
    | some ds => match sortD ds with
      | some xs => some (.lst xs)
      | none => none
    | none => (match keysD st d with
      | some ns => if ns.length < 64 then some (.lst ((sortI ns).map D.int)) else none
      | none => none)
  | .max1 => match itemsD st d with
    | some ds => (match intsOf ds with
      | some ns => if ns.isEmpty then none else some (.int (maxI ns))
      | none => none)
    | none => none
  | .min1 => match itemsD st d with
    | some ds => (match intsOf ds with
      | some ns => if ns.isEmpty then none else some (.int (minI ns))
      | none => none)
    | none => none
  | _ => none
/-- the built-in type of a thing -/
def kindD (st : Store) : D → Option String
  | .non => some "NoneType"
  | .bl _ => some "bool"
  | .int _ => some "int"
  | .str _ => some "str"
  | .tup _ => some "tuple"
  | .lst _ => some "list"
  | .obj n => match st[n]? with
    | some (.lst _) => some "list"
    | some (.dct _ _) => none
    | none => none
  | .ty _ => none
  | .tab _ _ => none
def tyNames : List String := ["tuple", "list", "int", "str", "bool", "dict"]
/-- isinstance of a built-in type -/
def isiD (k n : String) : Option Bool := if k = n then some true else if k = "bool" ∧ n = "int" then some true else if k ∈ ["NoneType", "bool", "int", "str", "tuple", "list"] ∧ n ∈ tyNames then some false else none
def BI.ev2 (f : BI) (st : Store) (a b : D) : Option D := match f with
  | .max2 => match a, b with
    | .int i, .int j => some (.int (if j > i then j else i))
    | _, _ => none
  | .min2 => match a, b with
    | .int i, .int j => some (.int (if j < i then j else i))
    | _, _ => none
  | .isi => match kindD st a, b with
    | some k, .ty n => (match isiD k n with
      | some r => some (.bl r)
      | none => none)
    | _, _ => none
  | _ => none
def BI.ev (f : BI) (st : Store) : List D → Option (D × Store)
  | [d] => match f.ev1 st d with
    | some r => some (r, st)
    | none => none
  | [a, b] => match f.ev2 st a b with
    | some r => some (r, st)
    | none => none
  | _ => none
def appendD (st : Store) : D → List D → Option (D × Store)
  | .obj n, [d] => match st[n]? with
    | some (.lst ds) => if decide (ds.length < sizeLine) then some (.non, st.set n (.lst (ds ++ [d]))) else none
    | _ => none
  | _, _ => none
def extendD (st : Store) : D → List D → Option (D × Store)
  | .obj n, [.lst es] => match st[n]? with
    | some (.lst ds) => if lineOk (ds.length + es.length) then some (.non, st.set n (.lst (ds ++ es))) else none
    | _ => none
  | _, _ => none
def dgetD (st : Store) (a : D) : List D → Option (D × Store)
  | [k] => match dictD st a with
    | some (m, kvs) => if okK m k then some ((getK kvs k).getD .non, st) else none
    | none => none
  | [k, o] => match dictD st a with
    | some (m, kvs) => if okK m k then some ((getK kvs k).getD o, st) else none
    | none => none
  | _ => none
def mindexD (st : Store) (a : D) : List D → Option (D × Store)
  | [d] => match listD st a with
    | some _ => match indexD st a d with
      | some j => some (.int (j : Nat), st)
      | none => none
    | none => none
  | _ => none
/-- whether a thing has this method -/
def MT.ok (m : MT) (st : Store) (d : D) : Bool := match m with
  | .get => (dictD st d).isSome
  | _ => (listD st d).isSome
def MT.ev : MT → Store → D → List D → Option (D × Store)
  | .append, st, o, ds => appendD st o ds
  | .extend, st, o, ds => extendD st o ds
  | .get, st, o, ds => dgetD st o ds
  | .index, st, o, ds => mindexD st o ds
def setixD (st : Store) (o i d : D) : Option Store := match o with
  | .obj n => match st[n]? with
    | some (.lst ds) => (match i with
      | .int k => (match ixN ds.length k with
        | some j => some (st.set n (.lst (ds.set j d)))
        | none => none)
      | _ => none)
    | some (.dct m kvs) => if okK m i && decide (kvs.length < sizeLine) then some (st.set n (.dct m (setK kvs i d))) else none
    | none => none
  | _ => none
def rngD (i j : Int) : List D := (List.range (j - i).toNat).map fun k => .int (i + (k : Nat))
def rngOk (i : Int) : Bool := decide (-(2 ^ 62) ≤ i) && decide (i < 2 ^ 62)
def enumD (ds : List D) : List D := (List.range ds.length).zipWith (fun k d => .tup [.int (k : Nat), d]) ds
def itemsP (ks : List Str) (ds : List D) : List D := List.zipWith (fun k d => .tup [.str k, d]) ks ds
def zipD (xs ys : List D) : List D := List.zipWith (fun x y => .tup [x, y]) xs ys

open Classical in
noncomputable def compL (ok : Store → Prop) (f : D → Store → Option (Option D × Store)) : List D → Store → Option (List D × Store)
  | [], st => some ([], st)
  | d :: ds, st => match f d st with
    | none => none
    | some (o, st1) => if ok st1 then match compL ok f ds st1 with
        | none => none
        | some (r, st2) => some (o.toList ++ r, st2)
      else none

open Classical in
/-- each turn gives some things -/
noncomputable def compL2 (ok : Store → Prop) (f : D → Store → Option (List D × Store)) : List D → Store → Option (List D × Store)
  | [], st => some ([], st)
  | d :: ds, st => match f d st with
    | none => none
    | some (o, st1) => if ok st1 then match compL2 ok f ds st1 with
        | none => none
        | some (r, st2) => some (o ++ r, st2)
      else none
def dspOk (m : Md) (kvs : List (D × D)) : Bool := kvs.all (fun p => okK m p.1) && decide (kvs.length ≤ 15) && (match m with
  | .lf _ => true
  | .tp => kvs.isEmpty)

mutual
noncomputable def ev (T : Tab) : CE → Ev
  | .var i, env, st => match env[i]? with
    | some (some d) => some (d, st)
    | _ => none
  | .non, _, st => some (.non, st)
  | .bl b, _, st => some (.bl b, st)
  | .int i, _, st => some (.int i, st)
  | .str s, _, st => some (.str s, st)
  | .ty n, _, st => some (.ty n, st)
  | .gl k, _, st => match T.gls[k]? with
    | some (_, d) => some (d, st)
    | none => none
  | .bin op a b, env, st => match ev T a env st with
    | some (x, st1) => match ev T b env st1 with
      | some (y, st2) => op.ev st2 x y
      | none => none
    | none => none
  | .neg a, env, st => match ev T a env st with
    | some (.int i, st1) => some (.int (-i), st1)
    | _ => none
  | .nt a, env, st => match ev T a env st with
    | some (x, st1) => match truD st1 x with
      | some k => some (.bl (!k), st1)
      | none => none
    | none => none
  | .and a b, env, st => match ev T a env st with
    | some (x, st1) => match truD st1 x with
      | some true => ev T b env st1
      | some false => some (x, st1)
      | none => none
    | none => none
  | .or a b, env, st => match ev T a env st with
    | some (x, st1) => match truD st1 x with
      | some true => some (x, st1)
      | some false => ev T b env st1
      | none => none
    | none => none
  | .cmp op a b, env, st => match ev T a env st with
    | some (x, st1) => match ev T b env st1 with
      | some (y, st2) => match op.ev st2 x y with
        | some k => some (.bl k, st2)
        | none => none
      | none => none
    | none => none
  | .chn o1 o2 a b c, env, st => match ev T a env st with
    | some (x, st1) => match ev T b env st1 with
      | some (y, st2) => match o1.ev st2 x y with
        | some false => some (.bl false, st2)
        | some true => match ev T c env st2 with
          | some (z, st3) => match o2.ev st3 y z with
            | some k => some (.bl k, st3)
            | none => none
          | none => none
        | none => none
      | none => none
    | none => none
  | .ife c a b, env, st => match ev T c env st with
    | some (x, st1) => match truD st1 x with
      | some true => ev T a env st1
      | some false => ev T b env st1
      | none => none
    | none => none
  | .tup as, env, st => match evs T as env st with
    | some (ds, st1) => some (.tup ds, st1)
    | none => none
  | .lst as, env, st => match evs T as env st with
    | some (ds, st1) => some (.lst ds, st1)
    | none => none
  | .lstO as, env, st => match evs T as env st with
    | some (ds, st1) => some (.obj st1.length, st1 ++ [.lst ds])
    | none => none
  | .ix a i, env, st => match ev T a env st with
    | some (x, st1) => match ev T i env st1 with
      | some (y, st2) => match ixD st2 x y with
        | some d => some (d, st2)
        | none => none
      | none => none
    | none => none
  | .sl a lo hi, env, st => match ev T a env st with
    | some (x, st1) => match evO T lo env st1 with
      | some (l, st2) => match evO T hi env st2 with
        | some (u, st3) => match slD st3 x l u with
          | some d => some (d, st3)
          | none => none
        | none => none
      | none => none
    | none => none
  | .rev a, env, st => match ev T a env st with
    | some (x, st1) => match revD st1 x with
      | some d => some (d, st1)
      | none => none
    | none => none
  | .lrng a, env, st => match ev T a env st with
    | some (.int j, st1) => if rngOk j && lineOk j.toNat then some (.lst (rngD 0 j), st1) else none
    | _ => none
  | .dsp m ps, env, st => match evP T ps env st with
    | some (kvs, st1) => if dspOk m kvs then some (.obj st1.length, st1 ++ [.dct m (mergeD [] kvs)]) else none
    | none => none
  | .call k as, env, st => match evs T as env st with
    | some (ds, st1) => match T.fns[k]? with
      | some f => f.F ds st1
      | none => none
    | none => none
  | .bi f as, env, st => match evs T as env st with
    | some (ds, st1) => f.ev st1 ds
    | none => none
  | .mth m o as, env, st => match ev T o env st with
    | some (x, st1) => if m.ok st1 x then (match evs T as env st1 with
      | some (ds, st2) => m.ev st2 x ds
      | none => none) else none
    | none => none
  | .comp elt t it cond own, env, st => match evI T it env st with
    | some (src, st1) => match compL src.ok (fun d st => match asgT t d (wipeE env own) with
        | none => none
        | some env2 => match evC T cond env2 st with
          | some (true, st2) => match ev T elt env2 st2 with
            | some (r, st3) => some (some r, st3)
            | none => none
          | some (false, st2) => some (none, st2)
          | none => none) src.items st1 with
      | some (r, st2) => some (.lst r, st2)
      | none => none
    | none => none
  | .dcomp kx vx t it cond own, env, st => match evI T it env st with
    | some (src, st1) => match compL src.ok (fun d st => match asgT t d (wipeE env own) with
        | none => none
        | some env2 => match evC T cond env2 st with
          | some (true, st2) => match ev T kx env2 st2 with
            | some (x, st3) => match ev T vx env2 st3 with
              | some (y, st4) => if (keyV x).isSome then some (some (.tup [x, y]), st4) else none
              | none => none
            | none => none
          | some (false, st2) => some (none, st2)
          | none => none) src.items st1 with
      | some (rs, st2) => some (.obj st2.length, st2 ++ [.dct (.lf true) (dictOfP rs)])
      | none => none
    | none => none
  | .lset a, env, st => match ev T a env st with
    | some (x, st1) => match lsetD st1 x with
      | some d => some (d, st1)
      | none => none
    | none => none
  | .comp2 elt t it cond t1 it1 cond1 own own1, env, st => match evI T it env st with
    | some (src, st1) => match compL2 src.ok (fun d st => match asgT t d (wipeE env own) with
        | none => none
        | some env2 => match evC T cond env2 st with
          | some (true, st2) => match evI T it1 env2 st2 with
            | some (src1, st3) => match compL src1.ok (fun d st => match asgT t1 d (wipeE env2 own1) with
                | none => none
                | some env3 => match evC T cond1 env3 st with
                  | some (true, st4) => match ev T elt env3 st4 with
                    | some (r, st5) => some (some r, st5)
                    | none => none
                  | some (false, st4) => some (none, st4)
                  | none => none) src1.items st3 with
              | some (r, st4) => some (r, st4)
              | none => none
            | none => none
          | some (false, st2) => some ([], st2)
          | none => none) src.items st1 with
      | some (r, st2) => if lineOk r.length then some (.lst r, st2) else none
      | none => none
    | none => none
/-- an optional part of a slice -/
noncomputable def evO (T : Tab) : CO → Envr → Store → Option (Option Int × Store)
  | .none, _, st => some (none, st)
  | .some a, env, st => match ev T a env st with
    | some (.int i, st1) => some (some i, st1)
    | _ => none
/-- a clause's test -/
noncomputable def evC (T : Tab) : CO → Envr → Store → Option (Bool × Store)
  | .none, _, st => some (true, st)
  | .some a, env, st => match ev T a env st with
    | some (x, st1) => match truD st1 x with
      | some k => some (k, st1)
      | none => none
    | none => none
noncomputable def evs (T : Tab) : CEs → EvA
  | .nil, _, st => some ([], st)
  | .cons a as, env, st => match ev T a env st with
    | some (x, st1) => match evs T as env st1 with
      | some (xs, st2) => some (x :: xs, st2)
      | none => none
    | none => none
/-- the pairs of a display -/
noncomputable def evP (T : Tab) : CPs → Envr → Store → Option (List (D × D) × Store)
  | .nil, _, st => some ([], st)
  | .cons k v ps, env, st => match ev T k env st with
    | some (x, st1) => match ev T v env st1 with
      | some (y, st2) => match evP T ps env st2 with
        | some (r, st3) => some ((x, y) :: r, st3)
        | none => none
      | none => none
    | none => none
noncomputable def evI (T : Tab) : CI → Envr → Store → Option (Src × Store)
  | .val a, env, st => match ev T a env st with
    | some (.tup ds, st1) => some (⟨ds, none⟩, st1)
    | some (.lst ds, st1) => some (⟨ds, none⟩, st1)
    | some (.obj n, st1) => match st1[n]? with
      | some (.lst ds) => some (⟨ds, some n⟩, st1)
      | _ => none
    | _ => none
  | .items a, env, st => match ev T a env st with
    | some (.tab ks ds, st1) => some (⟨itemsP ks ds, none⟩, st1)
    | _ => none
  | .rng1 a, env, st => match ev T a env st with
    | some (.int j, st1) => if rngOk j && lineOk j.toNat then some (⟨rngD 0 j, none⟩, st1) else none
    | _ => none
  | .rng2 a b, env, st => match ev T a env st with
    | some (.int i, st1) => match ev T b env st1 with
      | some (.int j, st2) => if rngOk i && rngOk j && lineOk (j - i).toNat then some (⟨rngD i j, none⟩, st2) else none
      | _ => none
    | _ => none
  | .enum a, env, st => match ev T a env st with
    | some (.tup ds, st1) => some (⟨enumD ds, none⟩, st1)
    | some (.lst ds, st1) => some (⟨enumD ds, none⟩, st1)
    | _ => none
  | .zip a b, env, st => match ev T a env st with
    | some (x, st1) => match ev T b env st1 with
      | some (y, st2) => match x, y with
        | .lst xs, .lst ys => some (⟨zipD xs ys, none⟩, st2)
        | _, _ => none
      | none => none
    | none => none
end
end Bo

set_option Elab.async false
set_option linter.all false
set_option maxRecDepth 100000
set_option maxHeartbeats 4000000
/-! Bo, part 4: when compact syntax is a text's; the side facts of single forms. -/
namespace Bo
open PySem PySem.Spec L2

def vis (sc : Scope) (x : Str) : Bool := match sc.names.lookup x with
  | some .local => true
  | some .cell => true
  | some .free => true
  | _ => false
def locN (sc : Scope) (x : Str) : Bool := match sc.names.lookup x with
  | some .local => true
  | some .cell => true
  | _ => false
def locL (sc : Scope) (x : Str) : Bool := match sc.names.lookup x with
  | some .local => true
  | _ => false
def glo (sc : Scope) (x : Str) : Bool := match sc.names.lookup x with
  | some .globalImplicit => true
  | _ => false
def okN (x : Str) : Bool := !(x == ("__debug__" : Str)) && !(x == ("__classdict__" : Str))
theorem vis_ok {sc : Scope} {x : Str} (h : vis sc x = true) : Vis sc x := by
  unfold vis at h
  split at h <;> first | exact .inl (by assumption) | exact .inr (.inl (by assumption)) | exact .inr (.inr (by assumption)) | cases h
theorem locN_ok {sc : Scope} {x : Str} (h : locN sc x = true) : Loc sc x := by
  unfold locN at h
  split at h <;> first | exact .inl (by assumption) | exact .inr (by assumption) | cases h
theorem locL_ok {sc : Scope} {x : Str} (h : locL sc x = true) : sc.names.lookup x = some .local := by
  unfold locL at h
  split at h <;> first | assumption | cases h
theorem glo_ok {sc : Scope} {x : Str} (h : glo sc x = true) : sc.names.lookup x = some .globalImplicit := by
  unfold glo at h
  split at h <;> first | assumption | cases h
theorem okN_ok {x : Str} (h : okN x = true) : (x == ("__debug__" : Str)) = false ∧ (x == ("__classdict__" : Str)) = false := by
  unfold okN at h
  simpa using h

/-! ### single forms of the text -/
def noStar : Expr → Bool
  | .Starred _ _ => false
  | _ => true
def noStars : List Expr → Bool
  | [] => true
  | e :: es => noStar e && noStars es
theorem star_of {env : Env} : ∀ {es : List Expr}, noStars es = true → starEach es env = es.map fun e => (false, eval e env)
  | [], _ => rfl
  | e :: es, h => by
    unfold noStars at h
    rw [Bool.and_eq_true] at h
    have ih := star_of (env := env) h.2
    cases e <;> first | (simp only [starEach, List.map_cons, ih]; done) | exact absurd h.1 (by simp [noStar])
theorem star_cons {env : Env} {e : Expr} {es : List Expr} (h : noStars (e :: es) = true) : starEach (e :: es) env = (false, eval e env) :: starEach es env := by
  have h2 : noStars es = true := by unfold noStars at h; exact (Bool.and_eq_true_iff.mp h).2
  rw [star_of h, star_of h2]; rfl
theorem star_plain {env : Env} {pos : Pos} {es : List Expr} (h : noStars es = true) : (backTo pos (starEach es env)).any (·.1) = false := by
  rw [star_of h]
  induction es with
  | nil => rfl
  | cons e es ih =>
    have h2 : noStars es = true := by unfold noStars at h; exact (Bool.and_eq_true_iff.mp h).2
    have q := ih h2
    show (false || (backTo pos (es.map fun e => (false, eval e env))).any (·.1)) = false
    rw [q]; rfl
theorem star_few {env : Env} {pos : Pos} {es : List Expr} (h : noStars es = true) : (backTo pos (starEach es env)).all (fun x => !x.1) = true := by
  rw [star_of h]
  induction es with
  | nil => rfl
  | cons e es ih =>
    have h2 : noStars es = true := by unfold noStars at h; exact (Bool.and_eq_true_iff.mp h).2
    have q := ih h2
    show (true && (backTo pos (es.map fun e => (false, eval e env))).all (fun x => !x.1)) = true
    rw [q]; rfl
def noSl : Expr → Bool
  | .Slice _ _ _ _ => false
  | _ => true
theorem plain_ix {e : Expr} (h : noSl e = true) : PlainIx e := by
  cases e <;> first | (intro o i; rfl) | exact absurd h (by simp [noSl])
def noComp : Expr → Bool
  | .ListComp .. => false
  | .SetComp .. => false
  | .DictComp .. => false
  | _ => true
theorem swaps_no {e : Expr} {t : Option Expr} {l : Nat} {env : Env} (h : noComp e = true) : swapsWith e t l env = pure false := by
  cases e <;> first | rfl | exact absurd h (by simp [noComp])
def noSet : Expr → Bool
  | .Set .. => false
  | _ => true
theorem marks_no {op : CmpOp} {e : Expr} (h : noSet e = true) : behindInMarks op e = false := by
  cases e <;> first | rfl | exact absurd h (by simp [noSet])
def baseOk : Expr → Bool
  | .Call (.Name x _) [] [] _ => x != "super"
  | _ => true
theorem base_ok {e : Expr} {nm : Str} {env : Env} {w : Sem Value} (h : baseOk e = true) : attributeBase e nm env w = w := by
  unfold attributeBase
  split
  · rename_i x p1 p2
    have hx : (x != "super") = true := h
    simp only [hx, Bool.true_or, if_true]
  · rfl
/-- a test that is no 'and', 'or', 'not', comparison or conditional -/
def plainT : Expr → Bool
  | .Name .. => true
  | .Call .. => true
  | .Subscript .. => true
  | .Attribute .. => true
  | .Constant .. => true
  | .List .. => true
  | .Tuple .. => true
  | .ListComp .. => true
  | _ => false
theorem plain_test {e : Expr} {env : Env} (h : plainT e = true) (hc : ∀ c k p, e = .Constant c k p → False) : ∀ whole, isTrue e env whole = (do let v ← whole; standAt e.pos; holding [v] (truthy v)) := by
  intro w
  cases e <;> first | rfl | exact absurd h (by simp [plainT]) | exact (hc _ _ _ rfl).elim

/-! ### checks -/
def nmIs (N : List Str) (i : Nat) (x : Str) : Bool := match N[i]? with
  | some y => decide (y = x)
  | none => false
theorem nmIs_ok {N : List Str} {i : Nat} {x : Str} (h : nmIs N i x = true) : N[i]? = some x := by
  unfold nmIs at h
  split at h
  · rename_i y e; rw [e, of_decide_eq_true h]
  · cases h
def cellOf (sc : Scope) (x : Str) : Bool := sc.names.lookup x == some .cell
mutual
/-- dfn: the cells that may be stored in -/
def chkT (dfn : Str → Bool) (N : List Str) (sc : Scope) : TGt → Expr → Bool
  | .nm i, .Name x _ => nmIs N i x && (locL sc x || (dfn x && locN sc x))
  | .tp ts, .Tuple es _ _ => chkTs dfn N sc ts es
  | _, _ => false
def chkTs (dfn : Str → Bool) (N : List Str) (sc : Scope) : TGs → List Expr → Bool
  | .nil, [] => true
  | .cons t ts, e :: es => chkT dfn N sc t e && chkTs dfn N sc ts es
  | _, _ => false
end
def BI.name : BI → Str
  | .max1 => "max" | .min1 => "min" | .sorted1 => "sorted" | .isi => "isinstance" | .len => "len" | .abs => "abs" | .max2 => "max" | .min2 => "min" | .int1 => "int" | .tuple1 => "tuple" | .list1 => "list" | .repr => "repr"
def MT.name : MT → Str
  | .append => "append" | .extend => "extend" | .get => "get" | .index => "index"
def isTup : Expr → Bool
  | .Tuple .. => true
  | _ => false
def isCst : Expr → Bool
  | .Constant .. => true
  | _ => false
def opIs (a b : Operator) : Bool := decide (a = b)
def copIs (a b : CmpOp) : Bool := decide (a = b)
def strIs (a b : Str) : Bool := decide (a = b)
def ownOf (N : List Str) (own : List Nat) : List (Str × Nat) := own.filterMap fun i => N[i]?.map fun x => (x, i)
/-- parts of deeper forms -/
def revOf : Expr → Option Expr
  | .Subscript ea sl _ => (match sl with
    | .Slice none none (some st) _ => (match st with
      | .UnaryOp .USub c _ => (match c with
        | .Constant k _ _ => (match k with
          | .int i => if i = 1 then some ea else none
          | _ => none)
        | _ => none)
      | _ => none)
    | _ => none)
  | _ => none
theorem revOf_ok {e ea : Expr} (h : revOf e = some ea) : ∃ k p1 p2 p3 p, e = .Subscript ea (.Slice none none (some (.UnaryOp .USub (.Constant (.int 1) k p1) p2)) p3) p := by
  unfold revOf at h
  split at h
  · split at h
    · split at h
      · split at h
        · split at h
          · split at h
            · rename_i hi; subst hi; cases h; exact ⟨_, _, _, _, _, rfl⟩
            · cases h
          · cases h
        · cases h
      · cases h
    · cases h
  · cases h
def lrngOf : Expr → Option (Str × Str × Expr)
  | .Call f es ks _ => (match f, es, ks with
    | .Name x _, [a], [] => (match a with
      | .Call g es2 ks2 _ => (match g, es2, ks2 with
        | .Name y _, [e], [] => some (x, y, e)
        | _, _, _ => none)
      | _ => none)
    | _, _, _ => none)
  | _ => none
theorem lrngOf_ok {e e1 : Expr} {x y : Str} (h : lrngOf e = some (x, y, e1)) : ∃ q0 q1 p1 p, e = .Call (.Name x q0) [.Call (.Name y q1) [e1] [] p1] [] p := by
  unfold lrngOf at h
  split at h
  · split at h
    · split at h
      · split at h
        · cases h; exact ⟨_, _, _, _, rfl⟩
        · cases h
      · cases h
    · cases h
  · cases h
def lc2Of : Expr → Option (Expr × Comprehension × Comprehension × Scope)
  | .ListComp e gs scope _ => (match gs with
    | [g, h] => some (e, g, h, scope)
    | _ => none)
  | _ => none
theorem lc2Of_ok {e0 e : Expr} {g h : Comprehension} {scope : Scope} (q : lc2Of e0 = some (e, g, h, scope)) : ∃ p, e0 = .ListComp e [g, h] scope p := by
  unfold lc2Of at q
  split at q
  · split at q
    · cases q; exact ⟨_, rfl⟩
    · cases q
  · cases q
def dcOf : Expr → Option (Expr × Expr × Comprehension × Scope)
  | .DictComp k v gs scope _ => (match gs with
    | [g] => some (k, v, g, scope)
    | _ => none)
  | _ => none
theorem dcOf_ok {e0 k v : Expr} {g : Comprehension} {scope : Scope} (q : dcOf e0 = some (k, v, g, scope)) : ∃ p, e0 = .DictComp k v [g] scope p := by
  unfold dcOf at q
  split at q
  · split at q
    · cases q; exact ⟨_, rfl⟩
    · cases q
  · cases q
mutual
def chk (T : Tab) (L : Nat) (N : List Str) : Scope → CE → Expr → Bool
  | sc, .var i, .Name x _ => nmIs N i x && vis sc x && okN x
  | _, .non, .Constant .none _ _ => true
  | _, .bl b, .Constant (.bool c) _ _ => b == c
  | _, .int i, .Constant (.int j) _ _ => decide (i = j)
  | _, .str s, .Constant (.str t) _ _ => strIs s t
  | sc, .gl k, .Name x _ => (match T.gls[k]? with
    | some p => strIs p.1 x
    | none => false) && glo sc x && okN x
  | sc, .ty n, .Name x _ => strIs (Str.ofString n) x && tyNames.contains n && glo sc x
  | sc, .bin op a b, .BinOp ea o eb _ => opIs o op.of && chk T L N sc a ea && chk T L N sc b eb
  | sc, .neg a, .UnaryOp .USub ea _ => chk T L N sc a ea
  | sc, .nt a, .UnaryOp .Not ea _ => chk T L N sc a ea
  | sc, .and a b, .BoolOp .And (ea :: es) p => chk T L N sc a ea && (match es with
    | [] => false
    | [eb] => chk T L N sc b eb
    | eb :: e2 :: r => chk T L N sc b (.BoolOp .And (eb :: e2 :: r) p))
  | sc, .or a b, .BoolOp .Or (ea :: es) p => chk T L N sc a ea && (match es with
    | [] => false
    | [eb] => chk T L N sc b eb
    | eb :: e2 :: r => chk T L N sc b (.BoolOp .Or (eb :: e2 :: r) p))
  | sc, .cmp op a b, .Compare ea [o] [eb] _ => copIs o op.of && chk T L N sc a ea && chk T L N sc b eb && noSet eb
  | sc, .chn o1 o2 a b c, .Compare ea [p1, p2] [eb, ec] _ => copIs p1 o1.of && copIs p2 o2.of && chk T L N sc a ea && chk T L N sc b eb && chk T L N sc c ec && noSet ec
  | sc, .ife c a b, .IfExp ec ea eb _ => chk T L N sc c ec && chk T L N sc a ea && chk T L N sc b eb
  | sc, .tup as, .Tuple es _ _ => chks T L N sc as es && noStars es && decide (es.length ≤ 1000)
  | sc, .lst as, .List es _ => chks T L N sc as es && noStars es && decide (es.length ≤ 1000)
  | sc, .lstO as, .List es _ => chks T L N sc as es && noStars es && decide (es.length ≤ 1000)
  | sc, .ix a i, .Subscript ea ei _ => chk T L N sc a ea && chk T L N sc i ei && noSl ei
  | sc, .sl a lo hi, .Subscript ea (.Slice elo ehi none _) _ => chk T L N sc a ea && chkO T L N sc lo elo && chkO T L N sc hi ehi
  | sc, .rev a, e => (match revOf e with
    | some ea => chk T L N sc a ea
    | none => false)
  | sc, .lrng a, e => (match lrngOf e with
    | some (x, y, e1) => strIs x "list" && glo sc x && strIs y "range" && glo sc y && chk T L N sc a e1 && noStars [e1]
    | none => false)
  | sc, .dsp _ ps, .Dict ks vs _ => chkP T L N sc ps ks vs && ks.all (·.isSome) && decide (ks.length = vs.length) && decide (ks.length ≤ 15)
  | sc, .call k as, .Call (.Name x _) es kws _ => decide (k < L) && (match T.fns[k]? with
    | some f => strIs f.name x && chkK T L N sc as es kws f.ks
    | none => false) && noStars es && glo sc x && okN x
  | sc, .bi f as, .Call (.Name x _) (e :: es) [] _ => strIs f.name x && chks T L N sc as (e :: es) && noStars (e :: es) && glo sc x
  | sc, .mth m o as, .Call (.Attribute eo x ap) (e :: es) [] cp => strIs m.name x && chk T L N sc o eo && baseOk eo && chks T L N sc as (e :: es) && noStars (e :: es) && (ap.endLine == cp.line) && decide (es.length < 20)
  | sc, .comp elt t it cond own, .ListComp e [⟨tg, iter, ifs, isa⟩] scope _ =>
    decide (isa = 0) && blkC N sc scope (ownOf N own) && decide ((ownOf N own).map (·.2) = own) && chkI T L N sc it tg iter && chkT (cellOf scope) N (relS scope sc) t tg && t.slots.all (own.contains ·) && chkC T L N (relS scope sc) cond ifs && chk T L N (relS scope sc) elt e && noSet iter
  | sc, .dcomp kx vx t it cond own, e0 => (match dcOf e0 with
    | some (ek, ev, ⟨tg, iter, ifs, isa⟩, scope) =>
      decide (isa = 0) && blkC N sc scope (ownOf N own) && decide ((ownOf N own).map (·.2) = own) && chkI T L N sc it tg iter && chkT (cellOf scope) N (relS scope sc) t tg && t.slots.all (own.contains ·) && chkC T L N (relS scope sc) cond ifs && chk T L N (relS scope sc) kx ek && chk T L N (relS scope sc) vx ev && noSet iter
    | none => false)
  | sc, .lset a, e => (match lrngOf e with
    | some (x, y, e1) => strIs x "len" && glo sc x && strIs y "set" && glo sc y && chk T L N sc a e1 && noStars [e1]
    | none => false)
  | sc, .comp2 elt t it cond t1 it1 cond1 own own1, e0 => (match lc2Of e0 with
    | some (e, ⟨tg, iter, ifs, isa⟩, ⟨tg1, iter1, ifs1, isa1⟩, scope) =>
      decide (isa = 0) && decide (isa1 = 0) && blkC N sc scope (ownOf N own) && decide ((ownOf N own).map (·.2) = own) && own1.all (own.contains ·) && chkI T L N sc it tg iter && chkT (cellOf scope) N (relS scope sc) t tg && t.slots.all (own.contains ·) && chkC T L N (relS scope sc) cond ifs
        && chkI T L N (relS scope sc) it1 tg1 iter1 && chkT (cellOf scope) N (relS scope sc) t1 tg1 && t1.slots.all (own1.contains ·) && chkC T L N (relS scope sc) cond1 ifs1 && chk T L N (relS scope sc) elt e && noSet iter && noSet iter1
    | none => false)
  | _, _, _ => false
/-- the pairs of a display -/
def chkP (T : Tab) (L : Nat) (N : List Str) : Scope → CPs → List (Option Expr) → List Expr → Bool
  | _, .nil, [], [] => true
  | sc, .cons k v ps, some ek :: ks, ev :: vs => chk T L N sc k ek && chk T L N sc v ev && chkP T L N sc ps ks vs
  | _, _, _, _ => false
def chkO (T : Tab) (L : Nat) (N : List Str) : Scope → CO → Option Expr → Bool
  | _, .none, none => true
  | sc, .some a, some e => chk T L N sc a e
  | _, _, _ => false
/-- a clause's tests -/
def chkC (T : Tab) (L : Nat) (N : List Str) : Scope → CO → List Expr → Bool
  | _, .none, [] => true
  | sc, .some a, [e] => chk T L N sc a e && !isCst e
  | _, _, _ => false
def chks (T : Tab) (L : Nat) (N : List Str) : Scope → CEs → List Expr → Bool
  | _, .nil, [] => true
  | sc, .cons a as, e :: es => chk T L N sc a e && chks T L N sc as es
  | _, _, _ => false
/-- arguments, then keywords -/
def chkK (T : Tab) (L : Nat) (N : List Str) : Scope → CEs → List Expr → List Keyword → List Str → Bool
  | _, .nil, [], [], [] => true
  | sc, .cons a as, e :: es, kws, ks => chk T L N sc a e && chkK T L N sc as es kws ks
  | sc, .cons a as, [], ⟨n, e, _⟩ :: kws, k :: ks => decide (n = some k) && chk T L N sc a e && chkK T L N sc as [] kws ks
  | _, _, _, _, _ => false
def chkI (T : Tab) (L : Nat) (N : List Str) : Scope → CI → Expr → Expr → Bool
  | sc, .rng1 a, _, .Call (.Name x _) [e] [] _ => strIs x "range" && glo sc x && chk T L N sc a e && noStars [e]
  | sc, .rng2 a b, _, .Call (.Name x _) [e, f] [] _ => strIs x "range" && glo sc x && chk T L N sc a e && chk T L N sc b f && noStars [e, f]
  | sc, .enum a, tg, .Call (.Name x _) [e] [] _ => isTup tg && strIs x "enumerate" && glo sc x && chk T L N sc a e && noStars [e]
  | sc, .items a, tg, .Call (.Attribute eo x ap) [] [] cp => isTup tg && strIs x "items" && chk T L N sc a eo && baseOk eo && (ap.endLine == cp.line)
  | sc, .val a, _, e => chk T L N sc a e
  | _, _, _, _ => false
end
end Bo

set_option Elab.async false
set_option linter.all false
set_option maxRecDepth 100000
set_option maxHeartbeats 4000000
/-! Bo, part 5: defs, and the pieces of the expressions' theorem. -/
namespace Bo
open PySem PySem.Spec L2

/-! ### defs -/
structure RoomG (k : Nat) (A : Around) : Prop where
  rm : Room k A
  gd : A.guards = some []
theorem RoomG.mono {j k : Nat} {A : Around} (r : RoomG k A) (h : j ≤ k) : RoomG j A := ⟨r.rm.mono h, r.gd⟩
theorem RoomG.deeper {k : Nat} {A : Around} (r : RoomG (k + 1) A) (env : Env) : RoomG k (A.deeper env) := ⟨r.rm.deeper env, r.gd⟩
/-- what a def keeps, called where no display is being written -/
structure FnG (P : Program) (w : World) (K : PySem.W.Frag) (mg : Str → Option Value) (base : Heap) (k : Nat) (f : Addr) (fd : FuncData) (ps : List Str) (sp : Sp) : Prop where
  len : ∀ vs H Q E, sp vs H Q E → vs.length = ps.length
  run : ∀ (A : Around) (outer : List Env) (s : Shared) (H : Hp) (args : Args) (us : List Value) (vs : List V) (Q : VK) (E : XK), RoomG k A → Env0 P w K mg base A outer s H →
    BindsTo s fd args (ps.zip us) → Vals vs us → sp vs H Q E → codeAny (model P w) A (.call (.ref f) args) (CR CX0 outer P w H s Q E) s
/-- a plain function as a promise -/
def spD (K : KW) (F : List D → Store → Option (D × Store)) : Sp := fun vs H Q _ =>
  ∃ ρ st ds r st', SR K ρ st H ∧ RDs K ρ H ds vs ∧ F ds st = some (r, st') ∧ Post K ρ H r st' Q
/-- a def that stands at a global name: it can be called with arguments of this form -/
structure Stands (X : Cx) (f : Fn) : Prop where
  at_ : ∃ (a : Addr) (fd : FuncData) (ps : List Str) (lv : Nat) (G : List D → Store → Option (D × Store)) (g : List Value → List Value → List Value) (gV : List V → List V → List V) (gD : List D → List D → List D) (n : Nat),
    X.mg f.name = some (.ref a) ∧ PySem.W.keepIn X.K (.ref a) = true ∧ FnG X.prog X.w X.K X.mg X.base lv a fd ps (spD X.kw G) ∧ RoomG lv X.A ∧
    (∀ (ds : List D) (st : Store) r, f.F ds st = some r → ds.length = n) ∧
    (∀ (s : Shared) (us ws : List Value), X.K.In s.heap → ws.length = f.ks.length → us.length + ws.length = n → BindsTo s fd ⟨us, f.ks.zip ws⟩ (ps.zip (g us ws))) ∧
    (∀ {vs zs : List V} {us ws : List Value}, Vals vs us → Vals zs ws → Vals (gV vs zs) (g us ws)) ∧
    (∀ {ρ : Rg} {H : Hp} {ds es : List D} {vs zs : List V}, RDs X.kw ρ H ds vs → RDs X.kw ρ H es zs → RDs X.kw ρ H (gD ds es) (gV vs zs)) ∧
    (∀ (ds es : List D) (st : Store), es.length = f.ks.length → ∀ r, f.F (ds ++ es) st = some r → G (gD ds es) st = some r)

def bnames : List Str := ["len", "abs", "max", "min", "int", "tuple", "list", "repr", "range", "enumerate", "zip", "isinstance", "str", "bool", "dict", "sum", "sorted", "set", "all", "any", "super", "ValueError"]
structure Good (T : Tab) (L : Nat) (X : Cx) : Prop where
  nd : X.N.Nodup
  calm : X.calm = true
  xe : X.xe = fun _ _ => False
  gd : X.A.guards = some []
  un : X.A.units + 200 < cLine
  fns : ∀ (k : Nat) f, k < L → T.fns[k]? = some f → Stands X f
  gls : ∀ (k : Nat) x d, T.gls[k]? = some (x, d) → ∃ u v, X.mg x = some u ∧ RelV v u ∧ ∀ ρ H, RD X.kw ρ H d v
  bi : ∀ x ∈ bnames, X.mg x = none
theorem Good.blk {T : Tab} {L : Nat} {X : Cx} (g : Good T L X) (s : Shared) (H : Hp) (scope : Scope) (cenv : Env) (fp : List Addr) : Good T L (X.blk s H scope cenv fp) :=
  ⟨g.nd, g.calm, rfl, g.gd, g.un, fun k f hk e => ⟨(g.fns k f hk e).at_⟩, g.gls, g.bi⟩

section
variable {X : Cx} {T : Tab}
/-- the callee runs -/
theorem run_st {f : Fn} (h : Stands X f) {a : Addr} (ha : X.mg f.name = some (.ref a)) {pins : List (Addr × Obj)} {σ : L2.St} {H : Hp} {s : Shared} {Q : VK} {us ws : List Value} {vs zs : List V} (I : Inv X pins σ H s) (r : Vals vs us) (rz : Vals zs ws)
    (hz : ws.length = f.ks.length) {ρ : Rg} {st : Store} {ds es : List D} {d : D} {st' : Store} (S : SR X.kw ρ st H) (rd : RDs X.kw ρ H ds vs) (re : RDs X.kw ρ H es zs) (hF : f.F (ds ++ es) st = some (d, st')) (q : Post X.kw ρ H d st' Q) :
    wpAny (model X.prog X.w) X.A (PySem.call (.ref a) us (f.ks.zip ws)) (EP X pins σ Q) X.xe s := by
  obtain ⟨a', fd, ps, lv, G, g, gV, gD, n, hm, hk, FG, hr, hn, hb, h1, h2, h3⟩ := h.at_
  rw [ha] at hm; cases hm
  have hes : es.length = f.ks.length := by rw [← re.length, rz.length, hz]
  have sp : spD X.kw G (gV vs zs) H Q (fun _ _ _ => False) := ⟨ρ, st, gD ds es, d, st', S, h2 rd re, h3 ds es st hes _ hF, q⟩
  have r2 := h1 r rz
  have hl : us.length + ws.length = n := by
    have := hn _ _ _ hF
    rw [List.length_append] at this
    rw [← r.length, ← rz.length, rd.length, re.length]
    exact this
  refine wpAny_call (codeAny_mono (FG.run X.A X.stack s H ⟨us, f.ks.zip ws⟩ (g us ws) (gV vs zs) Q _ hr I.env0 (hb s us ws I.kIn hz hl) r2 sp) fun r s' hq => ?_)
  cases r with
  | error e => exact False.elim hq
  | ok fl =>
    cases fl with
    | ret u => exact I.after hq
    | next => exact False.elim hq
    | brk => exact False.elim hq
    | cont => exact False.elim hq

/-! ### expressions -/
variable {a b c e : Expr} {es : List Expr} {f g h : Ev} {pos : Pos}
theorem pd_var {i : Nat} {x : Str} (hN : X.N[i]? = some x) (hv : Vis X.env.scope x) (hx : okN x = true) : PE X (.Name x pos) (tD X.kw (ev T (.var i))) :=
  PE.imp (pe_var hN hv (okN_ok hx).1 (okN_ok hx).2) fun σ H Q ⟨ρ, st, env, r, st', S, E, e, k⟩ => by
    unfold ev at e
    split at e
    · rename_i d q
      cases e
      obtain ⟨v, h1, h2⟩ := E.at_ i _ q
      exact ⟨v, h1, k ρ v H .refl S h2⟩
    · cases e
theorem pd_c {v : V} {d : D} (hp : PE X e (tC v)) (hr : ∀ ρ H, RD X.kw ρ H d v) (hf : ∀ env st, f env st = some (d, st)) : PE X e (tD X.kw f) :=
  PE.imp hp fun σ H Q ⟨ρ, st, env, r, st', S, E, e, k⟩ => by
    rw [hf] at e; cases e
    exact k ρ v H .refl S (hr ρ H)
theorem pd_un {op : UnaryOp} (h : PE X a (tD X.kw f)) {g : Int → Int} (ho : UnR X (unaryOp op) (rU fun i => .int (g i))) (hf : ∀ env st r st', ff env st = some (r, st') → ∃ i st1, f env st = some (.int i, st1) ∧ r = .int (g i) ∧ st' = st1) :
    PE X (.UnaryOp op a pos) (tD X.kw ff) :=
  PE.imp (pe_un ho h) fun σ H Q ⟨ρ, st, env, r, st', S, E, e, k⟩ => by
    obtain ⟨i, st1, h1, rfl, rfl⟩ := hf env st r st' e
    exact ⟨ρ, st, env, _, _, S, E, h1, fun ρ1 v H1 T1 S1 R1 => by cases R1; exact ⟨i, rfl, k ρ1 _ H1 T1 S1 rfl⟩⟩
theorem pd_bin {op : BOp} (ha : PE X a (tD X.kw (ev T x))) (hb : PE X b (tD X.kw (ev T y))) : PE X (.BinOp a op.of b pos) (tD X.kw (ev T (.bin op x y))) :=
  PE.imp (pe_op (bin_ok op) ha hb) fun σ H Q ⟨ρ, st, env, r, st', S, E, e, k⟩ => by
    unfold ev at e
    split at e
    · rename_i u st1 h1
      split at e
      · rename_i w st2 h2
        exact ⟨ρ, st, env, _, _, S, E, h1, fun ρ1 v1 H1 T1 S1 R1 => ⟨ρ1, st1, env, _, _, S1, E.mono T1, h2, fun ρ2 v2 H2 T2 S2 R2 =>
          ⟨ρ2, st2, u, w, r, st', S2, RD.mono T2 _ _ R1, R2, e, fun ρ3 v H3 T3 => k ρ3 v H3 ((T1.trans T2).trans T3)⟩⟩⟩
      · cases e
    · cases e
theorem pd_cmp (hu : X.A.units + 64 < cLine) {op : COp} (ha : PE X a (tD X.kw (ev T x))) (hb : PE X b (tD X.kw (ev T y))) (hs : noSet b = true) : PE X (.Compare a [op.of] [b] pos) (tD X.kw (ev T (.cmp op x y))) :=
  PE.imp (pe_cmpR (cmp_ok hu op) ha hb (marks_no hs)) fun σ H Q ⟨ρ, st, env, r, st', S, E, e, k⟩ => by
    unfold ev at e
    split at e
    · rename_i u st1 h1
      split at e
      · rename_i w st2 h2
        split at e
        · rename_i d h3
          cases e
          exact ⟨ρ, st, env, _, _, S, E, h1, fun ρ1 v1 H1 T1 S1 R1 => ⟨ρ1, st1, env, _, _, S1, E.mono T1, h2, fun ρ2 v2 H2 T2 S2 R2 =>
            ⟨ρ2, _, u, w, d, S2, RD.mono T2 _ _ R1, R2, h3, k ρ2 _ H2 (T1.trans T2) S2 rfl⟩⟩⟩
        · cases e
      · cases e
    · cases e
theorem pd_chn (hu : X.A.units + 64 < cLine) {o1 o2 : COp} (ha : PE X a (tD X.kw (ev T x))) (hb : PE X b (tD X.kw (ev T y))) (hc : PE X c (tD X.kw (ev T z))) (hs : noSet c = true) :
    PE X (.Compare a [o1.of, o2.of] [b, c] pos) (tD X.kw (ev T (.chn o1 o2 x y z))) :=
  PE.imp (pe_chain (cmp_ok hu o1) (cmp_ok hu o2) ha hb hc (show behindInMarks _ c = false from marks_no hs)) fun σ H Q ⟨ρ, st, env, r, st', S, E, e, k⟩ => by
    unfold ev at e
    split at e
    · rename_i u st1 h1
      split at e
      · rename_i w st2 h2
        split at e
        · rename_i h3
          cases e
          exact ⟨ρ, st, env, _, _, S, E, h1, fun ρ1 v1 H1 T1 S1 R1 => ⟨ρ1, st1, env, _, _, S1, E.mono T1, h2, fun ρ2 v2 H2 T2 S2 R2 =>
            ⟨ρ2, _, u, w, _, S2, RD.mono T2 _ _ R1, R2, h3, _, rfl, k ρ2 _ H2 (T1.trans T2) S2 rfl⟩⟩⟩
        · rename_i h3
          split at e
          · rename_i z' st3 h4
            split at e
            · rename_i d h5
              cases e
              exact ⟨ρ, st, env, _, _, S, E, h1, fun ρ1 v1 H1 T1 S1 R1 => ⟨ρ1, st1, env, _, _, S1, E.mono T1, h2, fun ρ2 v2 H2 T2 S2 R2 =>
                ⟨ρ2, _, u, w, _, S2, RD.mono T2 _ _ R1, R2, h3, _, rfl, iteT ⟨ρ2, _, env, _, _, S2, (E.mono T1).mono T2, h4, fun ρ3 v3 H3 T3 S3 R3 =>
                  ⟨ρ3, _, w, z', d, S3, RD.mono T3 _ _ R2, R3, h5, k ρ3 _ H3 ((T1.trans T2).trans T3) S3 rfl⟩⟩⟩⟩⟩
            · cases e
          · cases e
        · cases e
      · cases e
    · cases e

/-! ### tests -/
noncomputable def evT (T : Tab) (x : CE) : EvT := fun env st => match ev T x env st with
  | some (d, st1) => match truD st1 d with
    | some k => some (k, st1)
    | none => none
  | none => none
theorem evT_some {x : CE} {env : Envr} {st : Store} {r : Bool} {st' : Store} (e : evT T x env st = some (r, st')) : ∃ d, ev T x env st = some (d, st') ∧ truD st' d = some r := by
  unfold evT at e
  split at e
  · rename_i d st1 h
    split at e
    · rename_i k h2
      cases e
      exact ⟨d, h, h2⟩
    · cases e
  · cases e
/-- a test by its value's truth -/
theorem td_plain (ha : PE X a (tD X.kw (ev T x))) (he : ∀ whole, isTrue a X.env whole = (do let v ← whole; standAt a.pos; holding [v] (truthy v))) : PT X a (tDT X.kw (evT T x)) :=
  PT.imp (pt_truth ha he) fun σ H Q ⟨ρ, st, env, r, st', S, E, e, k⟩ => by
    obtain ⟨d, h1, h2⟩ := evT_some e
    exact ⟨ρ, st, env, _, _, S, E, h1, fun ρ1 v1 H1 T1 S1 R1 => ⟨r, tru_of S1 R1 h2, k ρ1 H1 T1 S1⟩⟩
theorem td_not (ha : PT X a (tDT X.kw (evT T x))) : PT X (.UnaryOp .Not a pos) (tDT X.kw (evT T (.nt x))) :=
  PT.imp (pt_not ha) fun σ H Q ⟨ρ, st, env, r, st', S, E, e, k⟩ => by
    obtain ⟨d, h1, h2⟩ := evT_some e
    unfold ev at h1
    split at h1
    · rename_i y st1 q1
      split at h1
      · rename_i j q2
        have e2 : evT T x env st = some (j, st1) := by unfold evT; rw [q1]; simp [q2]
        cases h1
        cases h2
        exact ⟨ρ, st, env, _, _, S, E, e2, fun ρ1 H1 T1 S1 => k ρ1 H1 T1 S1⟩
      · cases h1
    · cases h1
theorem evT_and {x y : CE} {env : Envr} {st : Store} {r : Bool} {st' : Store} (e : evT T (.and x y) env st = some (r, st')) :
    (evT T x env st = some (false, st') ∧ r = false) ∨ ∃ st1, evT T x env st = some (true, st1) ∧ evT T y env st1 = some (r, st') := by
  obtain ⟨d, h1, h2⟩ := evT_some e
  unfold ev at h1
  split at h1
  · rename_i u st1 q1
    split at h1
    · rename_i q2
      exact .inr ⟨st1, by unfold evT; rw [q1]; simp [q2], by unfold evT; rw [h1]; simp [h2]⟩
    · rename_i q2
      cases h1
      rw [q2] at h2; cases h2
      exact .inl ⟨by unfold evT; rw [q1]; simp [q2], rfl⟩
    · cases h1
  · cases h1
theorem evT_or {x y : CE} {env : Envr} {st : Store} {r : Bool} {st' : Store} (e : evT T (.or x y) env st = some (r, st')) :
    (evT T x env st = some (true, st') ∧ r = true) ∨ ∃ st1, evT T x env st = some (false, st1) ∧ evT T y env st1 = some (r, st') := by
  obtain ⟨d, h1, h2⟩ := evT_some e
  unfold ev at h1
  split at h1
  · rename_i u st1 q1
    split at h1
    · rename_i q2
      cases h1
      rw [q2] at h2; cases h2
      exact .inl ⟨by unfold evT; rw [q1]; simp [q2], rfl⟩
    · rename_i q2
      exact .inr ⟨st1, by unfold evT; rw [q1]; simp [q2], by unfold evT; rw [h1]; simp [h2]⟩
    · cases h1
  · cases h1
theorem wd_and {y : CE} (ha : PT X a (tDT X.kw (evT T x))) (hb : PW X (.BoolOp .And (b :: es) pos) (tDT X.kw (evT T y))) : PW X (.BoolOp .And (a :: b :: es) pos) (tDT X.kw (evT T (.and x y))) :=
  PW.imp (pw_and ha hb) fun σ H Q ⟨ρ, st, env, r, st', S, E, e, k⟩ => by
    rcases evT_and e with ⟨h1, rfl⟩ | ⟨st1, h1, h2⟩
    · exact ⟨ρ, st, env, _, _, S, E, h1, fun ρ1 H1 T1 S1 => iteF (k ρ1 H1 T1 S1)⟩
    · exact ⟨ρ, st, env, _, _, S, E, h1, fun ρ1 H1 T1 S1 => iteT ⟨ρ1, st1, env, _, _, S1, E.mono T1, h2, fun ρ2 H2 T2 S2 => k ρ2 H2 (T1.trans T2) S2⟩⟩
theorem wd_or {y : CE} (ha : PT X a (tDT X.kw (evT T x))) (hb : PW X (.BoolOp .Or (b :: es) pos) (tDT X.kw (evT T y))) : PW X (.BoolOp .Or (a :: b :: es) pos) (tDT X.kw (evT T (.or x y))) :=
  PW.imp (pw_or ha hb) fun σ H Q ⟨ρ, st, env, r, st', S, E, e, k⟩ => by
    rcases evT_or e with ⟨h1, rfl⟩ | ⟨st1, h1, h2⟩
    · exact ⟨ρ, st, env, _, _, S, E, h1, fun ρ1 H1 T1 S1 => iteT (k ρ1 H1 T1 S1)⟩
    · exact ⟨ρ, st, env, _, _, S, E, h1, fun ρ1 H1 T1 S1 => iteF ⟨ρ1, st1, env, _, _, S1, E.mono T1, h2, fun ρ2 H2 T2 S2 => k ρ2 H2 (T1.trans T2) S2⟩⟩
theorem td_cmp (hu : X.A.units + 64 < cLine) {op : COp} (ha : PE X a (tD X.kw (ev T x))) (hb : PE X b (tD X.kw (ev T y))) (hs : noSet b = true) : PT X (.Compare a [op.of] [b] pos) (tDT X.kw (evT T (.cmp op x y))) :=
  PT.imp (pt_cmpR (cmp_ok hu op) ha hb (marks_no hs)) fun σ H Q ⟨ρ, st, env, r, st', S, E, e, k⟩ => by
    obtain ⟨d, e, h0⟩ := evT_some e
    unfold ev at e
    split at e
    · rename_i u st1 h1
      split at e
      · rename_i w st2 h2
        split at e
        · rename_i d h3
          cases e
          cases h0
          exact ⟨ρ, st, env, _, _, S, E, h1, fun ρ1 v1 H1 T1 S1 R1 => ⟨ρ1, st1, env, _, _, S1, E.mono T1, h2, fun ρ2 v2 H2 T2 S2 R2 =>
            ⟨ρ2, _, u, w, _, S2, RD.mono T2 _ _ R1, R2, h3, _, rfl, k ρ2 H2 (T1.trans T2) S2⟩⟩⟩
        · cases e
      · cases e
    · cases e
theorem td_chn (hu : X.A.units + 64 < cLine) {o1 o2 : COp} (ha : PE X a (tD X.kw (ev T x))) (hb : PE X b (tD X.kw (ev T y))) (hc : PE X c (tD X.kw (ev T z))) (hs : noSet c = true) :
    PT X (.Compare a [o1.of, o2.of] [b, c] pos) (tDT X.kw (evT T (.chn o1 o2 x y z))) :=
  PT.imp (pt_chain (cmp_ok hu o1) (cmp_ok hu o2) ha hb hc (show behindInMarks _ c = false from marks_no hs)) fun σ H Q ⟨ρ, st, env, r, st', S, E, e, k⟩ => by
    obtain ⟨d, e, h0⟩ := evT_some e
    unfold ev at e
    split at e
    · rename_i u st1 h1
      split at e
      · rename_i w st2 h2
        split at e
        · rename_i h3
          cases e
          cases h0
          exact ⟨ρ, st, env, _, _, S, E, h1, fun ρ1 v1 H1 T1 S1 R1 => ⟨ρ1, st1, env, _, _, S1, E.mono T1, h2, fun ρ2 v2 H2 T2 S2 R2 =>
            ⟨ρ2, _, u, w, _, S2, RD.mono T2 _ _ R1, R2, h3, _, rfl, _, rfl, k ρ2 H2 (T1.trans T2) S2⟩⟩⟩
        · rename_i h3
          split at e
          · rename_i z' st3 h4
            split at e
            · rename_i d h5
              cases e
              cases h0
              exact ⟨ρ, st, env, _, _, S, E, h1, fun ρ1 v1 H1 T1 S1 R1 => ⟨ρ1, st1, env, _, _, S1, E.mono T1, h2, fun ρ2 v2 H2 T2 S2 R2 =>
                ⟨ρ2, _, u, w, _, S2, RD.mono T2 _ _ R1, R2, h3, _, rfl, iteT ⟨ρ2, _, env, _, _, S2, (E.mono T1).mono T2, h4, fun ρ3 v3 H3 T3 S3 R3 =>
                  ⟨ρ3, _, w, z', _, S3, RD.mono T3 _ _ R2, R3, h5, _, rfl, k ρ3 H3 ((T1.trans T2).trans T3) S3⟩⟩⟩⟩⟩
            · cases e
          · cases e
        · cases e
      · cases e
    · cases e
end
end Bo

set_option Elab.async false
set_option linter.all false
set_option maxRecDepth 100000
set_option maxHeartbeats 4000000
/-! Bo, part 6: enumerate of a tuple; what is walked. -/
namespace Bo
open PySem PySem.Spec L2

/-! ### enumerate(t) -/
theorem enumB1 {v : Value} {o : Obj} {HP : Heap → Prop} (B : Begins v o HP) :
    Meets (Builtin.«enumerate.__new__» ⟨[.type "enumerate", v], []⟩)
      (fun _ R s => HP s.heap ∧ R (.ok (.ret (.ref (s.heap.push o).objs.size)))
        { s with heap := (s.heap.push o).push { cls := .type "enumerate", data := .fields #[.none, .bool false, .ref s.heap.objs.size, rawInt 0, .none, .none] } }) :=
  .of_wp fun prog w A R s h => by
    obtain ⟨hp, g, d, tk, os⟩ := s
    obtain ⟨h1, h⟩ := h
    have hsub := sub_enumerate
    have begin_ : ∀ {A' : Around} {E Q : Value → Shared → Prop},
        Q (.ref hp.objs.size) ⟨hp.push o, g, d, tk, os⟩ →
        wpAny (model prog w) A' (pyIter v) Q E ⟨hp, g, d, tk, os⟩ :=
      fun q => B.iter prog w _ _ ⟨hp, g, d, tk, os⟩ _ h1 q
    wp_walk using begin_
    refine wpAny_stack_any fun st => wpAny_pure ?_
    split
    · rename_i c _ _ _ _ _
      cases (c == Value.type "enumerate") <;> (wp_walk using begin_; exact ⟨_, rfl, h⟩)
    · wp_walk using begin_; exact ⟨_, rfl, h⟩
theorem enum_call {prog : Program} {w : World} {A : Around} {E Q : Value → Shared → Prop} {s : Shared} {v : Value} {o : Obj} {HP : Heap → Prop}
    (B : Begins v o HP) (h1 : HP s.heap)
    (h : ∀ h', IsEnum h' (s.heap.objs.size + 1) s.heap.objs.size 0 .none → h'.get? s.heap.objs.size = some o →
      (∀ b u, s.heap.get? b = some u → h'.get? b = some u) → Q (.ref (s.heap.objs.size + 1)) { s with heap := h' }) :
    wpAny (model prog w) A (call (.type "enumerate") [v]) Q E s := by
  refine callType_new F.called_enumerate (by decide) (F.typeCall_enumerate_1 _) (F.newCall_enumerate_1 _)
    (fun obj => F.args_object_init_2 obj _) F.entry_enumerate_new (enumB1 B) ⟨h1, ?_⟩
  have hz : (s.heap.push o).objs.size = s.heap.objs.size + 1 := Heap.size_push ..
  show _ ∧ _
  rw [hz]
  have he := Heap.get?_push_size (s.heap.push o)
    (o := { cls := .type "enumerate", data := .fields #[.none, .bool false, .ref s.heap.objs.size, rawInt 0, .none, .none] }) rfl
  rw [hz] at he
  exact ⟨⟨_, he, rfl⟩, h _ he (Heap.get?_push_of_some _ (Heap.get?_push_size _ B.free))
    fun b u x => Heap.get?_push_of_some _ (Heap.get?_push_of_some _ x)⟩
/-- the tuple at a, each item in a new pair -/
def IteT (K : PySem.W.Frag) (a : Addr) : It where
  go i H := ∃ (xs : List V) (x : V), SqT K H a xs ∧ xs[i]? = some x
  yld i H v H' := ∃ t x, v = .ref t ∧ H t = none ∧ H' = upd H t (.tup [.int (i : Nat), x]) ∧ ∀ xs, SqT K H a xs → xs[i]? = some x
  stop i H := ∃ xs : List V, SqT K H a xs ∧ xs.length = i
theorem enumT_turn {P : Program} {w : World} {K : PySem.W.Frag} {elts : List Expr} {kk : Nat} {tpos : Pos} (a e it : Addr) :
    Turn P w K (.Tuple elts kk tpos) (IteT K a) [e, it] e
      (fun i h => (∃ old, IsEnum h e it ((i : Nat) : Int) old) ∧ h.IsTupleIter it a i ∧ e ≠ it) where
  mem := List.mem_cons_self
  obj := fun i h st b hb => by
    obtain ⟨⟨old, he⟩, ⟨o, ho, hc, hd⟩, _⟩ := st
    have e' : b = e ∨ b = it := by simpa using hb
    rcases e' with rfl | rfl
    · exact ⟨_, he, fun v q => nomatch q⟩
    · exact ⟨o, ho, fun v q => by rw [hd] at q; cases q⟩
  keep := fun i h h' st k => by
    obtain ⟨⟨old, he⟩, hi, hne⟩ := st
    exact ⟨⟨old, k e (by simp) _ he⟩, hi.at fun o q => k it (by simp) o q, hne⟩
  item := by
    intro X hP hw hK hc i pins s σ H E I hf st hg
    subst hP hw hK
    obtain ⟨⟨old, he⟩, hit, hne⟩ := st
    obtain ⟨xs, x, hq, hx⟩ := hg
    obtain ⟨its, rv, p, hz⟩ := I.tuple hq
    obtain ⟨u, hu, ru⟩ := rv.get hx
    have hel : e < s.heap.objs.size := Heap.lt_size he
    have hil : it < s.heap.objs.size := by obtain ⟨_, q, _⟩ := hit; exact Heap.lt_size q
    have hta : a ≠ it := fun z => by
      subst z
      obtain ⟨o, q, qc, _⟩ := hit
      obtain ⟨o', q', qc', _⟩ := p
      rw [q] at q'; cases q'
      exact absurd (Value.type.inj (qc.symm.trans qc')) (by decide)
    have hea : e ≠ a := fun z => by
      subst z
      obtain ⟨o', q', qc', _⟩ := p
      rw [show s.heap.get? e = some _ from he] at q'; cases q'
      exact absurd (Value.type.inj qc') (by decide)
    have hlen : i < its.toArray.size := by
      rw [List.size_toArray, ← rv.length]
      exact (List.getElem?_eq_some_iff.mp hx).1
    refine wpAny_pyNext_enum_itemC (Draws.tuple (show X.A.in1.handled = none from I.ok.hd hc) it a hta its.toArray) he ⟨hit, p⟩ hlen hne
      (by simp [hne, hea]) fun x' h' tk hx' ho hst hT hsz hk => ?_
    have ex : x' = u := by
      have hx' : its.toArray[i]? = some x' := hx'
      simp at hx'
      rw [hu] at hx'
      exact (Option.some.inj hx').symm
    subst ex
    refine ⟨_, rfl, wpAny_letOwnedTupleGo_enum (s := { s with heap := h', toks := tk + 1 }) ho fun h'' he' sb => ?_⟩
    have hT2 : h''.get? s.heap.objs.size = some { cls := .type "tuple", data := .seq #[.int i tk, x'] } :=
      (sb.2 _ (Nat.ne_of_gt hel)).trans hT
    have new : ObjOk X.prog X.w (upd H s.heap.objs.size (.tup [.int (i : Nat), x])) h'' s.heap.objs.size (.tup [.int (i : Nat), x]) :=
      ⟨(by decide : 2 ≤ sizeLine), [.int i tk, x'], .cons ⟨_, rfl⟩ (.cons ru .nil), ⟨_, hT2, rfl, _, rfl⟩⟩
    have I1 : Inv X pins σ (upd H s.heap.objs.size (.tup [.int (i : Nat), x])) { s with heap := h'', toks := tk + 1 } := by
      refine I.turnedNew (ch := [e, it]) (fun b ob hb q => ?_) hf (Nat.le_refl _) new
      have b1 : b ≠ e := fun z => hb (by simp [z])
      have b2 : b ≠ it := fun z => hb (by simp [z])
      exact (sb.2 b b1).trans (hk b ob b1 b2 q)
    refine ⟨.ref s.heap.objs.size, _, I1, rfl,
      ⟨_, x, rfl, I.hok.fresh (Nat.le_refl _), rfl, fun ys hy => by rw [I.tuple_inj hy hq]; exact hx⟩,
      ⟨⟨x', ?_⟩, hst.1.at fun o q => (sb.2 it (Ne.symm hne)).trans q, hne⟩, fun b hb => ?_⟩
    · have e1 : ((i + 1 : Nat) : Int) = (i : Int) + 1 := by omega
      rw [e1]; exact he'
    · have e' : b = e ∨ b = it := by simpa using hb
      have hb' : b < s.heap.objs.size := by rcases e' with rfl | rfl <;> assumption
      rw [upd_ne (Nat.ne_of_lt hb')]
      exact (hf b hb).1
  done := by
    intro X hP hw hK hc i pins s σ H E I hf st hg
    subst hP hw hK
    obtain ⟨⟨old, he⟩, hit, hne⟩ := st
    obtain ⟨xs, hq, hx⟩ := hg
    obtain ⟨its, rv, p, hz⟩ := I.tuple hq
    obtain ⟨f0, f1, f2, f3, f4, f5⟩ := hf it (by simp)
    have hta : a ≠ it := fun z => by
      subst z
      obtain ⟨o, q, qc, _⟩ := hit
      obtain ⟨o', q', qc', _⟩ := p
      rw [q] at q'; cases q'
      exact absurd (Value.type.inj (qc.symm.trans qc')) (by decide)
    have hi : its.toArray.size = i := by rw [List.size_toArray, ← rv.length]; exact hx
    subst hi
    exact wpAny_pyNext_enum_endD (Draws.tuple (show X.A.in1.handled = none from I.ok.hd hc) it a hta its.toArray) he ⟨hit, p⟩
      fun h' eb => ⟨rfl, I.turned (t' := s.toks) (fun b o hb q => eb b o hb q) f0 f1 f3 f4 f5⟩
  self := fun A i s Q E st h => by
    obtain ⟨⟨_, he⟩, _⟩ := st
    exact wpAny_pyIter_enum he h
end Bo

set_option Elab.async false
set_option linter.all false
set_option maxRecDepth 100000
set_option maxHeartbeats 4000000
/-! Bo, part 6b: built-ins over tuples, dicts and sets. -/
namespace Bo
open PySem PySem.Spec L2
section
variable {X : Cx} {T : Tab} {a b e : Expr} {pos p : Pos} {x y : CE}
/-! ### max, min of a tuple -/
section
variable {prog : Program} {w : World} {A : Around} {E : Value → Shared → Prop} {s : Shared} {q : Addr} {its : List Value} {ns : List Int} {Q : Value → Shared → Prop}
theorem tup_walk {G : Value → Shared → Prop} (ht : s.heap.IsTuple q its.toArray)
    (h : ∀ s2 : Shared, s2 = { s with heap := s.heap.push { cls := .type "tuple_iterator", data := .fields #[.ref q, .int 0 0] } } → (s2.heap.IsTupleIter s.heap.objs.size q 0 ∧ s2.heap.IsTuple q its.toArray) →
      (∀ b ∈ [s.heap.objs.size, q], b < s2.heap.objs.size) → q ≠ s.heap.objs.size → G (.ref s.heap.objs.size) s2) : wpAny (model prog w) A (pyIter (.ref q)) G E s := by
  have lt : q < s.heap.objs.size := let ⟨_, e, _⟩ := ht; Heap.lt_size e
  refine wpAny_pyIter_tuple ht (h _ rfl ⟨⟨_, Heap.get?_push_size _ rfl, rfl, rfl⟩, ht.push _⟩ (fun b hb => ?_) (Nat.ne_of_lt lt))
  show b < (s.heap.push _).objs.size
  rw [Heap.size_push]
  rcases List.mem_cons.mp hb with rfl | hb
  · exact Nat.lt_succ_self _
  · rw [List.mem_singleton.mp hb]
    exact Nat.lt_succ_of_lt lt
theorem tup_old {h' : Heap} (hk : ∀ b o, b ∉ [s.heap.objs.size] → (s.heap.push { cls := .type "tuple_iterator", data := .fields #[.ref q, .int 0 0] }).get? b = some o → h'.get? b = some o) (b : Addr) (o : Obj) (e : s.heap.get? b = some o) : h'.get? b = some o := by
  refine hk b o (fun m => ?_) (Heap.get?_push_of_some _ e)
  have z := Heap.lt_size e
  rw [List.mem_singleton.mp m] at z
  exact Nat.lt_irrefl _ z
theorem max_tup (hh : A.handled = none) (ht : s.heap.IsTuple q its.toArray) (hi : PyProof.Rows.IntsAre its ns) (ne : ns ≠ [])
    (k : ∀ h' tk t', (∀ b o, s.heap.get? b = some o → h'.get? b = some o) → Q (.int (maxI ns) t') { s with heap := h', toks := tk }) : wpAny (model prog w) A (call (.builtin "max") [.ref q]) Q E s := by
  obtain ⟨xs, e⟩ := hi.allInts.items
  have hn : PySem.numsOf (intItems xs).toList = ns := by rw [← e]; exact hi.numsOf
  rw [PySem.nums_intItems] at hn
  rw [e] at ht
  have h0 : 0 < xs.size := by
    have : 0 < ns.length := List.length_pos_iff.mpr ne
    rw [← hn] at this
    simpa using this
  refine call_max_walk (tup_walk (its := (intItems xs).toList) (by simpa using ht) fun s2 e2 st hf ln => ?_)
  subst e2
  refine ⟨_, _, _, _, _, _, _, rfl, Walks.tuple (A := A.in1) hh _ q ln (intItems xs).toList.toArray, st, hf, by simpa [intItems] using h0, CmpOf.ints_gt (numAt xs) (fun i v hv => intItems_at (by simpa using hv)), fun v h' tk hP hk => ?_⟩
  obtain ⟨t, rfl⟩ := intItems_at (xs := xs) (by simpa [intItems] using hP)
  obtain ⟨g1, g2⟩ := PySem.argBest_gt (numAt xs) (xs.size - 1)
  have em : numAt xs (argBest (fun i j => decide (numAt xs i > numAt xs j)) (xs.size - 1)) = maxI ns := by
    refine maxI_eq ?_ fun y hy => ?_
    · rw [← hn, PySem.numAt_eq]
      exact PySem.getD_mem (by rw [List.length_map, Array.length_toList]; omega)
    · rw [← hn] at hy
      obtain ⟨j, hj, rfl⟩ := PySem.mem_getD hy
      rw [List.length_map, Array.length_toList] at hj
      rw [← PySem.numAt_eq]
      exact g2 j (by omega)
  have ei : (intItems xs).toList.toArray.size - 1 = xs.size - 1 := by simp [intItems]
  have := k h' tk t (tup_old hk)
  rw [← em] at this
  exact this
theorem min_tup (hh : A.handled = none) (ht : s.heap.IsTuple q its.toArray) (hi : PyProof.Rows.IntsAre its ns) (ne : ns ≠ [])
    (k : ∀ h' tk t', (∀ b o, s.heap.get? b = some o → h'.get? b = some o) → Q (.int (minI ns) t') { s with heap := h', toks := tk }) : wpAny (model prog w) A (call (.builtin "min") [.ref q]) Q E s := by
  obtain ⟨xs, e⟩ := hi.allInts.items
  have hn : PySem.numsOf (intItems xs).toList = ns := by rw [← e]; exact hi.numsOf
  rw [PySem.nums_intItems] at hn
  rw [e] at ht
  have h0 : 0 < xs.size := by
    have : 0 < ns.length := List.length_pos_iff.mpr ne
    rw [← hn] at this
    simpa using this
  refine call_min_walk (tup_walk (its := (intItems xs).toList) (by simpa using ht) fun s2 e2 st hf ln => ?_)
  subst e2
  refine ⟨_, _, _, _, _, _, _, rfl, Walks.tuple (A := A.in1) hh _ q ln (intItems xs).toList.toArray, st, hf, by simpa [intItems] using h0, CmpOf.ints_lt (numAt xs) (fun i v hv => intItems_at (by simpa using hv)), fun v h' tk hP hk => ?_⟩
  obtain ⟨t, rfl⟩ := intItems_at (xs := xs) (by simpa [intItems] using hP)
  obtain ⟨g1, g2⟩ := PySem.argBest_lt (numAt xs) (xs.size - 1)
  have em : numAt xs (argBest (fun i j => decide (numAt xs i < numAt xs j)) (xs.size - 1)) = minI ns := by
    refine minI_eq ?_ fun y hy => ?_
    · rw [← hn, PySem.numAt_eq]
      exact PySem.getD_mem (by rw [List.length_map, Array.length_toList]; omega)
    · rw [← hn] at hy
      obtain ⟨j, hj, rfl⟩ := PySem.mem_getD hy
      rw [List.length_map, Array.length_toList] at hj
      rw [← PySem.numAt_eq]
      exact g2 j (by omega)
  have := k h' tk t (tup_old hk)
  rw [← em] at this
  exact this
end
def rMxm (K : PySem.W.Frag) (f : List Int → Int) : List V → Hp → VK → Prop := fun vs H Q => ∃ (q : Addr) (ns : List Int), vs = [V.ref q] ∧ (SqL K H q (ns.map V.int) ∨ SqT K H q (ns.map V.int)) ∧ ns ≠ [] ∧ Q (.int (f ns)) H
theorem cr_maxQ (hc : X.calm = true) : CallR X (.builtin "max") (rMxm X.K maxI) := by
  intro pins s σ H vs us Q I r ⟨q, ns, hv, hs, ne, k⟩
  subst hv
  rcases hs with hs | hs
  · exact cr_max hc pins s σ H _ us Q I r ⟨q, ns, rfl, hs, List.length_pos_iff.mpr ne, fun m h1 h2 => by rw [maxI_eq h1 h2]; exact k⟩
  · obtain ⟨its, rv, hl, _⟩ := I.tuple hs
    rw [Vals.ref1 r]
    exact max_tup (I.ok.hd hc) hl rv.ints ne fun h' tk t' hk => ⟨.int _, H, I.kept hk, ⟨_, rfl⟩, k⟩
theorem cr_minQ (hc : X.calm = true) : CallR X (.builtin "min") (rMxm X.K minI) := by
  intro pins s σ H vs us Q I r ⟨q, ns, hv, hs, ne, k⟩
  subst hv
  rcases hs with hs | hs
  · exact cr_min hc pins s σ H _ us Q I r ⟨q, ns, rfl, hs, List.length_pos_iff.mpr ne, fun m h1 h2 => by rw [minI_eq h1 h2]; exact k⟩
  · obtain ⟨its, rv, hl, _⟩ := I.tuple hs
    rw [Vals.ref1 r]
    exact min_tup (I.ok.hd hc) hl rv.ints ne fun h' tk t' hk => ⟨.int _, H, I.kept hk, ⟨_, rfl⟩, k⟩
/-! ### len, sorted of a dict -/
theorem cr_lenK : CallR X (.builtin "len") (fun vs H Q => ∃ (md : Bool) (q : Addr) (xs : Leafs), vs = [V.ref q] ∧ (q == sysModules) = false ∧ xs.length ≤ sizeLine ∧ LfAt X.kw H q md xs ∧ Q (.int xs.length) H) := by
  intro pins s σ H vs us Q I r ⟨md, q, xs, hv, hq, hl, D, k⟩
  subst hv
  rw [Vals.ref1 r]
  exact call_len_dict hq (LfAt.dict I D) (by have := sizeLine_eq; omega) ⟨.int _, H, I.tok _, ⟨_, rfl⟩, k⟩
/-- sorted(d): the keys are ints -/
theorem cr_sortK (hc : X.calm = true) : CallR X (.builtin "sorted") (fun vs H Q => ∃ (q : Addr) (xs : Leafs) (ns : List Int), vs = [V.ref q] ∧ (q == sysModules) = false ∧ LfAt X.kw H q true xs ∧ xs.map (·.1) = ns.map Leaf.num ∧ ns.length < 64 ∧
    ∀ l, H l = none → Q (.ref l) (upd H l (.lst ((sortI ns).map V.int)))) := by
  intro pins s σ H vs us Q I r ⟨q, xs, ns, hv, hq, D, hk, h64, k⟩
  subst hv
  rw [Vals.ref1 r]
  obtain ⟨ep, hat⟩ := (LfAt.dict I D).dictAt
  have hl : xs.length = ns.length := by
    have := congrArg List.length hk
    simpa using this
  have h16 : xs.length ≤ sizeLine := by rw [hl, sizeLine_eq]; omega
  refine Calls.call_function_entry PyProof.Rows.kind_sorted PyProof.Rows.plain_sorted PyProof.Rows.entry_sorted (PyProof.Rows.args_sorted1 _) ?_
  unfold Builtin.«sorted»
  refine wpAny_bind (m := checkCount "sorted" 1 1 _) (wpAny_pure (wpAny_bind (PySem.W.kdu_collect (A := X.A.in1) (PySem.W.kdl_dict (knd := kindM true X.prog X.w) (kvs := xs) (ep := ep) hq) (I.ok.hd hc) hat h16 fun hp tk got hkp hgot => ?_)))
  have ng : got.toList.length = ns.length := by rw [Array.length_toList, hgot.1, hl]
  have allI : PyProof.Rows.IntsAre got.toList ns := ints_each ng fun j u e => by
    obtain ⟨lf, w0, e1, e2⟩ := hgot.2 j u (by rw [← Array.getElem?_toList]; exact e)
    have e3 : (ns.map Leaf.num)[j]? = some lf := by rw [← hk, List.getElem?_map, e1]; rfl
    rw [List.getElem?_map] at e3
    obtain ⟨n, e4, rfl⟩ := Option.map_eq_some_iff.mp e3
    have e5 : isM true (.num n) u = true := e2
    cases u with
    | int m t =>
      have e6 : m = n := by simpa [isM, Leaf.isOf] using e5
      exact ⟨n, t, e4, by rw [e6]⟩
    | bool _ => exact absurd e5 (by simp [isM])
    | _ => exact absurd e5 (by simp [isM, Leaf.isOf])
  have I1 : Inv X pins σ H { s with heap := hp, toks := tk } := I.kept hkp
  refine wpAny_bind (wpAny_newList ?_ (by rw [ng, sizeLine_eq]; omega))
  have here : (hp.push (PyProof.Rows.seqObj "list" got.toList.toArray 0)).get? hp.objs.size = some (PyProof.Rows.seqObj "list" got.toList.toArray 0) := Heap.get?_push_size _ rfl
  show wpAny _ _ _ _ _ { s with heap := hp.push (PyProof.Rows.seqObj "list" got.toList.toArray 0), toks := tk }
  refine wpAny_bind (wpAny_holding (wpAny_call_entry PyProof.Rows.slot_list_sort ⟨_, here, rfl⟩ PyProof.Rows.entry_list_sort
    (PyProof.Rows.list_sort_tree (s := { s with heap := hp.push (PyProof.Rows.seqObj "list" got.toList.toArray 0), toks := tk }) here allI (by rw [ng]; exact h64) fun out ys z1 z2 z3 => ⟨_, rfl, ?_⟩) (PyProof.Rows.args_list_sort _)))
  obtain ⟨od, hod⟩ := PyProof.Rows.sortedHeap_at (vs := got.toList) (out := out) here
  have e7 := sortI_of z2 z3
  subst e7
  have ly : ((sortI ns).map V.int).length ≤ sizeLine := by
    rw [List.length_map, z2.length_eq, sizeLine_eq]
    omega
  refine wpAny_pure ⟨_, rfl, .ref hp.objs.size, _, I1.laid (a := hp.objs.size) (o := .lst ((sortI ns).map V.int)) (t' := tk) (fun b u e => ?_) (Nat.le_refl _)
    (show ObjOk X.prog X.w _ _ _ (.lst ((sortI ns).map V.int)) from ⟨ly, out.toList, od, vals_of_ints z1, by rw [Array.toArray_toList]; exact hod⟩), rfl, k _ (I1.hok.fresh (Nat.le_refl _))⟩
  have lt := Heap.lt_size e
  rw [PyProof.Rows.sortedHeap_old (Nat.ne_of_lt lt) (by rw [Heap.size_push]; exact Nat.lt_succ_of_lt lt)]
  exact Heap.get?_push_of_some _ e
/-! ### len(set(xs)) -/
theorem pe_lset {te : TE} {p2 q : Pos} (hc : X.calm = true) (hg : Gl X "len") (hm : X.mg "len" = none) (hg2 : Gl X "set") (hm2 : X.mg "set" = none) (he : PE X e te) (hs : noStars [e] = true) :
    PE X (.Call (.Name "len" p) [.Call (.Name "set" p2) [e] [] q] [] pos) (fun σ H Q => te σ H fun v H1 => ∃ (l : Addr) (ns : List Int), v = V.ref l ∧ SqL X.K H1 l (ns.map V.int) ∧ ns.length < 4000 ∧ Q (.int (setLen ns : Nat)) H1) := by
  refine ⟨fun pins s σ H Q I h => PyProof.Rows.Call_ (ld_blt I hg hm PySem.boot_len (PyProof.Rows.callWith_builtin1 (PyProof.Rows.args_cons ?_ rfl) rfl rfl))⟩
  refine PyProof.Rows.Call_ (ld_blt I hg2 hm2 PyProof.Rows.boot_set (PyProof.Rows.callWith_type1 (PyProof.Rows.args_cons (thn (he.run pins s σ H _ I h) fun v s1 ⟨x1, H1, I1, r1, l, ns, ex, hq, h4, k⟩ => PyProof.Rows.args_nil ?_) (star_cons hs)) (star_cons hs) rfl))
  subst ex
  cases r1
  obtain ⟨its, r, pl, hz⟩ := I1.list hq
  have hl : its.toArray.size = ns.length := by rw [List.size_toArray, ← r.length, List.length_map]
  refine call_set_list (I1.ok.hd hc) pl.isList (ns := ns) (by simpa using r.ints) (by unfold scanBound; omega) fun hp tk hS hk => ?_
  rw [hl, PySem.W.oss_met ns] at hS
  obtain ⟨o, es, ep, t, ho, hex, hd, _, _, _, hf, hn⟩ := hS
  have I2 : Inv X pins σ H1 { s1 with heap := hp, toks := tk } := I1.kept fun b o e => hk b o (Heap.lt_size e) e
  have hle := PySem.W.oss_len ns
  exact PyProof.Rows.args_nil (call_len_set ho hex hd hf (by rw [hn]; omega) ⟨.int (setLen ns : Nat), H1, I2.tok _, ⟨_, by rw [hn]; rfl⟩, k⟩)
/-! ### from one kind of knowledge of a dict to another -/
def leafK : Key → Leaf
  | .inl i => .num i
  | .inr z => .text z
theorem keyV_leaf {d : D} {k : Key} (h : keyV d = some k) : keyL true d = some (leafK k) := by
  cases d <;> cases h <;> rfl
theorem leafK_is : ∀ (k : Key) (v : Value), keyIs k v = true → isM true (leafK k) v = true
  | .inl i, v, h => by
    rcases keyIs_shape h with ⟨j, t, e, rfl⟩ | ⟨z, t, e, rfl⟩
    · cases e
      simp [leafK, isM, Leaf.isOf]
    · cases e
  | .inr z, v, h => by
    rcases keyIs_shape h with ⟨j, t, e, rfl⟩ | ⟨y, t, e, rfl⟩
    · cases e
    · cases e
      simp [leafK, isM, Leaf.isOf, Value.isStrOf]
theorem leafK_inj : ∀ {a b : Key}, leafK a = leafK b → a = b
  | .inl _, .inl _, h => by cases h; rfl
  | .inl _, .inr _, h => by cases h
  | .inr _, .inl _, h => by cases h
  | .inr _, .inr _, h => by cases h; rfl
theorem dict_lf {P : Program} {w : World} {h : Heap} {q : Addr} {xs : List (Key × Value)} (D : h.DictOf (mixKind P w) q xs) : h.DictOf (kindM true P w) q (xs.map fun z => (leafK z.1, z.2)) := by
  obtain ⟨o, es, ep, h1, h2, h3, h4, h5, h6⟩ := D
  refine ⟨o, es, ep, h1, h2, h3, fun e he => ?_, ?_, ?_⟩
  · obtain ⟨k, hk, hh⟩ := h4 e he
    refine ⟨leafK k, leafK_is k _ hk, hh.trans ?_⟩
    cases k <;> rfl
  · clear h6 h3 h4
    generalize es.toList = l at h5
    induction h5 with
    | nil => exact .nil
    | cons g1 g2 _ ih => exact .cons (leafK_is _ _ g1) g2 ih
  · rw [List.map_map]
    have e : (xs.map ((·.1) ∘ fun z : Key × Value => (leafK z.1, z.2))) = (xs.map (·.1)).map leafK := by rw [List.map_map]; rfl
    rw [e]
    unfold List.Nodup at h6 ⊢
    rw [List.pairwise_map]
    exact h6.imp fun ne z => ne (leafK_inj z)
end
end Bo

set_option Elab.async false
set_option linter.all false
set_option maxRecDepth 100000
set_option maxHeartbeats 4000000
/-! Bo, part 7: arguments, displays, items, calls, what is walked, comprehensions. -/
namespace Bo
open PySem PySem.Spec L2

section
variable {X : Cx} {T : Tab} {L : Nat} {a b c e : Expr} {es : List Expr} {pos p : Pos} {x y z : CE} {xs : CEs}
/-! ### arguments -/
theorem evs_cons {env : Envr} {st : Store} {ds : List D} {st' : Store} (h : evs T (.cons x xs) env st = some (ds, st')) :
    ∃ d st1 r, ev T x env st = some (d, st1) ∧ evs T xs env st1 = some (r, st') ∧ ds = d :: r := by
  unfold evs at h
  split at h
  · rename_i d st1 h1
    split at h
    · rename_i r st2 h2
      cases h
      exact ⟨d, st1, r, h1, h2, rfl⟩
    · cases h
  · cases h
theorem ad_nil : PA X [] (tDA X.kw (evs T .nil)) := PA.imp pa_nil fun σ H Q ⟨ρ, st, env, r, st', S, E, e, k⟩ => by
  unfold evs at e
  cases e
  exact k ρ [] H .refl S rfl
theorem ad_cons (ha : PE X e (tD X.kw (ev T x))) (hr : PA X es (tDA X.kw (evs T xs))) (hs : noStars (e :: es) = true) : PA X (e :: es) (tDA X.kw (evs T (.cons x xs))) :=
  PA.imp (pa_cons ha hr (star_cons hs)) fun σ H Q ⟨ρ, st, env, r, st', S, E, e, k⟩ => by
    obtain ⟨d, st1, r', h1, h2, rfl⟩ := evs_cons e
    exact ⟨ρ, st, env, d, st1, S, E, h1, fun ρ1 v H1 T1 S1 R1 => ⟨ρ1, st1, env, r', st', S1, E.mono T1, h2, fun ρ2 vs H2 T2 S2 R2 =>
      k ρ2 (v :: vs) H2 (T1.trans T2) S2 ⟨v, vs, rfl, RD.mono T2 _ _ R1, R2⟩⟩⟩
theorem kd_nil : PK X [] (tDA X.kw (evs T .nil)) := ⟨fun p pins s σ H Q I ⟨ρ, st, env, r, st', S, E, e, k⟩ => by
  unfold evs at e
  cases e
  exact pk_nil.run p pins s σ H Q I (k ρ [] H .refl S rfl)⟩
theorem kd_cons {nm : Option Str} {kpos : Pos} {kws : List Keyword} (ha : PE X e (tD X.kw (ev T x))) (hr : PK X kws (tDA X.kw (evs T xs))) : PK X (⟨nm, e, kpos⟩ :: kws) (tDA X.kw (evs T (.cons x xs))) :=
  ⟨fun p pins s σ H Q I ⟨ρ, st, env, r, st', S, E, e, k⟩ => by
    obtain ⟨d, st1, r', h1, h2, rfl⟩ := evs_cons e
    exact (pk_cons (nm := nm) (kpos := kpos) ha hr).run p pins s σ H Q I ⟨ρ, st, env, d, st1, S, E, h1, fun ρ1 v H1 T1 S1 R1 => ⟨ρ1, st1, env, r', st', S1, E.mono T1, h2, fun ρ2 vs H2 T2 S2 R2 =>
      k ρ2 (v :: vs) H2 (T1.trans T2) S2 ⟨v, vs, rfl, RD.mono T2 _ _ R1, R2⟩⟩⟩⟩
/-- positional arguments, then keywords' values -/
theorem chkK_split {N : List Str} {sc : Scope} : ∀ {as : CEs} {es : List Expr} {kws : List Keyword} {ks : List Str}, chkK T L N sc as es kws ks = true →
    ∃ as1 as2, chks T L N sc as1 es = true ∧ chkK T L N sc as2 [] kws ks = true ∧ (∀ env st, evs T as env st = match evs T as1 env st with
      | some (d1, st1) => match evs T as2 env st1 with
        | some (d2, st2) => some (d1 ++ d2, st2)
        | none => none
      | none => none)
  | as, [], kws, ks, h => ⟨.nil, as, rfl, h, fun env st => by
      simp only [evs]
      cases q : evs T as env st with
      | none => rfl
      | some r => simp⟩
  | .nil, e :: es, kws, ks, h => by
      cases kws <;> cases ks <;> simp [chkK] at h
  | .cons a as, e :: es, kws, ks, h => by
      simp only [chkK, Bool.and_eq_true] at h
      obtain ⟨as1, as2, h1, h2, h3⟩ := chkK_split h.2
      refine ⟨.cons a as1, as2, by simp [chks, h.1, h1], h2, fun env st => ?_⟩
      simp only [evs]
      cases q : ev T a env st with
      | none => rfl
      | some r =>
        simp only
        rw [h3]
        cases q1 : evs T as1 env r.2 with
        | none => rfl
        | some r1 =>
          simp only
          cases q2 : evs T as2 env r1.2 with
          | none => rfl
          | some r2 => rfl
theorem evs_len : ∀ {as : CEs} {es : List Expr} {N : List Str} {sc : Scope} {env : Envr} {st : Store} {ds : List D} {st' : Store}, chks T L N sc as es = true → evs T as env st = some (ds, st') → ds.length = es.length
  | .nil, [], _, _, _, _, _, _, _, h => by unfold evs at h; cases h; rfl
  | .nil, _ :: _, _, _, _, _, _, _, h, _ => by simp [chks] at h
  | .cons a as, [], _, _, _, _, _, _, h, _ => by simp [chks] at h
  | .cons a as, e :: es, _, _, _, _, _, _, h, q => by
    simp only [chks, Bool.and_eq_true] at h
    obtain ⟨d, st1, r, _, h2, rfl⟩ := evs_cons q
    simp [evs_len h.2 h2]

/-! ### displays, items -/
theorem small_line {n : Nat} (h : n ≤ 1000) : n ≤ sizeLine := Nat.le_of_lt (small1000 h)
theorem pd_tup {k1} (h : PA X es (tDA X.kw (evs T xs))) (hl : ∀ env st ds st', evs T xs env st = some (ds, st') → ds.length ≤ 1000) : PE X (.Tuple es k1 pos) (tD X.kw (ev T (.tup xs))) :=
  PE.imp (pe_tup h) fun σ H Q ⟨ρ, st, env, r, st', S, E, e, k⟩ => by
    unfold ev at e
    split at e
    · rename_i ds st1 h1
      cases e
      refine ⟨ρ, st, env, _, _, S, E, h1, fun ρ1 vs H1 T1 S1 R1 => ⟨by rw [R1.length]; exact small_line (hl _ _ _ _ h1), fun q hn => ?_⟩⟩
      exact Post.tup (Post.step k T1) S1 R1 hn
    · cases e
theorem pd_lst (h : PA X es (tDA X.kw (evs T xs))) (hl : ∀ env st ds st', evs T xs env st = some (ds, st') → ds.length ≤ 1000) : PE X (.List es pos) (tD X.kw (ev T (.lst xs))) :=
  PE.imp (pe_lst h) fun σ H Q ⟨ρ, st, env, r, st', S, E, e, k⟩ => by
    unfold ev at e
    split at e
    · rename_i ds st1 h1
      cases e
      refine ⟨ρ, st, env, _, _, S, E, h1, fun ρ1 vs H1 T1 S1 R1 => ⟨by rw [R1.length]; exact small_line (hl _ _ _ _ h1), fun q hn => ?_⟩⟩
      exact Post.lst (Post.step k T1) S1 R1 hn
    · cases e
theorem pd_lstO (h : PA X es (tDA X.kw (evs T xs))) (hl : ∀ env st ds st', evs T xs env st = some (ds, st') → ds.length ≤ 1000) : PE X (.List es pos) (tD X.kw (ev T (.lstO xs))) :=
  PE.imp (pe_lst h) fun σ H Q ⟨ρ, st, env, r, st', S, E, e, k⟩ => by
    unfold ev at e
    split at e
    · rename_i ds st1 h1
      cases e
      refine ⟨ρ, st, env, _, _, S, E, h1, fun ρ1 vs H1 T1 S1 R1 => ⟨by rw [R1.length]; exact small_line (hl _ _ _ _ h1), fun q hn => ?_⟩⟩
      exact Post.push (Post.step k T1) S1 R1 hn
    · cases e
theorem RDs.atI {K : KW} {ρ : Rg} {H : Hp} {ds : List D} {vs : List V} {i : Int} {d : D} (r : RDs K ρ H ds vs) (h : L2.atI ds i = some d) : ∃ v, L2.atI vs i = some v ∧ RD K ρ H d v := by
  unfold L2.atI at h ⊢
  rw [r.length]
  cases q : ixN ds.length i with
  | none => rw [q] at h; cases h
  | some j => rw [q] at h; exact r.get h
/-- d[key] of a dict -/
theorem pe_dgetB (hu : X.A.units + 64 < cLine) {td ty : TE} (ho : PE X a td) (hi : PE X b ty) (hs : noSl b = true) :
    PE X (.Subscript a b pos) (fun σ H Q => td σ H fun x H1 => ty σ H1 fun y H2 => ∃ ρ p kvs m k d, x = .ref p ∧ Dv X.kw ρ H2 p kvs m ∧ RD X.kw ρ H2 k y ∧ okK m k = true ∧ getK kvs k = some d ∧ ∀ v, RD X.kw ρ H2 d v → Q v H2) := by
  refine ⟨fun pins s σ H Q I h => ?_⟩
  refine subD_of PySem.F.slot_dict_getitem.lookup (plain_ix hs) (thn (ho.run pins s σ H _ I h) fun u s1 ⟨x, H1, I1, rx, q1⟩ => thn (hi.run pins s1 σ H1 _ I1 q1) fun iv s2 ⟨y, H2, I2, ry, ρ, p, kvs, m, k, d, ex, D, rk, ok, hg, q2⟩ => ?_)
  subst ex
  obtain rfl : u = Value.ref p := rx
  exact ⟨(dv_type I2 D).1, op_getDict hu pins s2 σ H2 (.ref p) y (.ref p) iv Q I2 rfl ry ⟨ρ, p, kvs, m, k, d, rfl, D, rk, ok, hg, q2⟩⟩
theorem PE.or {e : Expr} {t1 t2 : TE} (h1 : PE X e t1) (h2 : PE X e t2) : PE X e fun σ H Q => t1 σ H Q ∨ t2 σ H Q :=
  ⟨fun pins s σ H Q I h => h.elim (h1.run pins s σ H Q I) (h2.run pins s σ H Q I)⟩
theorem pd_ix (hu : X.A.units + 64 < cLine) (ha : PE X a (tD X.kw (ev T x))) (hb : PE X b (tD X.kw (ev T y))) (hs : noSl b = true) : PE X (.Subscript a b pos) (tD X.kw (ev T (.ix x y))) :=
  PE.imp (PE.or (pe_ix ix_seq ha hb (plain_ix hs)) (pe_dgetB hu ha hb hs)) fun σ H Q ⟨ρ, st, env, r, st', S, E, e, k⟩ => by
    unfold ev at e
    split at e
    · rename_i u st1 h1
      split at e
      · rename_i w st2 h2
        split at e
        · rename_i d h3
          cases e
          unfold ixD at h3
          split at h3
          · rename_i ds hi
            split at h3
            · rename_i i
              refine .inl ⟨ρ, st, env, _, _, S, E, h1, fun ρ1 v1 H1 T1 S1 R1 => ⟨ρ1, st1, env, _, _, S1, E.mono T1, h2, fun ρ2 v2 H2 T2 S2 R2 => ?_⟩⟩
              obtain ⟨q, vs, rfl, hs, rs⟩ := items_ok S2 hi (RD.mono T2 _ _ R1)
              obtain ⟨v, hv, rv⟩ := rs.atI h3
              cases R2
              have fin : Q v H2 := k ρ2 v H2 (T1.trans T2) S2 rv
              rcases hs with hs | hs
              · exact .inl ⟨q, vs, i, v, rfl, rfl, hs, hv, fin⟩
              · exact .inr (.inl ⟨q, vs, i, v, rfl, rfl, hs, hv, fin⟩)
            · cases h3
          · unfold ixK at h3
            split at h3
            · rename_i m kvs hd
              split at h3
              · rename_i ok
                refine .inr ⟨ρ, st, env, _, _, S, E, h1, fun ρ1 v1 H1 T1 S1 R1 => ⟨ρ1, st1, env, _, _, S1, E.mono T1, h2, fun ρ2 v2 H2 T2 S2 R2 => ?_⟩⟩
                obtain ⟨p, rfl, D⟩ := dict_ok S2 (RD.mono T2 _ _ R1) hd
                exact ⟨ρ2, p, kvs, m, w, _, rfl, D, R2, ok, h3, fun v rv => k ρ2 v H2 (T1.trans T2) S2 rv⟩
              · cases h3
            · cases h3
        · cases e
      · cases e
    · cases e

/-! ### calls -/
theorem pd_call {x : Str} {f : Fn} {k1 : Nat} (G : Good T L X) (hkl : k1 < L) (hf : T.fns[k1]? = some f) (hx : f.name = x) (hg : Gl X x) (ho : okN x = true) {N : List Str} {kws : List Keyword} {as1 as2 : CEs} {xs : CEs}
    {sc : Scope} (hs : noStars es = true) (hc : chks T L N sc as1 es = true) (ha : PA X es (tDA X.kw (evs T as1))) (hk : PK X kws (tDA X.kw (evs T as2))) (hnames : kws.map (·.arg) = f.ks.map some)
    (hl : ∀ env st ds st', evs T as2 env st = some (ds, st') → ds.length = f.ks.length)
    (hev : ∀ env st, evs T xs env st = match evs T as1 env st with
      | some (d1, st1) => match evs T as2 env st1 with
        | some (d2, st2) => some (d1 ++ d2, st2)
        | none => none
      | none => none) : PE X (.Call (.Name x p) es kws pos) (tD X.kw (ev T (.call k1 xs))) := by
  subst hx
  refine ⟨fun pins s σ H Q I ⟨ρ, st, env, r, st', S, E, e, k⟩ => ?_⟩
  obtain ⟨a', fd, ps, lv, G', g, gV, gD, n0, hm, hkp, FG, hr, hn0, hb, q1, q2, q3⟩ := (G.fns k1 f hkl hf).at_
  unfold ev at e
  rw [hev] at e
  split at e
  · rename_i ds st2 he
    split at he
    · rename_i d1 st1 h1
      split at he
      · rename_i d2 st2' h2
        cases he
        rw [hf] at e
        have hall : (backToKw pos (keywordEach kws X.env)).all (·.1.isSome) = true ∧ (backToKw pos (keywordEach kws X.env)).filterMap (·.1) = f.ks ∧ (backToKw pos (keywordEach kws X.env)).any (·.1.isNone) = false := by
          clear hk hl hev ha
          revert hnames
          generalize f.ks = ks
          induction kws generalizing ks with
          | nil => intro h; cases ks with
            | nil => exact ⟨rfl, rfl, rfl⟩
            | cons _ _ => simp at h
          | cons k0 kws ih =>
            intro h
            cases ks with
            | nil => simp at h
            | cons k' ks =>
              obtain ⟨nm, ex, kp⟩ := k0
              simp only [List.map_cons, List.cons.injEq] at h
              obtain ⟨h1, h2⟩ := h
              subst h1
              obtain ⟨i1, i2, i3⟩ := ih ks h2
              refine ⟨?_, ?_, ?_⟩
              · show (true && (backToKw pos (keywordEach kws X.env)).all (·.1.isSome)) = true
                rw [i1]; rfl
              · show k' :: (backToKw pos (keywordEach kws X.env)).filterMap (·.1) = k' :: ks
                rw [i2]
              · show (false || (backToKw pos (keywordEach kws X.env)).any (·.1.isNone)) = false
                rw [i3]; rfl
        refine wpAny_Call_Name_kw (ld_glob I hg hm ?_ (okN_ok ho).1)
        have fin : ∀ {us ws : List Value} {vs zs : List V} {s2 : Shared} {ρ1 ρ2 : Rg} {H1 H2 : Hp}, Step ρ H ρ1 H1 → RDs X.kw ρ1 H1 d1 vs → Vals vs us → Inv X pins σ H2 s2 → Vals zs ws → Step ρ1 H1 ρ2 H2 → SR X.kw ρ2 st2 H2 → RDs X.kw ρ2 H2 d2 zs →
            wpAny (model X.prog X.w) X.A (PySem.call (.ref a') us (((backToKw pos (keywordEach kws X.env)).filterMap (·.1)).zip ws)) (EP X pins σ Q) X.xe s2 := by
          intro us ws vs zs s2 ρ1 ρ2 H1 H2 T1 R1 rv I2 rz T2 S2 R2
          rw [hall.2.1]
          have hz : ws.length = f.ks.length := by rw [← rz.length, R2.length]; exact hl _ _ _ _ h2
          exact run_st (G.fns k1 f hkl hf) hm I2 rv rz hz S2 (RDs.mono T2 _ _ R1) R2 e (Post.step k (T1.trans T2))
        cases es with
        | nil =>
          refine PySem.W.callWith_KW0 (h₀ := X.base) I.ok.mod.kin hkp hall.1 ?_ (by rw [hall.2.2]; rfl)
          have en : as1 = .nil := by
            cases as1 with
            | nil => rfl
            | cons _ _ => simp [chks] at hc
          subst en
          unfold evs at h1
          cases h1
          exact thn (hk.run pos pins s σ H (fun zs H2 => ∃ ρ2, Step ρ H ρ2 H2 ∧ SR X.kw ρ2 st2 H2 ∧ RDs X.kw ρ2 H2 d2 zs) I
            ⟨ρ, st, env, d2, st2, S, E, h2, fun ρ2 vs H2 T2 S2 R2 => ⟨ρ2, T2, S2, R2⟩⟩) fun ws s2 ⟨zs, H2, I2, rz, ρ2, T2, S2, R2⟩ => ⟨I2.kIn, fin (us := []) (vs := []) .refl rfl .nil I2 rz T2 S2 R2⟩
        | cons e0 es =>
          refine PySem.W.callWith_KW (h₀ := X.base) I.ok.mod.kin hkp hall.1 (thn (ha.run pos pins s σ H (fun vs H1 => ∃ ρ1, Step ρ H ρ1 H1 ∧ SR X.kw ρ1 st1 H1 ∧ RDs X.kw ρ1 H1 d1 vs) I
            ⟨ρ, st, env, d1, st1, S, E, h1, fun ρ1 vs H1 T1 S1 R1 => ⟨ρ1, T1, S1, R1⟩⟩) fun us s1 ⟨vs, H1, I1, rv, ρ1, T1, S1, R1⟩ => ?_) (by rw [star_plain hs, hall.2.2]; rfl) (star_cons hs)
          exact thn (hk.run pos pins s1 σ H1 (fun zs H2 => ∃ ρ2, Step ρ1 H1 ρ2 H2 ∧ SR X.kw ρ2 st2 H2 ∧ RDs X.kw ρ2 H2 d2 zs) I1
            ⟨ρ1, st1, env, d2, st2, S1, E.mono T1, h2, fun ρ2 vs H2 T2 S2 R2 => ⟨ρ2, T2, S2, R2⟩⟩) fun ws s2 ⟨zs, H2, I2, rz, ρ2, T2, S2, R2⟩ => ⟨I2.kIn, fin T1 R1 rv I2 rz T2 S2 R2⟩
      · cases he
    · cases he
  · cases e

/-! ### built-ins -/
theorem CallR.or2 {f : Value} {r1 r2 : List V → Hp → VK → Prop} (h1 : CallR X f r1) (h2 : CallR X f r2) : CallR X f fun vs H Q => r1 vs H Q ∨ r2 vs H Q := by
  intro pins s σ H vs us Q I rx h
  exact h.elim (h1 pins s σ H vs us Q I rx) (h2 pins s σ H vs us Q I rx)
def CallD (X : Cx) (f : Value) (g : Store → List D → Option (D × Store)) : Prop :=
  CallR X f fun vs H Q => ∃ ρ st ds r st', SR X.kw ρ st H ∧ RDs X.kw ρ H ds vs ∧ g st ds = some (r, st') ∧ Post X.kw ρ H r st' Q
theorem CallD.mk {f : Value} {g : Store → List D → Option (D × Store)} {r : List V → Hp → VK → Prop} (h : CallR X f r)
    (k : ∀ ρ st ds c st' H vs Q, SR X.kw ρ st H → RDs X.kw ρ H ds vs → g st ds = some (c, st') → Post X.kw ρ H c st' Q → r vs H Q) : CallD X f g := by
  intro pins s σ H vs us Q I rx ⟨ρ, st, ds, c, st', S, R, e, p⟩
  exact h pins s σ H vs us Q I rx (k ρ st ds c st' H vs Q S R e p)
/-- which built-in it is: a function or a type -/
def BI.val : BI → Value
  | .max1 => .builtin "max" | .min1 => .builtin "min" | .sorted1 => .builtin "sorted" | .isi => .builtin "isinstance" | .len => .builtin "len" | .abs => .builtin "abs" | .max2 => .builtin "max" | .min2 => .builtin "min" | .int1 => .type "int" | .tuple1 => .type "tuple" | .list1 => .type "list" | .repr => .builtin "repr"
theorem RDs.one {K : KW} {ρ : Rg} {H : Hp} {d : D} {vs : List V} (r : RDs K ρ H [d] vs) : ∃ v, vs = [v] ∧ RD K ρ H d v := by
  obtain ⟨v, t, rfl, h, rfl⟩ := r
  exact ⟨v, rfl, h⟩
theorem RDs.two {K : KW} {ρ : Rg} {H : Hp} {d d' : D} {vs : List V} (r : RDs K ρ H [d, d'] vs) : ∃ v v', vs = [v, v'] ∧ RD K ρ H d v ∧ RD K ρ H d' v' := by
  obtain ⟨v, t, rfl, h, v', t', rfl, h', rfl⟩ := r
  exact ⟨v, v', rfl, h, h'⟩
theorem call_reprG (hg : X.A.guards = some []) (hu : X.A.units + 65 < cLine) : CallR X (.builtin "repr") (fun vs H Q => ∃ v p, vs = [v] ∧ Dp X.K H v p ∧ shownOk p = true ∧ Q (.str p.shown) H) := by
  intro pins s σ H vs us Q I rx ⟨v, p, hv, hd, ho, q⟩
  subst hv
  obtain ⟨u, rfl, ru⟩ := rx.one
  obtain ⟨as, r1⟩ := Dp.reads I p v u hd ru
  unfold shownOk at ho
  simp only [Bool.and_eq_true, Bool.not_eq_true', decide_eq_true_eq] at ho
  obtain ⟨⟨⟨⟨o1, o2⟩, o3⟩, o4⟩, o5⟩ := ho
  obtain ⟨a, rfl⟩ := PyProof.Rows.isRef_of_reads r1 o3
  refine repr_of_reads' r1 o1 (PyData.noDict_hsm o2) hg (by omega) (fun _ _ e => e) (fun h' u tk hk => ?_) (of_decide_eq_true o5)
  exact ⟨.str p.shown, H, I.kept (t' := tk) hk, ⟨u, rfl⟩, q⟩
theorem itemsD_obj {st : Store} {n : Nat} {ds : List D} (h : itemsD st (.obj n) = some ds) : st[n]? = some (.lst ds) := by
  simp only [itemsD] at h
  split at h
  · rename_i e
    cases h
    exact e
  · cases h
theorem obj_items {ρ : Rg} {st : Store} {H : Hp} {n : Nat} {ds : List D} {v : V} (S : SR X.kw ρ st H) (h : st[n]? = some (.lst ds)) (r : RD X.kw ρ H (.obj n) v) : ∃ a vs, v = .ref a ∧ H a = some (.lst vs) ∧ ρ.ids[n]? = some a ∧ RDs X.kw ρ H ds vs := by
  obtain ⟨a, rfl, hn⟩ := r
  obtain ⟨b, hb, vs, hv, r⟩ := S.ob n _ h
  rw [hn] at hb; cases hb
  exact ⟨a, vs, rfl, hv, hn, r⟩
theorem lenD_ok {ρ : Rg} {st : Store} {H : Hp} {d : D} {v : V} {n : Nat} (S : SR X.kw ρ st H) (r : RD X.kw ρ H d v) (e : lenD st d = some n) :
    LenV X.K v H n ∨ ∃ (md : Bool) (q : Addr) (xs : Leafs), v = .ref q ∧ (q == sysModules) = false ∧ xs.length ≤ sizeLine ∧ LfAt X.kw H q md xs ∧ xs.length = n := by
  have seq : ∀ {ds : List D}, itemsD st d = some ds → ds.length = n → LenV X.K v H n := by
    intro ds h hn
    obtain ⟨q, vs, rfl, hs, rs⟩ := items_ok S h r
    have hl := rs.length
    rw [hn] at hl
    rcases hs with hs | hs
    · exact .inl ⟨vs, hs, hl.symm⟩
    · exact .inr ⟨vs, hs, hl.symm⟩
  cases d with
  | str s =>
    cases r
    simp only [lenD] at e
    split at e
    · rename_i h
      exact .inl ⟨of_decide_eq_true h, (Option.some.inj e).symm⟩
    · cases e
  | obj k =>
    simp only [lenD] at e
    split at e
    · rename_i ds h
      obtain ⟨q, vs, rfl, hv, _, rs⟩ := obj_items S h r
      exact .inl (.inl ⟨vs, .of hv, by rw [rs.length]; exact (Option.some.inj e).symm⟩)
    · rename_i md kvs h
      have hd : dictD st (.obj k) = some (.lf md, kvs) := by simp only [dictD, h]
      obtain ⟨q, rfl, h1, h2, xs, h3, t⟩ := dict_ok S r hd
      have hl := t.length
      exact .inr ⟨md, q, xs, rfl, h1, by rw [← hl]; exact h2, h3, by rw [← hl]; exact Option.some.inj e⟩
    · cases e
  | _ =>
    simp only [lenD] at e
    obtain ⟨ds, h1, h2⟩ := Option.map_eq_some_iff.mp e
    exact .inl (seq h1 h2)
theorem keys_num {K : KW} {ρ : Rg} {H : Hp} {kvs : List (D × D)} {xs : Leafs} (t : Paired (EntL K true ρ H) kvs xs) : ∀ {ns : List Int}, intsOf (kvs.map (·.1)) = some ns → xs.map (·.1) = ns.map Leaf.num := by
  induction t with
  | nil => intro ns h; cases h; rfl
  | @cons p q kvs xs h t ih =>
    intro ns e
    have e1 := intsOf_eq e
    cases ns with
    | nil => cases e1
    | cons n ns =>
      rw [List.map_cons, List.map_cons] at e1
      obtain ⟨e2, e3⟩ := List.cons.inj e1
      have e4 : intsOf (kvs.map (·.1)) = some ns := by rw [e3]; exact intsOf_ints ns
      have h1 := h.1
      rw [e2] at h1
      have h2 : Leaf.num n = q.1 := Option.some.inj h1
      rw [List.map_cons, List.map_cons, ih e4, h2]
theorem bi_one {f : BI} {ρ : Rg} {st st' : Store} {H : Hp} {ds : List D} {vs : List V} {c : D} {Q : VK} (hf : ∀ a b, f.ev2 st a b = none) (S : SR X.kw ρ st H) (R : RDs X.kw ρ H ds vs) (e : f.ev st ds = some (c, st')) (p : Post X.kw ρ H c st' Q) :
    ∃ d v, vs = [v] ∧ RD X.kw ρ H d v ∧ f.ev1 st d = some c ∧ Post X.kw ρ H c st Q := by
  unfold BI.ev at e
  split at e
  · obtain ⟨v, rfl, h⟩ := R.one
    split at e
    · rename_i r q
      cases e
      exact ⟨_, v, rfl, h, q, p⟩
    · cases e
  · rw [hf] at e
    cases e
  · cases e
theorem bi_two {f : BI} {ρ : Rg} {st st' : Store} {H : Hp} {ds : List D} {vs : List V} {c : D} {Q : VK} (hf : ∀ a, f.ev1 st a = none) (S : SR X.kw ρ st H) (R : RDs X.kw ρ H ds vs) (e : f.ev st ds = some (c, st')) (p : Post X.kw ρ H c st' Q) :
    ∃ d d' v v', vs = [v, v'] ∧ RD X.kw ρ H d v ∧ RD X.kw ρ H d' v' ∧ f.ev2 st d d' = some c ∧ Post X.kw ρ H c st Q := by
  unfold BI.ev at e
  split at e
  · rw [hf] at e
    cases e
  · obtain ⟨v, v', rfl, h, h'⟩ := R.two
    split at e
    · rename_i r q
      cases e
      exact ⟨_, _, v, v', rfl, h, h', q, p⟩
    · cases e
  · cases e
theorem isi_one {K : PySem.W.Frag} {k n : String} {b : Bool} (h : isiD k n = some b) : PySem.W.kitOne K (.type k) (.type n) = some b := by
  unfold isiD at h
  split at h
  · rename_i e; cases h; subst e
    unfold PySem.W.kitOne
    rw [if_pos (by simp)]
  · split at h
    · rename_i e; cases h; obtain ⟨rfl, rfl⟩ := e; rfl
    · split at h
      · rename_i n1 n2 e
        cases h
        obtain ⟨e1, e2⟩ := e
        simp only [tyNames, List.mem_cons, List.not_mem_nil, or_false] at e1 e2
        rcases e1 with rfl | rfl | rfl | rfl | rfl | rfl <;> rcases e2 with rfl | rfl | rfl | rfl | rfl | rfl <;> first | rfl | exact absurd rfl n1 | exact absurd ⟨rfl, rfl⟩ n2
      · cases h
theorem kind_ok {ρ : Rg} {st : Store} {H : Hp} {d : D} {v : V} {k : String} (S : SR X.kw ρ st H) (r : RD X.kw ρ H d v) (h : kindD st d = some k) : TyX X.K H v (.type k) := by
  cases d with
  | non => cases r; cases h; exact .base .non
  | bl b => cases r; cases h; exact .base (.bl b)
  | int i => cases r; cases h; exact .base (.int i)
  | str s => cases r; cases h; exact .base (.str s)
  | tup ds =>
    cases h
    obtain ⟨a, vs, rfl, t, _⟩ := r
    rcases t.sq with (t | ⟨o, t⟩) | ⟨o, its, n, e, c, _⟩
    · exact .base (.tup t)
    · exact .fTuple t
    · exact .kTuple e c
  | lst ds =>
    cases h
    obtain ⟨a, vs, rfl, t, _⟩ := r
    rcases t.sq with (t | ⟨o, t⟩) | ⟨o, its, n, e, c, _⟩
    · exact .base (.lst t)
    · exact .base (.frz t)
    · exact .kList e c
  | obj n =>
    have h' : (match st[n]? with
      | some (.lst _) => some "list"
      | some (.dct _ _) => none
      | none => none) = some k := h
    cases q : st[n]? with
    | none => rw [q] at h'; cases h'
    | some o =>
      cases o with
      | lst ds =>
        rw [q] at h'
        cases h'
        obtain ⟨a, rfl, ha⟩ := r
        obtain ⟨b, hb, ws, hw, _⟩ := S.ob n _ q
        rw [ha] at hb; cases hb
        exact .base (.lst hw)
      | dct _ _ => rw [q] at h'; cases h'
  | tab _ _ => cases h
  | ty n => cases h
theorem bi_ok (hc : X.calm = true) (hg : X.A.guards = some []) (hu : X.A.units + 65 < cLine) (f : BI) : CallD X f.val f.ev := by
  cases f with
  | isi =>
    refine CallD.mk call_isi fun ρ st ds c st' H vs Q S R e p => ?_
    obtain ⟨d, d', v, v', rfl, r, r', e, p⟩ := bi_two (fun _ => rfl) S R e p
    simp only [BI.ev2] at e
    split at e
    · rename_i k n hk
      split at e
      · rename_i b hb
        cases e; cases r'
        exact ⟨v, _, _, _, b, rfl, .ty n, kind_ok S r hk, isi_one hb, p.here S rfl⟩
      · cases e
    · cases e
  | len =>
    refine CallD.mk (CallR.or2 call_len cr_lenK) fun ρ st ds c st' H vs Q S R e p => ?_
    obtain ⟨d, v, rfl, r, e, p⟩ := bi_one (fun _ _ => rfl) S R e p
    simp only [BI.ev1] at e
    split at e
    · rename_i n h
      cases e
      rcases lenD_ok S r h with z | ⟨md, q, xs, rfl, h1, h2, h3, rfl⟩
      · exact .inl ⟨v, n, rfl, z, p.here S rfl⟩
      · exact .inr ⟨md, q, xs, rfl, h1, h2, h3, p.here S rfl⟩
    · cases e
  | max1 =>
    refine CallD.mk (cr_maxQ hc) fun ρ st ds c st' H vs Q S R e p => ?_
    obtain ⟨d, v, rfl, r, e, p⟩ := bi_one (fun _ _ => rfl) S R e p
    simp only [BI.ev1] at e
    split at e
    · rename_i es h
      obtain ⟨q, vs, rfl, hs, rs⟩ := items_ok S h r
      split at e
      · rename_i ns hn
        split at e
        · cases e
        · rename_i hne
          cases e
          rw [intsOf_eq hn] at rs
          rw [rds_ints rs] at hs
          exact ⟨q, ns, rfl, hs, fun z => hne (by rw [z]; rfl), p.here S rfl⟩
      · cases e
    · cases e
  | min1 =>
    refine CallD.mk (cr_minQ hc) fun ρ st ds c st' H vs Q S R e p => ?_
    obtain ⟨d, v, rfl, r, e, p⟩ := bi_one (fun _ _ => rfl) S R e p
    simp only [BI.ev1] at e
    split at e
    · rename_i es h
      obtain ⟨q, vs, rfl, hs, rs⟩ := items_ok S h r
      split at e
      · rename_i ns hn
        split at e
        · cases e
        · rename_i hne
          cases e
          rw [intsOf_eq hn] at rs
          rw [rds_ints rs] at hs
          exact ⟨q, ns, rfl, hs, fun z => hne (by rw [z]; rfl), p.here S rfl⟩
      · cases e
    · cases e
  | abs =>
    refine CallD.mk call_abs fun ρ st ds c st' H vs Q S R e p => ?_
    obtain ⟨d, v, rfl, r, e, p⟩ := bi_one (fun _ _ => rfl) S R e p
    simp only [BI.ev1] at e
    split at e
    · cases e; cases r
      exact ⟨_, rfl, p.here S rfl⟩
    · cases e
  | max2 =>
    refine CallD.mk (call_max2 hc) fun ρ st ds c st' H vs Q S R e p => ?_
    obtain ⟨d, d', v, v', rfl, r, r', e, p⟩ := bi_two (fun _ => rfl) S R e p
    simp only [BI.ev2] at e
    split at e
    · cases e; cases r; cases r'
      exact ⟨_, _, rfl, p.here S rfl⟩
    · cases e
  | min2 =>
    refine CallD.mk (call_min2 hc) fun ρ st ds c st' H vs Q S R e p => ?_
    obtain ⟨d, d', v, v', rfl, r, r', e, p⟩ := bi_two (fun _ => rfl) S R e p
    simp only [BI.ev2] at e
    split at e
    · cases e; cases r; cases r'
      exact ⟨_, _, rfl, p.here S rfl⟩
    · cases e
  | int1 =>
    refine CallD.mk call_int1 fun ρ st ds c st' H vs Q S R e p => ?_
    obtain ⟨d, v, rfl, r, e, p⟩ := bi_one (fun _ _ => rfl) S R e p
    simp only [BI.ev1] at e
    split at e
    · cases e; cases r
      exact .inl ⟨_, rfl, p.here S rfl⟩
    · cases e; cases r
      exact .inr ⟨_, rfl, p.here S rfl⟩
    · cases e
  | tuple1 =>
    refine CallD.mk call_tuple_of fun ρ st ds c st' H vs Q S R e p => ?_
    obtain ⟨d, v, rfl, r, e, p⟩ := bi_one (fun _ _ => rfl) S R e p
    simp only [BI.ev1] at e
    split at e
    · rename_i es h
      cases e
      cases d with
      | tup xs =>
        cases h
        obtain ⟨a, vs, rfl, t, rs⟩ := r
        exact ⟨a, vs, rfl, .inr ⟨t.sq, p.here S ⟨a, vs, rfl, t, rs⟩⟩⟩
      | lst xs =>
        cases h
        obtain ⟨a, vs, rfl, t, rs⟩ := r
        exact ⟨a, vs, rfl, .inl ⟨t.sq, fun l hl => p.tup S rs hl⟩⟩
      | obj n =>
        obtain ⟨a, vs, rfl, hs, _, rs⟩ := obj_items S (itemsD_obj h) r
        exact ⟨a, vs, rfl, .inl ⟨.of hs, fun l hl => p.tup S rs hl⟩⟩
      | non => cases h
      | ty _ => cases h
      | tab _ _ => cases h
      | bl _ => cases h
      | int _ => cases h
      | str _ => cases h
    · cases e
  | sorted1 =>
    refine CallD.mk (CallR.or2 (CallR.or2 cr_sortedI cr_sortedS) (cr_sortK hc)) fun ρ st ds c st' H vs Q S R e p => ?_
    obtain ⟨d, v, rfl, r, e, p⟩ := bi_one (fun _ _ => rfl) S R e p
    simp only [BI.ev1] at e
    split at e
    · rename_i es h
      obtain ⟨a, vs, rfl, hs, rs⟩ := list_ok S h r
      split at e
      · rename_i xs hx
        cases e
        unfold sortD at hx
        split at hx
        · rename_i ns hn
          cases hx
          rw [intsOf_eq hn] at rs
          rw [rds_ints rs] at hs
          exact .inl (.inl ⟨a, ns, rfl, hs, fun ns' q h1 h2 hq => by rw [sortI_of h1 h2]; exact p.lst S (ints_rds _) hq⟩)
        · split at hx
          · rename_i ss hn
            split at hx
            · rename_i h64
              cases hx
              rw [strsOf_eq hn] at rs
              rw [rds_strs rs] at hs
              exact .inl (.inr ⟨a, ss, rfl, hs, h64, fun ns' q h1 h2 hq => by rw [sortS_of h1 h2]; exact p.lst S (strs_rds _) hq⟩)
            · cases hx
          · cases hx
      · cases e
    · split at e
      · rename_i ns hn
        split at e
        · rename_i h64
          cases e
          unfold keysD at hn
          split at hn
          · split at hn
            · rename_i k _ _ kvs q
              have hd : dictD st (.obj k) = some (.lf true, kvs) := by simp only [dictD, q]
              obtain ⟨a, rfl, h1, h2, xs, h3, t⟩ := dict_ok S r hd
              exact .inr ⟨a, xs, ns, rfl, h1, h3, keys_num t hn, h64, fun l hl => p.lst S (ints_rds _) hl⟩
            · cases hn
          · cases hn
        · cases e
      · cases e
  | list1 =>
    refine CallD.mk call_list_of fun ρ st ds c st' H vs Q S R e p => ?_
    obtain ⟨d, v, rfl, r, e, p⟩ := bi_one (fun _ _ => rfl) S R e p
    simp only [BI.ev1] at e
    split at e
    · rename_i es h
      cases e
      obtain ⟨a, vs, rfl, hs, rs⟩ := items_ok S h r
      exact ⟨a, vs, rfl, hs, fun l hl => p.lst S rs hl⟩
    · cases e
  | repr =>
    refine CallD.mk (call_reprG hg hu) fun ρ st ds c st' H vs Q S R e p => ?_
    obtain ⟨d, v, rfl, r, e, p⟩ := bi_one (fun _ _ => rfl) S R e p
    simp only [BI.ev1] at e
    split at e
    · rename_i q h
      split at e
      · rename_i ho
        cases e
        exact ⟨v, q, rfl, toP_ok S h r, ho, p.here S rfl⟩
      · cases e
    · cases e
theorem bi_boot (f : BI) : bootBuiltins f.name = some f.val := by cases f <;> decide +kernel
theorem bi_mem (f : BI) : f.name ∈ bnames := by cases f <;> decide +kernel
theorem pd_bi {f : BI} {x : Str} (G : Good T L X) (hx : f.name = x) (hg : Gl X x) (ha : PA X (e :: es) (tDA X.kw (evs T xs))) (hs : noStars (e :: es) = true) : PE X (.Call (.Name x p) (e :: es) [] pos) (tD X.kw (ev T (.bi f xs))) := by
  subst hx
  have k : ∀ σ H Q, tD X.kw (ev T (.bi f xs)) σ H Q → tCB (fun vs H Q => ∃ ρ st ds r st', SR X.kw ρ st H ∧ RDs X.kw ρ H ds vs ∧ f.ev st ds = some (r, st') ∧ Post X.kw ρ H r st' Q) (tDA X.kw (evs T xs)) σ H Q := by
    intro σ H Q ⟨ρ, st, env, r, st', S, E, e, k⟩
    unfold ev at e
    split at e
    · rename_i ds st1 h1
      exact ⟨ρ, st, env, ds, st1, S, E, h1, fun ρ1 vs H1 T1 S1 R1 => ⟨ρ1, st1, ds, r, st', S1, R1, e, Post.step k T1⟩⟩
    · cases e
  have c := bi_ok G.calm G.gd (by have := G.un; omega) f
  have hm := G.bi _ (bi_mem f)
  have hv := bi_boot f
  have hn : f.name ≠ "__name__" := by cases f <;> decide +kernel
  have hd : (f.name == ("__debug__" : Str)) = false := by cases f <;> decide +kernel
  refine PE.imp ?_ k
  have s1 := star_cons (env := X.env) hs
  have s2 : noStars es = true := by unfold noStars at hs; exact (Bool.and_eq_true_iff.mp hs).2
  have s3 := star_plain (env := X.env) (pos := pos) s2
  unfold CallD at c
  revert c hv
  cases f <;> intro c hv <;> first
    | exact pe_callB c hg hm hv ha hn hd s1 s3
    | exact pe_callTy c hg hm hv ha hn hd s1 s3

theorem pd_ty {n : String} {x : Str} (G : Good T L X) (hx : Str.ofString n = x) (hn : n ∈ tyNames) (hg : Gl X x) : PE X (.Name x pos) (tD X.kw (ev T (.ty n))) := by
  subst hx
  have hm : X.mg (Str.ofString n) = none := G.bi _ (by
    simp only [tyNames, List.mem_cons, List.not_mem_nil, or_false] at hn
    rcases hn with rfl | rfl | rfl | rfl | rfl | rfl <;> decide +kernel)
  have hv : bootBuiltins (Str.ofString n) = some (.type n) := by
    simp only [tyNames, List.mem_cons, List.not_mem_nil, or_false] at hn
    rcases hn with rfl | rfl | rfl | rfl | rfl | rfl <;> decide +kernel
  have h1 : Str.ofString n ≠ "__name__" := by
    simp only [tyNames, List.mem_cons, List.not_mem_nil, or_false] at hn
    rcases hn with rfl | rfl | rfl | rfl | rfl | rfl <;> decide +kernel
  have h2 : (Str.ofString n == ("__debug__" : Str)) = false := by
    simp only [tyNames, List.mem_cons, List.not_mem_nil, or_false] at hn
    rcases hn with rfl | rfl | rfl | rfl | rfl | rfl <;> decide +kernel
  exact pd_c (d := .ty n) (pe_bltn hg hm hv (v := .ty n) rfl h1 h2) (fun _ _ => rfl) fun env st => by simp only [ev]

/-! ### slices -/
def tDO (K : KW) (f : Envr → Store → Option (Option Int × Store)) : TO := fun σ H Q =>
  ∃ ρ st env o st', SR K ρ st H ∧ ER K ρ H env σ ∧ f env st = some (o, st') ∧ ∀ ρ' H', Step ρ H ρ' H' → SR K ρ' st' H' → Q o H'
theorem RDs.cut {K : KW} {ρ : Rg} {H : Hp} {ds : List D} {vs : List V} (r : RDs K ρ H ds vs) (lo hi : Option Int) : RDs K ρ H (cutD ds lo hi) (cutV vs lo hi) := by
  have drop : ∀ (n : Nat) {ds : List D} {vs : List V}, RDs K ρ H ds vs → RDs K ρ H (ds.drop n) (vs.drop n) := by
    intro n
    induction n with
    | zero => intro ds vs r; exact r
    | succ n ih =>
      intro ds vs r
      cases ds with
      | nil => cases r; exact rfl
      | cons d ds => obtain ⟨v, t, rfl, _, r2⟩ := r; exact ih r2
  have take : ∀ (n : Nat) {ds : List D} {vs : List V}, RDs K ρ H ds vs → RDs K ρ H (ds.take n) (vs.take n) := by
    intro n
    induction n with
    | zero => intro ds vs r; exact rfl
    | succ n ih =>
      intro ds vs r
      cases ds with
      | nil => cases r; exact rfl
      | cons d ds => obtain ⟨v, t, rfl, r1, r2⟩ := r; exact ⟨v, _, rfl, r1, ih r2⟩
  unfold cutD cutV
  rw [r.length]
  exact take _ (drop _ r)
theorem slD_obj {st : Store} {n : Nat} {d : D} {l u : Option Int} (h : slD st (.obj n) l u = some d) : ∃ ds, st[n]? = some (.lst ds) ∧ d = .lst (cutD ds l u) := by
  have h' : (match st[n]? with
    | some (.lst ds) => some (D.lst (cutD ds l u))
    | _ => none) = some d := h
  cases q : st[n]? with
  | none => rw [q] at h'; cases h'
  | some o =>
    cases o with
    | lst ds =>
      rw [q] at h'
      cases h'
      exact ⟨ds, rfl, rfl⟩
    | dct _ _ => rw [q] at h'; cases h'
theorem pd_sl {lo hi : Option Expr} {cl ch : CO} {p2 : Pos} (ha : PE X a (tD X.kw (ev T x))) (hl : PO X lo (tDO X.kw (evO T cl))) (hh : PO X hi (tDO X.kw (evO T ch))) : PE X (.Subscript a (.Slice lo hi none p2) pos) (tD X.kw (ev T (.sl x cl ch))) :=
  PE.imp (pe_slice (SlR.or sl_list sl_tupA) ha hl hh) fun σ H Q ⟨ρ, st, env, r, st', S, E, e, k⟩ => by
    unfold ev at e
    split at e
    · rename_i u st1 h1
      split at e
      · rename_i l st2 h2
        split at e
        · rename_i w st3 h3
          split at e
          · rename_i d h4
            cases e
            refine ⟨ρ, st, env, _, _, S, E, h1, fun ρ1 v1 H1 T1 S1 R1 => ⟨ρ1, st1, env, _, _, S1, E.mono T1, h2, fun ρ2 H2 T2 S2 => ⟨ρ2, st2, env, _, _, S2, E.mono (T1.trans T2), h3, fun ρ3 H3 T3 S3 => ?_⟩⟩⟩
            have R3 := RD.mono (T2.trans T3) _ _ R1
            have TT := (T1.trans T2).trans T3
            cases u with
            | tup ds =>
              cases h4
              obtain ⟨q, vs, rfl, t, rs⟩ := R3
              refine .inr ⟨q, vs, rfl, t.sq, fun hw => ?_, fun _ p hp => ?_⟩
              · refine k ρ3 _ H3 TT S3 ⟨q, vs, rfl, t, ?_⟩
                have e1 : cutD ds l w = ds := by
                  unfold cutD
                  rw [← rs.length, hw.1, hw.2]
                  simp [rs.length]
                rw [e1]
                exact rs
              · exact (Post.step k TT).tup S3 (rs.cut l w) hp
            | lst ds =>
              cases h4
              obtain ⟨q, vs, rfl, t, rs⟩ := R3
              exact .inl ⟨q, vs, rfl, t.sq, fun p hp => (Post.step k TT).lst S3 (rs.cut l w) hp⟩
            | obj n =>
              obtain ⟨ds, hd, rfl⟩ := slD_obj h4
              obtain ⟨q, vs, rfl, hs, _, rs⟩ := obj_items S3 hd R3
              exact .inl ⟨q, vs, rfl, .of hs, fun p hp => (Post.step k TT).lst S3 (rs.cut l w) hp⟩
            | _ => cases h4
          · cases e
        · cases e
      · cases e
    · cases e

/-! ### methods of lists -/
theorem post_put {K : KW} {ρ : Rg} {H : Hp} {st : Store} {Q : VK} {n : Nat} {ds : List D} {a : Addr} {vs : List V} (p : Post K ρ H .non (st.set n (.lst ds)) Q) (S : SR K ρ st H) (hn : ρ.ids[n]? = some a) (r : RDs K ρ H ds vs) : Q .non (upd H a (.lst vs)) :=
  p ρ _ _ (Step.put S (List.mem_of_getElem? hn)) (S.put hn r) rfl
/-- a method of a thing whose type is known when it is there -/
structure MetV (X : Cx) (x : V) (H : Hp) (name : Str) (id : String) : Prop where
  ex : ∃ T : String, PySem.PlainAttrs T ∧ PySem.Slot T name id ∧ typeOf (.builtin id) = pure (.type "method_descriptor") ∧
    ∀ (pins : List (Addr × Obj)) (σ : L2.St) (s : Shared) (v : Value), Inv X pins σ H s → RelV x v → s.TypeIs v T ∧ ∀ b, v = .ref b → ∃ ob, s.heap.get? b = some ob ∧ ob.dict = none
theorem metV_list {H : Hp} {p : Addr} {vs : List V} {name : Str} {id : String} (sl : PySem.Slot "list" name id) (ty : typeOf (.builtin id) = pure (.type "method_descriptor")) (h : SqL X.K H p vs) : MetV X (.ref p) H name id :=
  ⟨"list", PySem.F.plainAttrs_list, sl, ty, fun pins σ s v I r => tyV_is I r (.inl ⟨rfl, vs, h⟩)⟩
theorem metV_dict {H : Hp} {ρ : Rg} {p : Addr} {kvs : List (D × D)} {m : Md} {name : Str} {id : String} (sl : PySem.Slot "dict" name id) (ty : typeOf (.builtin id) = pure (.type "method_descriptor")) (h : Dv X.kw ρ H p kvs m) : MetV X (.ref p) H name id :=
  ⟨"dict", PySem.F.plainAttrs_dict, sl, ty, fun pins σ s v I r => by
    obtain rfl : v = .ref p := r
    exact dv_type I h⟩
def tMeth (X : Cx) (name : Str) (to : TE) (t : TA) : TE := fun σ H Q => to σ H fun x H1 => ∃ id r, MetV X x H1 name id ∧ MtR X id r ∧ t σ H1 fun xs H2 => r x xs H2 Q
theorem pe_meth {o : Expr} {name : Str} {apos cpos : Pos} {to : TE} {t : TA} (ho : PE X o to) (ha : PA X (e :: es) t)
    (hbase : attributeBase o name X.env (eval o X.env) = eval o X.env)
    (hfew : ((backTo cpos (starEach (e :: es) X.env)).all (fun x => !x.1) && (backToKw cpos (keywordEach [] X.env)).all (fun x => x.1.isSome)
      && decide ((e :: es).length + ([] : List Keyword).length + (if ([] : List Keyword).isEmpty then 0 else 1) < 30)) = true)
    (hline : (apos.endLine == cpos.line) = true) (hs : starEach (e :: es) X.env = (false, eval e X.env) :: starEach es X.env) (hplain : (backTo cpos (starEach es X.env)).any (·.1) = false) :
    PE X (.Call (.Attribute o name apos) (e :: es) [] cpos) (tMeth X name to t) := by
  refine ⟨fun pins s σ H Q I h => ?_⟩
  refine PySem.wpAny_Call_method_late hbase hfew hline rfl (thn (ho.run pins s σ H _ I h) fun v s1 ⟨x, H1, I1, r1, id, r, ⟨T, pa, slot, hty, k⟩, hm, q1⟩ => ?_)
  obtain ⟨h1, h2⟩ := k pins σ s1 v I1 r1
  refine ⟨T, id, pa, slot, hty, h1, h2, ?_⟩
  have hA := ha.run cpos pins s1 σ H1 _ I1 q1
  rw [hs] at hA ⊢
  refine PySem.Calls.callWith_builtin (by show (false || (backTo cpos (starEach es X.env)).any (·.1)) = false; rw [hplain] <;> rfl) (PySem.Calls.evalArgs_plain ?_)
  exact thn hA fun us s2 ⟨vs, H2, I2, r2, q2⟩ => hm pins s2 σ H2 x vs v us Q I2 r1 r2 q2
/-- list.extend, any list -/
theorem mt_extendL : MtR X "list.extend" fun x vs H Q => ∃ l b xs zs ρ, x = .ref l ∧ vs = [.ref b] ∧ H l = some (.lst xs) ∧ LstAt X.kw ρ H b zs ∧ xs.length + zs.length ≤ sizeLine ∧ Q .non (upd H l (.lst (xs ++ zs))) := by
  intro pins s σ H x vs v us Q I rx rv h
  obtain ⟨l, b, xs, zs, ρ, rfl, rfl, hH, hB, hz, q⟩ := h
  cases rx
  obtain ⟨u, rfl, ru⟩ := rv.one
  cases ru
  obtain ⟨z, its, n, r, hl, e⟩ := I.lstM hH
  obtain ⟨its2, n2, r2, e2⟩ : ∃ its2 n2, Vals zs its2 ∧ s.heap.get? b = some { cls := .type "list", data := .seq its2.toArray n2 } := by
    rcases hB with ⟨hB, _⟩ | ⟨⟨hB | ⟨_, hB⟩⟩ | ⟨o, its, n, hk, hc, hd, hs, _, r⟩, hsl⟩
    · obtain ⟨z, its, n, r, e⟩ := hB.ok I.hok
      exact ⟨its, n, r, e⟩
    · cases hB
    · cases hB
    · have hsl := hsl o hk
      have he := I.kIn b o hk
      obtain ⟨oc, od, dt, osl⟩ := o
      simp only at hc hd hs hsl
      subst hc hd hs hsl
      exact ⟨its.toList, n, r, by simpa using he⟩
  have hl2 := r2.length
  have hsz : its.toArray.size + its2.toArray.size ≤ sizeLine := by rw [List.size_toArray, List.size_toArray]; omega
  have hlong : ¬ (!its.toArray.isEmpty && Builtin.List.listTooLong (its.toArray.size + its2.toArray.size)) = true := by
    rw [notLongL hsz, Bool.and_false]
    exact Bool.false_ne_true
  refine call_meets PySem.F.slot_list_extend ⟨_, e, rfl⟩ PySem.F.entry_list_extend (PySem.F.args_list_extend_2 _ _)
    (AutoSeq1.list_extend_list_list_0 l its.toArray n b its2.toArray n2 hlong (by rw [List.size_toArray]; omega) (by omega)) ⟨e, e2, ?_⟩
  refine ⟨.non, _, I.lset (its' := its ++ its2) hH e (by simp) (r.append r2) ?_, rfl, q⟩
  rw [List.length_append]
  omega
theorem findIdx_spec {α : Type} (p : α → Bool) : ∀ (l : List α) (j : Nat), l.findIdx? p = some j → (∃ z, l[j]? = some z ∧ p z = true) ∧ ∀ m z, m < j → l[m]? = some z → p z = false
  | [], j, h => by cases h
  | x :: l, j, h => by
    rw [List.findIdx?_cons] at h
    by_cases c : p x = true
    · rw [if_pos c] at h
      cases h
      exact ⟨⟨x, rfl, c⟩, fun m z hm => absurd hm (Nat.not_lt_zero _)⟩
    · rw [if_neg c] at h
      obtain ⟨i, hi, rfl⟩ := Option.map_eq_some_iff.mp h
      obtain ⟨⟨z, h1, h2⟩, h3⟩ := findIdx_spec p l i hi
      refine ⟨⟨z, by simpa using h1, h2⟩, fun m z hm hz => ?_⟩
      cases m with
      | zero => simp at hz; subst hz; simpa using c
      | succ m => exact h3 m z (by omega) (by simpa using hz)
theorem pd_mth {m : MT} {o : Expr} {nm : Str} {ap cp : Pos} (hu : X.A.units + 65 < cLine) (hx : m.name = nm) (ho : PE X o (tD X.kw (ev T x))) (hb : baseOk o = true) (ha : PA X (e :: es) (tDA X.kw (evs T xs))) (hs : noStars (e :: es) = true) (hl : (ap.endLine == cp.line) = true) (hn : es.length < 20) :
    PE X (.Call (.Attribute o nm ap) (e :: es) [] cp) (tD X.kw (ev T (.mth m x xs))) := by
  subst hx
  have s1 := star_cons (env := X.env) hs
  have s2 : noStars es = true := by unfold noStars at hs; exact (Bool.and_eq_true_iff.mp hs).2
  have s3 := star_plain (env := X.env) (pos := cp) s2
  have few : ((backTo cp (starEach (e :: es) X.env)).all (fun x => !x.1) && (backToKw cp (keywordEach [] X.env)).all (fun x => x.1.isSome)
      && decide ((e :: es).length + ([] : List Keyword).length + (if ([] : List Keyword).isEmpty then 0 else 1) < 30)) = true := by
    rw [star_few hs]
    have : (e :: es).length + ([] : List Keyword).length + (if ([] : List Keyword).isEmpty then 0 else 1) < 30 := by simp; omega
    simp [backToKw, keywordEach, this]
    omega
  have key : ∀ {env st r st'}, ev T (.mth m x xs) env st = some (r, st') → ∃ u st1 ds st2, ev T x env st = some (u, st1) ∧ m.ok st1 u = true ∧ evs T xs env st1 = some (ds, st2) ∧ m.ev st2 u ds = some (r, st') := by
    intro env st r st' e
    unfold ev at e
    split at e
    · rename_i u st1 h1
      split at e
      · rename_i ok
        split at e
        · rename_i ds st2 h2
          exact ⟨u, st1, ds, st2, h1, ok, h2, e⟩
        · cases e
      · cases e
    · cases e
  refine PE.imp (pe_meth ho ha (base_ok hb) few hl s1 s3) fun σ H Q ⟨ρ, st, env, r, st', S, E, e, k⟩ => ?_
  obtain ⟨u, st1, ds, st2, h1, ok, h2, e⟩ := key e
  refine ⟨ρ, st, env, _, _, S, E, h1, fun ρ1 v1 H1 T1 S1 R1 => ?_⟩
  cases m with
  | append =>
    obtain ⟨xs0, hx0⟩ := Option.isSome_iff_exists.mp (show (listD st1 u).isSome = true from ok)
    obtain ⟨p0, vs0, rfl, hs0, _⟩ := list_ok S1 hx0 R1
    have hm : ∃ n d xs', u = .obj n ∧ ds = [d] ∧ st2[n]? = some (.lst xs') ∧ xs'.length < sizeLine ∧ r = .non ∧ st' = st2.set n (.lst (xs' ++ [d])) := by
      change appendD st2 u ds = some (r, st') at e
      unfold appendD at e
      split at e
      · split at e
        · rename_i xs' h3
          split at e
          · rename_i hz
            cases e
            exact ⟨_, _, xs', rfl, rfl, h3, of_decide_eq_true hz, rfl, rfl⟩
          · cases e
        · cases e
      · cases e
    obtain ⟨n, d, xs', rfl, rfl, h3, hz, rfl, rfl⟩ := hm
    refine ⟨"list.append", rAppend, metV_list PySem.F.slot_list_append PySem.F.type_list_append hs0, mt_append, ρ1, st1, env, _, _, S1, E.mono T1, h2, fun ρ2 vs H2 T2 S2 R2 => ?_⟩
    obtain ⟨a', ws, e1, hv, hn2, rs⟩ := obj_items S2 h3 (RD.mono T2 _ _ R1)
    cases e1
    obtain ⟨v, rfl, rv⟩ := R2.one
    refine ⟨p0, ws, v, rfl, rfl, hv, by rw [rs.length]; exact hz, ?_⟩
    exact post_put (Post.step k (T1.trans T2)) S2 hn2 (rs.append ⟨v, [], rfl, rv, rfl⟩)
  | extend =>
    obtain ⟨xs0, hx0⟩ := Option.isSome_iff_exists.mp (show (listD st1 u).isSome = true from ok)
    obtain ⟨p0, vs0, rfl, hs0, _⟩ := list_ok S1 hx0 R1
    have hm : ∃ n es' xs', u = .obj n ∧ ds = [.lst es'] ∧ st2[n]? = some (.lst xs') ∧ xs'.length + es'.length ≤ sizeLine ∧ r = .non ∧ st' = st2.set n (.lst (xs' ++ es')) := by
      change extendD st2 u ds = some (r, st') at e
      unfold extendD at e
      split at e
      · split at e
        · rename_i xs' h3
          split at e
          · rename_i hz
            cases e
            exact ⟨_, _, xs', rfl, rfl, h3, of_decide_eq_true hz, rfl, rfl⟩
          · cases e
        · cases e
      · cases e
    obtain ⟨n, es', xs', rfl, rfl, h3, hz, rfl, rfl⟩ := hm
    refine ⟨"list.extend", _, metV_list PySem.F.slot_list_extend PySem.F.type_list_extend hs0, mt_extendL, ρ1, st1, env, _, _, S1, E.mono T1, h2, fun ρ2 vs H2 T2 S2 R2 => ?_⟩
    obtain ⟨a', ws, e1, hv, hn2, rs⟩ := obj_items S2 h3 (RD.mono T2 _ _ R1)
    cases e1
    obtain ⟨v, rfl, b, zs, rfl, tz, rz⟩ := R2.one
    refine ⟨p0, b, ws, zs, ρ2, rfl, rfl, hv, tz, by rw [rs.length, rz.length]; exact hz, ?_⟩
    exact post_put (Post.step k (T1.trans T2)) S2 hn2 (rs.append rz)
  | get =>
    obtain ⟨mk, hx0⟩ := Option.isSome_iff_exists.mp (show (dictD st1 u).isSome = true from ok)
    obtain ⟨m0, kvs0⟩ := mk
    obtain ⟨p0, rfl, D0⟩ := dict_ok S1 R1 hx0
    refine ⟨"dict.get", _, metV_dict PySem.F.slot_dict_get PySem.F.type_dict_get D0, mt_get (by omega), ρ1, st1, env, _, _, S1, E.mono T1, h2, fun ρ2 vs H2 T2 S2 R2 => ?_⟩
    change dgetD st2 u ds = some (r, st') at e
    unfold dgetD at e
    split at e
    · split at e
      · rename_i m' kvs hd
        split at e
        · rename_i ok2
          cases e
          obtain ⟨p1, e1, D1⟩ := dict_ok S2 (RD.mono T2 _ _ R1) hd
          cases e1
          obtain ⟨v, rfl, rv⟩ := R2.one
          exact ⟨ρ2, p0, kvs, m', _, v, rfl, D1, rv, ok2, .inr ⟨rfl, fun w rw' => k ρ2 w H2 (T1.trans T2) S2 rw'⟩⟩
        · cases e
      · cases e
    · split at e
      · rename_i m' kvs hd
        split at e
        · rename_i ok2
          cases e
          obtain ⟨p1, e1, D1⟩ := dict_ok S2 (RD.mono T2 _ _ R1) hd
          cases e1
          obtain ⟨v, v', rfl, rv, rv'⟩ := R2.two
          exact ⟨ρ2, p0, kvs, m', _, v, rfl, D1, rv, ok2, .inl ⟨_, v', rfl, rv', fun w rw' => k ρ2 w H2 (T1.trans T2) S2 rw'⟩⟩
        · cases e
      · cases e
    · cases e
  | index =>
    obtain ⟨xs0, hx0⟩ := Option.isSome_iff_exists.mp (show (listD st1 u).isSome = true from ok)
    obtain ⟨p0, vs0, rfl, hs0, _⟩ := list_ok S1 hx0 R1
    refine ⟨"list.index", _, metV_list PySem.F.slot_list_index PySem.F.type_list_index hs0, mt_indexD hu, ρ1, st1, env, _, _, S1, E.mono T1, h2, fun ρ2 vs H2 T2 S2 R2 => ?_⟩
    change mindexD st2 u ds = some (r, st') at e
    unfold mindexD at e
    split at e
    · rename_i d
      split at e
      · rename_i ys hy
        split at e
        · rename_i j hj
          cases e
          obtain ⟨v, rfl, rv⟩ := R2.one
          have R3 := RD.mono T2 _ _ R1
          obtain ⟨p1, ws, e1, hs1, rs1⟩ := list_ok S2 hy R3
          cases e1
          unfold indexD at hj
          split at hj
          · rename_i ps q hp hq
            split at hj
            · rename_i hk
              rw [Bool.and_eq_true] at hk
              obtain ⟨⟨z, z1, z2⟩, z3⟩ := findIdx_spec _ _ _ hj
              exact ⟨p0, v, q, ps, j, z, rfl, rfl, toP_ok S2 hp R3, toP_ok S2 hq rv, hk.1, hk.2, z1, z2, fun m z' => z3 m z', k ρ2 _ H2 (T1.trans T2) S2 rfl⟩
            · cases hj
          · cases hj
        · cases e
      · cases e
    · cases e

/-! ### what is walked -/
def WalkD (K : KW) (ρ0 : Rg) (H0 : Hp) (J : It) (src : Src) : Prop :=
  src.items.length ≤ sizeLine ∧ ∀ ρ1 H1 st1, StepW ρ0 H0 ρ1 H1 → SR K ρ1 st1 H1 → src.ok st1 → J.stop src.items.length H1 ∧
    ∀ (i : Nat) d, src.items[i]? = some d → J.go i H1 ∧ ∀ x H2, J.yld i H1 x H2 → Step ρ1 H1 ρ1 H2 ∧ SR K ρ1 st1 H2 ∧ RD K ρ1 H2 d x
abbrev EvI := Envr → Store → Option (Src × Store)
def tDI (K : KW) (f : EvI) : TI := fun σ H R => ∃ ρ st env src st', SR K ρ st H ∧ ER K ρ H env σ ∧ f env st = some (src, st') ∧
  ∀ ρ' H' J, Step ρ H ρ' H' → SR K ρ' st' H' → WalkD K ρ' H' J src → src.ok st' → R J H'
theorem walk_tupD {K : KW} {ρ : Rg} {H : Hp} {q : Addr} {vs : List V} {ds : List D} (t : TupAt K ρ H q vs) (r : RDs K ρ H ds vs) (hz : vs.length ≤ sizeLine) : WalkD K ρ H (Itt K q) ⟨ds, none⟩ := by
  refine ⟨by rw [← r.length]; exact hz, fun ρ1 H1 st1 T1 S1 _ => ⟨⟨vs, (t.monoW T1).sq, by rw [r.length]; exact Nat.le_refl _⟩, fun i d hd => ?_⟩⟩
  obtain ⟨v, hv, rv⟩ := r.get hd
  refine ⟨⟨vs, v, (t.monoW T1).sq, hv⟩, fun x H2 y => ?_⟩
  obtain ⟨rfl, y⟩ := y
  have e := y vs (t.monoW T1).sq
  rw [hv] at e; cases e
  exact ⟨.refl, S1, RD.monoW T1 _ _ rv⟩
theorem walk_lstD {K : KW} {ρ : Rg} {H : Hp} {q : Addr} {vs : List V} {ds : List D} (t : LstAt K ρ H q vs) (r : RDs K ρ H ds vs) (hz : vs.length ≤ sizeLine) : WalkD K ρ H (Itl K q) ⟨ds, none⟩ := by
  refine ⟨by rw [← r.length]; exact hz, fun ρ1 H1 st1 T1 S1 _ => ⟨⟨vs, (t.monoW T1).sq, by rw [r.length]; exact Nat.le_refl _⟩, fun i d hd => ?_⟩⟩
  obtain ⟨v, hv, rv⟩ := r.get hd
  refine ⟨⟨vs, v, (t.monoW T1).sq, hv⟩, fun x H2 y => ?_⟩
  obtain ⟨rfl, y⟩ := y
  have e := y vs (t.monoW T1).sq
  rw [hv] at e; cases e
  exact ⟨.refl, S1, RD.monoW T1 _ _ rv⟩
theorem walk_objD {ρ : Rg} {H : Hp} {q : Addr} {n : Nat} {ds : List D} (hn : ρ.ids[n]? = some q) (hz : ds.length ≤ sizeLine) : WalkD X.kw ρ H (Itl X.K q) ⟨ds, some n⟩ := by
  refine ⟨hz, fun ρ1 H1 st1 T1 S1 ok => ?_⟩
  have hr : RD X.kw ρ1 H1 (.obj n) (.ref q) := RD.monoW T1 _ _ ⟨q, rfl, hn⟩
  obtain ⟨a', vs, e, hv, _, r⟩ := obj_items S1 ok hr
  cases e
  refine ⟨⟨vs, .of hv, by rw [r.length]; exact Nat.le_refl _⟩, fun i d hd => ?_⟩
  obtain ⟨v, hv2, rv⟩ := r.get hd
  refine ⟨⟨vs, v, .of hv, hv2⟩, fun x H2 y => ?_⟩
  obtain ⟨rfl, y⟩ := y
  have e := y vs (.of hv)
  rw [hv2] at e; cases e
  exact ⟨.refl, S1, rv⟩
theorem id_val {tg : Expr} (h : PE X a (tD X.kw (ev T x))) : PI X tg a (tDI X.kw (evI T (.val x))) := by
  refine ⟨fun pins s σ H R I ⟨ρ, st, env, src, st', S, E, e, k⟩ => ?_⟩
  have go : ∀ {d : D}, ev T x env st = some (d, st') → wpAny (model X.prog X.w) X.A (eval a X.env) (EP X pins σ fun v H1 => ∃ ρ1, Step ρ H ρ1 H1 ∧ SR X.kw ρ1 st' H1 ∧ RD X.kw ρ1 H1 d v) X.xe s :=
    fun he => h.run pins s σ H _ I ⟨ρ, st, env, _, st', S, E, he, fun ρ1 v H1 T1 S1 R1 => ⟨ρ1, T1, S1, R1⟩⟩
  unfold evI at e
  split at e
  · rename_i ds st1 he
    cases e
    refine thn (go he) fun v s1 ⟨w, H1, I1, rw_, ρ1, T1, S1, q, vs, ew, t, r⟩ => ?_
    subst ew
    cases rw_
    obtain ⟨its, rv, p, hz⟩ := I1.tuple t.sq
    exact wpAny_pyIter_tuple p (pi_one (tk := s1.toks) I1 _ (turn_tuple q _) ⟨_, Heap.get?_push_size _ rfl, rfl, rfl⟩ (k ρ1 H1 _ T1 S1 (walk_tupD t r hz) trivial))
  · rename_i ds st1 he
    cases e
    refine thn (go he) fun v s1 ⟨w, H1, I1, rw_, ρ1, T1, S1, q, vs, ew, t, r⟩ => ?_
    subst ew
    cases rw_
    obtain ⟨its, rv, p, hz⟩ := I1.list t.sq
    exact wpAny_pyIter_list p.isList (pi_one (tk := s1.toks) I1 _ (turn_list q _) ⟨_, Heap.get?_push_size _ rfl, rfl, rfl⟩ (k ρ1 H1 _ T1 S1 (walk_lstD t r hz) trivial))
  · rename_i n st1 he
    split at e
    · rename_i ds hn
      cases e
      refine thn (go he) fun v s1 ⟨w, H1, I1, rw_, ρ1, T1, S1, q, ew, hq⟩ => ?_
      subst ew
      cases rw_
      obtain ⟨a', vs, e1, hv, _, r⟩ := obj_items S1 hn ⟨q, rfl, hq⟩
      cases e1
      obtain ⟨its, rv, p, hz⟩ := I1.list (SqL.of hv)
      exact wpAny_pyIter_list p.isList (pi_one (tk := s1.toks) I1 _ (turn_list q _) ⟨_, Heap.get?_push_size _ rfl, rfl, rfl⟩ (k ρ1 H1 _ T1 S1 (walk_objD hq (by rw [← r.length]; exact hz)) hn))
    · cases e
  · cases e
end
end Bo

set_option Elab.async false
set_option linter.all false
set_option maxRecDepth 100000
set_option maxHeartbeats 4000000
/-! Bo, part 8: ranges, enumerate, targets, comprehensions; the expressions' theorem. -/
namespace Bo
open PySem PySem.Spec L2

section
variable {X : Cx} {T : Tab} {L : Nat} {a b c e : Expr} {es : List Expr} {pos p : Pos} {x y z : CE} {xs : CEs}
/-! ### range, enumerate -/
theorem walk_rngD {K : KW} {ρ : Rg} {H : Hp} {i j : Int} (hz : (j - i).toNat ≤ sizeLine) : WalkD K ρ H (Itr i (j - i).toNat) ⟨rngD i j, none⟩ := by
  have hl : (rngD i j).length = (j - i).toNat := by simp [rngD]
  refine ⟨by show (rngD i j).length ≤ _; rw [hl]; exact hz, fun ρ1 H1 st1 T1 S1 _ => ⟨by show (j - i).toNat ≤ (rngD i j).length; rw [hl]; exact Nat.le_refl _, fun k d hd => ?_⟩⟩
  have hk : k < (j - i).toNat := by rw [← hl]; exact (List.getElem?_eq_some_iff.mp hd).1
  refine ⟨hk, fun x H2 y => ?_⟩
  obtain ⟨rfl, rfl⟩ := y
  simp only [rngD, List.getElem?_map] at hd
  rw [List.getElem?_range hk] at hd
  cases hd
  exact ⟨.refl, S1, rfl⟩
theorem id_rng1 {tg : Expr} (G : Good T L X) (hg : Gl X "range") (ha : PE X a (tD X.kw (ev T x))) (hs : noStars [a] = true) : PI X tg (.Call (.Name "range" p) [a] [] pos) (tDI X.kw (evI T (.rng1 x))) := by
  have hp := pi_range1 (tg := tg) (p := p) (pos := pos) hg (G.bi _ (by decide +kernel)) (ad_cons ha ad_nil hs) (star_cons hs)
  refine ⟨fun pins s σ H R I ⟨ρ, st, env, src, st', S, E, e, k⟩ => hp.run pins s σ H R I ?_⟩
  unfold evI at e
  split at e
  · rename_i j st1 h1
    split at e
    · rename_i hr
      cases e
      simp only [Bool.and_eq_true, rngOk, lineOk, decide_eq_true_eq] at hr
      refine ⟨ρ, st, env, [.int j], st', S, E, by simp [evs, h1], fun ρ1 vs H1 T1 S1 R1 => ?_⟩
      obtain ⟨v, rfl, rv⟩ := R1.one
      cases rv
      refine ⟨j, rfl, hr.1.1, hr.1.2, ?_⟩
      have ej : (j - 0).toNat = j.toNat := by simp
      have w := walk_rngD (K := X.kw) (ρ := ρ1) (H := H1) (i := 0) (j := j) (by rw [ej]; exact hr.2)
      rw [ej] at w
      exact k ρ1 H1 _ T1 S1 w trivial
    · cases e
  · cases e
theorem id_rng2 {tg : Expr} (G : Good T L X) (hg : Gl X "range") (ha : PE X a (tD X.kw (ev T x))) (hb : PE X b (tD X.kw (ev T y))) (hs : noStars [a, b] = true) : PI X tg (.Call (.Name "range" p) [a, b] [] pos) (tDI X.kw (evI T (.rng2 x y))) := by
  have hs2 : noStars [b] = true := by simp only [noStars, Bool.and_eq_true] at hs ⊢; exact ⟨hs.2.1, trivial⟩
  have hp := pi_range2 (tg := tg) (p := p) (pos := pos) hg (G.bi _ (by decide +kernel)) (ad_cons ha (ad_cons hb ad_nil hs2) hs) (by rw [star_cons hs, star_cons hs2]; rfl) (star_cons hs2)
  refine ⟨fun pins s σ H R I ⟨ρ, st, env, src, st', S, E, e, k⟩ => hp.run pins s σ H R I ?_⟩
  unfold evI at e
  split at e
  · rename_i i st1 h1
    split at e
    · rename_i j st2 h2
      split at e
      · rename_i hr
        cases e
        simp only [Bool.and_eq_true, rngOk, lineOk, decide_eq_true_eq] at hr
        refine ⟨ρ, st, env, [.int i, .int j], st', S, E, by simp [evs, h1, h2], fun ρ1 vs H1 T1 S1 R1 => ?_⟩
        obtain ⟨v, v', rfl, rv, rv'⟩ := R1.two
        cases rv
        cases rv'
        exact ⟨i, j, rfl, ⟨hr.1.1.1, hr.1.1.2, hr.1.2.1, hr.1.2.2⟩, k ρ1 H1 _ T1 S1 (walk_rngD hr.2) trivial⟩
      · cases e
    · cases e
  · cases e
theorem enumD_get {ds : List D} {i : Nat} {d : D} (h : (enumD ds)[i]? = some d) : ∃ d', ds[i]? = some d' ∧ d = .tup [.int (i : Nat), d'] := by
  unfold enumD at h
  rw [List.getElem?_zipWith] at h
  cases q : ds[i]? with
  | none => rw [q] at h; cases h2 : (List.range ds.length)[i]? <;> simp [h2] at h
  | some d' =>
    have hi := (List.getElem?_eq_some_iff.mp q).1
    rw [List.getElem?_range hi, q] at h
    cases h
    exact ⟨d', rfl, rfl⟩
theorem enumD_len (ds : List D) : (enumD ds).length = ds.length := by simp [enumD]
theorem pair_ok {K : KW} {ρ : Rg} {st : Store} {H : Hp} {t : Addr} {u : D} {w : D} {v v' : V} (S : SR K ρ st H) (hn : H t = none) (r : RD K ρ H u v) (r' : RD K ρ H w v') :
    Step ρ H ρ (upd H t (.tup [v, v'])) ∧ SR K ρ st (upd H t (.tup [v, v'])) ∧ RD K ρ (upd H t (.tup [v, v'])) (.tup [u, w]) (.ref t) :=
  ⟨Step.laid S hn, S.laid hn, t, _, rfl, .inl ⟨.inl upd_same, S.fresh hn⟩, v, [v'], rfl, RD.mono (Step.laid S hn) _ _ r, v', [], rfl, RD.mono (Step.laid S hn) _ _ r', rfl⟩
theorem walk_enumT {K : KW} {ρ : Rg} {H : Hp} {q : Addr} {vs : List V} {ds : List D} (t : TupAt K ρ H q vs) (r : RDs K ρ H ds vs) (hz : vs.length ≤ sizeLine) : WalkD K ρ H (IteT K q) ⟨enumD ds, none⟩ := by
  refine ⟨by show (enumD ds).length ≤ _; rw [enumD_len, ← r.length]; exact hz, fun ρ1 H1 st1 T1 S1 _ => ⟨⟨vs, (t.monoW T1).sq, by show vs.length = (enumD ds).length; rw [enumD_len, r.length]⟩, fun i d hd => ?_⟩⟩
  obtain ⟨d', hd', rfl⟩ := enumD_get hd
  obtain ⟨v, hv, rv⟩ := r.get hd'
  refine ⟨⟨vs, v, (t.monoW T1).sq, hv⟩, fun x H2 y => ?_⟩
  obtain ⟨t', x', rfl, hn, rfl, y⟩ := y
  have e := y vs (t.monoW T1).sq
  rw [hv] at e; cases e
  exact pair_ok S1 hn rfl (RD.monoW T1 _ _ rv)
theorem walk_enumL {K : KW} {ρ : Rg} {H : Hp} {q : Addr} {vs : List V} {ds : List D} (t : LstAt K ρ H q vs) (r : RDs K ρ H ds vs) (hz : vs.length ≤ sizeLine) : WalkD K ρ H (Ite K q) ⟨enumD ds, none⟩ := by
  refine ⟨by show (enumD ds).length ≤ _; rw [enumD_len, ← r.length]; exact hz, fun ρ1 H1 st1 T1 S1 _ => ⟨⟨vs, (t.monoW T1).sq, by show vs.length ≤ (enumD ds).length; rw [enumD_len, r.length]; exact Nat.le_refl _⟩, fun i d hd => ?_⟩⟩
  obtain ⟨d', hd', rfl⟩ := enumD_get hd
  obtain ⟨v, hv, rv⟩ := r.get hd'
  refine ⟨⟨vs, v, (t.monoW T1).sq, hv⟩, fun x H2 y => ?_⟩
  obtain ⟨t', x', rfl, hn, rfl, y⟩ := y
  have e := y vs (t.monoW T1).sq
  rw [hv] at e; cases e
  exact pair_ok S1 hn rfl (RD.monoW T1 _ _ rv)
theorem id_enum {elts : List Expr} {kk : Nat} {tpos : Pos} (G : Good T L X) (hg : Gl X "enumerate") (ha : PE X a (tD X.kw (ev T x))) (hs : noStars [a] = true) : PI X (.Tuple elts kk tpos) (.Call (.Name "enumerate" p) [a] [] pos) (tDI X.kw (evI T (.enum x))) := by
  refine ⟨fun pins s σ H R I ⟨ρ, st, env, src, st', S, E, e, k⟩ => ?_⟩
  have pa := ad_cons ha ad_nil hs
  have go : ∀ {d : D}, ev T x env st = some (d, st') → wpAny (model X.prog X.w) X.A (spliced (backTo pos (starEach [a] X.env))) (AP X pins σ fun vs H1 => ∃ v ρ1, vs = [v] ∧ Step ρ H ρ1 H1 ∧ SR X.kw ρ1 st' H1 ∧ RD X.kw ρ1 H1 d v) X.xe s :=
    fun he => pa.run pos pins s σ H _ I ⟨ρ, st, env, _, st', S, E, by simp [evs, he], fun ρ1 vs H1 T1 S1 R1 => let ⟨v, e1, r1⟩ := R1.one; ⟨v, ρ1, e1, T1, S1, r1⟩⟩
  refine PyProof.Rows.Call_ (ld_blt I hg (G.bi _ (by decide +kernel)) PyProof.Rows.boot_enumerate (PyProof.Rows.callWith_type1 ?_ (star_cons hs) rfl))
  unfold evI at e
  split at e
  · rename_i ds st1 he
    cases e
    refine thn (go he) fun us s1 ⟨vs, H1, I1, r1, v, ρ1, ev_, T1, S1, q, ws, ew, t, r⟩ => ?_
    subst ev_ ew
    obtain ⟨u, rfl, ru⟩ := r1.one
    cases ru
    obtain ⟨its, rv, p', hz⟩ := I1.tuple t.sq
    refine enum_call (begins_tuple q its.toArray) p' fun h' he hit hk => wpAny_pyIter_enum he ?_
    have I2 : Inv X pins σ H1 { s1 with heap := h' } := I1.kept (t' := s1.toks) hk
    refine ⟨s1.heap.objs.size + 1, [s1.heap.objs.size + 1, s1.heap.objs.size], _, IteT X.K q, H1, rfl, I2, enumT_turn q _ _,
      ⟨⟨.none, he⟩, ⟨_, hit, rfl, rfl⟩, Nat.succ_ne_self _⟩, fun b hb => ?_, k ρ1 H1 _ T1 S1 (walk_enumT t r hz) trivial⟩
    have hle : s1.heap.objs.size ≤ b := by
      have h2 : b = s1.heap.objs.size + 1 ∨ b = s1.heap.objs.size := by simpa using hb
      rcases h2 with h2 | h2
      · rw [h2]; exact Nat.le_succ _
      · rw [h2]; exact Nat.le_refl _
    exact I1.fpOk hle (I1.hok.fresh hle)
  · rename_i ds st1 he
    cases e
    refine thn (go he) fun us s1 ⟨vs, H1, I1, r1, v, ρ1, ev_, T1, S1, q, ws, ew, t, r⟩ => ?_
    subst ev_ ew
    obtain ⟨u, rfl, ru⟩ := r1.one
    cases ru
    obtain ⟨its, rv, p', hz⟩ := I1.list t.sq
    refine call_enumerate_list p'.isList fun h' he hit hsz hk => wpAny_pyIter_enum he ?_
    have I2 : Inv X pins σ H1 { s1 with heap := h' } := I1.kept (t' := s1.toks) hk
    refine ⟨s1.heap.objs.size + 1, [s1.heap.objs.size + 1, s1.heap.objs.size], _, Ite X.K q, H1, rfl, I2, turn_enum q _ _,
      ⟨⟨.none, he⟩, hit, Nat.succ_ne_self _⟩, fun b hb => ?_, k ρ1 H1 _ T1 S1 (walk_enumL t r hz) trivial⟩
    have hle : s1.heap.objs.size ≤ b := by
      have h2 : b = s1.heap.objs.size + 1 ∨ b = s1.heap.objs.size := by simpa using hb
      rcases h2 with h2 | h2
      · rw [h2]; exact Nat.le_succ _
      · rw [h2]; exact Nat.le_refl _
    exact I1.fpOk hle (I1.hok.fresh hle)
  · cases e

/-! ### targets -/
def tDG (K : KW) (t : TGt) : TG := fun v σ H Q => ∃ ρ env d env', ER K ρ H env σ ∧ RD K ρ H d v ∧ asgT t d env = some env' ∧
  ∀ σ', ER K ρ H env' σ' → σ'.length = σ.length → (∀ i, i ∉ t.slots → σ'[i]? = σ[i]?) → Q σ' H
def tDGs (K : KW) (ts : TGs) : L2.TGs := fun vs σ H Q => ∃ ρ env ds env', ER K ρ H env σ ∧ RDs K ρ H ds vs ∧ asgTs ts ds env = some env' ∧
  ∀ σ', ER K ρ H env' σ' → σ'.length = σ.length → (∀ i, i ∉ ts.slots → σ'[i]? = σ[i]?) → Q σ' H

theorem ER.set {K : KW} {ρ : Rg} {H : Hp} {env : Envr} {σ : L2.St} {i : Nat} {d : D} {v : V} (E : ER K ρ H env σ) (r : RD K ρ H d v) : ER K ρ H (env.set i (some d)) (σ.set i (some v)) := by
  refine ⟨by simp [E.len], fun j d' h => ?_⟩
  by_cases hj : i = j
  · subst hj
    have hi : i < env.length := by
      have := (List.getElem?_eq_some_iff.mp h).1
      simpa using this
    rw [List.getElem?_set_self hi] at h
    cases h
    exact ⟨v, by rw [List.getElem?_set_self (by rw [← E.len]; exact hi)], r⟩
  · rw [List.getElem?_set_ne hj] at h ⊢
    exact E.at_ j d' h
theorem PG.imp {tg : Expr} {t t' : TG} (h : PG X tg t) (k : ∀ v σ H Q, t' v σ H Q → t v σ H Q) : PG X tg t' :=
  ⟨fun pins s σ H v u Q I r q => h.run pins s σ H v u Q I r (k v σ H Q q)⟩
theorem PGs.imp {ts : List Expr} {t t' : L2.TGs} (h : PGs X ts t) (k : ∀ v σ H Q, t' v σ H Q → t v σ H Q) : PGs X ts t' :=
  ⟨fun pins s σ H v u Q I r q => h.run pins s σ H v u Q I r (k v σ H Q q)⟩
theorem tgs_len : ∀ {ts : TGs} {ds : List D} {env env' : Envr}, asgTs ts ds env = some env' → ds.length = ts.len
  | .nil, [], _, _, _ => rfl
  | .nil, _ :: _, _, _, h => by simp [asgTs] at h
  | .cons t ts, [], _, _, h => by simp [asgTs] at h
  | .cons t ts, d :: ds, env, env', h => by
    simp only [asgTs] at h
    split at h
    · simp [TGs.len, tgs_len h]
    · cases h
theorem asg_of {env : Env} : ∀ {es : List Expr}, noStars es = true → assignEach es env = es.map fun e => (false, assign e env)
  | [], _ => rfl
  | e :: es, h => by
    unfold noStars at h
    rw [Bool.and_eq_true] at h
    have ih := asg_of (env := env) h.2
    cases e <;> first | (simp only [assignEach, List.map_cons, ih]; done) | exact absurd h.1 (by simp [noStar])
theorem asg_cons {env : Env} {e : Expr} {es : List Expr} (h : noStars (e :: es) = true) : (assignEach (e :: es) env).map (fun x => x.2) = assign e env :: (assignEach es env).map (fun x => x.2) := by
  have h2 : noStars es = true := by unfold noStars at h; exact (Bool.and_eq_true_iff.mp h).2
  rw [asg_of h, asg_of h2]; rfl
theorem asg_none {env : Env} {es : List Expr} (h : noStars es = true) : (assignEach es env).findIdx? (fun x => x.1) = none := by
  rw [asg_of h]
  induction es with
  | nil => rfl
  | cons e es ih =>
    have h2 : noStars es = true := by unfold noStars at h; exact (Bool.and_eq_true_iff.mp h).2
    have q := ih h2
    simp only [List.map_cons, List.findIdx?_cons, q]
    rfl
theorem asg_len {env : Env} {es : List Expr} (h : noStars es = true) : (assignEach es env).length = es.length := by
  rw [asg_of h]; simp
theorem chkTs_star {N : List Str} {sc : Scope} {dfn : Str → Bool} : ∀ {ts : TGs} {es : List Expr}, chkTs dfn N sc ts es = true → noStars es = true
  | .nil, [], _ => rfl
  | .nil, _ :: _, h => by simp [chkTs] at h
  | .cons _ _, [], h => by simp [chkTs] at h
  | .cons t ts, e :: es, h => by
    simp only [chkTs, Bool.and_eq_true] at h
    simp only [noStars, Bool.and_eq_true]
    refine ⟨?_, chkTs_star h.2⟩
    cases e <;> first | rfl | (cases t <;> simp [chkT] at h)
mutual
theorem gd_ok {N : List Str} {sc : Scope} {dfn : Str → Bool} (hc : X.calm = true) (hnd : X.N.Nodup) (hN : N = X.N) (hS : sc = X.env.scope) (hf : ∀ x, dfn x = true → X.fn x = true) : ∀ (t : TGt) (tg : Expr), chkT dfn N sc t tg = true → PG X tg (tDG X.kw t)
  | .nm i, .Name x q, h => by
    subst hN hS
    simp only [chkT, Bool.and_eq_true, Bool.or_eq_true] at h
    have hi := nmIs_ok h.1
    have hl : Loc X.env.scope x ∧ (X.fn x = true ∨ X.env.scope.names.lookup x = some .local) := by
      rcases h.2 with h2 | h2
      · exact ⟨.inl (locL_ok h2), .inr (locL_ok h2)⟩
      · exact ⟨locN_ok h2.2, .inl (hf x h2.1)⟩
    refine PG.imp (pg_name hnd hi hl.1 hl.2) fun v σ H Q ⟨ρ, env, d, env', E, r, e, k⟩ => ?_
    simp only [asgT] at e
    cases e
    exact k _ (E.set r) (by simp) fun j hj => by
      rw [List.getElem?_set_ne (by intro z; exact hj (by simp [TGt.slots, z]))]
  | .tp ts, .Tuple es kk q, h => by
    simp only [chkT] at h
    obtain ⟨hp, hl⟩ := gds_ok hc hnd hN hS hf ts es h
    refine PG.imp (pg_tup (n := es.length) hc hp (asg_len (chkTs_star h)) (asg_none (chkTs_star h))) fun v σ H Q ⟨ρ, env, d, env', E, r, e, k⟩ => ?_
    cases d with
    | tup ds =>
      simp only [asgT] at e
      obtain ⟨a, vs, rfl, t, r⟩ := r
      refine ⟨a, vs, rfl, t.sq, ?_, ρ, env, ds, env', E, r, e, k⟩
      rw [r.length, tgs_len e, hl]
    | _ => simp [asgT] at e
  | .nm _, .BoolOp .., h | .nm _, .NamedExpr .., h | .nm _, .BinOp .., h | .nm _, .UnaryOp .., h | .nm _, .Lambda .., h | .nm _, .IfExp .., h | .nm _, .Dict .., h | .nm _, .Set .., h | .nm _, .ListComp .., h | .nm _, .SetComp .., h | .nm _, .DictComp .., h | .nm _, .GeneratorExp .., h | .nm _, .Await .., h | .nm _, .Yield .., h | .nm _, .YieldFrom .., h | .nm _, .Compare .., h | .nm _, .Call .., h | .nm _, .FormattedValue .., h | .nm _, .JoinedStr .., h | .nm _, .Constant .., h | .nm _, .Attribute .., h | .nm _, .Subscript .., h | .nm _, .Starred .., h | .nm _, .List .., h | .nm _, .Tuple .., h | .nm _, .Slice .., h => by simp [chkT] at h
  | .tp _, .BoolOp .., h | .tp _, .NamedExpr .., h | .tp _, .BinOp .., h | .tp _, .UnaryOp .., h | .tp _, .Lambda .., h | .tp _, .IfExp .., h | .tp _, .Dict .., h | .tp _, .Set .., h | .tp _, .ListComp .., h | .tp _, .SetComp .., h | .tp _, .DictComp .., h | .tp _, .GeneratorExp .., h | .tp _, .Await .., h | .tp _, .Yield .., h | .tp _, .YieldFrom .., h | .tp _, .Compare .., h | .tp _, .Call .., h | .tp _, .FormattedValue .., h | .tp _, .JoinedStr .., h | .tp _, .Constant .., h | .tp _, .Attribute .., h | .tp _, .Subscript .., h | .tp _, .Starred .., h | .tp _, .List .., h | .tp _, .Name .., h | .tp _, .Slice .., h => by simp [chkT] at h
theorem gds_ok {N : List Str} {sc : Scope} {dfn : Str → Bool} (hc : X.calm = true) (hnd : X.N.Nodup) (hN : N = X.N) (hS : sc = X.env.scope) (hf : ∀ x, dfn x = true → X.fn x = true) : ∀ (ts : TGs) (es : List Expr), chkTs dfn N sc ts es = true → PGs X es (tDGs X.kw ts) ∧ ts.len = es.length
  | .nil, [], _ => by
    refine ⟨PGs.imp pgs_nil fun vs σ H Q ⟨ρ, env, ds, env', E, r, e, k⟩ => ?_, rfl⟩
    cases ds with
    | nil =>
      cases r
      simp only [asgTs] at e
      cases e
      exact ⟨rfl, k σ E rfl fun _ _ => rfl⟩
    | cons _ _ => simp [asgTs] at e
  | .nil, _ :: _, h => by simp [chkTs] at h
  | .cons _ _, [], h => by simp [chkTs] at h
  | .cons t ts, tg :: es, h => by
    simp only [chkTs, Bool.and_eq_true] at h
    have h1 := gd_ok hc hnd hN hS hf t tg h.1
    have hst := chkTs_star (show chkTs dfn N sc (.cons t ts) (tg :: es) = true by simp [chkTs, h.1, h.2])
    obtain ⟨h2, hl⟩ := gds_ok hc hnd hN hS hf ts es h.2
    refine ⟨PGs.imp (pgs_cons h1 h2 (asg_cons hst)) fun vs σ H Q ⟨ρ, env, ds, env', E, r, e, k⟩ => ?_, by simp [TGs.len, hl]⟩
    cases ds with
    | nil => simp [asgTs] at e
    | cons d ds =>
      obtain ⟨v, ws, rfl, r1, r2⟩ := r
      simp only [asgTs] at e
      split at e
      · rename_i env1 e1
        refine ⟨v, ws, rfl, ρ, env, d, env1, E, r1, e1, fun σ1 E1 l1 k1 => ⟨ρ, env1, ds, env', E1, r2, e, fun σ2 E2 l2 k2 => k σ2 E2 (l2.trans l1) fun j hj => ?_⟩⟩
        simp only [TGs.slots, List.mem_append, not_or] at hj
        rw [k2 j hj.2, k1 j hj.1]
      · cases e
end

/-! ### comprehensions -/
theorem wipe_get {σ : L2.St} {i : Nat} : ∀ {vs : List Nat}, (wipe σ vs)[i]? = if i ∈ vs then (σ[i]?).map fun _ => none else σ[i]?
  | [] => by simp [wipe]
  | v :: vs => by
    unfold wipe
    by_cases hv : v = i
    · subst hv
      have ih := @wipe_get σ v vs
      by_cases hl : v < (wipe σ vs).length
      · rw [List.getElem?_set_self hl]
        have : v < σ.length := by rw [wipe_length] at hl; exact hl
        simp [List.getElem?_eq_getElem this]
      · have h2 : ¬ v < σ.length := by rw [wipe_length] at hl; exact hl
        rw [List.getElem?_eq_none (by simpa using hl)]
        simp [List.getElem?_eq_none (Nat.le_of_not_lt h2)]
    · rw [List.getElem?_set_ne hv, @wipe_get σ i vs]
      have : (i ∈ v :: vs) ↔ i ∈ vs := by simp [Ne.symm hv]
      simp only [this]
theorem wipe_eq {σ σ' : L2.St} {vs : List Nat} (hl : σ'.length = (wipe σ vs).length) (h : ∀ i, i ∉ vs → σ'[i]? = (wipe σ vs)[i]?) : wipe σ' vs = wipe σ vs := by
  apply List.ext_getElem?
  intro i
  rw [wipe_get]
  by_cases hi : i ∈ vs
  · rw [if_pos hi, wipe_get, if_pos hi]
    rw [wipe_length] at hl
    by_cases h2 : i < σ.length
    · rw [List.getElem?_eq_getElem h2, List.getElem?_eq_getElem (by omega)]; rfl
    · rw [List.getElem?_eq_none (by omega), List.getElem?_eq_none (by omega)]
  · rw [if_neg hi]
    exact h i hi
theorem wipeE_length (env : Envr) : ∀ vs : List Nat, (wipeE env vs).length = env.length
  | [] => rfl
  | v :: vs => by unfold wipeE; rw [List.length_set, wipeE_length env vs]
theorem ER.wipe {K : KW} {ρ : Rg} {H : Hp} {env : Envr} {σ : L2.St} (E : ER K ρ H env σ) : ∀ vs : List Nat, ER K ρ H (wipeE env vs) (L2.wipe σ vs)
  | [] => E
  | v :: vs => by
    have ih := ER.wipe E vs
    unfold wipeE L2.wipe
    refine ⟨by simp [ih.len], fun j d h => ?_⟩
    by_cases hj : v = j
    · subst hj
      have hi : v < (wipeE env vs).length := by
        have := (List.getElem?_eq_some_iff.mp h).1
        simpa using this
      rw [List.getElem?_set_self hi] at h
      cases h
    · rw [List.getElem?_set_ne hj] at h ⊢
      exact ih.at_ j d h
theorem ER.back {K : KW} {ρ : Rg} {H : Hp} {env : Envr} {σ : L2.St} (E : ER K ρ H env σ) {σ' : L2.St} (h : σ' = σ) : ER K ρ H env σ' := h ▸ E
/-- the element of a comprehension -/
noncomputable def stepC (T : Tab) (elt : CE) (t : TGt) (cond : CO) (env : Envr) (d : D) (st : Store) : Option (Option D × Store) := match asgT t d env with
  | none => none
  | some env2 => match evC T cond env2 st with
    | some (true, st2) => match ev T elt env2 st2 with
      | some (r, st3) => some (some r, st3)
      | none => none
    | some (false, st2) => some (none, st2)
    | none => none
theorem comp_rd {elt : CE} {t : TGt} {it : CI} {cond : CO} {own : List Nat} (hsl : ∀ i ∈ t.slots, i ∈ own) {σ : L2.St} {H : Hp} {Q : VK} (hw : tD X.kw (ev T (.comp elt t it cond own)) σ H Q) :
    tLc (tDI X.kw (evI T it)) (tDG X.kw t) (tDT X.kw (evC T cond)) (tD X.kw (ev T elt)) own σ H Q := by
  obtain ⟨ρ, st, env, r, st', S, E, e, k⟩ := hw
  unfold ev at e
  split at e
  · rename_i src st1 h1
    split at e
    · rename_i rs st2 h2
      cases e
      have h2 : compL src.ok (stepC T elt t cond (wipeE env own)) src.items st1 = some (rs, st') := h2
      refine ⟨ρ, st, env, src, st1, S, E, h1, fun ρ1 H1 J T1 S1 wd ok0 D hD => ?_⟩
      have o1 : Other D H1 (upd H1 D (.lst [])) := fun b u n h => by rw [upd_ne n]; exact h
      refine ⟨fun i m H' => m = src.items.length - i ∧ i ≤ src.items.length ∧ ∃ ρ' st3' acc vs rest, Step ρ1 H1 ρ' H' ∧ SR X.kw (ρ'.own D) st3' H' ∧ src.ok st3' ∧ H' D = some (.lst vs) ∧
        RDs X.kw (ρ'.own D) H' acc vs ∧ acc.length ≤ i ∧ compL src.ok (stepC T elt t cond (wipeE env own)) (src.items.drop i) st3' = some (rest, st') ∧ rs = acc ++ rest ∧ ER X.kw (ρ'.own D) H' (wipeE env own) (wipe σ own),
        ⟨src.items.length, by simp, Nat.zero_le _, ρ1, st1, [], [], rs, Step.laid S1 hD, S1.into hD, ok0, upd_same, rfl, Nat.le_refl _, h2, rfl, ER.into hD o1 ((E.mono T1).wipe own)⟩, ?_⟩
      rintro i m H' ⟨rfl, hi, ρ', st3, acc, vs, rest, T2, S2, ok2, hv, ra, hl, hc, rfl, E2⟩
      have nD : ∀ a, H1 a ≠ none → a ≠ D := fun a h z => h (z ▸ hD)
      have w := wd.2 (ρ'.own D) H' st3 ⟨T2.pre, fun a h => by
        rcases List.mem_cons.mp h with h | h
        · exact .inr (h ▸ hD)
        · exact .inl (T2.prv ▸ h), T2.new, fun a o h n => T2.fr a o h (Rg.out n)⟩ S2 ok2
      have hDi : D ∉ ρ'.ids := (S2.prv D List.mem_cons_self).1
      have hDp : D ∉ ρ'.prv := by
        rw [T2.prv]
        exact fun h => (S1.prv D h).2 hD
      by_cases hlt : i < src.items.length
      · obtain ⟨d, hd⟩ : ∃ d, src.items[i]? = some d := ⟨_, List.getElem?_eq_getElem hlt⟩
        obtain ⟨go, yl⟩ := w.2 i d hd
        have hdrop : src.items.drop i = d :: src.items.drop (i + 1) := by
          rw [List.drop_eq_getElem_cons hlt]
          rw [List.getElem?_eq_getElem hlt] at hd
          cases hd; rfl
        rw [hdrop] at hc
        refine .inr ⟨go, fun H' => ∃ m', m' < src.items.length - i ∧ m' = src.items.length - (i + 1) ∧ i + 1 ≤ src.items.length ∧ ∃ ρ' st3' acc' vs rest', Step ρ1 H1 ρ' H' ∧ SR X.kw (ρ'.own D) st3' H' ∧ src.ok st3' ∧ H' D = some (.lst vs) ∧
          RDs X.kw (ρ'.own D) H' acc' vs ∧ acc'.length ≤ i + 1 ∧ compL src.ok (stepC T elt t cond (wipeE env own)) (src.items.drop (i + 1)) st3' = some (rest', st') ∧ acc ++ rest = acc' ++ rest' ∧ ER X.kw (ρ'.own D) H' (wipeE env own) (wipe σ own),
          fun H' ⟨m', h1, h2, h3, h4⟩ => ⟨m', h1, h2, h3, h4⟩, fun x H2 hy => ?_⟩
        obtain ⟨T3, S3, rx⟩ := yl x H2 hy
        unfold compL at hc
        split at hc
        · cases hc
        · rename_i o st4 hs
          split at hc
          · rename_i hok
            split at hc
            · cases hc
            · rename_i rest2 st5 hc2
              cases hc
              unfold stepC at hs
              split at hs
              · cases hs
              · rename_i env2 ha
                refine ⟨ρ'.own D, wipeE env own, d, env2, E2.mono T3, rx, ha, fun σ2 E3 l3 k3 => ⟨wipe_eq l3 fun j hj => k3 j fun hm => hj (hsl j hm), ?_⟩⟩
                have hv3 : H2 D = some (.lst vs) := T3.fr D _ hv hDi
                split at hs
                · rename_i st6 hcond
                  split at hs
                  · rename_i y st7 hel
                    cases hs
                    refine ⟨ρ'.own D, st3, env2, _, _, S3, E3, hcond, fun ρ3 H3 T4 S4 => iteT ⟨ρ3, st6, env2, y, _, S4, E3.mono T4, hel, fun ρ4 v H4 T5 S5 rv => ?_⟩⟩
                    have hp4 : ρ4.prv = D :: ρ'.prv := T5.prv.trans T4.prv
                    have e4 : ρ4 = Rg.own ⟨ρ4.ids, ρ'.prv⟩ D := by
                      cases ρ4
                      simp only at hp4
                      subst hp4
                      rfl
                    have T6 : Step (ρ'.own D) H' ρ4 H4 := (T3.trans T4).trans T5
                    have hv4 : H4 D = some (.lst vs) := T6.fr D _ hv hDi
                    refine ⟨vs, hv4, ?_, _, ?_, rfl, hlt, ⟨ρ4.ids, ρ'.prv⟩, _, acc ++ [y], vs ++ [v], rest2, ?_, ?_, hok, upd_same, ?_, by simp; omega, hc2, by simp, ?_⟩
                    · rw [ra.length]
                      exact Nat.lt_of_le_of_lt hl (Nat.lt_of_lt_of_le hlt wd.1)
                    · omega
                    · refine ⟨T2.pre.trans T6.pre, T2.prv, fun a h => ?_, fun a o h n => ?_⟩
                      · rcases T6.new a h with h | h
                        · exact T2.new a h
                        · by_cases q : a ∈ ρ1.ids
                          · exact .inl q
                          · cases q2 : H1 a with
                            | none => exact .inr rfl
                            | some o => rw [T2.fr a o q2 q] at h; cases h
                      · have na : a ≠ D := nD a (by rw [h]; exact fun z => nomatch z)
                        rw [upd_ne na]
                        exact T6.fr a o (T2.fr a o h n) (T2.outI h n)
                    · rw [e4] at S5
                      exact S5.within.1
                    · have r2 := (RDs.mono T6 _ _ ra).append (show RDs X.kw ρ4 H4 [y] [v] from ⟨v, [], rfl, rv, rfl⟩)
                      rw [e4] at r2
                      exact (RDs.within (fun b u n h => by rw [upd_ne n]; exact h) _ _ r2).1
                    · have E4 := E2.mono T6
                      rw [e4] at E4
                      exact E4.within fun b u n h => by rw [upd_ne n]; exact h
                  · cases hs
                · rename_i st6 hcond
                  cases hs
                  refine ⟨ρ'.own D, st3, env2, _, _, S3, E3, hcond, fun ρ4 H4 T4 S4 => iteF ?_⟩
                  have hp4 : ρ4.prv = D :: ρ'.prv := T4.prv
                  have e4 : ρ4 = Rg.own ⟨ρ4.ids, ρ'.prv⟩ D := by
                    cases ρ4
                    simp only at hp4
                    subst hp4
                    rfl
                  have T6 : Step (ρ'.own D) H' ρ4 H4 := T3.trans T4
                  have hv4 : H4 D = some (.lst vs) := T6.fr D _ hv hDi
                  refine ⟨_, ?_, rfl, hlt, ⟨ρ4.ids, ρ'.prv⟩, _, acc, vs, rest2, ?_, ?_, hok, hv4, ?_, by omega, hc2, by simp, ?_⟩
                  · omega
                  · refine ⟨T2.pre.trans T6.pre, T2.prv, fun a h => ?_, fun a o h n => ?_⟩
                    · rcases T6.new a h with h | h
                      · exact T2.new a h
                      · by_cases q : a ∈ ρ1.ids
                        · exact .inl q
                        · cases q2 : H1 a with
                          | none => exact .inr rfl
                          | some o => rw [T2.fr a o q2 q] at h; cases h
                    · exact T6.fr a o (T2.fr a o h n) (T2.outI h n)
                  · rw [← e4]; exact S4
                  · rw [← e4]; exact RDs.mono T6 _ _ ra
                  · rw [← e4]; exact E2.mono T6
                · cases hs
          · cases hc
      · have ei : i = src.items.length := by omega
        subst ei
        refine .inl ⟨w.1, ?_⟩
        rw [List.drop_length] at hc
        unfold compL at hc
        cases hc
        have S4 := S2.drop
        rw [List.append_nil] at k
        refine k ρ' _ H' (T1.trans T2) S4 ⟨D, vs, rfl, .inl ⟨.inl hv, fun h => ?_⟩, (RDs.within (fun _ _ _ h => h) _ _ ra).2⟩
        rcases h with h | h
        · exact hDi h
        · exact hDp h
    · cases e
  · cases e
end
end Bo

set_option Elab.async false
set_option linter.all false
set_option maxRecDepth 100000
set_option maxHeartbeats 8000000
/-! Bo, part 8d: displays of dicts, the pairs of a table, lists backwards, lists of ranges. -/
namespace Bo
open PySem PySem.Spec L2

/-! ### the pairs of a table -/
def TabAt (K : KW) (a : Addr) (xs : Leafs) (ep : Nat) : Prop := ∀ h : Heap, K.K.In h → h.DictAt (kindM true K.P K.w) a xs ep
def ItTab (ks : List Str) (vs : List V) : It where
  go := fun i _ => i < ks.length
  yld := fun i H x H' => ∃ T k v, ks[i]? = some k ∧ vs[i]? = some v ∧ x = .ref T ∧ H T = none ∧ H' = upd H T (.tup [.str k, v])
  stop := fun i _ => ks.length ≤ i
theorem zip_at {ks : List Str} {us : List Value} {i : Nat} {k : Str} {u : Value} (h : ks[i]? = some k) (g : us[i]? = some u) : ((ks.map Leaf.text).zip us)[i]? = some (.text k, u) := by
  rw [List.getElem?_zip_eq_some]
  exact ⟨by rw [List.getElem?_map, h]; rfl, g⟩
theorem textKey {k : Str} {u : Value} (h : isM true (.text k) u = true) : RelV (.str k) u := by
  obtain ⟨t, rfl⟩ := Value.isStrOf_shape (show Value.isStrOf k u = true from isM_of h)
  exact ⟨t, rfl⟩
theorem turn_tab {P : Program} {w : World} {K : PySem.W.Frag} {d : Addr} {ks : List Str} {us : List Value} {vs : List V} {ep : Nat} {elts : List Expr} {kk : Nat} {tpos : Pos} (it : Addr) (ht : TabAt ⟨P, w, K⟩ d ((ks.map Leaf.text).zip us) ep) (hv : Vals vs us) (hl : us.length = ks.length) :
    Turn P w K (.Tuple elts kk tpos) (ItTab ks vs) [it] it (fun i h => ∃ ok ov, IsItemIter h it d i ks.length ep ok ov) where
  mem := by simp
  obj := fun i h st b hb => by
    have e : b = it := by simpa using hb
    subst e
    obtain ⟨ok, ov, e⟩ := st
    exact ⟨_, e, fun v z => nomatch z⟩
  keep := fun i h h' st k => let ⟨ok, ov, e⟩ := st; ⟨ok, ov, k it (by simp) _ e⟩
  item := by
    intro X hP hw hK hc i pins s σ H E I hf st hg
    subst hP hw hK
    have hi : i < ks.length := hg
    have hm := ht _ I.kIn
    have hzl : ((ks.map Leaf.text).zip us).length = ks.length := by rw [List.length_zip, List.length_map, hl]; exact Nat.min_self _
    obtain ⟨k, hk⟩ : ∃ k, ks[i]? = some k := ⟨_, List.getElem?_eq_getElem hi⟩
    obtain ⟨v, hvv⟩ : ∃ v, vs[i]? = some v := ⟨_, List.getElem?_eq_getElem (by rw [hv.length, hl]; exact hi)⟩
    obtain ⟨u, hu, ru⟩ := hv.get hvv
    obtain ⟨ok, ov, he⟩ := st
    rw [← hzl] at he
    have hlt : it < s.heap.objs.size := Heap.lt_size he
    refine wpAny_pyNext_items_item he hm (zip_at hk hu) fun key h' hkey ho hT hz hkk => ?_
    refine ⟨_, rfl, wpAny_letOwnedTupleGo_items (s := { s with heap := h' }) ho fun h'' he' sb => ?_⟩
    have hT2 : h''.get? s.heap.objs.size = some { cls := .type "tuple", data := .seq #[key, u] } := (sb.2 _ (Nat.ne_of_gt hlt)).trans hT
    have new : ObjOk X.prog X.w (upd H s.heap.objs.size (.tup [.str k, v])) h'' s.heap.objs.size (.tup [.str k, v]) :=
      ⟨by show 2 ≤ sizeLine; decide, [key, u], .cons (textKey hkey) (.cons ru .nil), ⟨_, hT2, rfl, _, rfl⟩⟩
    have I1 : Inv X pins σ (upd H s.heap.objs.size (.tup [.str k, v])) { s with heap := h'' } :=
      I.turnedNew (t' := s.toks) (ch := [it]) (fun b ob hb e => (sb.2 b (by simpa using hb)).trans (hkk b ob (by simpa using hb) e)) hf (Nat.le_refl _) new
    refine ⟨.ref s.heap.objs.size, _, I1, rfl, ⟨_, k, v, hk, hvv, rfl, I.hok.fresh (Nat.le_refl _), rfl⟩, ⟨key, u, ?_⟩, fun b hb => ?_⟩
    · rw [← hzl]; exact he'
    · have e : b = it := by simpa using hb
      rw [e, upd_ne (Nat.ne_of_lt hlt)]
      exact (hf it (by simp)).1
  done := by
    intro X hP hw hK hc i pins s σ H E I hf st hg
    subst hP hw hK
    have hi : ks.length ≤ i := hg
    have hm := ht _ I.kIn
    have hzl : ((ks.map Leaf.text).zip us).length = ks.length := by rw [List.length_zip, List.length_map, hl]; exact Nat.min_self _
    obtain ⟨f0, f1, f2, f3, f4, f5⟩ := hf it (by simp)
    obtain ⟨ok, ov, he⟩ := st
    rw [← hzl] at he
    exact wpAny_pyNext_items_end (I.ok.hd hc) he hm (List.getElem?_eq_none (by omega)) fun h' eb => ⟨rfl, I.turned (t' := s.toks) (fun b ob hb e => eb b ob hb e) f0 f1 f3 f4 f5⟩
  self := fun A i s Q E st h => let ⟨_, _, e⟩ := st; PySem.W.kcp_self e h
section
variable {X : Cx} {T : Tab} {L : Nat} {a b c e : Expr} {es : List Expr} {pos p : Pos} {x y z : CE} {xs : CEs}
theorem itemsP_get : ∀ {ks : List Str} {ds : List D} {i : Nat} {d : D}, (itemsP ks ds)[i]? = some d → ∃ k x, ks[i]? = some k ∧ ds[i]? = some x ∧ d = .tup [.str k, x] := by
  intro ks ds i d h
  unfold itemsP at h
  rw [List.getElem?_zipWith] at h
  cases h1 : ks[i]? with
  | none => simp [h1] at h
  | some k =>
    cases h2 : ds[i]? with
    | none => simp [h1, h2] at h
    | some x => simp [h1, h2] at h; exact ⟨k, x, rfl, rfl, h.symm⟩
theorem walk_tab {K : KW} {ρ : Rg} {H : Hp} {ks : List Str} {ds : List D} {vs : List V} (r : RDs K ρ H ds vs) (hl : ds.length = ks.length) (hz : ks.length ≤ sizeLine) : WalkD K ρ H (ItTab ks vs) ⟨itemsP ks ds, none⟩ := by
  have len : (itemsP ks ds).length = ks.length := by unfold itemsP; rw [List.length_zipWith, hl]; exact Nat.min_self _
  refine ⟨by show (itemsP ks ds).length ≤ _; rw [len]; exact hz, fun ρ1 H1 st1 T1 S1 _ => ⟨by show ks.length ≤ (itemsP ks ds).length; rw [len]; exact Nat.le_refl _, fun i d hd => ?_⟩⟩
  obtain ⟨k, x, hk, hx, rfl⟩ := itemsP_get hd
  obtain ⟨v, hv, rv⟩ := r.get hx
  refine ⟨(List.getElem?_eq_some_iff.mp hk).1, fun y H2 yy => ?_⟩
  obtain ⟨T, k', v', hk', hv', rfl, hn, rfl⟩ := yy
  rw [hk] at hk'; cases hk'
  rw [hv] at hv'; cases hv'
  exact pair_ok S1 hn rfl (RD.monoW T1 _ _ rv)
theorem id_items {tg : Expr} {ap cp : Pos} (h : PE X a (tD X.kw (ev T x))) (hb : baseOk a = true) (hl : (ap.endLine == cp.line) = true) (ht : isTup tg = true) : PI X tg (.Call (.Attribute a "items" ap) [] [] cp) (tDI X.kw (evI T (.items x))) := by
  cases tg with
  | Tuple elts kk tpos =>
    refine ⟨fun pins s σ H R I ⟨ρ, st, env, src, st', S, E, e, k⟩ => ?_⟩
    unfold evI at e
    split at e
    · rename_i ks ds st1 he
      cases e
      refine wpAny_Call_method (T := "dict") (id := "dict.items") (base_ok hb) rfl hl PySem.F.plainAttrs_dict PySem.F.slot_dict_items PySem.F.type_dict_items (thn (h.run pins s σ H _ I ⟨ρ, st, env, _, _, S, E, he, fun ρ1 v H1 T1 S1 R1 => (⟨ρ1, T1, S1, R1⟩ : ∃ ρ1, Step ρ H ρ1 H1 ∧ SR X.kw ρ1 st' H1 ∧ RD X.kw ρ1 H1 (.tab ks ds) v)⟩) fun u s1 ⟨x, H1, I1, rx, ρ1, T1, S1, R1⟩ => ?_)
      obtain ⟨d, us, vs, ep, ex, hs, hz, hlu, hm0, rv, rds⟩ := R1
      subst ex
      obtain rfl : u = Value.ref d := rx
      have hm := hm0 _ I1.kIn
      have hzl : ((ks.map Leaf.text).zip us).length = ks.length := by rw [List.length_zip, List.length_map, hlu]; exact Nat.min_self _
      refine ⟨hm.dictOf.typeIs, hm.dictOf.mapOf.noDict, ?_⟩
      have I2 : Inv X pins σ H1 { s1 with heap := s1.heap.push { cls := .type "dict_items", data := .fields #[.ref d] } } := I1.kept (t' := s1.toks) fun b ob q => Heap.get?_push_of_some _ q
      have fin : wpAny (model X.prog X.w) X.A (pyIter (.ref s1.heap.objs.size)) (PIE X pins σ (.Tuple elts kk tpos) R) X.xe { s1 with heap := s1.heap.push { cls := .type "dict_items", data := .fields #[.ref d] } } := by
        refine wpAny_pyIter_items (d := d) (knd := kindM true X.prog X.w) ⟨_, Heap.get?_push_size _ rfl, rfl, rfl⟩ (hm.push _) (pi_one (tk := s1.toks) I2 _ (turn_tab _ hm0 rv hlu) ⟨.none, .none, ?_⟩ (k ρ1 H1 _ T1 S1 (walk_tab rds ?_ hz) trivial))
        · rw [← hzl]
          exact Heap.get?_push_size _ rfl
        · rw [← rds.length, rv.length, hlu]
      show wpAny _ _ (callWith cp (.builtin "dict.items") [.ref d] [] []) _ X.xe s1
      exact method_meetsIn PySem.F.slot_dict_items PySem.F.entry_dict_items rfl (PySem.evalArgs_none ⟨rfl, hm.dictOf.typeIs, PySem.F.args_dict_items_1 _, _, meets_dict_items (kindM true X.prog X.w) d hs, ⟨_, hm.dictOf⟩, fin⟩)
    · cases e
  | _ => exact absurd ht Bool.false_ne_true

/-! ### displays -/
abbrev RPs (K : KW) (ρ : Rg) (H : Hp) : List (D × D) → List (V × V) → Prop := Paired fun d v => RD K ρ H d.1 v.1 ∧ RD K ρ H d.2 v.2
def tDP (K : KW) (f : Envr → Store → Option (List (D × D) × Store)) : L2.St → Hp → (List (V × V) → Hp → Prop) → Prop := fun σ H Q => ∃ ρ st env r st', SR K ρ st H ∧ ER K ρ H env σ ∧ f env st = some (r, st') ∧
  ∀ ρ' ps H', Step ρ H ρ' H' → SR K ρ' st' H' → RPs K ρ' H' r ps → Q ps H'
structure PPd (X : Cx) (pos : Pos) (keys : List (Option Expr)) (values : List Expr) (f : Envr → Store → Option (List (D × D) × Store)) : Prop where
  run : ∀ (pins : List (Addr × Obj)) (s : Shared) (σ : L2.St) (H : Hp) (Q : List (V × V) → Hp → Prop), Inv X pins σ H s → tDP X.kw f σ H Q →
    wpAny (model X.prog X.w) X.A (evalPairs (pairTrees keys values X.env pos)) (fun vs s' => ∃ ps H', Inv X pins σ H' s' ∧ VV ps vs ∧ Q ps H') X.xe s
theorem ppd_nil : PPd X pos [] [] (evP T .nil) := ⟨fun pins s σ H Q I ⟨ρ, st, env, r, st', S, E, e, k⟩ => by
  unfold evP at e
  cases e
  exact pairTrees_nil_walk ⟨[], H, I, .nil, k ρ [] H .refl S .nil⟩⟩
theorem ppd_cons {k v : Expr} {ks : List (Option Expr)} {vs : List Expr} {ps : CPs} (hk : PE X k (tD X.kw (ev T x))) (hv : PE X v (tD X.kw (ev T y))) (hr : PPd X pos ks vs (evP T ps)) : PPd X pos (some k :: ks) (v :: vs) (evP T (.cons x y ps)) :=
  ⟨fun pins s σ H Q I ⟨ρ, st, env, r, st', S, E, e, kk⟩ => by
    unfold evP at e
    split at e
    · rename_i d1 st1 h1
      split at e
      · rename_i d2 st2 h2
        split at e
        · rename_i r3 st3 h3
          cases e
          exact pairTrees_cons_walk (thn (hk.run pins s σ H _ I ⟨ρ, st, env, _, _, S, E, h1, fun ρ1 v H1 T1 S1 R1 => (⟨ρ1, T1, S1, R1⟩ : ∃ ρ1, Step ρ H ρ1 H1 ∧ SR X.kw ρ1 st1 H1 ∧ RD X.kw ρ1 H1 d1 v)⟩) fun u s1 ⟨x1, H1, I1, rx, ρ1, T1, S1, R1⟩ =>
            thn (hv.run pins s1 σ H1 _ I1 ⟨ρ1, st1, env, _, _, S1, E.mono T1, h2, fun ρ2 v H2 T2 S2 R2 => (⟨ρ2, T2, S2, R2⟩ : ∃ ρ2, Step ρ1 H1 ρ2 H2 ∧ SR X.kw ρ2 st2 H2 ∧ RD X.kw ρ2 H2 d2 v)⟩) fun w2 s2 ⟨y2, H2, I2, ry, ρ2, T2, S2, R2⟩ =>
              thn (hr.run pins s2 σ H2 _ I2 ⟨ρ2, st2, env, _, _, S2, (E.mono T1).mono T2, h3, fun ρ3 ps H3 T3 S3 R3 => (⟨ρ3, T3, S3, R3⟩ : ∃ ρ3, Step ρ2 H2 ρ3 H3 ∧ SR X.kw ρ3 st' H3 ∧ RPs X.kw ρ3 H3 r3 ps)⟩) fun ws s3 ⟨ps', H3, I3, rel, ρ3, T3, S3, R3⟩ =>
                ⟨(x1, y2) :: ps', H3, I3, .cons ⟨rx, ry⟩ rel, kk ρ3 _ H3 ((T1.trans T2).trans T3) S3 (.cons ⟨RD.mono (T2.trans T3) _ _ R1, RD.mono T3 _ _ R2⟩ R3)⟩)
        · cases e
      · cases e
    · cases e⟩
theorem lf_merge {K : KW} {ρ : Rg} {H : Hp} {b : Bool} : ∀ {more : List (D × D)} {rs : Leafs}, Paired (EntL K b ρ H) more rs → ∀ {kvs : List (D × D)} {vs : Leafs}, Paired (EntL K b ρ H) kvs vs → Paired (EntL K b ρ H) (mergeD kvs more) (merged vs rs)
  | _, _, .nil, _, _, r0 => r0
  | _, _, .cons ⟨h1, v, h2, h3⟩ t, _, _, r0 => lf_merge t (lf_set h1 h2 h3 r0)
theorem mergeD_len : ∀ (more kvs : List (D × D)), (mergeD kvs more).length ≤ kvs.length + more.length
  | [], kvs => Nat.le_refl _
  | p :: r, kvs => by
    have h1 := mergeD_len r (setK kvs p.1 p.2)
    have h2 := setK_len kvs p.1 p.2
    show (mergeD (setK kvs p.1 p.2) r).length ≤ _
    rw [List.length_cons]; omega
theorem carriesL {K : KW} {ρ : Rg} {H : Hp} {b : Bool} {kvs : List (D × D)} {ps : List (V × V)} (r : RPs K ρ H kvs ps) : ∀ {ws : List (Value × Value)}, (∀ q ∈ kvs, okK (.lf b) q.1 = true) → VV ps ws → ∃ rs, Carries (kindM b K.P K.w) ws rs ∧ Paired (EntL K b ρ H) kvs rs := by
  induction r with
  | nil => intro ws _ q; cases q; exact ⟨[], trivial, .nil⟩
  | @cons p q ps qs h t ih =>
    intro ws ok g
    cases g with
    | @cons _ w _ us g u =>
      obtain ⟨rs, c, r⟩ := ih (fun z hz => ok z (List.mem_cons_of_mem _ hz)) u
      obtain ⟨l, hl⟩ := okL (ok p List.mem_cons_self)
      exact ⟨(l, w.2) :: rs, ⟨keyL_is hl h.1 g.1, rfl, c⟩, .cons ⟨hl, q.2, g.2, h.2⟩ r⟩
mutual
theorem RD.adopt {K : KW} {ρ : Rg} {H : Hp} {a : Addr} (h1 : ∀ vs, ¬ Rd H a (.tup vs)) (h2 : ∀ vs, ¬ Rd H a (.lst vs)) : ∀ (d : D) (v : V), RD K ρ H d v → RD K (ρ.add a) H d v
  | .non, _, h => h
  | .bl _, _, h => h
  | .ty _, _, h => h
  | .int _, _, h => h
  | .str _, _, h => h
  | .tup ds, v, h => by
    obtain ⟨b, vs, e, t, r⟩ := h
    refine ⟨b, vs, e, ?_, RDs.adopt h1 h2 ds vs r⟩
    rcases t with ⟨t, n⟩ | t
    · refine .inl ⟨t, fun m => ?_⟩
      rcases m with m | m
      · rcases List.mem_append.mp m with m | m
        · exact n (.inl m)
        · rw [List.mem_singleton.mp m] at t
          exact h1 _ t
      · exact n (.inr m)
    · exact .inr t
  | .lst ds, v, h => by
    obtain ⟨b, vs, e, t, r⟩ := h
    refine ⟨b, vs, e, ?_, RDs.adopt h1 h2 ds vs r⟩
    rcases t with ⟨t, n⟩ | t
    · refine .inl ⟨t, fun m => ?_⟩
      rcases m with m | m
      · rcases List.mem_append.mp m with m | m
        · exact n (.inl m)
        · rw [List.mem_singleton.mp m] at t
          exact h2 _ t
      · exact n (.inr m)
    · exact .inr t
  | .obj n, v, h => by
    obtain ⟨b, e, r⟩ := h
    refine ⟨b, e, ?_⟩
    show (ρ.ids ++ [a])[n]? = _
    rw [List.getElem?_append_left (List.getElem?_eq_some_iff.mp r).1]
    exact r
  | .tab ks ds, v, h => by
    obtain ⟨q, us, vs, ep, e, h3, h4, h5, h6, h7, r⟩ := h
    exact ⟨q, us, vs, ep, e, h3, h4, h5, h6, h7, RDs.adopt h1 h2 ds vs r⟩
theorem RDs.adopt {K : KW} {ρ : Rg} {H : Hp} {a : Addr} (h1 : ∀ vs, ¬ Rd H a (.tup vs)) (h2 : ∀ vs, ¬ Rd H a (.lst vs)) : ∀ (ds : List D) (vs : List V), RDs K ρ H ds vs → RDs K (ρ.add a) H ds vs
  | [], _, h => h
  | d :: ds, vs, h => by
    obtain ⟨v, r, e, g1, g2⟩ := h
    exact ⟨v, r, e, RD.adopt h1 h2 d v g1, RDs.adopt h1 h2 ds r g2⟩
end
/-- a thing that was kept to oneself comes into the store -/
theorem SR.adopt {K : KW} {ρ : Rg} {st : Store} {H : Hp} {a : Addr} {u : O} (S : SR K ρ st H) (ha : a ∉ ρ) (h1 : ∀ vs, ¬ Rd H a (.tup vs)) (h2 : ∀ vs, ¬ Rd H a (.lst vs)) (r : RO K (ρ.add a) H a u) : SR K (ρ.add a) (st ++ [u]) H := by
  refine ⟨by simp [Rg.add, S.len], ?_, fun i o' e => ?_, fun b hb => ?_⟩
  · show (ρ.ids ++ [a]).Nodup
    rw [List.nodup_append]
    exact ⟨S.inj, by simp, fun x hx y hy e => by
      rw [List.mem_singleton.mp hy] at e
      exact ha (.inl (e ▸ hx))⟩
  · by_cases hi : i < st.length
    · rw [List.getElem?_append_left hi] at e
      obtain ⟨b, g1, g2⟩ := S.ob i o' e
      refine ⟨b, by show (ρ.ids ++ [a])[i]? = _; rw [List.getElem?_append_left (List.getElem?_eq_some_iff.mp g1).1]; exact g1, ?_⟩
      cases o' with
      | lst ds =>
        obtain ⟨vs, hv, r⟩ := g2
        exact ⟨vs, hv, RDs.adopt h1 h2 ds vs r⟩
      | dct m kvs => exact ents_mono (fun d v => RD.adopt h1 h2 d v) rfl g2
    · have hl : i < (st ++ [u]).length := (List.getElem?_eq_some_iff.mp e).1
      have hi2 : i = st.length := by simp at hl; omega
      subst hi2
      simp at e
      subst e
      exact ⟨a, by show (ρ.ids ++ [a])[st.length]? = _; rw [← S.len]; simp, r⟩
  · obtain ⟨g1, g2⟩ := S.prv b hb
    refine ⟨fun m => ?_, g2⟩
    rcases List.mem_append.mp m with m | m
    · exact g1 m
    · rw [List.mem_singleton.mp m] at hb
      exact ha (.inr hb)
theorem pd_dsp {m : Md} {ps : CPs} {keys : List (Option Expr)} {values : List Expr} (h : PPd X pos keys values (evP T ps)) (hall : keys.all (·.isSome) = true) (hl : keys.length = values.length) (h15 : keys.length ≤ 15)
    (hk : ∀ env st r st', evP T ps env st = some (r, st') → r.length = keys.length) (hn : keys = [] → ps = .nil ∧ values = []) : PE X (.Dict keys values pos) (tD X.kw (ev T (.dsp m ps))) := by
  refine ⟨fun pins s σ H Q I ⟨ρ, st, env, r, st', S, E, e, k⟩ => ?_⟩
  unfold ev at e
  split at e
  · rename_i kvs st1 h1
    split at e
    · rename_i ok
      cases e
      unfold dspOk at ok
      simp only [Bool.and_eq_true, List.all_eq_true, decide_eq_true_eq] at ok
      have hfr := I.hok.fresh (Nat.le_refl s.heap.objs.size)
      have big : (s.heap.objs.size == sysModules) = false := beq_eq_false_iff_ne.mpr (Ne.symm (Nat.ne_of_lt I.big))
      by_cases h0 : keys = []
      · obtain ⟨rfl, rfl⟩ := hn h0
        subst h0
        unfold evP at h1
        cases h1
        cases m with
        | lf b =>
          have new : ObjOk X.prog X.w (upd H s.heap.objs.size (.ext fun h => h.DictOf (kindM b X.prog X.w) s.heap.objs.size [])) (s.heap.push { cls := .type "dict", data := .dict #[] }) s.heap.objs.size (.ext fun h => h.DictOf (kindM b X.prog X.w) s.heap.objs.size []) :=
            ⟨Heap.DictOf.new _, ⟨_, Heap.get?_push_size _ rfl⟩, fun g1 g2 f hk => let ⟨o, es, ep, e1, rest⟩ := f; ⟨o, es, ep, hk o e1, rest⟩⟩
          refine wpAny_Dict_empty ⟨.ref s.heap.objs.size, _, I.laid (a := s.heap.objs.size) (t' := s.toks) (fun _ _ q => Heap.get?_push_of_some _ q) (Nat.le_refl _) new, rfl, ?_⟩
          exact k (ρ.add s.heap.objs.size) _ _ (Step.push S hfr) (S.pushO hfr ⟨big, Nat.zero_le _, [], upd_same, .nil⟩) ⟨_, rfl, by show (ρ.ids ++ [_])[st.length]? = _; rw [← S.len]; simp⟩
        | tp =>
          have new : ObjOk X.prog X.w (upd H s.heap.objs.size (.ext fun h => ShapeH X.prog X.w h s.heap.objs.size [])) (s.heap.push { cls := .type "dict", data := .dict #[] }) s.heap.objs.size (.ext fun h => ShapeH X.prog X.w h s.heap.objs.size []) :=
            ⟨⟨_, #[], 0, Heap.get?_push_size _ rfl, ⟨rfl, rfl, rfl⟩, rfl, rfl, List.nodup_nil⟩, ⟨_, Heap.get?_push_size _ rfl⟩, fun g1 g2 f hk => let ⟨o, es, ep, e1, rest⟩ := f; ⟨o, es, ep, hk o e1, rest⟩⟩
          refine wpAny_Dict_empty ⟨.ref s.heap.objs.size, _, I.laid (a := s.heap.objs.size) (t' := s.toks) (fun _ _ q => Heap.get?_push_of_some _ q) (Nat.le_refl _) new, rfl, ?_⟩
          exact k (ρ.add s.heap.objs.size) _ _ (Step.push S hfr) (S.pushO hfr ⟨big, Nat.zero_le _, [], upd_same, .nil⟩) ⟨_, rfl, by show (ρ.ids ++ [_])[st.length]? = _; rw [← S.len]; simp⟩
      · have hlen := hk _ _ _ _ h1
        have hne : kvs ≠ [] := fun z => h0 (by subst z; exact List.length_eq_zero_iff.mp hlen.symm)
        cases m with
        | tp =>
          exfalso
          cases kvs with
          | nil => exact hne rfl
          | cons _ _ => exact Bool.false_ne_true ok.2
        | lf b =>
          have I1 := I.laid (a := s.heap.objs.size) (o := .dK []) (h' := s.heap.push { cls := .type "dict", data := .dict #[] }) (t' := s.toks) (fun _ _ q => Heap.get?_push_of_some _ q) (Nat.le_refl _) (dk_empty s.heap I.big)
          have o1 : Other s.heap.objs.size H (upd H s.heap.objs.size (.dK [])) := fun b u n h => by rw [upd_ne n]; exact h
          refine wpAny_Dict_walk (knd := kindM b X.prog X.w) hall hl h0 h15 (thn (h.run pins _ σ _ (fun ps H2 => ∃ ρ2, Step (ρ.own s.heap.objs.size) (upd H s.heap.objs.size (.dK [])) ρ2 H2 ∧ SR X.kw ρ2 st1 H2 ∧ RPs X.kw ρ2 H2 kvs ps) I1
            ⟨ρ.own s.heap.objs.size, st, env, _, _, S.into hfr, ER.into hfr o1 E, h1, fun ρ2 ps H2 T2 S2 R2 => ⟨ρ2, T2, S2, R2⟩⟩) fun ws s2 ⟨ps', H2, I2, rel, ρ2, T2, S2, R2⟩ => ?_)
          have hDi : s.heap.objs.size ∉ (ρ.own s.heap.objs.size).ids := fun m => S.fresh hfr (.inl m)
          have hv2 : H2 s.heap.objs.size = some (.dK []) := T2.fr _ _ upd_same hDi
          obtain ⟨rs, cr, er⟩ := carriesL (b := b) R2 (fun q hq => ok.1.1 q hq) rel
          have d0 : s2.heap.DictOf (kindM b X.prog X.w) s.heap.objs.size [] := by
            obtain ⟨_, _, vs0, r0, dd⟩ := I2.hok _ _ hv2
            cases r0
            obtain ⟨o, es, ep, q1, q2, q3, q4, q5, q6⟩ := dd
            have es0 : es = #[] := by
              cases es with
              | mk l => cases q5; rfl
            subst es0
            exact ⟨o, _, ep, q1, q2, q3, (fun e he => by simp at he), .nil, List.nodup_nil⟩
          refine ⟨rs, cr, d0, fun h' dd' hs => ?_⟩
          have he : ∃ q, h'.get? s.heap.objs.size = some q := let ⟨q, _, _, hq, _⟩ := dd'; ⟨q, hq⟩
          have new : ObjOk X.prog X.w (upd H2 s.heap.objs.size (.ext fun h => h.DictOf (kindM b X.prog X.w) s.heap.objs.size (merged [] rs))) h' s.heap.objs.size (.ext fun h => h.DictOf (kindM b X.prog X.w) s.heap.objs.size (merged [] rs)) :=
            ⟨dd', he, fun g1 g2 f hk => let ⟨o, es, ep, e1, rest⟩ := f; ⟨o, es, ep, hk o e1, rest⟩⟩
          have I3 := I2.write (x := s.heap.objs.size) (e := s.heap.objs.size) (t' := s2.toks + ws.length) (by rw [hv2]; exact True.intro) (.inl rfl) (fun c q hc z => (hs.2 c hc).trans z) he new
          have e2 : ρ2 = Rg.own ⟨ρ2.ids, ρ.prv⟩ s.heap.objs.size := by
            have hp2 : ρ2.prv = s.heap.objs.size :: ρ.prv := T2.prv
            cases ρ2
            simp only at hp2
            subst hp2
            rfl
          rw [e2] at S2 er
          have oo : Other s.heap.objs.size H2 (upd H2 s.heap.objs.size (.ext fun h => h.DictOf (kindM b X.prog X.w) s.heap.objs.size (merged [] rs))) := fun b u n h => by rw [upd_ne n]; exact h
          have S3 := (S2.within (o := .ext fun h => h.DictOf (kindM b X.prog X.w) s.heap.objs.size (merged [] rs))).2
          have hids : s.heap.objs.size ∉ ρ2.ids := fun m => (S2.prv _ List.mem_cons_self).1 m
          have hna : s.heap.objs.size ∉ (⟨ρ2.ids, ρ.prv⟩ : Rg) := fun m => by
            rcases m with m | m
            · exact hids m
            · exact (S.prv _ m).2 hfr
          have n1 : ∀ vs, ¬ Rd (upd H2 s.heap.objs.size (.ext fun h => h.DictOf (kindM b X.prog X.w) s.heap.objs.size (merged [] rs))) s.heap.objs.size (.tup vs) := fun vs z => by
            rcases z with z | ⟨_, z⟩ <;> (rw [upd_same] at z; cases z)
          have n2 : ∀ vs, ¬ Rd (upd H2 s.heap.objs.size (.ext fun h => h.DictOf (kindM b X.prog X.w) s.heap.objs.size (merged [] rs))) s.heap.objs.size (.lst vs) := fun vs z => by
            rcases z with z | ⟨_, z⟩ <;> (rw [upd_same] at z; cases z)
          have er2 : Paired (EntL X.kw b (Rg.add ⟨ρ2.ids, ρ.prv⟩ s.heap.objs.size) (upd H2 s.heap.objs.size (.ext fun h => h.DictOf (kindM b X.prog X.w) s.heap.objs.size (merged [] rs)))) kvs rs :=
            L2.Paired.mapP er fun a c ⟨z1, z2, z3, z4⟩ => ⟨z1, z2, z3, RD.adopt n1 n2 _ _ (RD.within oo _ _ z4).2⟩
          have S4 := S3.adopt (u := .dct (.lf b) (mergeD [] kvs)) hna n1 n2 ⟨big, by have := mergeD_len kvs []; have := ok.1.2; have := sizeLine_eq; simp at *; omega, merged [] rs, upd_same, lf_merge er2 .nil⟩
          refine ⟨.ref s.heap.objs.size, _, I3, rfl, k (Rg.add ⟨ρ2.ids, ρ.prv⟩ s.heap.objs.size) _ _ ⟨?_, rfl, fun a ha => ?_, fun a o ho na => ?_⟩ S4 ⟨_, rfl, by show (ρ2.ids ++ [_])[st1.length]? = _; rw [← S2.len]; simp [Rg.own]⟩⟩
          · exact (show ρ.ids <+: ρ2.ids from T2.pre).trans (List.prefix_append _ _)
          · rcases List.mem_append.mp ha with ha | ha
            · rcases T2.new a ha with z | z
              · exact .inl z
              · by_cases q : a = s.heap.objs.size
                · rw [q]; exact .inr hfr
                · rw [upd_ne q] at z; exact .inr z
            · rw [List.mem_singleton.mp ha]; exact .inr hfr
          · have nq : a ≠ s.heap.objs.size := ne_of_none ho hfr
            rw [upd_ne nq]
            exact T2.fr a o (by rw [upd_ne nq]; exact ho) na
    · cases e
  · cases e

/-! ### lists backwards, lists of ranges -/
theorem RDs.reverse {K : KW} {ρ : Rg} {H : Hp} : ∀ {ds : List D} {vs : List V}, RDs K ρ H ds vs → RDs K ρ H ds.reverse vs.reverse
  | [], _, h => by cases h; exact rfl
  | d :: ds, _, h => by
    obtain ⟨v, t, rfl, h1, h2⟩ := h
    rw [List.reverse_cons, List.reverse_cons]
    exact (RDs.reverse h2).append ⟨v, [], rfl, h1, rfl⟩
theorem pd_rev {k : Nat} {p1 p2 p3 : Pos} (ha : PE X a (tD X.kw (ev T x))) : PE X (.Subscript a (.Slice none none (some (.UnaryOp .USub (.Constant (.int 1) k p1) p2)) p3) pos) (tD X.kw (ev T (.rev x))) :=
  PE.imp (pe_revL ha) fun σ H Q ⟨ρ, st, env, r, st', S, E, e, k⟩ => by
    unfold ev at e
    split at e
    · rename_i u st1 h1
      split at e
      · rename_i d h2
        cases e
        refine ⟨ρ, st, env, _, _, S, E, h1, fun ρ1 v1 H1 T1 S1 R1 => ?_⟩
        unfold revD at h2
        split at h2
        · rename_i ds hl
          cases h2
          obtain ⟨q, vs, rfl, hs, rs⟩ := list_ok S1 hl R1
          exact ⟨q, vs, rfl, hs, fun p hp => Post.lst (Post.step k T1) S1 rs.reverse hp⟩
        · cases h2
      · cases e
    · cases e
theorem rgV_rds {K : KW} {ρ : Rg} {H : Hp} (j : Int) : RDs K ρ H (rngD 0 j) (rgV 0 j) := by
  unfold rngD rgV
  generalize List.range (j - 0).toNat = l
  induction l with
  | nil => exact rfl
  | cons i l ih => exact ⟨_, _, rfl, rfl, ih⟩
theorem pd_lrng {p1 p2 pos2 : Pos} (G : Good T L X) (hg : Gl X "list") (hg2 : Gl X "range") (ha : PE X a (tD X.kw (ev T x))) (hs : noStars [a] = true) :
    PE X (.Call (.Name "list" p1) [.Call (.Name "range" p2) [a] [] pos2] [] pos) (tD X.kw (ev T (.lrng x))) :=
  PE.imp (pe_listRg G.calm hg (G.bi _ (by decide +kernel)) (prg_1 hg2 (G.bi _ (by decide +kernel)) ha (star_cons hs)) (star_cons (by rfl))) fun σ H Q ⟨ρ, st, env, r, st', S, E, e, k⟩ => by
    unfold ev at e
    split at e
    · rename_i j st1 h1
      split at e
      · rename_i hr
        cases e
        rw [Bool.and_eq_true] at hr
        unfold rngOk at hr
        simp only [Bool.and_eq_true, decide_eq_true_eq] at hr
        refine ⟨ρ, st, env, _, _, S, E, h1, fun ρ1 v1 H1 T1 S1 R1 => ⟨j, R1, ⟨by decide, by decide, hr.1.1, hr.1.2, ?_⟩, fun q hq => Post.lst (Post.step k T1) S1 (rgV_rds j) hq⟩⟩
        have h := of_decide_eq_true hr.2
        rw [sizeLine_eq] at h
        have ej : (j - 0).toNat = j.toNat := by simp
        rw [ej]; exact h
      · cases e
    · cases e
end
end Bo

set_option Elab.async false
set_option linter.all false
set_option maxRecDepth 100000
set_option maxHeartbeats 8000000
/-! Bo, part 8e: comprehensions with two clauses. -/
namespace Bo
open PySem PySem.Spec L2
/-- a step at which the thing kept at D may change, too -/
structure StepP (D : Addr) (ρ : Rg) (H : Hp) (ρ' : Rg) (H' : Hp) : Prop where
  pre : ρ.ids <+: ρ'.ids
  prv : ρ'.prv = ρ.prv
  new : ∀ a ∈ ρ'.ids, a ∈ ρ.ids ∨ H a = none
  fr : ∀ a o, H a = some o → a ∉ ρ.ids → a ≠ D → H' a = some o
theorem StepP.w {D : Addr} {ρ ρ' : Rg} {H H' : Hp} (T : StepP D ρ H ρ' H') (hD : D ∈ ρ.prv) : StepW ρ H ρ' H' := ⟨T.pre, fun a h => .inl (T.prv ▸ h), T.new, fun a o h n => T.fr a o h (Rg.out n) fun z => n (.inr (z ▸ hD))⟩
theorem Step.p {D : Addr} {ρ ρ' : Rg} {H H' : Hp} (T : Step ρ H ρ' H') : StepP D ρ H ρ' H' := ⟨T.pre, T.prv, T.new, fun a o h n _ => T.fr a o h n⟩
theorem StepP.step {K : KW} {D : Addr} {ρ ρ1 ρ2 : Rg} {H H1 H2 : Hp} {st : Store} (T : StepP D ρ H ρ1 H1) (U : Step ρ1 H1 ρ2 H2) (hD : D ∈ ρ.prv) (S : SR K ρ2 st H2) : StepP D ρ H ρ2 H2 where
  pre := T.pre.trans U.pre
  prv := U.prv.trans T.prv
  new := fun a m => by
    rcases U.new a m with x | x
    · exact T.new a x
    · cases e : H a with
      | none => exact .inr rfl
      | some o =>
        by_cases h1 : a ∈ ρ.ids
        · exact .inl h1
        · by_cases h2 : a = D
          · exact absurd m (S.prv a (by rw [U.prv, T.prv, h2]; exact hD)).1
          · rw [T.fr a o e h1 h2] at x; cases x
  fr := fun a o h n nd => U.fr a o (T.fr a o h n nd) (fun m => by
    rcases T.new a m with x | x
    · exact n x
    · rw [h] at x; cases x)
theorem StepP.put {D : Addr} {ρ ρ1 : Rg} {H H1 : Hp} {o : HO} (T : StepP D ρ H ρ1 H1) : StepP D ρ H ρ1 (upd H1 D o) :=
  ⟨T.pre, T.prv, T.new, fun a u h n nd => by rw [upd_ne nd]; exact T.fr a u h n nd⟩
theorem StepP.trans {K : KW} {D : Addr} {ρ ρ1 ρ2 : Rg} {H H1 H2 : Hp} {st : Store} (T : StepP D ρ H ρ1 H1) (U : StepP D ρ1 H1 ρ2 H2) (hD : D ∈ ρ.prv) (S : SR K ρ2 st H2) : StepP D ρ H ρ2 H2 where
  pre := T.pre.trans U.pre
  prv := U.prv.trans T.prv
  new := fun a m => by
    rcases U.new a m with x | x
    · exact T.new a x
    · cases e : H a with
      | none => exact .inr rfl
      | some o =>
        by_cases h1 : a ∈ ρ.ids
        · exact .inl h1
        · by_cases h2 : a = D
          · exact absurd m (S.prv a (by rw [U.prv, T.prv, h2]; exact hD)).1
          · rw [T.fr a o e h1 h2] at x; cases x
  fr := fun a o h n nd => U.fr a o (T.fr a o h n nd) (fun m => by
    rcases T.new a m with x | x
    · exact n x
    · rw [h] at x; cases x) nd
section
variable {X : Cx} {T : Tab}
/-- one turn of the first clause -/
noncomputable def stepC2 (T : Tab) (elt : CE) (t : TGt) (cond : CO) (t1 : TGt) (it1 : CI) (cond1 : CO) (own1 : List Nat) (env : Envr) (d : D) (st : Store) : Option (List D × Store) := match asgT t d env with
  | none => none
  | some env2 => match evC T cond env2 st with
    | some (true, st2) => match evI T it1 env2 st2 with
      | some (src1, st3) => match compL src1.ok (stepC T elt t1 cond1 (wipeE env2 own1)) src1.items st3 with
        | some (r, st4) => some (r, st4)
        | none => none
      | none => none
    | some (false, st2) => some ([], st2)
    | none => none
theorem eq_own {ρ : Rg} {D : Addr} {l : List Addr} (h : ρ.prv = D :: l) : ρ = Rg.own ⟨ρ.ids, l⟩ D := by
  cases ρ
  simp only at h
  subst h
  rfl
theorem step_out {ρ1 ρ' ρ4 : Rg} {H1 H' H4 : Hp} {D : Addr} (hD : H1 D = none) (T2 : Step ρ1 H1 ρ' H') (T6 : StepP D (ρ'.own D) H' ρ4 H4) : Step ρ1 H1 ⟨ρ4.ids, ρ'.prv⟩ H4 := by
  refine ⟨T2.pre.trans T6.pre, T2.prv, fun a h => ?_, fun a o h n => T6.fr a o (T2.fr a o h n) (T2.outI h n) (ne_of_none h hD)⟩
  rcases T6.new a h with h2 | h2
  · exact T2.new a h2
  · by_cases q : a ∈ ρ1.ids
    · exact .inl q
    · cases q2 : H1 a with
      | none => exact .inr rfl
      | some o => rw [T2.fr a o q2 q] at h2; cases h2
theorem comp2_rd {elt : CE} {t t1 : TGt} {it it1 : CI} {cond cond1 : CO} {own own1 : List Nat} (hsl : ∀ i ∈ t.slots, i ∈ own) (hsl1 : ∀ i ∈ t1.slots, i ∈ own1) (hoo : ∀ i ∈ own1, i ∈ own) {σ : L2.St} {H : Hp} {Q : VK} (hw : tD X.kw (ev T (.comp2 elt t it cond t1 it1 cond1 own own1)) σ H Q) :
    tLc2 (tDI X.kw (evI T it)) (tDG X.kw t) (tDT X.kw (evC T cond)) (tDI X.kw (evI T it1)) (tDG X.kw t1) (tDT X.kw (evC T cond1)) (tD X.kw (ev T elt)) own own1 σ H Q := by
  obtain ⟨ρ, st, env, r, st', S, E, e, k⟩ := hw
  unfold ev at e
  split at e
  · rename_i src st1 h1
    split at e
    · rename_i rs st2 h2
      split at e
      · rename_i hlen
        have hlen : rs.length ≤ sizeLine := of_decide_eq_true hlen
        cases e
        have h2 : compL2 src.ok (stepC2 T elt t cond t1 it1 cond1 own1 (wipeE env own)) src.items st1 = some (rs, st') := h2
        refine ⟨ρ, st, env, src, st1, S, E, h1, fun ρ1 H1 J T1 S1 wd ok0 D hD => ?_⟩
        have o1 : Other D H1 (upd H1 D (.lst [])) := fun b u n h => by rw [upd_ne n]; exact h
        refine ⟨fun i m H' => m = src.items.length - i ∧ i ≤ src.items.length ∧ ∃ ρ' st3' acc vs rest, Step ρ1 H1 ρ' H' ∧ SR X.kw (ρ'.own D) st3' H' ∧ src.ok st3' ∧ H' D = some (.lst vs) ∧
          RDs X.kw (ρ'.own D) H' acc vs ∧ compL2 src.ok (stepC2 T elt t cond t1 it1 cond1 own1 (wipeE env own)) (src.items.drop i) st3' = some (rest, st') ∧ rs = acc ++ rest ∧ ER X.kw (ρ'.own D) H' (wipeE env own) (wipe σ own),
          ⟨src.items.length, by simp, Nat.zero_le _, ρ1, st1, [], [], rs, Step.laid S1 hD, S1.into hD, ok0, upd_same, rfl, h2, rfl, ER.into hD o1 ((E.mono T1).wipe own)⟩, ?_⟩
        rintro i m H' ⟨rfl, hi, ρ', st3, acc, vs, rest, T2, S2, ok2, hv, ra, hc, rfl, E2⟩
        have w := wd.2 (ρ'.own D) H' st3 ⟨T2.pre, fun a h => by
          rcases List.mem_cons.mp h with h | h
          · exact .inr (h ▸ hD)
          · exact .inl (T2.prv ▸ h), T2.new, fun a o h n => T2.fr a o h (Rg.out n)⟩ S2 ok2
        have hDi : D ∉ ρ'.ids := (S2.prv D List.mem_cons_self).1
        have hDp : D ∉ ρ'.prv := by
          rw [T2.prv]
          exact fun h => (S1.prv D h).2 hD
        have hDm : D ∈ (ρ'.own D).prv := List.mem_cons_self
        by_cases hlt : i < src.items.length
        · obtain ⟨d, hd⟩ : ∃ d, src.items[i]? = some d := ⟨_, List.getElem?_eq_getElem hlt⟩
          obtain ⟨go, yl⟩ := w.2 i d hd
          have hdrop : src.items.drop i = d :: src.items.drop (i + 1) := by
            rw [List.drop_eq_getElem_cons hlt]
            rw [List.getElem?_eq_getElem hlt] at hd
            cases hd; rfl
          rw [hdrop] at hc
          refine .inr ⟨go, fun H' => ∃ m', m' < src.items.length - i ∧ m' = src.items.length - (i + 1) ∧ i + 1 ≤ src.items.length ∧ ∃ ρ' st3' acc' vs rest', Step ρ1 H1 ρ' H' ∧ SR X.kw (ρ'.own D) st3' H' ∧ src.ok st3' ∧ H' D = some (.lst vs) ∧
            RDs X.kw (ρ'.own D) H' acc' vs ∧ compL2 src.ok (stepC2 T elt t cond t1 it1 cond1 own1 (wipeE env own)) (src.items.drop (i + 1)) st3' = some (rest', st') ∧ acc ++ rest = acc' ++ rest' ∧ ER X.kw (ρ'.own D) H' (wipeE env own) (wipe σ own),
            fun H' ⟨m', h1, h2, h3, h4⟩ => ⟨m', h1, h2, h3, h4⟩, fun x H2 hy => ?_⟩
          obtain ⟨T3, S3, rx⟩ := yl x H2 hy
          unfold compL2 at hc
          split at hc
          · cases hc
          · rename_i o st4 hs
            split at hc
            · rename_i hok
              split at hc
              · cases hc
              · rename_i rest2 st5 hc2
                cases hc
                unfold stepC2 at hs
                split at hs
                · cases hs
                · rename_i env2 ha
                  refine ⟨ρ'.own D, wipeE env own, d, env2, E2.mono T3, rx, ha, fun σ2 E3 l3 k3 => ⟨wipe_eq l3 fun j hj => k3 j fun hm => hj (hsl j hm), ?_⟩⟩
                  split at hs
                  · rename_i st6 hcond
                    split at hs
                    · rename_i src1 st7 hsrc
                      split at hs
                      · rename_i rr st8 hin
                        cases hs
                        refine ⟨ρ'.own D, st3, env2, _, _, S3, E3, hcond, fun ρ3 H3 T4 S4 => iteT ⟨ρ3, st6, env2, src1, st7, S4, E3.mono T4, hsrc, fun ρ4 H4 J1 T5 S5 wd1 ok4 => ?_⟩⟩
                        have T6 : Step (ρ'.own D) H' ρ4 H4 := (T3.trans T4).trans T5
                        have hp4 : ρ4.prv = D :: ρ'.prv := T6.prv
                        have hD4 : D ∈ ρ4.prv := by rw [hp4]; exact List.mem_cons_self
                        have E5 : ER X.kw ρ4 H4 (wipeE env2 own1) (wipe σ2 own1) := ((E3.mono T4).mono T5).wipe own1
                        have E6 : ER X.kw ρ4 H4 (wipeE env own) (wipe σ own) := E2.mono T6
                        refine ⟨fun j kk H'' => kk = src1.items.length - j ∧ j ≤ src1.items.length ∧ ∃ ρ'' st'' acc1 vs1 rest1, StepP D ρ4 H4 ρ'' H'' ∧ SR X.kw ρ'' st'' H'' ∧ src1.ok st'' ∧ H'' D = some (.lst vs1) ∧
                          RDs X.kw ρ'' H'' (acc ++ acc1) vs1 ∧ compL src1.ok (stepC T elt t1 cond1 (wipeE env2 own1)) (src1.items.drop j) st'' = some (rest1, st4) ∧ o = acc1 ++ rest1 ∧ ER X.kw ρ'' H'' (wipeE env2 own1) (wipe σ2 own1) ∧ ER X.kw ρ'' H'' (wipeE env own) (wipe σ own),
                          ⟨src1.items.length, by simp, Nat.zero_le _, ρ4, st7, [], vs, o, Step.p .refl, S5, ok4, T6.fr D _ hv hDi, by rw [List.append_nil]; exact RDs.mono T6 _ _ ra, hin, rfl, E5, E6⟩, ?_⟩
                        rintro j kk H'' ⟨rfl, hj, ρ'', st'', acc1, vs1, rest1, P2, S6, ok6, hv6, ra6, hc6, rfl, E7, E8⟩
                        have w1 := wd1.2 ρ'' H'' st'' (P2.w hD4) S6 ok6
                        have hD6 : D ∈ ρ''.prv := by rw [P2.prv]; exact hD4
                        have hDi6 : D ∉ ρ''.ids := (S6.prv D hD6).1
                        by_cases hlt1 : j < src1.items.length
                        · obtain ⟨d1, hd1⟩ : ∃ d, src1.items[j]? = some d := ⟨_, List.getElem?_eq_getElem hlt1⟩
                          obtain ⟨go1, yl1⟩ := w1.2 j d1 hd1
                          have hdrop1 : src1.items.drop j = d1 :: src1.items.drop (j + 1) := by
                            rw [List.drop_eq_getElem_cons hlt1]
                            rw [List.getElem?_eq_getElem hlt1] at hd1
                            cases hd1; rfl
                          rw [hdrop1] at hc6
                          refine .inr ⟨go1, fun H'' => ∃ k', k' < src1.items.length - j ∧ k' = src1.items.length - (j + 1) ∧ j + 1 ≤ src1.items.length ∧ ∃ ρ'' st'' acc1' vs1 rest1', StepP D ρ4 H4 ρ'' H'' ∧ SR X.kw ρ'' st'' H'' ∧ src1.ok st'' ∧ H'' D = some (.lst vs1) ∧
                            RDs X.kw ρ'' H'' (acc ++ acc1') vs1 ∧ compL src1.ok (stepC T elt t1 cond1 (wipeE env2 own1)) (src1.items.drop (j + 1)) st'' = some (rest1', st4) ∧ acc1 ++ rest1 = acc1' ++ rest1' ∧ ER X.kw ρ'' H'' (wipeE env2 own1) (wipe σ2 own1) ∧ ER X.kw ρ'' H'' (wipeE env own) (wipe σ own),
                            fun H' ⟨m', h1, h2, h3, h4⟩ => ⟨m', h1, h2, h3, h4⟩, fun x1 H7 hy1 => ?_⟩
                          obtain ⟨T7, S7, rx1⟩ := yl1 x1 H7 hy1
                          unfold compL at hc6
                          split at hc6
                          · cases hc6
                          · rename_i oo st9 hs9
                            split at hc6
                            · rename_i hok9
                              split at hc6
                              · cases hc6
                              · rename_i rest3 st10 hc9
                                cases hc6
                                unfold stepC at hs9
                                split at hs9
                                · cases hs9
                                · rename_i env3 ha9
                                  refine ⟨ρ'', wipeE env2 own1, d1, env3, E7.mono T7, rx1, ha9, fun σ3 E9 l9 k9 => ⟨wipe_eq l9 fun j hj => k9 j fun hm => hj (hsl1 j hm), ?_⟩⟩
                                  split at hs9
                                  · rename_i st11 hcond9
                                    split at hs9
                                    · rename_i y st12 hel
                                      cases hs9
                                      refine ⟨ρ'', st'', env3, _, _, S7, E9, hcond9, fun ρ9 H9 T9 S9 => iteT ⟨ρ9, st11, env3, y, _, S9, E9.mono T9, hel, fun ρa v Ha Ta Sa rv => ?_⟩⟩
                                      have Tb : Step ρ'' H'' ρa Ha := (T7.trans T9).trans Ta
                                      have hva : Ha D = some (.lst vs1) := Tb.fr D _ hv6 hDi6
                                      have Pa := P2.step Tb hD4 Sa
                                      have ea := eq_own (Tb.prv.trans (P2.prv.trans hp4))
                                      have Sa2 := Sa
                                      rw [ea] at Sa2
                                      have back : ∀ {a : List Bo.D} {b : List V}, RDs X.kw ρa Ha a b → RDs X.kw ρa (upd Ha D (.lst (vs1 ++ [v]))) a b := fun {a b} h => by
                                        rw [ea] at h ⊢
                                        exact (RDs.within (fun b u n h => by rw [upd_ne n]; exact h) _ _ h).1
                                      have backE : ∀ {en : Envr} {s : L2.St}, ER X.kw ρa Ha en s → ER X.kw ρa (upd Ha D (.lst (vs1 ++ [v]))) en s := fun {en s} h => by
                                        rw [ea] at h ⊢
                                        exact h.within fun b u n h => by rw [upd_ne n]; exact h
                                      refine ⟨vs1, hva, ?_, _, ?_, rfl, hlt1, ρa, _, acc1 ++ [y], vs1 ++ [v], rest3, Pa.put, ?_, hok9, upd_same, ?_, hc9, by simp, backE (E7.mono Tb), backE (E8.mono Tb)⟩
                                      · rw [ra6.length]
                                        have : (acc ++ ((acc1 ++ ((some y).toList ++ rest3)) ++ rest2)).length ≤ sizeLine := hlen
                                        simp at this ⊢
                                        omega
                                      · omega
                                      · rw [ea]; exact Sa2.within.1
                                      · rw [← List.append_assoc]
                                        exact back ((RDs.mono Tb _ _ ra6).append (show RDs X.kw ρa Ha [y] [v] from ⟨v, [], rfl, rv, rfl⟩))
                                    · cases hs9
                                  · rename_i st11 hcond9
                                    cases hs9
                                    refine ⟨ρ'', st'', env3, _, _, S7, E9, hcond9, fun ρ9 H9 T9 S9 => iteF ?_⟩
                                    have Tb : Step ρ'' H'' ρ9 H9 := T7.trans T9
                                    exact ⟨_, by omega, rfl, hlt1, ρ9, _, acc1, vs1, rest3, P2.step Tb hD4 S9, S9, hok9, Tb.fr D _ hv6 hDi6, RDs.mono Tb _ _ ra6, hc9, by simp, E7.mono Tb, E8.mono Tb⟩
                                  · cases hs9
                            · cases hc6
                        · have ej : j = src1.items.length := by omega
                          subst ej
                          rw [List.drop_length] at hc6
                          unfold compL at hc6
                          cases hc6
                          have P3 : StepP D (ρ'.own D) H' ρ'' H'' := (Step.p T6).trans P2 hDm S6
                          have e6 := eq_own (P2.prv.trans hp4)
                          refine .inl ⟨w1.1, _, ?_, rfl, hlt, ⟨ρ''.ids, ρ'.prv⟩, _, acc ++ acc1, vs1, rest2, step_out hD T2 P3, ?_, hok, hv6, ?_, hc2, by simp, ?_⟩
                          · omega
                          · rw [← e6]; exact S6
                          · rw [← e6]; exact ra6
                          · rw [← e6]; exact E8
                      · cases hs
                    · cases hs
                  · rename_i st6 hcond
                    cases hs
                    refine ⟨ρ'.own D, st3, env2, _, _, S3, E3, hcond, fun ρ4 H4 T4 S4 => iteF ?_⟩
                    have T6 : Step (ρ'.own D) H' ρ4 H4 := T3.trans T4
                    have e4 := eq_own (l := ρ'.prv) T6.prv
                    refine ⟨_, ?_, rfl, hlt, ⟨ρ4.ids, ρ'.prv⟩, _, acc, vs, rest2, step_out hD T2 (Step.p T6), ?_, hok, T6.fr D _ hv hDi, ?_, hc2, by simp, ?_⟩
                    · omega
                    · rw [← e4]; exact S4
                    · rw [← e4]; exact RDs.mono T6 _ _ ra
                    · rw [← e4]; exact E2.mono T6
                  · cases hs
            · cases hc
        · have ei : i = src.items.length := by omega
          subst ei
          refine .inl ⟨w.1, ?_⟩
          rw [List.drop_length] at hc
          unfold compL2 at hc
          cases hc
          have S4 := S2.drop
          rw [List.append_nil] at k
          refine k ρ' _ H' (T1.trans T2) S4 ⟨D, vs, rfl, .inl ⟨.inl hv, fun h => ?_⟩, (RDs.within (fun _ _ _ h => h) _ _ ra).2⟩
          rcases h with h | h
          · exact hDi h
          · exact hDp h
      · cases e
    · cases e
  · cases e
end
end Bo

set_option Elab.async false
set_option linter.all false
set_option maxRecDepth 100000
set_option maxHeartbeats 8000000
/-! Bo, part 8f: dicts by comprehensions, len(set(..)). -/
namespace Bo
open PySem PySem.Spec L2
section
variable {X : Cx} {T : Tab} {L : Nat} {a b c e : Expr} {es : List Expr} {pos p : Pos} {x y z : CE} {xs : CEs}
theorem pd_lset {p1 p2 pos2 : Pos} (G : Good T L X) (hg : Gl X "len") (hg2 : Gl X "set") (ha : PE X a (tD X.kw (ev T x))) (hs : noStars [a] = true) :
    PE X (.Call (.Name "len" p1) [.Call (.Name "set" p2) [a] [] pos2] [] pos) (tD X.kw (ev T (.lset x))) :=
  PE.imp (pe_lset G.calm hg (G.bi _ (by decide +kernel)) hg2 (G.bi _ (by decide +kernel)) ha hs) fun σ H Q ⟨ρ, st, env, r, st', S, E, e, k⟩ => by
    unfold ev at e
    split at e
    · rename_i u st1 h1
      split at e
      · rename_i d hd
        cases e
        unfold lsetD at hd
        split at hd
        · rename_i ds hl
          split at hd
          · rename_i ns hn
            split at hd
            · rename_i h4
              cases hd
              refine ⟨ρ, st, env, _, _, S, E, h1, fun ρ1 v1 H1 T1 S1 R1 => ?_⟩
              obtain ⟨q, vs, rfl, hs, rs⟩ := list_ok S1 hl R1
              rw [intsOf_eq hn] at rs
              rw [rds_ints rs] at hs
              exact ⟨q, ns, rfl, hs, h4, k ρ1 _ H1 T1 S1 rfl⟩
            · cases hd
          · cases hd
        · cases hd
      · cases e
    · cases e

/-! ### dicts by comprehensions -/
/-- the pairs so far, as the heap has them -/
abbrev KP (K : KW) (ρ : Rg) (H : Hp) : List (D × D) → List (Key × V) → Prop := Paired fun d k => keyV d.1 = some k.1 ∧ RD K ρ H d.2 k.2
theorem keyV_N {d : D} {k : Key} (h : keyV d = some k) : keyN d = some (leafK k).key := keyL_N (keyV_leaf h)
theorem keyV_eq {c d : D} {j k : Key} (h : keyV c = some j) (g : keyV d = some k) : eqK c d = decide (j = k) := by
  rw [eqK_L (keyV_leaf h) (keyV_leaf g)]
  exact decide_eq_decide.mpr ⟨fun z => leafK_inj z, fun z => by rw [z]⟩
theorem kp_any {K : KW} {ρ : Rg} {H : Hp} {d : D} {k : Key} (h : keyV d = some k) {kvs : List (D × D)} {ks : List (Key × V)} (t : KP K ρ H kvs ks) : (kvs.any fun p => eqK p.1 d) = (ks.any fun q => decide (q.1 = k)) := by
  induction t with
  | nil => rfl
  | cons g _ ih => rw [List.any_cons, List.any_cons, ih, keyV_eq g.1 h]
theorem kp_set {K : KW} {ρ : Rg} {H : Hp} {d w : D} {k : Key} {v : V} (h : keyV d = some k) (r : RD K ρ H w v) {kvs : List (D × D)} {ks : List (Key × V)} (t : KP K ρ H kvs ks) : KP K ρ H (setK kvs d w) (putK ks k v) := by
  unfold setK putK
  have e := kp_any h t
  have mp : ∀ {kvs : List (D × D)} {ks : List (Key × V)}, KP K ρ H kvs ks → KP K ρ H (kvs.map fun p => if eqK p.1 d then (p.1, w) else p) (ks.map fun z => if z.1 = k then (z.1, v) else z) := by
    intro kvs ks t
    induction t with
    | nil => exact .nil
    | @cons p z kvs ks g _ ih =>
      refine .cons ?_ ih
      have e := keyV_eq g.1 h
      show keyV (if eqK p.1 d then (p.1, w) else p).1 = some (if z.1 = k then (z.1, v) else z).1 ∧ RD K ρ H (if eqK p.1 d then (p.1, w) else p).2 (if z.1 = k then (z.1, v) else z).2
      by_cases c : z.1 = k
      · rw [if_pos c, if_pos (by rw [e]; exact decide_eq_true c)]
        exact ⟨g.1, r⟩
      · rw [if_neg c, if_neg (by rw [e, decide_eq_false c]; exact Bool.false_ne_true)]
        exact g
  by_cases c : (ks.any fun q => decide (q.1 = k)) = true
  · rw [if_pos c, if_pos (e.trans c)]
    exact mp t
  · rw [if_neg c, if_neg (fun z => c (e.symm.trans z))]
    exact t.snoc ⟨h, r⟩
theorem kp_ent {K : KW} {ρ : Rg} {H : Hp} {kvs : List (D × D)} {ks : List (Key × V)} (t : KP K ρ H kvs ks) : ∀ {vs : List (Key × Value)}, KV ks vs → Paired (EntL K true ρ H) kvs (vs.map fun z => (leafK z.1, z.2)) := by
  induction t with
  | nil => intro vs g; cases g; exact .nil
  | @cons p z kvs ks h _ ih =>
    intro vs g
    cases g with
    | @cons _ w _ us g u =>
      refine .cons ⟨?_, z.2, g.2, h.2⟩ (ih u)
      rw [keyV_leaf h.1, g.1]
theorem kp_mono {K : KW} {ρ ρ' : Rg} {H H' : Hp} {kvs : List (D × D)} {ks : List (Key × V)} (f : ∀ (d : D) (v : V), RD K ρ H d v → RD K ρ' H' d v) (t : KP K ρ H kvs ks) : KP K ρ' H' kvs ks := L2.Paired.mapP t fun _ _ ⟨g1, g2⟩ => ⟨g1, f _ _ g2⟩
theorem put_len (ks : List (Key × V)) (k : Key) (v : V) : (putK ks k v).length ≤ ks.length + 1 := by
  unfold putK
  split <;> simp
theorem dictOf_snoc (acc : List D) (d w : D) : dictOfP (acc ++ [.tup [d, w]]) = setK (dictOfP acc) d w := by
  unfold dictOfP
  rw [List.foldl_append]
  rfl
noncomputable def stepK (T : Tab) (kx vx : CE) (t : TGt) (cond : CO) (env : Envr) (d : D) (st : Store) : Option (Option D × Store) := match asgT t d env with
  | none => none
  | some env2 => match evC T cond env2 st with
    | some (true, st2) => match ev T kx env2 st2 with
      | some (x, st3) => match ev T vx env2 st3 with
        | some (y, st4) => if (keyV x).isSome then some (some (.tup [x, y]), st4) else none
        | none => none
      | none => none
    | some (false, st2) => some (none, st2)
    | none => none
theorem ro_there {K : KW} {ρ : Rg} {H : Hp} {q : Addr} {o : O} (h : RO K ρ H q o) : H q ≠ none := by
  cases o with
  | lst ds =>
    obtain ⟨vs, e, _⟩ := h
    rw [e]
    exact Option.some_ne_none _
  | dct m kvs =>
    cases m with
    | lf b =>
      obtain ⟨_, _, xs, e, _⟩ := h
      rw [e]
      exact Option.some_ne_none _
    | tp =>
      obtain ⟨_, _, xs, e, _⟩ := h
      rw [e]
      exact Option.some_ne_none _
/-- what is known of the new dict -/
def DcEnd (K : KW) (ρ : Rg) (H : Hp) (st' : Store) (kvs : List (D × D)) : VK := fun v H2 => ∃ (D : Addr) (ρ2 : Rg) (ks : List (Key × V)), v = .ref D ∧ H D = none ∧ Step ρ H ρ2 H2 ∧ SR K (ρ2.own D) st' H2 ∧ D ∉ ρ2 ∧ H2 D = some (.dK ks) ∧ KP K (ρ2.own D) H2 kvs ks ∧ kvs.length ≤ sizeLine
theorem dcomp_rd {kx vx : CE} {t : TGt} {it : CI} {cond : CO} {own : List Nat} (hsl : ∀ i ∈ t.slots, i ∈ own) {σ : L2.St} {H : Hp} {ρ : Rg} {st st1 st' : Store} {env : Envr} {src : Src} {rs : List D} (S : SR X.kw ρ st H) (E : ER X.kw ρ H env σ) (h1 : evI T it env st = some (src, st1))
    (h2 : compL src.ok (stepK T kx vx t cond (wipeE env own)) src.items st1 = some (rs, st')) :
    tDc (tDI X.kw (evI T it)) (tDG X.kw t) (tDT X.kw (evC T cond)) (tD X.kw (ev T kx)) (tD X.kw (ev T vx)) own σ H (DcEnd X.kw ρ H st' (dictOfP rs)) := by
  refine ⟨ρ, st, env, src, st1, S, E, h1, fun ρ1 H1 J T1 S1 wd ok0 D hD => ?_⟩
  have o1 : Other D H1 (upd H1 D (.dK [])) := fun b u n h => by rw [upd_ne n]; exact h
  have hD0 : H D = none := by
    cases q : H D with
    | none => rfl
    | some o =>
      by_cases hm : D ∈ ρ.ids
      · obtain ⟨i, hi, ei⟩ := List.mem_iff_getElem.mp hm
        have hlt : i < st1.length := by
          rw [← S1.len]
          exact Nat.lt_of_lt_of_le hi T1.pre.length_le
        obtain ⟨ob, hob⟩ : ∃ ob, st1[i]? = some ob := ⟨_, List.getElem?_eq_getElem hlt⟩
        obtain ⟨b, hb, ro⟩ := S1.ob i ob hob
        have e1 : ρ1.ids[i]? = some D := by
          obtain ⟨tl, htl⟩ := T1.pre
          rw [← htl, List.getElem?_append_left hi, List.getElem?_eq_getElem hi, ei]
        rw [e1] at hb
        cases hb
        exact absurd hD (ro_there ro)
      · rw [T1.fr D o q hm] at hD
        cases hD
  refine ⟨fun i m H' => m = src.items.length - i ∧ i ≤ src.items.length ∧ ∃ ρ' st3' acc ks rest, Step ρ1 H1 ρ' H' ∧ SR X.kw (ρ'.own D) st3' H' ∧ src.ok st3' ∧ H' D = some (.dK ks) ∧
    KP X.kw (ρ'.own D) H' (dictOfP acc) ks ∧ ks.length ≤ i ∧ (dictOfP acc).length ≤ i ∧ compL src.ok (stepK T kx vx t cond (wipeE env own)) (src.items.drop i) st3' = some (rest, st') ∧ rs = acc ++ rest ∧ ER X.kw (ρ'.own D) H' (wipeE env own) (wipe σ own),
    ⟨src.items.length, by simp, Nat.zero_le _, ρ1, st1, [], [], rs, Step.laid S1 hD, S1.into hD, ok0, upd_same, .nil, Nat.le_refl _, Nat.le_refl _, h2, rfl, ER.into hD o1 ((E.mono T1).wipe own)⟩, ?_⟩
  rintro i m H' ⟨rfl, hi, ρ', st3, acc, ks, rest, T2, S2, ok2, hv, ra, hl, hl2, hc, rfl, E2⟩
  have nD : ∀ a, H1 a ≠ none → a ≠ D := fun a h z => h (z ▸ hD)
  have w := wd.2 (ρ'.own D) H' st3 ⟨T2.pre, fun a h => by
    rcases List.mem_cons.mp h with h | h
    · exact .inr (h ▸ hD)
    · exact .inl (T2.prv ▸ h), T2.new, fun a o h n => T2.fr a o h (Rg.out n)⟩ S2 ok2
  have hDi : D ∉ ρ'.ids := (S2.prv D List.mem_cons_self).1
  have hDp : D ∉ ρ'.prv := by
    rw [T2.prv]
    exact fun h => (S1.prv D h).2 hD
  by_cases hlt : i < src.items.length
  · obtain ⟨d, hd⟩ : ∃ d, src.items[i]? = some d := ⟨_, List.getElem?_eq_getElem hlt⟩
    obtain ⟨go, yl⟩ := w.2 i d hd
    have hdrop : src.items.drop i = d :: src.items.drop (i + 1) := by
      rw [List.drop_eq_getElem_cons hlt]
      rw [List.getElem?_eq_getElem hlt] at hd
      cases hd; rfl
    rw [hdrop] at hc
    refine .inr ⟨go, fun H' => ∃ m', m' < src.items.length - i ∧ m' = src.items.length - (i + 1) ∧ i + 1 ≤ src.items.length ∧ ∃ ρ' st3' acc' ks rest', Step ρ1 H1 ρ' H' ∧ SR X.kw (ρ'.own D) st3' H' ∧ src.ok st3' ∧ H' D = some (.dK ks) ∧
      KP X.kw (ρ'.own D) H' (dictOfP acc') ks ∧ ks.length ≤ i + 1 ∧ (dictOfP acc').length ≤ i + 1 ∧ compL src.ok (stepK T kx vx t cond (wipeE env own)) (src.items.drop (i + 1)) st3' = some (rest', st') ∧ acc ++ rest = acc' ++ rest' ∧ ER X.kw (ρ'.own D) H' (wipeE env own) (wipe σ own),
      fun H' ⟨m', g1, g2, g3, g4⟩ => ⟨m', g1, g2, g3, g4⟩, fun u H2 hy => ?_⟩
    obtain ⟨T3, S3, rx⟩ := yl u H2 hy
    unfold compL at hc
    split at hc
    · cases hc
    · rename_i o st4 hs
      split at hc
      · rename_i hok
        split at hc
        · cases hc
        · rename_i rest2 st5 hc2
          cases hc
          unfold stepK at hs
          split at hs
          · cases hs
          · rename_i env2 ha
            refine ⟨ρ'.own D, wipeE env own, d, env2, E2.mono T3, rx, ha, fun σ2 E3 l3 k3 => ⟨wipe_eq l3 fun j hj => k3 j fun hm => hj (hsl j hm), ?_⟩⟩
            have stepped : ∀ {ρ4 : Rg} {H4 : Hp}, Step (ρ'.own D) H' ρ4 H4 → ρ4 = Rg.own ⟨ρ4.ids, ρ'.prv⟩ D ∧ Step ρ1 H1 ⟨ρ4.ids, ρ'.prv⟩ H4 ∧ H4 D = some (.dK ks) := by
              intro ρ4 H4 T6
              refine ⟨?_, ⟨T2.pre.trans T6.pre, T2.prv, fun a h => ?_, fun a o h n => T6.fr a o (T2.fr a o h n) (T2.outI h n)⟩, T6.fr D _ hv hDi⟩
              · have hp4 : ρ4.prv = D :: ρ'.prv := T6.prv
                cases ρ4
                simp only at hp4
                subst hp4
                rfl
              · rcases T6.new a h with h | h
                · exact T2.new a h
                · by_cases q : a ∈ ρ1.ids
                  · exact .inl q
                  · cases q2 : H1 a with
                    | none => exact .inr rfl
                    | some o => rw [T2.fr a o q2 q] at h; cases h
            split at hs
            · rename_i st6 hcond
              split at hs
              · rename_i dk st7 hk
                split at hs
                · rename_i dv st8 hvv
                  split at hs
                  · rename_i isk
                    cases hs
                    obtain ⟨k, hk2⟩ := Option.isSome_iff_exists.mp isk
                    refine ⟨ρ'.own D, st3, env2, _, _, S3, E3, hcond, fun ρ3 H3 T4 S4 => iteT ⟨ρ3, st6, env2, dk, _, S4, E3.mono T4, hk, fun ρ4 v4 H4 T5 S5 rk => ⟨ρ4, st7, env2, dv, _, S5, (E3.mono T4).mono T5, hvv, fun ρ5 v5 H5 T6 S6 rv => ?_⟩⟩⟩
                    have T7 : Step (ρ'.own D) H' ρ5 H5 := ((T3.trans T4).trans T5).trans T6
                    obtain ⟨e5, T8, hv5⟩ := stepped T7
                    have oo : ∀ o, Other D H5 (upd H5 D o) := fun o b u n h => by rw [upd_ne n]; exact h
                    refine ⟨ks, k, ?_, hv5, ?_, _, ?_, rfl, hlt, ⟨ρ5.ids, ρ'.prv⟩, _, acc ++ [.tup [dk, dv]], putK ks k v5, rest2, ?_, ?_, hok, upd_same, ?_, ?_, ?_, hc2, by simp, ?_⟩
                    · have rk2 := rk
                      cases dk <;> cases hk2 <;> cases rk2 <;> rfl
                    · exact Nat.lt_of_le_of_lt hl (Nat.lt_of_lt_of_le hlt wd.1)
                    · omega
                    · refine ⟨T8.pre, T8.prv, T8.new, fun a o h n => ?_⟩
                      rw [upd_ne (nD a (by rw [h]; exact fun z => nomatch z))]
                      exact T8.fr a o h n
                    · rw [e5] at S6
                      exact S6.within.1
                    · rw [dictOf_snoc]
                      have r1 : KP X.kw ρ5 H5 (dictOfP acc) ks := kp_mono (fun d v => RD.mono T7 d v) ra
                      have r2 := kp_set hk2 rv r1
                      rw [e5] at r2
                      exact kp_mono (fun d v z => (RD.within (oo _) d v z).1) r2
                    · have := put_len ks k v5
                      omega
                    · rw [dictOf_snoc]
                      have := setK_len (dictOfP acc) dk dv
                      omega
                    · have E5 := E2.mono T7
                      rw [e5] at E5
                      exact E5.within (oo _)
                  · cases hs
                · cases hs
              · cases hs
            · rename_i st6 hcond
              cases hs
              refine ⟨ρ'.own D, st3, env2, _, _, S3, E3, hcond, fun ρ4 H4 T4 S4 => iteF ?_⟩
              have T6 : Step (ρ'.own D) H' ρ4 H4 := T3.trans T4
              obtain ⟨e4, T8, hv4⟩ := stepped T6
              refine ⟨_, ?_, rfl, hlt, ⟨ρ4.ids, ρ'.prv⟩, _, acc, ks, rest2, T8, ?_, hok, hv4, ?_, by omega, by omega, hc2, by simp, ?_⟩
              · omega
              · rw [← e4]; exact S4
              · rw [← e4]; exact kp_mono (fun d v => RD.mono T6 d v) ra
              · rw [← e4]; exact E2.mono T6
            · cases hs
      · cases hc
  · have ei : i = src.items.length := by omega
    subst ei
    refine .inl ⟨w.1, ?_⟩
    rw [List.drop_length] at hc
    unfold compL at hc
    cases hc
    rw [List.append_nil]
    exact ⟨D, ρ', ks, rfl, hD0, T1.trans T2, S2, fun h => by
      rcases h with h | h
      · exact hDi h
      · exact hDp h, hv, ra, Nat.le_trans hl2 wd.1⟩
/-- the new dict comes into the store -/
theorem dc_label {pins : List (Addr × Obj)} {σ : L2.St} {H H2 : Hp} {s : Shared} {ρ : Rg} {st st' : Store} {kvs : List (D × D)} {v : V} (S : SR X.kw ρ st H) (I : Inv X pins σ H2 s) (h : DcEnd X.kw ρ H st' kvs v H2) :
    ∃ H3 ρ3, Inv X pins σ H3 s ∧ Step ρ H ρ3 H3 ∧ SR X.kw ρ3 (st' ++ [.dct (.lf true) kvs]) H3 ∧ RD X.kw ρ3 H3 (.obj st'.length) v ∧ ∀ b, H2 b = none → H3 b = none := by
  obtain ⟨D, ρ2, ks, rfl, hD0, T2, S2, hna, hv, kp, hl⟩ := h
  obtain ⟨g1, g2, vs, g3, g4⟩ := I.hok D _ hv
  have dd := dict_lf g4
  have he : ∃ q, s.heap.get? D = some q := let ⟨q, _, _, hq, _⟩ := dd; ⟨q, hq⟩
  have new : ObjOk X.prog X.w (upd H2 D (.ext fun h => h.DictOf (kindM true X.prog X.w) D (vs.map fun z => (leafK z.1, z.2)))) s.heap D (.ext fun h => h.DictOf (kindM true X.prog X.w) D (vs.map fun z => (leafK z.1, z.2))) :=
    ⟨dd, he, fun g1 g2 f hk => let ⟨o, es, ep, e1, rest⟩ := f; ⟨o, es, ep, hk o e1, rest⟩⟩
  have I3 := I.write (x := D) (e := D) (h' := s.heap) (t' := s.toks) (by rw [hv]; exact True.intro) (.inl rfl) (fun c q hc z => z) he new
  have oo : Other D H2 (upd H2 D (.ext fun h => h.DictOf (kindM true X.prog X.w) D (vs.map fun z => (leafK z.1, z.2)))) := fun b u n h => by rw [upd_ne n]; exact h
  have S3 := (S2.within (o := .ext fun h => h.DictOf (kindM true X.prog X.w) D (vs.map fun z => (leafK z.1, z.2)))).2
  have n1 : ∀ vs', ¬ Rd (upd H2 D (.ext fun h => h.DictOf (kindM true X.prog X.w) D (vs.map fun z => (leafK z.1, z.2)))) D (.tup vs') := fun vs' z => by
    rcases z with z | ⟨_, z⟩ <;> (rw [upd_same] at z; cases z)
  have n2 : ∀ vs', ¬ Rd (upd H2 D (.ext fun h => h.DictOf (kindM true X.prog X.w) D (vs.map fun z => (leafK z.1, z.2)))) D (.lst vs') := fun vs' z => by
    rcases z with z | ⟨_, z⟩ <;> (rw [upd_same] at z; cases z)
  have er : Paired (EntL X.kw true (ρ2.add D) (upd H2 D (.ext fun h => h.DictOf (kindM true X.prog X.w) D (vs.map fun z => (leafK z.1, z.2))))) kvs (vs.map fun z => (leafK z.1, z.2)) :=
    kp_ent (kp_mono (fun d v z => RD.adopt n1 n2 _ _ (RD.within oo _ _ z).2) kp) g3
  have S4 := S3.adopt (u := .dct (.lf true) kvs) hna n1 n2 ⟨g2, hl, _, upd_same, er⟩
  refine ⟨_, ρ2.add D, I3, ⟨T2.pre.trans (List.prefix_append _ _), T2.prv, fun a ha => ?_, fun a o ho na => ?_⟩, S4, ⟨D, rfl, by show (ρ2.ids ++ [D])[st'.length]? = _; rw [← S2.len]; simp [Rg.own]⟩, fun b hb => ?_⟩
  · rcases List.mem_append.mp ha with ha | ha
    · exact T2.new a ha
    · rw [List.mem_singleton.mp ha]; exact .inr hD0
  · have nq : a ≠ D := ne_of_none ho hD0
    rw [upd_ne nq]
    exact T2.fr a o ho na
  · rw [upd_ne (fun z => by rw [z, hv] at hb; cases hb)]
    exact hb
theorem ev_dc {kx vx : CE} {t : TGt} {it : CI} {cond : CO} {own : List Nat} {env : Envr} {st st' : Store} {r : D} (e : ev T (.dcomp kx vx t it cond own) env st = some (r, st')) :
    ∃ src st1 rs st2, evI T it env st = some (src, st1) ∧ compL src.ok (stepK T kx vx t cond (wipeE env own)) src.items st1 = some (rs, st2) ∧ r = .obj st2.length ∧ st' = st2 ++ [.dct (.lf true) (dictOfP rs)] := by
  unfold ev at e
  split at e
  · rename_i src st1 h1
    split at e
    · rename_i rs st2 h2
      cases e
      exact ⟨src, st1, rs, st2, h1, h2, rfl, rfl⟩
    · cases e
  · cases e
structure DcOk (X : Cx) (T : Tab) (x y : CE) (t : TGt) (it : CI) (cond : CO) (own : List (Str × Nat)) (ek ew tg iter : Expr) (ifs : List Expr) (scope : Scope) : Prop where
  ok : BlkOk X.N X.env.scope scope own
  hi : PI X tg iter (tDI X.kw (evI T it))
  hg : ∀ (s : Shared) (H : Hp) (C : Addr) (cl : List (Str × Addr)) (fp : List Addr), PG (X.blk s H scope (compEnvC scope cl C X.env) fp) tg (tDG X.kw t)
  hsl : ∀ i ∈ t.slots, i ∈ own.map (·.2)
  ht : ∀ (s : Shared) (H : Hp) (C : Addr) (cl : List (Str × Addr)) (fp : List Addr), PTs (X.blk s H scope (compEnvC scope cl C X.env) fp) ifs (tDT X.kw (evC T cond))
  hk : ∀ (s : Shared) (H : Hp) (C : Addr) (cl : List (Str × Addr)) (fp : List Addr), PE (X.blk s H scope (compEnvC scope cl C X.env) fp) ek (tD X.kw (ev T x))
  he : ∀ (s : Shared) (H : Hp) (C : Addr) (cl : List (Str × Addr)) (fp : List Addr), PE (X.blk s H scope (compEnvC scope cl C X.env) fp) ew (tD X.kw (ev T y))
  hs : ∀ v, foldedSetIterable iter X.env v = pure v
theorem pd_dcomp {t : TGt} {it : CI} {cond : CO} {own : List (Str × Nat)} {ek ew tg iter : Expr} {ifs : List Expr} {scope : Scope} (G : Good T L X) (c : DcOk X T x y t it cond own ek ew tg iter ifs scope) :
    PE X (.DictComp ek ew [⟨tg, iter, ifs, 0⟩] scope pos) (tD X.kw (ev T (.dcomp x y t it cond (own.map (·.2))))) :=
  ⟨fun pins s σ H Q I ⟨ρ, st, env, r, st', S, E, e, k⟩ => by
    obtain ⟨src, st1, rs, st2, h1, h2, rfl, rfl⟩ := ev_dc e
    refine thn ((pe_dc G.calm G.nd c.hi c.ok c.hg c.ht c.hk c.he c.hs).run pins s σ H _ I (dcomp_rd c.hsl S E h1 h2)) fun u s1 ⟨v, H2, I2, rv, dc⟩ => ?_
    obtain ⟨H3, ρ3, I3, T3, S3, R3, _⟩ := dc_label S I2 dc
    exact ⟨v, H3, I3, rv, k ρ3 v H3 T3 S3 R3⟩⟩
/-- name = {..}, the name a local -/
theorem ps_dcomp {t : TGt} {it : CI} {cond : CO} {own : List (Str × Nat)} {ek ew tg iter : Expr} {ifs : List Expr} {scope : Scope} {sp py : Pos} {i : Nat} {n : Str} (G : Good T L X) (c : DcOk X T x y t it cond own ek ew tg iter ifs scope)
    (hi : X.N[i]? = some n) (hn : X.env.scope.names.lookup n = some .local) (hsw : swapsWith (.DictComp ek ew [⟨tg, iter, ifs, 0⟩] scope pos) (some (.Name n py)) sp.line X.env = pure true) :
    PS X (.Assign [.Name n py] (.DictComp ek ew [⟨tg, iter, ifs, 0⟩] scope pos) sp) (fun D σ H => ∃ ρ st env d st1, SR X.kw ρ st H ∧ ER X.kw ρ H env σ ∧ ev T (.dcomp x y t it cond (own.map (·.2))) env st = some (d, st1) ∧
      ∀ ρ1 v H1, Step ρ H ρ1 H1 → SR X.kw ρ1 st1 H1 → RD X.kw ρ1 H1 d v → D.nx (σ.set i (some v)) H1) := by
  refine ⟨fun pins s σ H D I ⟨ρ, st, env, d, st1, S, E, e, k⟩ => ?_⟩
  obtain ⟨src, st2, rs, st3, h1, h2, rfl, rfl⟩ := ev_dc e
  rw [exec_Assign_Name_used _ _ _ _ hsw]
  refine wpAny_bind (wpAny_standAt (wpAny_bind ?_))
  show wpAny _ X.A (do let _ ← comprehension (.DictComp ek ew [⟨tg, iter, ifs, 0⟩] scope pos) scope X.env (firstIterPos [⟨tg, iter, ifs, 0⟩] pos) newDict false (eval iter X.env) (some (assign (.Name n py) X.env))) _ _ s
  refine wpAny_bind (thn (dc_core (Qf := fun _ s' => SP X pins D .next s') G.calm G.nd I c.hi c.ok c.hg c.ht c.hk c.he c.hs (dcomp_rd c.hsl S E h1 h2) fun A C s' m H' I' dc hm fp => ?_) fun _ s' hq => wpAny_pure (wpAny_pure hq))
  obtain ⟨H3, ρ3, I3, T3, S3, R3, none3⟩ := dc_label S I' dc
  show wpAny _ _ (assign (.Name n py) X.env (.ref A)) _ _ _
  refine wpAny_assign_Name (store_ok2 (v := V.ref A) I3 G.nd hi (.inl hn) rfl (fun s2 I2 ⟨a, sb, ha⟩ => ?_) (.inr hn))
  obtain ⟨f0, f1, f2, f3, f4, f5⟩ := fp
  have haC : C ≠ a := by
    rcases ha with z | z
    · rw [z]; exact f1
    · exact fun e => f4 n a z e.symm
  refine ⟨m, hm.sameBut sb haC, fun h3 sb3 => ?_⟩
  exact ⟨_, H3, I2.turned (t' := s2.toks) (fun b o hb e => (sb3.2 b hb).trans e) (none3 C f0) f1 f3 f4 f5, k ρ3 _ H3 T3 S3 R3⟩
end
end Bo

set_option Elab.async false
set_option linter.all false
set_option maxRecDepth 100000
set_option maxHeartbeats 8000000
/-! Bo, part 9: the expressions' theorem. -/
namespace Bo
open PySem PySem.Spec L2

theorem strIs_ok {a b : Str} (h : strIs a b = true) : a = b := of_decide_eq_true h
theorem opIs_ok {a b : Operator} (h : opIs a b = true) : a = b := of_decide_eq_true h
theorem copIs_ok {a b : CmpOp} (h : copIs a b = true) : a = b := of_decide_eq_true h
theorem ev_len1000 {T : Tab} {L : Nat} {N : List Str} {sc : Scope} {as : CEs} {es : List Expr} (h : chks T L N sc as es = true) (hl : es.length ≤ 1000) : ∀ env st ds st', evs T as env st = some (ds, st') → ds.length ≤ 1000 := fun env st ds st' e => by
  rw [evs_len h e]; exact hl
theorem folded_no {e : Expr} {env : Env} (h : noSet e = true) : ∀ x, foldedSetIterable e env x = pure x := by
  intro x
  cases e <;> first | rfl | exact absurd h (by simp [noSet])
section
variable {T : Tab} {L : Nat}
theorem pd_comp {X : Cx} {elt : Expr} {tg iter : Expr} {ifs : List Expr} {scope : Scope} {pos : Pos} {x : CE} {t : TGt} {it : CI} {cond : CO} {own : List Nat} (G : Good T L X) (ok : BlkOk X.N X.env.scope scope (ownOf X.N own)) (ho : (ownOf X.N own).map (·.2) = own)
    (hi : PI X tg iter (tDI X.kw (evI T it))) (hg : ∀ (s : Shared) (H : Hp) (C : Addr) (cl : List (Str × Addr)) (fp : List Addr), PG (X.blk s H scope (compEnvC scope cl C X.env) fp) tg (tDG X.kw t)) (hsl : ∀ i ∈ t.slots, i ∈ own)
    (ht : ∀ (s : Shared) (H : Hp) (C : Addr) (cl : List (Str × Addr)) (fp : List Addr), PTs (X.blk s H scope (compEnvC scope cl C X.env) fp) ifs (tDT X.kw (evC T cond)))
    (he : ∀ (s : Shared) (H : Hp) (C : Addr) (cl : List (Str × Addr)) (fp : List Addr), PE (X.blk s H scope (compEnvC scope cl C X.env) fp) elt (tD X.kw (ev T x))) (hs : noSet iter = true) :
    PE X (.ListComp elt [⟨tg, iter, ifs, 0⟩] scope pos) (tD X.kw (ev T (.comp x t it cond own))) := by
  refine PE.imp (pe_lc (own := ownOf X.N own) G.calm G.nd hi ok hg ht he (folded_no hs)) fun σ H Q h => ?_
  rw [ho]
  exact comp_rd hsl h
theorem pd_comp2 {X : Cx} {elt tg iter tg1 iter1 : Expr} {ifs ifs1 : List Expr} {scope : Scope} {pos : Pos} {x : CE} {t t1 : TGt} {it it1 : CI} {cond cond1 : CO} {own own1 : List Nat} (G : Good T L X) (ok : BlkOk X.N X.env.scope scope (ownOf X.N own)) (ho : (ownOf X.N own).map (·.2) = own)
    (hoo : ∀ i ∈ own1, i ∈ own) (hi : PI X tg iter (tDI X.kw (evI T it))) (hg : ∀ (s : Shared) (H : Hp) (C : Addr) (cl : List (Str × Addr)) (fp : List Addr), PG (X.blk s H scope (compEnvC scope cl C X.env) fp) tg (tDG X.kw t)) (hsl : ∀ i ∈ t.slots, i ∈ own)
    (ht : ∀ (s : Shared) (H : Hp) (C : Addr) (cl : List (Str × Addr)) (fp : List Addr), PTs (X.blk s H scope (compEnvC scope cl C X.env) fp) ifs (tDT X.kw (evC T cond)))
    (hi1 : ∀ (s : Shared) (H : Hp) (C : Addr) (cl : List (Str × Addr)) (fp : List Addr), PI (X.blk s H scope (compEnvC scope cl C X.env) fp) tg1 iter1 (tDI X.kw (evI T it1)))
    (hg1 : ∀ (s : Shared) (H : Hp) (C : Addr) (cl : List (Str × Addr)) (fp : List Addr), PG (X.blk s H scope (compEnvC scope cl C X.env) fp) tg1 (tDG X.kw t1)) (hsl1 : ∀ i ∈ t1.slots, i ∈ own1)
    (ht1 : ∀ (s : Shared) (H : Hp) (C : Addr) (cl : List (Str × Addr)) (fp : List Addr), PTs (X.blk s H scope (compEnvC scope cl C X.env) fp) ifs1 (tDT X.kw (evC T cond1)))
    (he : ∀ (s : Shared) (H : Hp) (C : Addr) (cl : List (Str × Addr)) (fp : List Addr), PE (X.blk s H scope (compEnvC scope cl C X.env) fp) elt (tD X.kw (ev T x))) (hs : noSet iter = true) (hs1 : noSet iter1 = true) :
    PE X (.ListComp elt [⟨tg, iter, ifs, 0⟩, ⟨tg1, iter1, ifs1, 0⟩] scope pos) (tD X.kw (ev T (.comp2 x t it cond t1 it1 cond1 own own1))) := by
  refine PE.imp (pe_lc2 (own := ownOf X.N own) (vs1 := own1) G.calm G.nd hi ok (by rw [ho]; exact hoo) hg ht hi1 hg1 ht1 he (folded_no hs) (fun env => folded_no hs1)) fun σ H Q h => ?_
  rw [ho]
  exact comp2_rd hsl hsl1 hoo h
/-- what a comprehension's pieces are, from its check -/
structure CompOk (X : Cx) (T : Tab) (x : CE) (t : TGt) (it : CI) (cond : CO) (own : List Nat) (elt tg iter : Expr) (ifs : List Expr) (scope : Scope) : Prop where
  ok : BlkOk X.N X.env.scope scope (ownOf X.N own)
  ho : (ownOf X.N own).map (·.2) = own
  hi : PI X tg iter (tDI X.kw (evI T it))
  hg : ∀ (s : Shared) (H : Hp) (C : Addr) (cl : List (Str × Addr)) (fp : List Addr), PG (X.blk s H scope (compEnvC scope cl C X.env) fp) tg (tDG X.kw t)
  hsl : ∀ i ∈ t.slots, i ∈ own
  ht : ∀ (s : Shared) (H : Hp) (C : Addr) (cl : List (Str × Addr)) (fp : List Addr), PTs (X.blk s H scope (compEnvC scope cl C X.env) fp) ifs (tDT X.kw (evC T cond))
  he : ∀ (s : Shared) (H : Hp) (C : Addr) (cl : List (Str × Addr)) (fp : List Addr), PE (X.blk s H scope (compEnvC scope cl C X.env) fp) elt (tD X.kw (ev T x))
  hs : noSet iter = true
theorem evP_len {T : Tab} {L : Nat} : ∀ {ps : CPs} {ks : List (Option Expr)} {vs : List Expr} {N : List Str} {sc : Scope} {env : Envr} {st : Store} {r : List (D × D)} {st' : Store}, chkP T L N sc ps ks vs = true → evP T ps env st = some (r, st') → r.length = ks.length
  | .nil, [], [], _, _, _, _, _, _, _, h => by unfold evP at h; cases h; rfl
  | .nil, _ :: _, _, _, _, _, _, _, _, h, _ => by simp [chkP] at h
  | .nil, [], _ :: _, _, _, _, _, _, _, h, _ => by simp [chkP] at h
  | .cons k v ps, [], _, _, _, _, _, _, _, h, _ => by simp [chkP] at h
  | .cons k v ps, none :: _, _, _, _, _, _, _, _, h, _ => by simp [chkP] at h
  | .cons k v ps, some _ :: _, [], _, _, _, _, _, _, h, _ => by simp [chkP] at h
  | .cons k v ps, some ek :: ks, e :: vs, _, _, _, _, _, _, h, g => by
    simp only [chkP, Bool.and_eq_true] at h
    unfold evP at g
    split at g
    · split at g
      · split at g
        · rename_i h3
          cases g
          simp [evP_len h.2 h3]
        · cases g
      · cases g
    · cases g
mutual
theorem ce_ok : ∀ (c : CE) (X : Cx) (e : Expr), Good T L X → chk T L X.N X.env.scope c e = true → PE X e (tD X.kw (ev T c)) ∧ PT X e (tDT X.kw (evT T c))
  | .var i, X, e, G, h => by
    cases e with
    | Name x p =>
      simp only [chk, Bool.and_eq_true] at h
      have q := pd_var (T := T) (pos := p) (nmIs_ok h.1.1) (vis_ok h.1.2) h.2
      exact ⟨q, td_plain q fun _ => rfl⟩
    | _ => exact absurd h Bool.false_ne_true
  | .non, X, e, G, h => by
    cases e with
    | Constant k j p =>
      cases k with
      | none =>
        have q : PE X (.Constant .none j p) (tD X.kw (ev T .non)) := pd_c (d := .non) pe_non (fun _ _ => rfl) fun env st => by simp only [ev]
        exact ⟨q, td_plain q fun _ => rfl⟩
      | _ => exact absurd h Bool.false_ne_true
    | _ => exact absurd h Bool.false_ne_true
  | .bl b, X, e, G, h => by
    cases e with
    | Constant k j p =>
      cases k with
      | bool c =>
        have hb : b = c := by simpa [chk] using h
        subst hb
        have q : PE X (.Constant (.bool b) j p) (tD X.kw (ev T (.bl b))) := pd_c (d := .bl b) pe_bl (fun _ _ => rfl) fun env st => by simp only [ev]
        exact ⟨q, td_plain q fun _ => rfl⟩
      | _ => exact absurd h Bool.false_ne_true
    | _ => exact absurd h Bool.false_ne_true
  | .int i, X, e, G, h => by
    cases e with
    | Constant k j p =>
      cases k with
      | int c =>
        have hb : i = c := by simpa [chk] using h
        subst hb
        have q : PE X (.Constant (.int i) j p) (tD X.kw (ev T (.int i))) := pd_c (d := .int i) pe_int (fun _ _ => rfl) fun env st => by simp only [ev]
        exact ⟨q, td_plain q fun _ => rfl⟩
      | _ => exact absurd h Bool.false_ne_true
    | _ => exact absurd h Bool.false_ne_true
  | .str i, X, e, G, h => by
    cases e with
    | Constant k j p =>
      cases k with
      | str c =>
        obtain rfl := strIs_ok (show strIs i c = true from h)
        have q : PE X (.Constant (.str i) j p) (tD X.kw (ev T (.str i))) := pd_c (d := .str i) pe_str (fun _ _ => rfl) fun env st => by simp only [ev]
        exact ⟨q, td_plain q fun _ => rfl⟩
      | _ => exact absurd h Bool.false_ne_true
    | _ => exact absurd h Bool.false_ne_true
  | .ty n, X, e, G, h => by
    cases e with
    | Name y p =>
      simp only [chk, Bool.and_eq_true] at h
      have q := pd_ty (T := T) (pos := p) G (strIs_ok h.1.1) (List.contains_iff_mem.mp h.1.2) (glo_ok h.2)
      exact ⟨q, td_plain q fun _ => rfl⟩
    | _ => exact absurd h Bool.false_ne_true
  | .gl k, X, e, G, h => by
    cases e with
    | Name x p =>
      simp only [chk, Bool.and_eq_true] at h
      obtain ⟨⟨h1, h2⟩, h3⟩ := h
      split at h1
      · rename_i w hw
        obtain ⟨y, d⟩ := w
        obtain rfl := strIs_ok h1
        obtain ⟨u, v, hm, r, rd⟩ := G.gls k y d hw
        have q : PE X (.Name y p) (tD X.kw (ev T (.gl k))) := pd_c (d := d) (pe_glob (glo_ok h2) hm r (okN_ok h3).1) rd fun env st => by simp only [ev, hw]
        exact ⟨q, td_plain q fun _ => rfl⟩
      · cases h1
    | _ => exact absurd h Bool.false_ne_true
  | .bin op a b, X, e, G, h => by
    cases e with
    | BinOp ea o eb p =>
      simp only [chk, Bool.and_eq_true] at h
      obtain rfl := opIs_ok h.1.1
      have q := pd_bin (op := op) (pos := p) (ce_ok a X ea G h.1.2).1 (ce_ok b X eb G h.2).1
      exact ⟨q, td_plain q fun _ => rfl⟩
    | _ => exact absurd h Bool.false_ne_true
  | .neg a, X, e, G, h => by
    cases e with
    | UnaryOp o ea p =>
      cases o with
      | USub =>
        have q : PE X (.UnaryOp .USub ea p) (tD X.kw (ev T (.neg a))) := pd_un (ce_ok a X ea G h).1 un_neg fun env st r st' e => by
          unfold ev at e
          split at e
          · rename_i i st1 h1
            cases e
            exact ⟨i, _, h1, rfl, rfl⟩
          · cases e
        exact ⟨q, td_plain q fun _ => rfl⟩
      | _ => exact absurd h Bool.false_ne_true
    | _ => exact absurd h Bool.false_ne_true
  | .nt a, X, e, G, h => by
    cases e with
    | UnaryOp o ea p =>
      cases o with
      | Not =>
        have i1 := ce_ok a X ea G h
        refine ⟨PE.imp (pe_notT i1.1) fun σ H Q ⟨ρ, st, env, r, st', S, E, e, k⟩ => ?_, td_not i1.2⟩
        unfold ev at e
        split at e
        · rename_i u st1 h1
          split at e
          · rename_i b h2
            cases e
            exact ⟨ρ, st, env, _, _, S, E, h1, fun ρ1 v1 H1 T1 S1 R1 => ⟨b, tru_of S1 R1 h2, k ρ1 _ H1 T1 S1 rfl⟩⟩
          · cases e
        · cases e
      | _ => exact absurd h Bool.false_ne_true
    | _ => exact absurd h Bool.false_ne_true
  | .and a b, X, e, G, h => by
    cases e with
    | BoolOp o es p =>
      cases o with
      | And =>
        cases es with
        | nil => exact absurd h Bool.false_ne_true
        | cons ea es =>
          simp only [chk, Bool.and_eq_true] at h
          have i1 := ce_ok a X ea G h.1
          obtain ⟨eb, rest, rfl, i2⟩ : ∃ eb rest, es = eb :: rest ∧ PE X (.BoolOp .And (eb :: rest) p) (tD X.kw (ev T b)) ∧ PW X (.BoolOp .And (eb :: rest) p) (tDT X.kw (evT T b)) := by
            have h2 := h.2
            split at h2
            · cases h2
            · rename_i eb
              have i3 := ce_ok b X eb G h2
              exact ⟨eb, [], rfl, pe_one i3.1, pw_and1 i3.2⟩
            · rename_i eb e2 r
              have i3 := ce_ok b X _ G h2
              refine ⟨eb, e2 :: r, rfl, i3.1, ⟨fun wh pins s σ H Q I q => ?_⟩⟩
              exact i3.2.run pins s σ H Q I q
          have w := wd_and i1.2 i2.2
          refine ⟨PE.imp (pe_andT i1.1 i2.1) fun σ H Q ⟨ρ, st, env, r, st', S, E, e, k⟩ => ?_, w.pt⟩
          unfold ev at e
          split at e
          · rename_i u st1 h1
            split at e
            · rename_i h2
              exact ⟨ρ, st, env, _, _, S, E, h1, fun ρ1 v1 H1 T1 S1 R1 => ⟨true, tru_of S1 R1 h2, iteT ⟨ρ1, st1, env, r, st', S1, E.mono T1, e, fun ρ2 v2 H2 T2 => k ρ2 v2 H2 (T1.trans T2)⟩⟩⟩
            · rename_i h2
              cases e
              exact ⟨ρ, st, env, _, _, S, E, h1, fun ρ1 v1 H1 T1 S1 R1 => ⟨false, tru_of S1 R1 h2, iteF (k ρ1 v1 H1 T1 S1 R1)⟩⟩
            · cases e
          · cases e
      | Or => exact absurd h Bool.false_ne_true
    | _ => exact absurd h Bool.false_ne_true
  | .or a b, X, e, G, h => by
    cases e with
    | BoolOp o es p =>
      cases o with
      | Or =>
        cases es with
        | nil => exact absurd h Bool.false_ne_true
        | cons ea es =>
          simp only [chk, Bool.and_eq_true] at h
          have i1 := ce_ok a X ea G h.1
          obtain ⟨eb, rest, rfl, i2⟩ : ∃ eb rest, es = eb :: rest ∧ PE X (.BoolOp .Or (eb :: rest) p) (tD X.kw (ev T b)) ∧ PW X (.BoolOp .Or (eb :: rest) p) (tDT X.kw (evT T b)) := by
            have h2 := h.2
            split at h2
            · cases h2
            · rename_i eb
              have i3 := ce_ok b X eb G h2
              exact ⟨eb, [], rfl, pe_one i3.1, pw_or1 i3.2⟩
            · rename_i eb e2 r
              have i3 := ce_ok b X _ G h2
              refine ⟨eb, e2 :: r, rfl, i3.1, ⟨fun wh pins s σ H Q I q => ?_⟩⟩
              exact i3.2.run pins s σ H Q I q
          have w := wd_or i1.2 i2.2
          refine ⟨PE.imp (pe_orT i1.1 i2.1) fun σ H Q ⟨ρ, st, env, r, st', S, E, e, k⟩ => ?_, w.pt⟩
          unfold ev at e
          split at e
          · rename_i u st1 h1
            split at e
            · rename_i h2
              cases e
              exact ⟨ρ, st, env, _, _, S, E, h1, fun ρ1 v1 H1 T1 S1 R1 => ⟨true, tru_of S1 R1 h2, iteT (k ρ1 v1 H1 T1 S1 R1)⟩⟩
            · rename_i h2
              exact ⟨ρ, st, env, _, _, S, E, h1, fun ρ1 v1 H1 T1 S1 R1 => ⟨false, tru_of S1 R1 h2, iteF ⟨ρ1, st1, env, r, st', S1, E.mono T1, e, fun ρ2 v2 H2 T2 => k ρ2 v2 H2 (T1.trans T2)⟩⟩⟩
            · cases e
          · cases e
      | And => exact absurd h Bool.false_ne_true
    | _ => exact absurd h Bool.false_ne_true
  | .cmp op a b, X, e, G, h => by
    cases e with
    | Compare ea os es p =>
      match os, es, h with
      | [o], [eb], h =>
        simp only [chk, Bool.and_eq_true] at h
        obtain rfl := copIs_ok h.1.1.1
        have hu : X.A.units + 64 < cLine := by have := G.un; omega
        have i1 := ce_ok a X ea G h.1.1.2
        have i2 := ce_ok b X eb G h.1.2
        exact ⟨pd_cmp hu i1.1 i2.1 h.2, td_cmp hu i1.1 i2.1 h.2⟩
      | [], _, h => exact absurd h Bool.false_ne_true
      | [_], [], h => exact absurd h Bool.false_ne_true
      | [_], _ :: _ :: _, h => exact absurd h Bool.false_ne_true
      | _ :: _ :: _, _, h => exact absurd h Bool.false_ne_true
    | _ => exact absurd h Bool.false_ne_true
  | .chn o1 o2 a b c, X, e, G, h => by
    cases e with
    | Compare ea os es p =>
      match os, es, h with
      | [p1, p2], [eb, ec], h =>
        simp only [chk, Bool.and_eq_true] at h
        obtain rfl := copIs_ok h.1.1.1.1.1
        obtain rfl := copIs_ok h.1.1.1.1.2
        have hu : X.A.units + 64 < cLine := by have := G.un; omega
        have i1 := ce_ok a X ea G h.1.1.1.2
        have i2 := ce_ok b X eb G h.1.1.2
        have i3 := ce_ok c X ec G h.1.2
        exact ⟨pd_chn hu i1.1 i2.1 i3.1 h.2, td_chn hu i1.1 i2.1 i3.1 h.2⟩
      | [], _, h => exact absurd h Bool.false_ne_true
      | [_], _, h => exact absurd h Bool.false_ne_true
      | [_, _], [], h => exact absurd h Bool.false_ne_true
      | [_, _], [_], h => exact absurd h Bool.false_ne_true
      | [_, _], _ :: _ :: _ :: _, h => exact absurd h Bool.false_ne_true
      | _ :: _ :: _ :: _, _, h => exact absurd h Bool.false_ne_true
    | _ => exact absurd h Bool.false_ne_true
  | .ife c a b, X, e, G, h => by
    cases e with
    | IfExp ec ea eb p =>
      simp only [chk, Bool.and_eq_true] at h
      have i1 := ce_ok c X ec G h.1.1
      have i2 := ce_ok a X ea G h.1.2
      have i3 := ce_ok b X eb G h.2
      have key : ∀ {env st r st'}, ev T (.ife c a b) env st = some (r, st') → ∃ k st1, evT T c env st = some (k, st1) ∧ ev T (if k then a else b) env st1 = some (r, st') := by
        intro env st r st' e
        unfold ev at e
        split at e
        · rename_i u st1 h1
          split at e
          · rename_i h2
            exact ⟨true, st1, by unfold evT; rw [h1]; simp [h2], e⟩
          · rename_i h2
            exact ⟨false, st1, by unfold evT; rw [h1]; simp [h2], e⟩
          · cases e
        · cases e
      refine ⟨PE.imp (pe_ifExp i1.2 i2.1 i3.1) fun σ H Q ⟨ρ, st, env, r, st', S, E, e, k⟩ => ?_, ⟨fun pins s σ H Q I ⟨ρ, st, env, r, st', S, E, e, k⟩ => ?_⟩⟩
      · obtain ⟨d, st1, h1, h2⟩ := key e
        refine ⟨ρ, st, env, _, _, S, E, h1, fun ρ1 H1 T1 S1 => ?_⟩
        cases d with
        | true => exact iteT ⟨ρ1, st1, env, r, st', S1, E.mono T1, h2, fun ρ2 v2 H2 T2 => k ρ2 v2 H2 (T1.trans T2)⟩
        | false => exact iteF ⟨ρ1, st1, env, r, st', S1, E.mono T1, h2, fun ρ2 v2 H2 T2 => k ρ2 v2 H2 (T1.trans T2)⟩
      · obtain ⟨d0, e0, h0⟩ := evT_some e
        obtain ⟨d, st1, h1, h2⟩ := key e0
        show wpAny _ _ (do if ← isTrue ec X.env (eval ec X.env) then isTrue ea X.env (eval ea X.env) else isTrue eb X.env (eval eb X.env)) _ _ s
        refine wpAny_bind (thn (i1.2.run pins s σ H (fun b H1 => b = d ∧ ∃ ρ1, Step ρ H ρ1 H1 ∧ SR X.kw ρ1 st1 H1) I ⟨ρ, st, env, d, st1, S, E, h1, fun ρ1 H1 T1 S1 => ⟨rfl, ρ1, T1, S1⟩⟩) fun b s1 ⟨H1, I1, hb, ρ1, T1, S1⟩ => ?_)
        subst hb
        have e1 : evT T (if b then a else c) env st1 = evT T (if b then a else c) env st1 := rfl
        cases b with
        | true => exact i2.2.run pins s1 σ H1 Q I1 ⟨ρ1, st1, env, r, st', S1, E.mono T1, by unfold evT; rw [show ev T a env st1 = some (d0, st') from h2]; simp [h0], fun ρ2 H2 T2 => k ρ2 H2 (T1.trans T2)⟩
        | false => exact i3.2.run pins s1 σ H1 Q I1 ⟨ρ1, st1, env, r, st', S1, E.mono T1, by unfold evT; rw [show ev T b env st1 = some (d0, st') from h2]; simp [h0], fun ρ2 H2 T2 => k ρ2 H2 (T1.trans T2)⟩
    | _ => exact absurd h Bool.false_ne_true
  | .tup as, X, e, G, h => by
    cases e with
    | Tuple es kk p =>
      simp only [chk, Bool.and_eq_true, decide_eq_true_eq] at h
      have q := pd_tup (pos := p) (k1 := kk) (cs_ok as X es G h.1.1 h.1.2) (ev_len1000 h.1.1 h.2)
      exact ⟨q, td_plain q fun _ => rfl⟩
    | _ => exact absurd h Bool.false_ne_true
  | .lst as, X, e, G, h => by
    cases e with
    | List es p =>
      simp only [chk, Bool.and_eq_true, decide_eq_true_eq] at h
      have q := pd_lst (pos := p) (cs_ok as X es G h.1.1 h.1.2) (ev_len1000 h.1.1 h.2)
      exact ⟨q, td_plain q fun _ => rfl⟩
    | _ => exact absurd h Bool.false_ne_true
  | .lstO as, X, e, G, h => by
    cases e with
    | List es p =>
      simp only [chk, Bool.and_eq_true, decide_eq_true_eq] at h
      have q := pd_lstO (pos := p) (cs_ok as X es G h.1.1 h.1.2) (ev_len1000 h.1.1 h.2)
      exact ⟨q, td_plain q fun _ => rfl⟩
    | _ => exact absurd h Bool.false_ne_true
  | .ix a i, X, e, G, h => by
    cases e with
    | Subscript ea ei p =>
      simp only [chk, Bool.and_eq_true] at h
      have q := pd_ix (pos := p) (by have := G.un; omega) (ce_ok a X ea G h.1.1).1 (ce_ok i X ei G h.1.2).1 h.2
      exact ⟨q, td_plain q fun _ => rfl⟩
    | _ => exact absurd h Bool.false_ne_true
  | .sl a lo hi, X, e, G, h => by
    cases e with
    | Subscript ea ei p =>
      cases ei with
      | Slice elo ehi es p2 =>
        cases es with
        | none =>
          simp only [chk, Bool.and_eq_true] at h
          have q := pd_sl (pos := p) (p2 := p2) (ce_ok a X ea G h.1.1).1 (co_ok lo X elo G h.1.2) (co_ok hi X ehi G h.2)
          exact ⟨q, td_plain q fun _ => rfl⟩
        | some _ => exact absurd h Bool.false_ne_true
      | _ => exact absurd h Bool.false_ne_true
    | _ => exact absurd h Bool.false_ne_true
  | .rev a, X, e, G, h => by
    simp only [chk] at h
    split at h
    · rename_i ea he
      obtain ⟨k, p1, p2, p3, p, rfl⟩ := revOf_ok he
      have q := pd_rev (pos := p) (k := k) (p1 := p1) (p2 := p2) (p3 := p3) (ce_ok a X ea G h).1
      exact ⟨q, td_plain q fun _ => rfl⟩
    · cases h
  | .lrng a, X, e, G, h => by
    simp only [chk] at h
    split at h
    · rename_i x y e1 he
      obtain ⟨q0, q1, p1, p, rfl⟩ := lrngOf_ok he
      simp only [Bool.and_eq_true] at h
      obtain ⟨⟨⟨⟨⟨h1, h2⟩, h3⟩, h4⟩, h5⟩, h6⟩ := h
      obtain rfl := strIs_ok h1
      obtain rfl := strIs_ok h3
      have q := pd_lrng (pos := p) (p1 := q0) (p2 := q1) (pos2 := p1) G (glo_ok h2) (glo_ok h4) (ce_ok a X e1 G h5).1 h6
      exact ⟨q, td_plain q fun _ => rfl⟩
    · cases h
  | .lset a, X, e, G, h => by
    simp only [chk] at h
    split at h
    · rename_i x y e1 he
      obtain ⟨q0, q1, p1, p, rfl⟩ := lrngOf_ok he
      simp only [Bool.and_eq_true] at h
      obtain ⟨⟨⟨⟨⟨h1, h2⟩, h3⟩, h4⟩, h5⟩, h6⟩ := h
      obtain rfl := strIs_ok h1
      obtain rfl := strIs_ok h3
      have q := pd_lset (pos := p) (p1 := q0) (p2 := q1) (pos2 := p1) G (glo_ok h2) (glo_ok h4) (ce_ok a X e1 G h5).1 h6
      exact ⟨q, td_plain q fun _ => rfl⟩
    · cases h
  | .dcomp kx vx t it cond own, X, e, G, h => by
    simp only [chk] at h
    split at h
    · rename_i ek ew tg iter ifs isa scope hdc
      obtain ⟨p, rfl⟩ := dcOf_ok hdc
      simp only [Bool.and_eq_true, decide_eq_true_eq, List.all_eq_true, List.contains_iff_mem] at h
      obtain ⟨⟨⟨⟨⟨⟨⟨⟨⟨h1, h2⟩, h3⟩, h4⟩, h5⟩, h6⟩, h7⟩, h8⟩, h9⟩, ha⟩ := h
      subst h1
      have c : DcOk X T kx vx t it cond (ownOf X.N own) ek ew tg iter ifs scope :=
        ⟨blkOk_by h2, ci_ok it X tg iter G h4, fun s H C cl fp => gd_ok (dfn := cellOf scope) (X := X.blk s H scope (compEnvC scope cl C X.env) fp) G.calm G.nd rfl rfl (fun x h => h) t tg h5,
          fun i hi => by rw [h3]; exact h6 i hi, fun s H C cl fp => cc_ok cond (X.blk s H scope (compEnvC scope cl C X.env) fp) ifs (G.blk s H scope _ fp) h7,
          fun s H C cl fp => (ce_ok kx (X.blk s H scope (compEnvC scope cl C X.env) fp) ek (G.blk s H scope _ fp) h8).1, fun s H C cl fp => (ce_ok vx (X.blk s H scope (compEnvC scope cl C X.env) fp) ew (G.blk s H scope _ fp) h9).1, folded_no ha⟩
      have q := pd_dcomp (pos := p) G c
      rw [h3] at q
      exact ⟨q, td_plain q fun _ => rfl⟩
    · cases h
  | .dsp m ps, X, e, G, h => by
    cases e with
    | Dict ks vs p =>
      simp only [chk, Bool.and_eq_true, decide_eq_true_eq] at h
      obtain ⟨⟨⟨h1, h2⟩, h3⟩, h4⟩ := h
      have i1 := cp_ok ps X p ks vs G h1
      have q := pd_dsp (m := m) (pos := p) i1 h2 h3 h4 (fun env st r st' e => evP_len h1 e) (fun z => by
        subst z
        cases ps with
        | nil => cases vs with
          | nil => exact ⟨rfl, rfl⟩
          | cons _ _ => simp [chkP] at h1
        | cons _ _ _ => simp [chkP] at h1)
      exact ⟨q, td_plain q fun _ => rfl⟩
    | _ => exact absurd h Bool.false_ne_true
  | .comp2 x t it cond t1 it1 cond1 own own1, X, e, G, h => by
    simp only [chk] at h
    split at h
    · rename_i elt tg iter ifs isa tg1 iter1 ifs1 isa1 scope hlc
      obtain ⟨p, rfl⟩ := lc2Of_ok hlc
      simp only [Bool.and_eq_true, decide_eq_true_eq, List.all_eq_true, List.contains_iff_mem] at h
      obtain ⟨⟨⟨⟨⟨⟨⟨⟨⟨⟨⟨⟨⟨⟨⟨h1, h2⟩, h3⟩, h4⟩, h5⟩, h6⟩, h7⟩, h8⟩, h9⟩, ha⟩, hb⟩, hc⟩, hd⟩, he⟩, hf⟩, hg⟩ := h
      subst h1 h2
      have q : PE X (.ListComp elt [⟨tg, iter, ifs, 0⟩, ⟨tg1, iter1, ifs1, 0⟩] scope p) (tD X.kw (ev T (.comp2 x t it cond t1 it1 cond1 own own1))) :=
        pd_comp2 G (blkOk_by h3) h4 h5 (ci_ok it X tg iter G h6) (fun s H C cl fp => gd_ok (dfn := cellOf scope) (X := X.blk s H scope (compEnvC scope cl C X.env) fp) G.calm G.nd rfl rfl (fun x h => h) t tg h7) h8
          (fun s H C cl fp => cc_ok cond (X.blk s H scope (compEnvC scope cl C X.env) fp) ifs (G.blk s H scope _ fp) h9)
          (fun s H C cl fp => ci_ok it1 (X.blk s H scope (compEnvC scope cl C X.env) fp) tg1 iter1 (G.blk s H scope _ fp) ha)
          (fun s H C cl fp => gd_ok (dfn := cellOf scope) (X := X.blk s H scope (compEnvC scope cl C X.env) fp) G.calm G.nd rfl rfl (fun x h => h) t1 tg1 hb) hc
          (fun s H C cl fp => cc_ok cond1 (X.blk s H scope (compEnvC scope cl C X.env) fp) ifs1 (G.blk s H scope _ fp) hd)
          (fun s H C cl fp => (ce_ok x (X.blk s H scope (compEnvC scope cl C X.env) fp) elt (G.blk s H scope _ fp) he).1) hf hg
      exact ⟨q, td_plain q fun _ => rfl⟩
    · cases h
  | .call k as, X, e, G, h => by
    cases e with
    | Call ef es kws p =>
      cases ef with
      | Name x q0 =>
        simp only [chk, Bool.and_eq_true] at h
        obtain ⟨⟨⟨⟨h0, h1⟩, h2⟩, h3⟩, h4⟩ := h
        split at h1
        · rename_i f hf
          simp only [Bool.and_eq_true] at h1
          obtain ⟨as1, as2, c1, c2, hev⟩ := call_ok as X es kws f.ks G h1.2 h2
          have q := pd_call (pos := p) (p := q0) (N := X.N) G (of_decide_eq_true h0) hf (strIs_ok h1.1) (glo_ok h3) h4 h2 c1.1 c1.2 c2.1 c2.2.1 c2.2.2 hev
          exact ⟨q, td_plain q fun _ => rfl⟩
        · cases h1
      | _ => exact absurd h Bool.false_ne_true
    | _ => exact absurd h Bool.false_ne_true
  | .bi f as, X, e, G, h => by
    cases e with
    | Call ef es kws p =>
      cases ef with
      | Name x q0 =>
        match es, kws, h with
        | e1 :: es, [], h =>
          simp only [chk, Bool.and_eq_true] at h
          have q := pd_bi (pos := p) (p := q0) G (strIs_ok h.1.1.1) (glo_ok h.2) (cs_ok as X _ G h.1.1.2 h.1.2) h.1.2
          exact ⟨q, td_plain q fun _ => rfl⟩
        | [], _, h => exact absurd h Bool.false_ne_true
        | _ :: _, _ :: _, h => exact absurd h Bool.false_ne_true
      | _ => exact absurd h Bool.false_ne_true
    | _ => exact absurd h Bool.false_ne_true
  | .mth m o as, X, e, G, h => by
    cases e with
    | Call ef es kws p =>
      cases ef with
      | Attribute eo x ap =>
        match es, kws, h with
        | e1 :: es, [], h =>
          simp only [chk, Bool.and_eq_true, decide_eq_true_eq] at h
          obtain ⟨⟨⟨⟨⟨⟨h1, h2⟩, h3⟩, h4⟩, h5⟩, h6⟩, h7⟩ := h
          have q := pd_mth (by have := G.un; omega) (strIs_ok h1) (ce_ok o X eo G h2).1 h3 (cs_ok as X _ G h4 h5) h5 h6 h7
          exact ⟨q, td_plain q fun _ => rfl⟩
        | [], _, h => exact absurd h Bool.false_ne_true
        | _ :: _, _ :: _, h => exact absurd h Bool.false_ne_true
      | _ => exact absurd h Bool.false_ne_true
    | _ => exact absurd h Bool.false_ne_true
  | .comp x t it cond own, X, e, G, h => by
    cases e with
    | ListComp elt gens scope p =>
      match gens, h with
      | [⟨tg, iter, ifs, isa⟩], h =>
        simp only [chk, Bool.and_eq_true, decide_eq_true_eq, List.all_eq_true, List.contains_iff_mem] at h
        obtain ⟨⟨⟨⟨⟨⟨⟨⟨h1, h2⟩, h3⟩, h4⟩, h5⟩, h6⟩, h7⟩, h8⟩, h9⟩ := h
        subst h1
        have q : PE X (.ListComp elt [⟨tg, iter, ifs, 0⟩] scope p) (tD X.kw (ev T (.comp x t it cond own))) :=
          pd_comp G (blkOk_by h2) h3 (ci_ok it X tg iter G h4) (fun s H C cl fp => gd_ok (dfn := cellOf scope) (X := X.blk s H scope (compEnvC scope cl C X.env) fp) G.calm G.nd rfl rfl (fun x h => h) t tg h5) h6
            (fun s H C cl fp => cc_ok cond (X.blk s H scope (compEnvC scope cl C X.env) fp) ifs (G.blk s H scope _ fp) h7)
            (fun s H C cl fp => (ce_ok x (X.blk s H scope (compEnvC scope cl C X.env) fp) elt (G.blk s H scope _ fp) h8).1) h9
        exact ⟨q, td_plain q fun _ => rfl⟩
      | [], h => exact absurd h Bool.false_ne_true
      | c1 :: _ :: _, h =>
        cases c1
        exact absurd h Bool.false_ne_true
    | _ => exact absurd h Bool.false_ne_true
theorem cp_ok : ∀ (ps : CPs) (X : Cx) (pos : Pos) (ks : List (Option Expr)) (vs : List Expr), Good T L X → chkP T L X.N X.env.scope ps ks vs = true → PPd X pos ks vs (evP T ps)
  | .nil, X, pos, [], [], G, h => ppd_nil
  | .nil, X, pos, _ :: _, _, G, h => by simp [chkP] at h
  | .nil, X, pos, [], _ :: _, G, h => by simp [chkP] at h
  | .cons k v ps, X, pos, [], _, G, h => by simp [chkP] at h
  | .cons k v ps, X, pos, none :: _, _, G, h => by simp [chkP] at h
  | .cons k v ps, X, pos, some _ :: _, [], G, h => by simp [chkP] at h
  | .cons k v ps, X, pos, some ek :: ks, ev :: vs, G, h => by
    simp only [chkP, Bool.and_eq_true] at h
    exact ppd_cons (ce_ok k X ek G h.1.1).1 (ce_ok v X ev G h.1.2).1 (cp_ok ps X pos ks vs G h.2)
theorem cc_ok : ∀ (c : CO) (X : Cx) (ifs : List Expr), Good T L X → chkC T L X.N X.env.scope c ifs = true → PTs X ifs (tDT X.kw (evC T c))
  | .none, X, ifs, G, h => by
    cases ifs with
    | nil => exact ⟨fun pins s σ H Q I ⟨ρ, st, env, r, st', S, E, e, k⟩ => by
        unfold evC at e
        cases e
        exact pts_nil.run pins s σ H Q I (k ρ H .refl S)⟩
    | cons _ _ => exact absurd h Bool.false_ne_true
  | .some a, X, ifs, G, h => by
    match ifs, h with
    | [e], h =>
      simp only [chkC, Bool.and_eq_true] at h
      have i1 := (ce_ok a X e G h.1).2
      exact ⟨fun pins s σ H Q I ⟨ρ, st, env, r, st', S, E, e, k⟩ => (pts_one i1).run pins s σ H Q I ⟨ρ, st, env, r, st', S, E, by
        unfold evC at e
        unfold evT
        exact e, k⟩⟩
    | [], h => exact absurd h Bool.false_ne_true
    | _ :: _ :: _, h => exact absurd h Bool.false_ne_true
theorem co_ok : ∀ (c : CO) (X : Cx) (e : Option Expr), Good T L X → chkO T L X.N X.env.scope c e = true → PO X e (tDO X.kw (evO T c))
  | .none, X, e, G, h => by
    cases e with
    | none => exact ⟨fun pins s σ H Q I ⟨ρ, st, env, o, st', S, E, q, k⟩ => by
        unfold evO at q
        cases q
        exact po_none.run pins s σ H Q I (k ρ H .refl S)⟩
    | some _ => exact absurd h Bool.false_ne_true
  | .some a, X, e, G, h => by
    cases e with
    | none => exact absurd h Bool.false_ne_true
    | some e =>
      have i1 := (ce_ok a X e G h).1
      exact ⟨fun pins s σ H Q I ⟨ρ, st, env, o, st', S, E, q, k⟩ => by
        unfold evO at q
        split at q
        · rename_i i st1 h1
          cases q
          exact (po_some i1).run pins s σ H Q I ⟨ρ, st, env, _, _, S, E, h1, fun ρ1 v1 H1 T1 S1 R1 => ⟨i, R1, k ρ1 H1 T1 S1⟩⟩
        · cases q⟩
theorem cs_ok : ∀ (as : CEs) (X : Cx) (es : List Expr), Good T L X → chks T L X.N X.env.scope as es = true → noStars es = true → PA X es (tDA X.kw (evs T as))
  | .nil, X, [], G, h, _ => ad_nil
  | .nil, X, _ :: _, G, h, _ => absurd h Bool.false_ne_true
  | .cons a as, X, [], G, h, _ => absurd h Bool.false_ne_true
  | .cons a as, X, e :: es, G, h, hs => by
    simp only [chks, Bool.and_eq_true] at h
    have hs2 : noStars es = true := by unfold noStars at hs; exact (Bool.and_eq_true_iff.mp hs).2
    exact ad_cons (ce_ok a X e G h.1).1 (cs_ok as X es G h.2 hs2) hs
theorem call_ok : ∀ (as : CEs) (X : Cx) (es : List Expr) (kws : List Keyword) (ks : List Str), Good T L X → chkK T L X.N X.env.scope as es kws ks = true → noStars es = true →
    ∃ as1 as2, (chks T L X.N X.env.scope as1 es = true ∧ PA X es (tDA X.kw (evs T as1))) ∧ (PK X kws (tDA X.kw (evs T as2)) ∧ kws.map (·.arg) = ks.map some ∧ ∀ env st ds st', evs T as2 env st = some (ds, st') → ds.length = ks.length) ∧
      ∀ env st, evs T as env st = match evs T as1 env st with
      | some (d1, st1) => match evs T as2 env st1 with
        | some (d2, st2) => some (d1 ++ d2, st2)
        | none => none
      | none => none
  | .nil, X, [], [], [], G, h, _ => ⟨.nil, .nil, ⟨rfl, ad_nil⟩, ⟨kd_nil, rfl, fun env st ds st' e => by unfold evs at e; cases e; rfl⟩, fun env st => by simp [evs]⟩
  | .nil, X, [], [], _ :: _, G, h, _ => absurd h Bool.false_ne_true
  | .nil, X, [], _ :: _, _, G, h, _ => absurd h Bool.false_ne_true
  | .nil, X, _ :: _, kws, _, G, h, _ => by cases kws <;> exact absurd h Bool.false_ne_true
  | .cons a as, X, e :: es, kws, ks, G, h, hs => by
    simp only [chkK, Bool.and_eq_true] at h
    have hs2 : noStars es = true := by unfold noStars at hs; exact (Bool.and_eq_true_iff.mp hs).2
    obtain ⟨as1, as2, h1, h2, h3⟩ := call_ok as X es kws ks G h.2 hs2
    refine ⟨.cons a as1, as2, ⟨by simp [chks, h.1, h1.1], ad_cons (ce_ok a X e G h.1).1 h1.2 hs⟩, h2, fun env st => ?_⟩
    simp only [evs]
    cases q : ev T a env st with
    | none => rfl
    | some r =>
      simp only
      rw [h3]
      cases q1 : evs T as1 env r.2 with
      | none => rfl
      | some r1 =>
        simp only
        cases q2 : evs T as2 env r1.2 with
        | none => rfl
        | some r2 => rfl
  | .cons a as, X, [], [], ks, G, h, _ => by cases ks <;> exact absurd h Bool.false_ne_true
  | .cons a as, X, [], ⟨n, e, kp⟩ :: kws, [], G, h, _ => absurd h Bool.false_ne_true
  | .cons a as, X, [], ⟨n, e, kp⟩ :: kws, k :: ks, G, h, hs => by
    simp only [chkK, Bool.and_eq_true, decide_eq_true_eq] at h
    obtain ⟨as1, as2, h1, h2, h3⟩ := call_ok as X [] kws ks G h.2 hs
    have en : as1 = .nil := by
      cases as1 with
      | nil => rfl
      | cons _ _ => exact absurd h1.1 Bool.false_ne_true
    subst en
    refine ⟨.nil, .cons a as2, ⟨rfl, ad_nil⟩, ⟨kd_cons (ce_ok a X e G h.1.2).1 h2.1, by simp [h.1.1, h2.2.1], fun env st ds st' e => ?_⟩, fun env st => ?_⟩
    · obtain ⟨d, st1, r, _, q, rfl⟩ := evs_cons e
      simp [h2.2.2 _ _ _ _ q]
    · simp only [evs]
      cases q : ev T a env st with
      | none => rfl
      | some r =>
        simp only
        rw [h3]
        simp only [evs]
        cases q2 : evs T as2 env r.2 with
        | none => rfl
        | some r2 => rfl
theorem ci_ok : ∀ (it : CI) (X : Cx) (tg e : Expr), Good T L X → chkI T L X.N X.env.scope it tg e = true → PI X tg e (tDI X.kw (evI T it))
  | .val a, X, tg, e, G, h => id_val (ce_ok a X e G (by simpa [chkI] using h)).1
  | .rng1 a, X, tg, e, G, h => by
    cases e with
    | Call ef es kws p =>
      cases ef with
      | Name x q =>
        match es, kws, h with
        | [e1], [], h =>
          simp only [chkI, Bool.and_eq_true] at h
          obtain rfl := strIs_ok h.1.1.1
          exact id_rng1 G (glo_ok h.1.1.2) (ce_ok a X e1 G h.1.2).1 h.2
        | [], _, h => exact absurd h Bool.false_ne_true
        | [_], _ :: _, h => exact absurd h Bool.false_ne_true
        | _ :: _ :: _, _, h => exact absurd h Bool.false_ne_true
      | _ => exact absurd h Bool.false_ne_true
    | _ => exact absurd h Bool.false_ne_true
  | .rng2 a b, X, tg, e, G, h => by
    cases e with
    | Call ef es kws p =>
      cases ef with
      | Name x q =>
        match es, kws, h with
        | [e1, e2], [], h =>
          simp only [chkI, Bool.and_eq_true] at h
          obtain rfl := strIs_ok h.1.1.1.1
          exact id_rng2 G (glo_ok h.1.1.1.2) (ce_ok a X e1 G h.1.1.2).1 (ce_ok b X e2 G h.1.2).1 h.2
        | [], _, h => exact absurd h Bool.false_ne_true
        | [_], _, h => exact absurd h Bool.false_ne_true
        | [_, _], _ :: _, h => exact absurd h Bool.false_ne_true
        | _ :: _ :: _ :: _, _, h => exact absurd h Bool.false_ne_true
      | _ => exact absurd h Bool.false_ne_true
    | _ => exact absurd h Bool.false_ne_true
  | .items a, X, tg, e, G, h => by
    match e, h with
    | .Call (.Attribute eo x ap) [] [] cp, h =>
      simp only [chkI, Bool.and_eq_true] at h
      obtain ⟨⟨⟨⟨h1, h2⟩, h3⟩, h4⟩, h5⟩ := h
      obtain rfl := strIs_ok h2
      exact id_items (ce_ok a X eo G h3).1 h4 h5 h1
  | .enum a, X, tg, e, G, h => by
    cases e with
    | Call ef es kws p =>
      cases ef with
      | Name x q =>
        match es, kws, h with
        | [e1], [], h =>
          simp only [chkI, Bool.and_eq_true] at h
          obtain rfl := strIs_ok h.1.1.1.2
          cases tg with
          | Tuple ts kk tp => exact id_enum G (glo_ok h.1.1.2) (ce_ok a X e1 G h.1.2).1 h.2
          | _ => exact absurd h.1.1.1.1 Bool.false_ne_true
        | [], _, h => exact absurd h Bool.false_ne_true
        | [_], _ :: _, h => exact absurd h Bool.false_ne_true
        | _ :: _ :: _, _, h => exact absurd h Bool.false_ne_true
      | _ => exact absurd h Bool.false_ne_true
    | _ => exact absurd h Bool.false_ne_true
  | .zip a b, X, tg, e, G, h => by
    cases e <;> exact absurd h (by simp [chkI])
end
end
end Bo

set_option Elab.async false
set_option linter.all false
set_option maxRecDepth 100000
set_option maxHeartbeats 8000000
/-! Bo, part 10: statements. -/
namespace Bo
open PySem PySem.Spec L2

/-! ### what a statement says -/
structure DE where
  nx : Envr → Store → Prop
  rt : D → Store → Prop
  bk : Envr → Store → Prop := fun _ _ => False
  ct : Envr → Store → Prop := fun _ _ => False
def forL (body : Envr → Store → DE → Prop) (t : TGt) (ok : Store → Prop) : List D → Envr → Store → DE → Prop
  | [], env, st, P => P.nx env st
  | d :: ds, env, st, P => match asgT t d env with
    | some env1 => body env1 st { nx := fun e s => ok s ∧ forL body t ok ds e s P, ct := fun e s => ok s ∧ forL body t ok ds e s P, bk := P.nx, rt := P.rt }
    | none => False
instance (i j : Int) : Decidable (CMul i j) := by unfold CMul; infer_instance
/-- an operation in place, of numbers -/
def augD (op : BOp) (st : Store) (x y : D) : Option (D × Store) := match x, y with
  | .int i, .int j => match op with
    | .add => some (.int (i + j), st)
    | .sub => some (.int (i - j), st)
    | .mul => if decide (CMul i j) then some (.int (i * j), st) else none
    | .and => some (.int (Builtin.bitAnd i j), st)
    | _ => none
  | _, _ => none
/-- two items at once: the store behind it -/
noncomputable def two (T : Tab) (o1 i1 o2 i2 e1 e2 : CE) (env : Envr) (st : Store) : Option Store := match ev T e1 env st with
    | some (d1, st1) => match ev T e2 env st1 with
      | some (d2, st2) => match ev T o1 env st2 with
        | some (x, st3) => match ev T i1 env st3 with
          | some (y, st4) => match setixD st4 x y d1 with
            | some st5 => match ev T o2 env st5 with
              | some (x2, st6) => match ev T i2 env st6 with
                | some (y2, st7) => setixD st7 x2 y2 d2
                | none => none
              | none => none
            | none => none
          | none => none
        | none => none
      | none => none
    | none => none
def WS (T : Tab) : CS → Envr → Store → DE → Prop
  | .skip, env, st, P => P.nx env st
  | .seq a b, env, st, P => WS T a env st { P with nx := fun e s => WS T b e s P }
  | .expr e, env, st, P => match ev T e env st with
    | some (_, st1) => P.nx env st1
    | none => False
  | .asg t e, env, st, P => match ev T e env st with
    | some (d, st1) => match asgT t d env with
      | some env1 => P.nx env1 st1
      | none => False
    | none => False
  | .asgC i e, env, st, P => match ev T e env st with
    | some (d, st1) => P.nx (env.set i (some d)) st1
    | none => False
  | .asg2 i j a b, env, st, P => match ev T a env st with
    | some (d, st1) => match ev T b env st1 with
      | some (d', st2) => P.nx ((env.set i (some d)).set j (some d')) st2
      | none => False
    | none => False
  | .setix o i e, env, st, P => match ev T e env st with
    | some (d, st1) => match ev T o env st1 with
      | some (x, st2) => match ev T i env st2 with
        | some (y, st3) => match setixD st3 x y d with
          | some st4 => P.nx env st4
          | none => False
        | none => False
      | none => False
    | none => False
  | .setix2 o1 i1 o2 i2 e1 e2, env, st, P => match two T o1 i1 o2 i2 e1 e2 env st with
    | some st8 => P.nx env st8
    | none => False
  | .aug i op e, env, st, P => match env[i]? with
    | some (some x) => match ev T e env st with
      | some (y, st1) => match augD op st1 x y with
        | some (z, st2) => P.nx (env.set i (some z)) st2
        | none => False
      | none => False
    | _ => False
  | .iff c a b, env, st, P => match evT T c env st with
    | some (true, st1) => WS T a env st1 P
    | some (false, st1) => WS T b env st1 P
    | none => False
  | .for_ t it b, env, st, P => match evI T it env st with
    | some (src, st1) => forL (WS T b) t src.ok src.items env st1 P
    | none => False
  | .whl c b, env, st, P => ∃ I : Nat → Envr → Store → Prop, (∃ m, I m env st) ∧ ∀ m e s, I m e s → match evT T c e s with
    | some (true, s1) => WS T b e s1 { nx := fun e' s' => ∃ m', m' < m ∧ I m' e' s', ct := fun e' s' => ∃ m', m' < m ∧ I m' e' s', bk := P.nx, rt := P.rt }
    | some (false, s1) => P.nx e s1
    | none => False
  | .ret e, env, st, P => match ev T e env st with
    | some (d, st1) => P.rt d st1
    | none => False
  | .retN, _, st, P => P.rt .non st
  | .brk, env, st, P => P.bk env st
  | .cnt, env, st, P => P.ct env st
  | .raise_, _, _, _ => False

/-! ### when it is a text's -/
/-- a scope alone -/
def dm (sc : Scope) : Env := { scope := sc, locals := 0, globals := 0, cells := [] }
def pureOf {α : Type} : Sem α → Option α
  | .pure a => some a
  | _ => none
theorem pureOf_ok {α : Type} {t : Sem α} {a : α} (h : pureOf t = some a) : t = pure a := by
  cases t <;> first | (cases h; rfl) | cases h
theorem sw_env {ts : List Expr} {v : Expr} {env : Env} : swappedStores ts v env = swappedStores ts v (dm env.scope) := rfl
theorem sws_env {v : Expr} {t : Option Expr} {l : Nat} {env : Env} : swapsWith v t l env = swapsWith v t l (dm env.scope) := rfl
def isPN (t : Sem (Option (List Str))) : Bool := match pureOf t with
  | some none => true
  | _ => false
theorem isPN_ok {t : Sem (Option (List Str))} (h : isPN t = true) : t = pure none := by
  unfold isPN at h
  split at h
  · rename_i e; exact pureOf_ok e
  · cases h
def isPS (t : Sem (Option (List Str))) (l : List Str) : Bool := match pureOf t with
  | some (some m) => decide (m = l)
  | _ => false
theorem isPS_ok {t : Sem (Option (List Str))} {l : List Str} (h : isPS t l = true) : t = pure (some l) := by
  unfold isPS at h
  split at h
  · rename_i m e; rw [pureOf_ok e, of_decide_eq_true h]
  · cases h
def isPT (t : Sem Bool) : Bool := match pureOf t with
  | some b => b
  | none => false
theorem isPT_ok {t : Sem Bool} (h : isPT t = true) : t = pure true := by
  unfold isPT at h
  split at h
  · rename_i e; rw [pureOf_ok e, h]
  · cases h
def isPF (t : Sem Bool) : Bool := match pureOf t with
  | some b => !b
  | none => false
theorem isPF_ok {t : Sem Bool} (h : isPF t = true) : t = pure false := by
  unfold isPF at h
  split at h
  · rename_i b e; rw [pureOf_ok e]; cases b <;> simp_all
  · cases h
theorem sw_or {ee tg : Expr} {l : Nat} {env : Env} (h : (noComp ee || isPF (swapsWith ee (some tg) l (dm env.scope))) = true) : swapsWith ee (some tg) l env = pure false := by
  rcases Bool.or_eq_true_iff.mp h with h | h
  · exact swaps_no h
  · rw [sws_env]; exact isPF_ok h
def nmOf : Expr → Option (Str × Pos)
  | .Name x p => some (x, p)
  | _ => none
theorem nmOf_ok {e : Expr} {y : Str × Pos} (h : nmOf e = some y) : e = .Name y.1 y.2 := by
  unfold nmOf at h
  split at h
  · cases h; rfl
  · cases h
def pair2 : Expr → Option (Expr × Expr × Nat × Pos)
  | .Tuple [a, b] k p => some (a, b, k, p)
  | _ => none
theorem pair2_ok {e a b : Expr} {k : Nat} {p : Pos} (h : pair2 e = some (a, b, k, p)) : e = .Tuple [a, b] k p := by
  unfold pair2 at h
  split at h
  · cases h; rfl
  · cases h
/-- a comprehension of one clause -/
def lcOf : Expr → Option (Expr × Comprehension × Scope × Pos)
  | .ListComp e [g] sc p => some (e, g, sc, p)
  | _ => none
theorem lcOf_ok {e : Expr} {y : Expr × Comprehension × Scope × Pos} (h : lcOf e = some y) : e = .ListComp y.1 [y.2.1] y.2.2.1 y.2.2.2 := by
  unfold lcOf at h
  split at h
  · cases h; rfl
  · cases h
def isComp : CE → Bool
  | .comp .. => true
  | _ => false
def isDc : CE → Bool
  | .dcomp .. => true
  | _ => false
/-- two items at once: o[i], p[j] = a, b -/
def sub2 : Stmt → Option (Expr × Expr × Expr × Expr × Expr × Expr)
  | .Assign [.Tuple [t1, t2] _ _] (.Tuple [ea, eb] _ _) _ => (match t1, t2 with
    | .Subscript eo1 ei1 _, .Subscript eo2 ei2 _ => some (eo1, ei1, eo2, ei2, ea, eb)
    | _, _ => none)
  | _ => none
theorem sub2_ok {s : Stmt} {eo1 ei1 eo2 ei2 ea eb : Expr} (h : sub2 s = some (eo1, ei1, eo2, ei2, ea, eb)) : ∃ p1 p2 k1 p3 k2 p4 pos, s = .Assign [.Tuple [.Subscript eo1 ei1 p1, .Subscript eo2 ei2 p2] k1 p3] (.Tuple [ea, eb] k2 p4) pos := by
  unfold sub2 at h
  split at h
  · split at h
    · cases h
      exact ⟨_, _, _, _, _, _, _, rfl⟩
    · cases h
  · cases h
mutual
def chkS (T : Tab) (L : Nat) (N : List Str) (sc : Scope) : CS → Stmt → Bool
  | .expr e, .Expr ee _ => chk T L N sc e ee && noComp ee
  | .asg t e, .Assign [tg] ee sp => chkT (fun _ => true) N sc t tg && chk T L N sc e ee && (noComp ee || isPF (swapsWith ee (some tg) sp.line (dm sc))) && isPN (swappedStores [tg] ee (dm sc))
  | .asgC i e, .Assign [tg] ee sp => (match nmOf tg, lcOf ee with
    | some y, some g => nmIs N i y.1 && locL sc y.1 && isPT (swapsWith ee (some tg) sp.line (dm sc)) && isComp e && chk T L N sc e ee
    | some y, none => nmIs N i y.1 && locL sc y.1 && isPT (swapsWith ee (some tg) sp.line (dm sc)) && isDc e && chk T L N sc e ee
    | _, _ => false)
  | .asg2 i j a b, .Assign [tg] ee _ => (match pair2 tg, pair2 ee with
    | some (e1, e2, _, _), some (ea, eb, _, _) => (match nmOf e1, nmOf e2 with
      | some (x, _), some (y, _) => nmIs N i x && nmIs N j y && !(i == j) && locL sc x && locL sc y && chk T L N sc a ea && chk T L N sc b eb && noStars [ea, eb] && isPS (swappedStores [tg] ee (dm sc)) [x, y]
      | _, _ => false)
    | _, _ => false)
  | .setix2 o1 i1 o2 i2 a b, s => (match sub2 s with
    | some (eo1, ei1, eo2, ei2, ea, eb) => chk T L N sc o1 eo1 && chk T L N sc i1 ei1 && noSl ei1 && chk T L N sc o2 eo2 && chk T L N sc i2 ei2 && noSl ei2 && chk T L N sc a ea && chk T L N sc b eb && noStars [ea, eb]
    | none => false)
  | .setix o i e, .Assign [.Subscript eo ei _] ee _ => chk T L N sc o eo && chk T L N sc i ei && noSl ei && chk T L N sc e ee && noComp ee
  | .aug i op e, .AugAssign (.Name x _) o ee _ => nmIs N i x && locN sc x && opIs o op.of && chk T L N sc e ee
  | .iff c a b, .If ec ba bb _ => chk T L N sc c ec && chkB T L N sc a ba && chkB T L N sc b bb
  | .for_ t it b, .For tg iter body [] _ => chkT (fun _ => true) N sc t tg && chkI T L N sc it tg iter && chkB T L N sc b body && noSet iter
  | .whl c b, .While ec body [] _ => chk T L N sc c ec && chkB T L N sc b body
  | .ret e, .Return (some ee) _ => chk T L N sc e ee
  | .retN, .Return none _ => true
  | .brk, .Break _ => true
  | .cnt, .Continue _ => true
  | .raise_, _ => true
  | _, _ => false
def chkB (T : Tab) (L : Nat) (N : List Str) (sc : Scope) : CS → List Stmt → Bool
  | .skip, [] => true
  | .seq a b, s :: ss => chkS T L N sc a s && chkB T L N sc b ss
  | _, _ => false
end

/-! ### the statements' theorem -/
structure Sat (K : KW) (ρ : Rg) (H : Hp) (P : DE) (Dn : Ends) : Prop where
  nx : ∀ ρ' e s σ' H', Step ρ H ρ' H' → SR K ρ' s H' → ER K ρ' H' e σ' → P.nx e s → Dn.nx σ' H'
  rt : ∀ ρ' d s v H', Step ρ H ρ' H' → SR K ρ' s H' → RD K ρ' H' d v → P.rt d s → Dn.rt v H'
  bk : ∀ ρ' e s σ' H', Step ρ H ρ' H' → SR K ρ' s H' → ER K ρ' H' e σ' → P.bk e s → Dn.bk σ' H'
  ct : ∀ ρ' e s σ' H', Step ρ H ρ' H' → SR K ρ' s H' → ER K ρ' H' e σ' → P.ct e s → Dn.ct σ' H'
theorem Sat.step {K : KW} {ρ ρ1 : Rg} {H H1 : Hp} {P : DE} {Dn : Ends} (s : Sat K ρ H P Dn) (T : Step ρ H ρ1 H1) : Sat K ρ1 H1 P Dn :=
  ⟨fun ρ' e s' σ' H' U => s.nx ρ' e s' σ' H' (T.trans U), fun ρ' d s' v H' U => s.rt ρ' d s' v H' (T.trans U), fun ρ' e s' σ' H' U => s.bk ρ' e s' σ' H' (T.trans U), fun ρ' e s' σ' H' U => s.ct ρ' e s' σ' H' (T.trans U)⟩
def tS (K : KW) (W : Envr → Store → DE → Prop) : TS := fun Dn σ H => ∃ ρ st env P, SR K ρ st H ∧ ER K ρ H env σ ∧ W env st P ∧ Sat K ρ H P Dn
/-- a def's own context -/
structure GoodS (T : Tab) (L : Nat) (X : Cx) : Prop where
  g : Good T L X
  fn : ∀ x, X.fn x = true
  kind : X.env.scope.kind = .function
section
variable {T : Tab} {L : Nat} {X : Cx}
theorem GoodS.pass (G : GoodS T L X) : PassesOwn (model X.prog X.w) X.A X.env X.xe := by
  rw [G.g.xe]; exact .never
theorem seq_ok {s : Stmt} {ss : List Stmt} {a b : CS} (h1 : PS X s (tS X.kw (WS T a))) (h2 : PSs X ss (tS X.kw (WS T b))) : PSs X (s :: ss) (tS X.kw (WS T (.seq a b))) :=
  PSs.imp (pss_cons h1 h2) fun Dn σ H ⟨ρ, st, env, P, S, E, w, sat⟩ => ⟨ρ, st, env, _, S, E, w, fun ρ' e s σ' H' T1 S1 E1 w1 => ⟨ρ', s, e, P, S1, E1, w1, sat.step T1⟩, sat.rt, sat.bk, sat.ct⟩
theorem expr_ok {c : CE} {e : Expr} {pos : Pos} (he : PE X e (tD X.kw (ev T c))) (hn : noComp e = true) : PS X (.Expr e pos) (tS X.kw (WS T (.expr c))) :=
  PS.imp (ps_expr he (swaps_no hn)) fun Dn σ H ⟨ρ, st, env, P, S, E, w, sat⟩ => by
    simp only [WS] at w
    split at w
    · rename_i d st1 h1
      exact ⟨ρ, st, env, _, _, S, E, h1, fun ρ1 v H1 T1 S1 R1 => sat.nx ρ1 env st1 σ H1 T1 S1 (E.mono T1) w⟩
    · cases w
theorem asg_ok {t : TGt} {c : CE} {tg e : Expr} {pos : Pos} (hg : PG X tg (tDG X.kw t)) (hst : noStar tg = true) (he : PE X e (tD X.kw (ev T c))) (hn : swapsWith e (some tg) pos.line X.env = pure false) (hw : swappedStores [tg] e X.env = pure none) : PS X (.Assign [tg] e pos) (tS X.kw (WS T (.asg t c))) :=
  PS.imp (ps_asg he hg hn hw (asg_cons (by simp [noStars, hst]))) fun Dn σ H ⟨ρ, st, env, P, S, E, w, sat⟩ => by
    simp only [WS] at w
    split at w
    · rename_i d st1 h1
      split at w
      · rename_i env1 h2
        exact ⟨ρ, st, env, _, _, S, E, h1, fun ρ1 v H1 T1 S1 R1 => ⟨ρ1, env, d, env1, E.mono T1, R1, h2, fun σ' E' _ _ => sat.nx ρ1 env1 st1 σ' H1 T1 S1 E' w⟩⟩
      · cases w
    · cases w
theorem asg2_ok {i j : Nat} {x y : Str} {a b : Expr} {ca cb : CE} {px py pt pos : Pos} {kt k2 pt2} (G : GoodS T L X) (hi : X.N[i]? = some x) (hj : X.N[j]? = some y) (hij : i ≠ j)
    (hx : X.env.scope.names.lookup x = some .local) (hy : X.env.scope.names.lookup y = some .local) (ha : PE X a (tD X.kw (ev T ca))) (hb : PE X b (tD X.kw (ev T cb))) (hs : noStars [a, b] = true)
    (hw : swappedStores [.Tuple [.Name x px, .Name y py] kt pt] (.Tuple [a, b] k2 pt2) X.env = pure (some [x, y])) :
    PS X (.Assign [.Tuple [.Name x px, .Name y py] kt pt] (.Tuple [a, b] k2 pt2) pos) (tS X.kw (WS T (.asg2 i j ca cb))) := by
  have hs2 : noStars [b] = true := by simp only [noStars, Bool.and_eq_true] at hs ⊢; exact ⟨hs.2.1, trivial⟩
  refine PS.imp (ps_par G.g.calm G.g.nd hi hj hij hx hy (ad_cons ha (ad_cons hb ad_nil hs2) hs) hw) fun Dn σ H ⟨ρ, st, env, P, S, E, w, sat⟩ => ?_
  simp only [WS] at w
  split at w
  · rename_i d st1 h1
    split at w
    · rename_i d' st2 h2
      refine ⟨ρ, st, env, [d, d'], st2, S, E, by simp [evs, h1, h2], fun ρ1 vs H1 T1 S1 R1 => ?_⟩
      obtain ⟨v, v', rfl, r, r'⟩ := R1.two
      exact ⟨v, v', rfl, sat.nx ρ1 _ st2 _ H1 T1 S1 (((E.mono T1).set r).set r') w⟩
    · cases w
  · cases w
/-- o[i] = .. over D -/
def tSetD (X : Cx) : TSet := fun o i v H Q => ∃ ρ st x y d st', SR X.kw ρ st H ∧ RD X.kw ρ H x o ∧ RD X.kw ρ H y i ∧ RD X.kw ρ H d v ∧ setixD st x y d = some st' ∧ ∀ ρ' H', Step ρ H ρ' H' → SR X.kw ρ' st' H' → Q H'
theorem set_D (hu : X.A.units + 64 < cLine) : PSet X (tSetD X) := by
  intro pins s σ H o i v ov iv u Q I ro ri rv ⟨ρ, st, x, y, d, st', S, rx, ry, rd, e, k⟩
  unfold setixD at e
  split at e
  · rename_i n
    split at e
    · rename_i ds hd
      split at e
      · rename_i kk
        split at e
        · rename_i j hj
          cases e
          cases ry
          obtain ⟨q, vs, rfl, hv, hn3, rs⟩ := obj_items S hd rx
          refine set_list (X := X) pins s σ H (.ref q) (.int kk) v ov iv u Q I ro ri rv ⟨q, vs, kk, j, rfl, rfl, hv, by rw [rs.length]; exact hj, ?_⟩
          exact k ρ _ (Step.put S (List.mem_of_getElem? hn3)) (S.put hn3 (RDs.set (ds := ds) (vs := vs) d v rd j rs))
        · cases e
      · cases e
    · rename_i m kvs hd
      split at e
      · rename_i ok
        cases e
        rw [Bool.and_eq_true] at ok
        obtain ⟨a, rfl, hn⟩ := rx
        obtain rfl : ov = Value.ref a := ro
        exact dict_set hu rfl I S hn hd ry ri ok.1 (of_decide_eq_true ok.2) rd rv fun o s' I' S' => ⟨_, I', k ρ _ (Step.put S (List.mem_of_getElem? hn)) S'⟩
      · cases e
    · cases e
  · cases e
theorem sub_sh {eo ei : Expr} {p : Pos} (hsl : noSl ei = true) : ∀ v, assign (.Subscript eo ei p) X.env v = (do
      let ov ← holding [v] (eval eo X.env)
      let iv ← holding [v, ov] (eval ei X.env)
      standAt p
      holding [v, ov, iv] (setItem ov iv v)
      release [v, ov, iv] []) := by
  intro v
  cases ei <;> first | rfl | exact absurd hsl (by simp [noSl])
theorem setix_ok (hu : X.A.units + 64 < cLine) {o i e : CE} {eo ei ee : Expr} {pos p : Pos} (ho : PE X eo (tD X.kw (ev T o))) (hi : PE X ei (tD X.kw (ev T i))) (he : PE X ee (tD X.kw (ev T e))) (hsl : noSl ei = true) (hn : noComp ee = true) :
    PS X (.Assign [.Subscript eo ei p] ee pos) (tS X.kw (WS T (.setix o i e))) := by
  have hg := pg_sub (pos := p) ho hi (set_D (X := X) hu) (sub_sh hsl)
  refine PS.imp (ps_asg (pos := pos) he hg (swaps_no (t := some (eo.Subscript ei p)) (l := pos.line) (env := X.env) hn) (by cases ee <;> rfl) rfl) fun Dn σ H ⟨ρ, st, env, P, S, E, w, sat⟩ => ?_
  simp only [WS] at w
  split at w
  · rename_i d st1 h1
    split at w
    · rename_i x st2 h2
      split at w
      · rename_i y st3 h3
        split at w
        · rename_i st4 h4
          exact ⟨ρ, st, env, _, _, S, E, h1, fun ρ1 v1 H1 T1 S1 R1 => ⟨ρ1, st1, env, _, _, S1, E.mono T1, h2, fun ρ2 v2 H2 T2 S2 R2 => ⟨ρ2, st2, env, _, _, S2, (E.mono T1).mono T2, h3, fun ρ3 v3 H3 T3 S3 R3 =>
            ⟨ρ3, st3, x, y, d, st4, S3, RD.mono T3 _ _ R2, R3, RD.mono T3 _ _ (RD.mono T2 _ _ R1), h4, fun ρ4 H4 T4 S4 => sat.nx ρ4 env _ σ _ (((T1.trans T2).trans T3).trans T4) S4 (E.mono (((T1.trans T2).trans T3).trans T4)) w⟩⟩⟩⟩
        · cases w
      · cases w
    · cases w
  · cases w
theorem sw_sub {eo1 ei1 eo2 ei2 ea eb : Expr} {p1 p2 p3 p4 : Pos} {k1 k2 : Nat} {env : Env} : swappedStores [.Tuple [.Subscript eo1 ei1 p1, .Subscript eo2 ei2 p2] k1 p3] (.Tuple [ea, eb] k2 p4) env = pure none := by
  unfold swappedStores
  cases h : (!(([Expr.Subscript eo1 ei1 p1, Expr.Subscript eo2 ei2 p2] : List Expr).length == 2 || ([Expr.Subscript eo1 ei1 p1, Expr.Subscript eo2 ei2 p2] : List Expr).length == 3) || ([ea, eb] : List Expr).length != ([Expr.Subscript eo1 ei1 p1, Expr.Subscript eo2 ei2 p2] : List Expr).length || env.blockKind != .function)
  · simp only [h]
    rw [if_neg Bool.false_ne_true]
    split
    · rfl
    · rfl
  · simp only [h] <;> rfl
theorem len2 {a b : D} : [a, b].length ≤ 1000 := by simp
theorem setix2_ok (hc : X.calm = true) (hu : X.A.units + 64 < cLine) {o1 i1 o2 i2 a b : CE} {eo1 ei1 eo2 ei2 ea eb : Expr} {pos p1 p2 p3 p4 : Pos} {k1 k2 : Nat} (ho1 : PE X eo1 (tD X.kw (ev T o1))) (hi1 : PE X ei1 (tD X.kw (ev T i1))) (ho2 : PE X eo2 (tD X.kw (ev T o2))) (hi2 : PE X ei2 (tD X.kw (ev T i2)))
    (hab : PA X [ea, eb] (tDA X.kw (evs T (.cons a (.cons b .nil))))) (hsl1 : noSl ei1 = true) (hsl2 : noSl ei2 = true) :
    PS X (.Assign [.Tuple [.Subscript eo1 ei1 p1, .Subscript eo2 ei2 p2] k1 p3] (.Tuple [ea, eb] k2 p4) pos) (tS X.kw (WS T (.setix2 o1 i1 o2 i2 a b))) := by
  have g1 := pg_sub (pos := p1) ho1 hi1 (set_D (X := X) hu) (sub_sh hsl1)
  have g2 := pg_sub (pos := p2) ho2 hi2 (set_D (X := X) hu) (sub_sh hsl2)
  have hg := pg_tup (pos := p3) (k := k1) (n := 2) hc (pgs_cons g1 (pgs_cons g2 pgs_nil))
  have he : PE X (.Tuple [ea, eb] k2 p4) (tD X.kw (ev T (.tup (.cons a (.cons b .nil))))) := pd_tup hab fun env st ds st' h => by
    obtain ⟨d1, st1, r, _, h2, rfl⟩ := evs_cons h
    obtain ⟨d2, st2, r2, _, h3, rfl⟩ := evs_cons h2
    unfold evs at h3
    cases h3
    exact len2
  refine PS.imp (ps_asg (pos := pos) he hg rfl sw_sub rfl) fun Dn σ H ⟨ρ, st, env, P, S, E, w, sat⟩ => ?_
  simp only [WS] at w
  split at w
  · rename_i st8 hw
    unfold two at hw
    split at hw
    · rename_i d1 st1 h1
      split at hw
      · rename_i d2 st2 h2
        split at hw
        · rename_i x st3 h3
          split at hw
          · rename_i y st4 h4
            split at hw
            · rename_i st5 h5
              split at hw
              · rename_i x2 st6 h6
                split at hw
                · rename_i y2 st7 h7
                  have hev : ev T (.tup (.cons a (.cons b .nil))) env st = some (.tup [d1, d2], st2) := by
                    simp only [ev, evs, h1, h2]
                  refine ⟨ρ, st, env, _, _, S, E, hev, fun ρ1 v1 H1 T1 S1 R1 => ?_⟩
                  obtain ⟨q, vs, rfl, t, rs⟩ := R1
                  obtain ⟨v1, v2, rfl, r1, r2⟩ := rs.two
                  refine ⟨q, [v1, v2], rfl, t.sq, rfl, v1, [v2], rfl, ?_⟩
                  refine ⟨ρ1, st2, env, _, _, S1, E.mono T1, h3, fun ρ2 w2 H2 T2 S2 R2 => ⟨ρ2, st3, env, _, _, S2, (E.mono T1).mono T2, h4, fun ρ3 w3 H3 T3 S3 R3 =>
                    ⟨ρ3, st4, x, y, d1, st5, S3, RD.mono T3 _ _ R2, R3, RD.mono T3 _ _ (RD.mono T2 _ _ r1), h5, fun ρ4 H4 T4 S4 => ?_⟩⟩⟩
                  refine ⟨v2, [], rfl, ?_⟩
                  have T14 := (T2.trans T3).trans T4
                  refine ⟨ρ4, st5, env, _, _, S4, (E.mono T1).mono T14, h6, fun ρ5 w5 H5 T5 S5 R5 => ⟨ρ5, st6, env, _, _, S5, ((E.mono T1).mono T14).mono T5, h7, fun ρ6 w6 H6 T6 S6 R6 =>
                    ⟨ρ6, st7, x2, y2, d2, st8, S6, RD.mono T6 _ _ R5, R6, RD.mono ((T14.trans T5).trans T6) _ _ r2, hw, fun ρ7 H7 T7 S7 => ⟨rfl, ?_⟩⟩⟩⟩
                  have TT := (((T1.trans T14).trans T5).trans T6).trans T7
                  exact sat.nx ρ7 env _ σ _ TT S7 (E.mono TT) w
                · cases hw
              · cases hw
            · cases hw
          · cases hw
        · cases hw
      · cases hw
    · cases hw
  · cases w
theorem rd_int {K : KW} {ρ : Rg} {H : Hp} {i : Int} : RD K ρ H (.int i) (.int i) := rfl
theorem aug_ok {i : Nat} {x : Str} {op : BOp} {e : Expr} {c : CE} {pos p : Pos} (G : GoodS T L X) (hi : X.N[i]? = some x) (hx : Loc X.env.scope x) (he : PE X e (tD X.kw (ev T c))) : PS X (.AugAssign (.Name x p) op.of e pos) (tS X.kw (WS T (.aug i op c))) := by
  have ip : PIp X op.of (fun x y H Q => ∃ i j, x = .int i ∧ y = .int j ∧ ((op = .add ∧ Q (.int (i + j)) H) ∨ (op = .sub ∧ Q (.int (i - j)) H) ∨ (op = .mul ∧ CMul i j ∧ Q (.int (i * j)) H) ∨ (op = .and ∧ Q (.int (Builtin.bitAnd i j)) H))) := by
    intro pins s σ H x y v u Q I rx ry ⟨i, j, e1, e2, h⟩
    rcases h with ⟨rfl, q⟩ | ⟨rfl, q⟩ | ⟨rfl, hc, q⟩ | ⟨rfl, q⟩
    · exact iop_add pins s σ H x y v u Q I rx ry ⟨i, j, e1, e2, q⟩
    · exact iop_sub pins s σ H x y v u Q I rx ry ⟨i, j, e1, e2, q⟩
    · exact iop_mul pins s σ H x y v u Q I rx ry ⟨i, j, e1, e2, hc, q⟩
    · exact iop_and pins s σ H x y v u Q I rx ry ⟨i, j, e1, e2, q⟩
  refine PS.imp (ps_aug G.g.nd hi hx he ip (.inl (G.fn x))) fun Dn σ H ⟨ρ, st, env, P, S, E, w, sat⟩ => ?_
  simp only [WS] at w
  split at w
  · rename_i d hd
    obtain ⟨v, hv, rv⟩ := E.at_ i d hd
    split at w
    · rename_i y st1 h1
      split at w
      · rename_i z st2 h2
        refine ⟨v, hv, ρ, st, env, _, _, S, E, h1, fun ρ1 v1 H1 T1 S1 R1 => ?_⟩
        unfold augD at h2
        split at h2
        · rename_i i1 j1
          cases rv
          cases R1
          refine ⟨i1, j1, rfl, rfl, ?_⟩
          cases op with
          | add => cases h2; exact .inl ⟨rfl, sat.nx ρ1 _ _ _ H1 T1 S1 ((E.mono T1).set rd_int) w⟩
          | sub => cases h2; exact .inr (.inl ⟨rfl, sat.nx ρ1 _ _ _ H1 T1 S1 ((E.mono T1).set rd_int) w⟩)
          | mul =>
            simp only at h2
            split at h2
            · rename_i hc
              cases h2
              exact .inr (.inr (.inl ⟨rfl, of_decide_eq_true hc, sat.nx ρ1 _ _ _ H1 T1 S1 ((E.mono T1).set rd_int) w⟩))
            · cases h2
          | and => cases h2; exact .inr (.inr (.inr ⟨rfl, sat.nx ρ1 _ _ _ H1 T1 S1 ((E.mono T1).set rd_int) w⟩))
          | _ => cases h2
        · cases h2
      · cases w
    · cases w
  · cases w
theorem iff_ok {c : CE} {a b : CS} {ec : Expr} {ba bb : List Stmt} {pos : Pos} (hc : PT X ec (tDT X.kw (evT T c))) (ha : PSs X ba (tS X.kw (WS T a))) (hb : PSs X bb (tS X.kw (WS T b))) : PS X (.If ec ba bb pos) (tS X.kw (WS T (.iff c a b))) :=
  PS.imp (ps_if hc ha hb) fun Dn σ H ⟨ρ, st, env, P, S, E, w, sat⟩ => by
    simp only [WS] at w
    split at w
    · rename_i st1 h1
      exact ⟨ρ, st, env, _, _, S, E, h1, fun ρ1 H1 T1 S1 => iteT ⟨ρ1, st1, env, P, S1, E.mono T1, w, sat.step T1⟩⟩
    · rename_i st1 h1
      exact ⟨ρ, st, env, _, _, S, E, h1, fun ρ1 H1 T1 S1 => iteF ⟨ρ1, st1, env, P, S1, E.mono T1, w, sat.step T1⟩⟩
    · cases w
theorem ret_ok {c : CE} {e : Expr} {pos : Pos} (he : PE X e (tD X.kw (ev T c))) : PS X (.Return (some e) pos) (tS X.kw (WS T (.ret c))) :=
  PS.imp (ps_ret he) fun Dn σ H ⟨ρ, st, env, P, S, E, w, sat⟩ => by
    simp only [WS] at w
    split at w
    · rename_i d st1 h1
      exact ⟨ρ, st, env, _, _, S, E, h1, fun ρ1 v H1 T1 S1 R1 => sat.rt ρ1 d st1 v H1 T1 S1 R1 w⟩
    · cases w
theorem for_ok {t : TGt} {it : CI} {b : CS} {tg iter : Expr} {body : List Stmt} {pos : Pos} (G : GoodS T L X) (hi : PI X tg iter (tDI X.kw (evI T it))) (hg : PG X tg (tDG X.kw t)) (hb : PSs X body (tS X.kw (WS T b))) (hs : noSet iter = true) :
    PS X (.For tg iter body [] pos) (tS X.kw (WS T (.for_ t it b))) :=
  PS.imp (ps_for G.pass G.g.calm hi hg hb (folded_no hs)) fun Dn σ H ⟨ρ, st, env, P, S, E, w, sat⟩ => by
    simp only [WS] at w
    split at w
    · rename_i src st1 h1
      refine ⟨ρ, st, env, src, st1, S, E, h1, fun ρ1 H1 J T1 S1 wd ok0 => ?_⟩
      refine ⟨fun i m σ' H' => m = src.items.length - i ∧ i ≤ src.items.length ∧ ∃ ρ' s e, Step ρ1 H1 ρ' H' ∧ SR X.kw ρ' s H' ∧ src.ok s ∧ ER X.kw ρ' H' e σ' ∧ forL (WS T b) t src.ok (src.items.drop i) e s P,
        ⟨src.items.length, by simp, Nat.zero_le _, ρ1, st1, env, .refl, S1, ok0, E.mono T1, w⟩, ?_⟩
      rintro i m σ' H' ⟨rfl, hi, ρ', s, e, T2, S2, ok2, E2, w2⟩
      have wk := wd.2 ρ' H' s T2.w S2 ok2
      by_cases hlt : i < src.items.length
      · obtain ⟨d, hd⟩ : ∃ d, src.items[i]? = some d := ⟨_, List.getElem?_eq_getElem hlt⟩
        obtain ⟨go, yl⟩ := wk.2 i d hd
        have hdrop : src.items.drop i = d :: src.items.drop (i + 1) := by
          rw [List.drop_eq_getElem_cons hlt]
          rw [List.getElem?_eq_getElem hlt] at hd
          cases hd; rfl
        rw [hdrop] at w2
        simp only [forL] at w2
        split at w2
        · rename_i env1 ha
          refine .inr ⟨go, fun σ2 H2 => ∃ ρ' s e, Step ρ1 H1 ρ' H2 ∧ SR X.kw ρ' s H2 ∧ src.ok s ∧ ER X.kw ρ' H2 e σ2 ∧ forL (WS T b) t src.ok (src.items.drop (i + 1)) e s P, fun σ2 H2 h2 => ⟨src.items.length - (i + 1), by omega, rfl, hlt, h2⟩, fun x H2 hy => ?_⟩
          obtain ⟨T3, S3, rx⟩ := yl x H2 hy
          refine ⟨ρ', e, d, env1, E2.mono T3, rx, ha, fun σ2 E3 _ _ => ⟨ρ', s, env1, _, S3, E3, w2, ?_⟩⟩
          have T4 := T2.trans T3
          exact ⟨fun ρ4 e4 s4 σ4 H4 T5 S5 E5 w5 => ⟨ρ4, s4, e4, T4.trans T5, S5, w5.1, E5, w5.2⟩, fun ρ4 d4 s4 v4 H4 T5 S5 R5 w5 => sat.rt ρ4 d4 s4 v4 H4 ((T1.trans T4).trans T5) S5 R5 w5,
            fun ρ4 e4 s4 σ4 H4 T5 S5 E5 w5 => sat.nx ρ4 e4 s4 σ4 H4 ((T1.trans T4).trans T5) S5 E5 w5, fun ρ4 e4 s4 σ4 H4 T5 S5 E5 w5 => ⟨ρ4, s4, e4, T4.trans T5, S5, w5.1, E5, w5.2⟩⟩
        · cases w2
      · have ei : i = src.items.length := by omega
        subst ei
        rw [List.drop_length] at w2
        exact .inl ⟨wk.1, sat.nx ρ' e s σ' H' (T1.trans T2) S2 E2 w2⟩
    · cases w
theorem whl_ok {c : CE} {b : CS} {ec : Expr} {body : List Stmt} {pos : Pos} (G : GoodS T L X) (hc : PT X ec (tDT X.kw (evT T c))) (hb : PSs X body (tS X.kw (WS T b))) : PS X (.While ec body [] pos) (tS X.kw (WS T (.whl c b))) :=
  PS.imp (ps_while G.pass hc hb) fun Dn σ H ⟨ρ, st, env, P, S, E, w, sat⟩ => by
    simp only [WS] at w
    obtain ⟨J, ⟨m0, j0⟩, turn⟩ := w
    refine ⟨fun m σ' H' => ∃ ρ' s e, Step ρ H ρ' H' ∧ SR X.kw ρ' s H' ∧ ER X.kw ρ' H' e σ' ∧ J m e s, ⟨m0, ρ, st, env, .refl, S, E, j0⟩, ?_⟩
    rintro m σ' H' ⟨ρ', s, e, T2, S2, E2, j⟩
    have w2 := turn m e s j
    split at w2
    · rename_i s1 h1
      refine ⟨ρ', s, e, _, _, S2, E2, h1, fun ρ3 H3 T3 S3 => iteT ⟨fun σ2 H2 => ∃ m', m' < m ∧ ∃ ρ' s e, Step ρ H ρ' H2 ∧ SR X.kw ρ' s H2 ∧ ER X.kw ρ' H2 e σ2 ∧ J m' e s, fun σ2 H2 h2 => h2, ρ3, s1, e, _, S3, E2.mono T3, w2, ?_⟩⟩
      have T4 := T2.trans T3
      exact ⟨fun ρ4 e4 s4 σ4 H4 T5 S5 E5 ⟨m', hm, w5⟩ => ⟨m', hm, ρ4, s4, e4, T4.trans T5, S5, E5, w5⟩, fun ρ4 d4 s4 v4 H4 T5 S5 R5 w5 => sat.rt ρ4 d4 s4 v4 H4 (T4.trans T5) S5 R5 w5,
        fun ρ4 e4 s4 σ4 H4 T5 S5 E5 w5 => sat.nx ρ4 e4 s4 σ4 H4 (T4.trans T5) S5 E5 w5, fun ρ4 e4 s4 σ4 H4 T5 S5 E5 ⟨m', hm, w5⟩ => ⟨m', hm, ρ4, s4, e4, T4.trans T5, S5, E5, w5⟩⟩
    · rename_i s1 h1
      exact ⟨ρ', s, e, _, _, S2, E2, h1, fun ρ3 H3 T3 S3 => iteF (sat.nx ρ3 e s1 σ' H3 (T2.trans T3) S3 (E2.mono T3) w2)⟩
    · cases w2
theorem noStar_of {N : List Str} {sc : Scope} {dfn : Str → Bool} {t : TGt} {tg : Expr} (h : chkT dfn N sc t tg = true) : noStar tg = true := by
  cases tg <;> first | rfl | (cases t <;> simp [chkT] at h)
theorem comp_ok {x : CE} {t : TGt} {it : CI} {cond : CO} {own : List Nat} {elt : Expr} {g : Comprehension} {scope : Scope} {pos : Pos} (G : Good T L X)
    (h : chk T L X.N X.env.scope (.comp x t it cond own) (.ListComp elt [g] scope pos) = true) : ∃ tg iter ifs, g = ⟨tg, iter, ifs, 0⟩ ∧ CompOk X T x t it cond own elt tg iter ifs scope := by
  obtain ⟨tg, iter, ifs, isa⟩ := g
  simp only [chk, Bool.and_eq_true, decide_eq_true_eq, List.all_eq_true, List.contains_iff_mem] at h
  obtain ⟨⟨⟨⟨⟨⟨⟨⟨h1, h2⟩, h3⟩, h4⟩, h5⟩, h6⟩, h7⟩, h8⟩, h9⟩ := h
  subst h1
  exact ⟨tg, iter, ifs, rfl, blkOk_by h2, h3, ci_ok it X tg iter G h4, fun s H C cl fp => gd_ok (dfn := cellOf scope) (X := X.blk s H scope (compEnvC scope cl C X.env) fp) G.calm G.nd rfl rfl (fun x h => h) t tg h5, h6,
    fun s H C cl fp => cc_ok cond (X.blk s H scope (compEnvC scope cl C X.env) fp) ifs (G.blk s H scope _ fp) h7,
    fun s H C cl fp => (ce_ok x (X.blk s H scope (compEnvC scope cl C X.env) fp) elt (G.blk s H scope _ fp) h8).1, h9⟩
theorem asgC_ok {i : Nat} {y : Str} {x : CE} {t : TGt} {it : CI} {cond : CO} {own : List Nat} {elt : Expr} {g : Comprehension} {scope : Scope} {pos sp py : Pos} (G : GoodS T L X) (hi : X.N[i]? = some y) (hy : X.env.scope.names.lookup y = some .local)
    (hsw : swapsWith (.ListComp elt [g] scope pos) (some (.Name y py)) sp.line X.env = pure true) (h : chk T L X.N X.env.scope (.comp x t it cond own) (.ListComp elt [g] scope pos) = true) :
    PS X (.Assign [.Name y py] (.ListComp elt [g] scope pos) sp) (tS X.kw (WS T (.asgC i (.comp x t it cond own)))) := by
  obtain ⟨tg, iter, ifs, rfl, c⟩ := comp_ok G.g h
  refine PS.imp (ps_setLc (own := ownOf X.N own) G.g.calm G.g.nd hi hy hsw c.hi c.ok c.hg c.ht c.he (folded_no c.hs)) fun Dn σ H ⟨ρ, st, env, P, S, E, w, sat⟩ => ?_
  simp only [WS] at w
  split at w
  · rename_i d st1 h1
    rw [c.ho]
    exact comp_rd c.hsl ⟨ρ, st, env, d, st1, S, E, h1, fun ρ1 v H1 T1 S1 R1 => sat.nx ρ1 _ st1 _ H1 T1 S1 ((E.mono T1).set R1) w⟩
  · cases w
theorem asgDc_ok {i : Nat} {y : Str} {kx vx : CE} {t : TGt} {it : CI} {cond : CO} {own : List Nat} {ee : Expr} {sp py : Pos} (G : GoodS T L X) (hi : X.N[i]? = some y) (hy : X.env.scope.names.lookup y = some .local)
    (hsw : swapsWith ee (some (.Name y py)) sp.line X.env = pure true) (h : chk T L X.N X.env.scope (.dcomp kx vx t it cond own) ee = true) : PS X (.Assign [.Name y py] ee sp) (tS X.kw (WS T (.asgC i (.dcomp kx vx t it cond own)))) := by
  simp only [chk] at h
  split at h
  · rename_i ek ew tg iter ifs isa scope hdc
    obtain ⟨p, rfl⟩ := dcOf_ok hdc
    simp only [Bool.and_eq_true, decide_eq_true_eq, List.all_eq_true, List.contains_iff_mem] at h
    obtain ⟨⟨⟨⟨⟨⟨⟨⟨⟨h1, h2⟩, h3⟩, h4⟩, h5⟩, h6⟩, h7⟩, h8⟩, h9⟩, ha⟩ := h
    subst h1
    have G1 := G.g
    have c : DcOk X T kx vx t it cond (ownOf X.N own) ek ew tg iter ifs scope :=
      ⟨blkOk_by h2, ci_ok it X tg iter G1 h4, fun s H C cl fp => gd_ok (dfn := cellOf scope) (X := X.blk s H scope (compEnvC scope cl C X.env) fp) G1.calm G1.nd rfl rfl (fun x h => h) t tg h5,
        fun i hi => by rw [h3]; exact h6 i hi, fun s H C cl fp => cc_ok cond (X.blk s H scope (compEnvC scope cl C X.env) fp) ifs (G1.blk s H scope _ fp) h7,
        fun s H C cl fp => (ce_ok kx (X.blk s H scope (compEnvC scope cl C X.env) fp) ek (G1.blk s H scope _ fp) h8).1, fun s H C cl fp => (ce_ok vx (X.blk s H scope (compEnvC scope cl C X.env) fp) ew (G1.blk s H scope _ fp) h9).1, folded_no ha⟩
    refine PS.imp (ps_dcomp (pos := p) G1 c hi hy hsw) fun Dn σ H ⟨ρ, st, env, P, S, E, w, sat⟩ => ?_
    simp only [WS] at w
    split at w
    · rename_i d st1 he
      rw [h3]
      exact ⟨ρ, st, env, d, st1, S, E, he, fun ρ1 v H1 T1 S1 R1 => sat.nx ρ1 _ st1 _ H1 T1 S1 ((E.mono T1).set R1) w⟩
    · cases w
  · cases h
mutual
theorem st_ok (G : GoodS T L X) : ∀ (c : CS) (s : Stmt), chkS T L X.N X.env.scope c s = true → PS X s (tS X.kw (WS T c))
  | .expr e, s, h => by
    cases s with
    | Expr ee p =>
      simp only [chkS, Bool.and_eq_true] at h
      exact expr_ok (ce_ok e X ee G.g h.1).1 h.2
    | _ => exact absurd h Bool.false_ne_true
  | .asg t e, s, h => by
    cases s with
    | Assign ts ee p =>
      match ts, h with
      | [tg], h =>
        simp only [chkS, Bool.and_eq_true] at h
        exact asg_ok (gd_ok (dfn := fun _ => true) G.g.calm G.g.nd rfl rfl (fun x _ => G.fn x) t tg h.1.1.1) (noStar_of h.1.1.1) (ce_ok e X ee G.g h.1.1.2).1 (sw_or h.1.2) (by rw [sw_env]; exact isPN_ok h.2)
      | [], h => exact absurd h Bool.false_ne_true
      | _ :: _ :: _, h => exact absurd h Bool.false_ne_true
    | _ => exact absurd h Bool.false_ne_true
  | .asgC i e, s, h => by
    cases s with
    | Assign ts ee p =>
      match ts, h with
      | [tg], h =>
        simp only [chkS] at h
        split at h
        · rename_i y g h1 h2
          simp only [Bool.and_eq_true] at h
          obtain ⟨⟨⟨⟨k1, k2⟩, k3⟩, k4⟩, k5⟩ := h
          obtain rfl := nmOf_ok h1
          obtain rfl := lcOf_ok h2
          cases e with
          | comp x t it cond own => exact asgC_ok G (nmIs_ok k1) (locL_ok k2) (by rw [sws_env]; exact isPT_ok k3) k5
          | _ => exact absurd k4 Bool.false_ne_true
        · rename_i y h1 h2
          simp only [Bool.and_eq_true] at h
          obtain ⟨⟨⟨⟨k1, k2⟩, k3⟩, k4⟩, k5⟩ := h
          obtain rfl := nmOf_ok h1
          cases e with
          | dcomp kx vx t it cond own => exact asgDc_ok G (nmIs_ok k1) (locL_ok k2) (by rw [sws_env]; exact isPT_ok k3) k5
          | _ => exact absurd k4 Bool.false_ne_true
        · cases h
      | [], h => exact absurd h Bool.false_ne_true
      | t1 :: _ :: _, h => exact absurd h Bool.false_ne_true
    | _ => exact absurd h Bool.false_ne_true
  | .asg2 i j a b, s, h => by
    cases s with
    | Assign ts ee p =>
      match ts, h with
      | [tg], h =>
        simp only [chkS] at h
        split at h
        · rename_i e1 e2 kt pt ea eb k2 p2 h1 h2
          split at h
          · rename_i x px y py h3 h4
            simp only [Bool.and_eq_true, Bool.not_eq_true', beq_eq_false_iff_ne] at h
            obtain ⟨⟨⟨⟨⟨⟨⟨⟨q1, q2⟩, q3⟩, q4⟩, q5⟩, q6⟩, q7⟩, q8⟩, q9⟩ := h
            obtain rfl := pair2_ok h1
            obtain rfl := pair2_ok h2
            obtain rfl := nmOf_ok h3
            obtain rfl := nmOf_ok h4
            exact asg2_ok G (nmIs_ok q1) (nmIs_ok q2) q3 (locL_ok q4) (locL_ok q5) (ce_ok a X ea G.g q6).1 (ce_ok b X eb G.g q7).1 q8 (by rw [sw_env]; exact isPS_ok q9)
          · cases h
        · cases h
      | [], h => exact absurd h Bool.false_ne_true
      | t1 :: _ :: _, h => exact absurd h Bool.false_ne_true
    | _ => exact absurd h Bool.false_ne_true
  | .setix o i e, s, h => by
    cases s with
    | Assign ts ee p =>
      match ts, h with
      | [tg], h =>
        cases tg with
        | Subscript eo ei q =>
          simp only [chkS, Bool.and_eq_true] at h
          exact setix_ok (by have := G.g.un; omega) (ce_ok o X eo G.g h.1.1.1.1).1 (ce_ok i X ei G.g h.1.1.1.2).1 (ce_ok e X ee G.g h.1.2).1 h.1.1.2 h.2
        | _ => exact absurd h Bool.false_ne_true
      | [], h => exact absurd h Bool.false_ne_true
      | t1 :: _ :: _, h => cases t1 <;> exact absurd h Bool.false_ne_true
    | _ => exact absurd h Bool.false_ne_true
  | .setix2 o1 i1 o2 i2 a b, s, h => by
    simp only [chkS] at h
    split at h
    · rename_i eo1 ei1 eo2 ei2 ea eb hs
      obtain ⟨p1, p2, k1, p3, k2, p4, pos, rfl⟩ := sub2_ok hs
      simp only [Bool.and_eq_true] at h
      obtain ⟨⟨⟨⟨⟨⟨⟨⟨h1, h2⟩, h3⟩, h4⟩, h5⟩, h6⟩, h7⟩, h8⟩, h9⟩ := h
      exact setix2_ok G.g.calm (by have := G.g.un; omega) (ce_ok o1 X eo1 G.g h1).1 (ce_ok i1 X ei1 G.g h2).1 (ce_ok o2 X eo2 G.g h4).1 (ce_ok i2 X ei2 G.g h5).1 (cs_ok (.cons a (.cons b .nil)) X [ea, eb] G.g (by simp [chks, h7, h8]) h9) h3 h6
    · cases h
  | .aug i op e, s, h => by
    cases s with
    | AugAssign tg o ee p =>
      cases tg with
      | Name x q =>
        simp only [chkS, Bool.and_eq_true] at h
        obtain rfl := opIs_ok h.1.2
        exact aug_ok G (nmIs_ok h.1.1.1) (locN_ok h.1.1.2) (ce_ok e X ee G.g h.2).1
      | _ => exact absurd h Bool.false_ne_true
    | _ => exact absurd h Bool.false_ne_true
  | .iff c a b, s, h => by
    cases s with
    | If ec ba bb p =>
      simp only [chkS, Bool.and_eq_true] at h
      exact iff_ok (ce_ok c X ec G.g h.1.1).2 (sb_ok G a ba h.1.2) (sb_ok G b bb h.2)
    | _ => exact absurd h Bool.false_ne_true
  | .for_ t it b, s, h => by
    cases s with
    | For tg iter body els p =>
      match els, h with
      | [], h =>
        simp only [chkS, Bool.and_eq_true] at h
        exact for_ok G (ci_ok it X tg iter G.g h.1.1.2) (gd_ok (dfn := fun _ => true) G.g.calm G.g.nd rfl rfl (fun x _ => G.fn x) t tg h.1.1.1) (sb_ok G b body h.1.2) h.2
      | _ :: _, h => exact absurd h Bool.false_ne_true
    | _ => exact absurd h Bool.false_ne_true
  | .whl c b, s, h => by
    cases s with
    | While ec body els p =>
      match els, h with
      | [], h =>
        simp only [chkS, Bool.and_eq_true] at h
        exact whl_ok G (ce_ok c X ec G.g h.1).2 (sb_ok G b body h.2)
      | _ :: _, h => exact absurd h Bool.false_ne_true
    | _ => exact absurd h Bool.false_ne_true
  | .ret e, s, h => by
    cases s with
    | Return v p =>
      match v, h with
      | some ee, h => exact ret_ok (ce_ok e X ee G.g (by simpa [chkS] using h)).1
      | none, h => exact absurd h Bool.false_ne_true
    | _ => exact absurd h Bool.false_ne_true
  | .retN, s, h => by
    cases s with
    | Return v p =>
      match v, h with
      | none, h => exact PS.imp ps_retN fun Dn σ H ⟨ρ, st, env, P, S, E, w, sat⟩ => sat.rt ρ .non st .non H .refl S rfl w
      | some _, h => exact absurd h Bool.false_ne_true
    | _ => exact absurd h Bool.false_ne_true
  | .brk, s, h => by
    cases s with
    | Break p => exact PS.imp ps_break fun Dn σ H ⟨ρ, st, env, P, S, E, w, sat⟩ => sat.bk ρ env st σ H .refl S E w
    | _ => exact absurd h Bool.false_ne_true
  | .cnt, s, h => by
    cases s with
    | Continue p => exact PS.imp ps_continue fun Dn σ H ⟨ρ, st, env, P, S, E, w, sat⟩ => sat.ct ρ env st σ H .refl S E w
    | _ => exact absurd h Bool.false_ne_true
  | .raise_, s, h => PS.imp ps_never fun Dn σ H ⟨ρ, st, env, P, S, E, w, sat⟩ => w
  | .skip, s, h => absurd h (by simp [chkS])
  | .seq _ _, s, h => absurd h (by simp [chkS])
theorem sb_ok (G : GoodS T L X) : ∀ (c : CS) (ss : List Stmt), chkB T L X.N X.env.scope c ss = true → PSs X ss (tS X.kw (WS T c))
  | .skip, [], h => PSs.imp pss_nil fun Dn σ H ⟨ρ, st, env, P, S, E, w, sat⟩ => sat.nx ρ env st σ H .refl S E w
  | .skip, _ :: _, h => absurd h Bool.false_ne_true
  | .seq a b, [], h => absurd h Bool.false_ne_true
  | .seq a b, s :: ss, h => by
    simp only [chkB, Bool.and_eq_true] at h
    exact seq_ok (st_ok G a s h.1) (sb_ok G b ss h.2)
  | .expr _, ss, h | .asg _ _, ss, h | .asgC _ _, ss, h | .asg2 _ _ _ _, ss, h | .setix _ _ _, ss, h | .setix2 _ _ _ _ _ _, ss, h | .aug _ _ _, ss, h | .iff _ _ _, ss, h | .for_ _ _ _, ss, h | .whl _ _, ss, h | .ret _, ss, h | .retN, ss, h | .brk, ss, h | .cnt, ss, h | .raise_, ss, h => by
    cases ss <;> exact absurd h Bool.false_ne_true
end
end
end Bo

set_option Elab.async false
set_option linter.all false
set_option maxRecDepth 100000
set_option maxHeartbeats 8000000
/-! Bo, part 11: defs by plain functions; what a def leaves behind is forgotten. -/
namespace Bo
open PySem PySem.Spec L2

mutual
/-- only the first n things of the store are meant -/
def closedD (n : Nat) : D → Bool
  | .non | .bl _ | .int _ | .str _ | .ty _ => true
  | .tup ds => closedDs n ds
  | .lst ds => closedDs n ds
  | .obj k => decide (k < n)
  | .tab _ ds => closedDs n ds
def closedDs (n : Nat) : List D → Bool
  | [] => true
  | d :: ds => closedD n d && closedDs n ds
end
def closedO (n : Nat) : O → Bool
  | .lst ds => closedDs n ds
  | .dct _ kvs => kvs.all fun p => closedD n p.1 && closedD n p.2
abbrev pureD (d : D) : Bool := closedD 0 d
abbrev pureDs (ds : List D) : Bool := closedDs 0 ds
abbrev pureO (o : O) : Bool := closedO 0 o
section
variable {K : KW} {ρ ρ' ρ1 : Rg} {H H' : Hp} {n m : Nat}
mutual
theorem closed_mono (h : n ≤ m) : ∀ d : D, closedD n d = true → closedD m d = true
  | .non, _ => rfl
  | .bl _, _ => rfl
  | .ty _, _ => rfl
  | .int _, _ => rfl
  | .str _, _ => rfl
  | .tup ds, q => closeds_mono h ds q
  | .lst ds, q => closeds_mono h ds q
  | .tab _ ds, q => closeds_mono h ds q
  | .obj k, q => decide_eq_true (Nat.lt_of_lt_of_le (of_decide_eq_true q) h)
theorem closeds_mono (h : n ≤ m) : ∀ ds : List D, closedDs n ds = true → closedDs m ds = true
  | [], _ => rfl
  | d :: ds, q => by
    simp only [closedDs, Bool.and_eq_true] at q ⊢
    exact ⟨closed_mono h d q.1, closeds_mono h ds q.2⟩
end
theorem closedO_mono (h : n ≤ m) {o : O} (q : closedO n o = true) : closedO m o = true := by
  cases o with
  | lst ds => exact closeds_mono h ds q
  | dct m kvs =>
    simp only [closedO, List.all_eq_true, Bool.and_eq_true] at q ⊢
    exact fun p hp => ⟨closed_mono h _ (q p hp).1, closed_mono h _ (q p hp).2⟩
mutual
theorem RD.closed : ∀ (d : D) (v : V), RD K ρ H d v → closedD ρ.ids.length d = true
  | .non, _, _ => rfl
  | .bl _, _, _ => rfl
  | .ty _, _, _ => rfl
  | .int _, _, _ => rfl
  | .str _, _, _ => rfl
  | .tup ds, _, ⟨_, vs, _, _, r⟩ => RDs.closed ds vs r
  | .lst ds, _, ⟨_, vs, _, _, r⟩ => RDs.closed ds vs r
  | .tab _ ds, _, ⟨_, _, vs, _, _, _, _, _, _, _, r⟩ => RDs.closed ds vs r
  | .obj k, _, ⟨_, _, r⟩ => decide_eq_true (List.getElem?_eq_some_iff.mp r).1
theorem RDs.closed : ∀ (ds : List D) (vs : List V), RDs K ρ H ds vs → closedDs ρ.ids.length ds = true
  | [], _, _ => rfl
  | d :: ds, _, ⟨v, r, _, h1, h2⟩ => by
    simp only [closedDs, Bool.and_eq_true]
    exact ⟨RD.closed d v h1, RDs.closed ds r h2⟩
end
mutual
theorem RD.sub (hs : ∀ b, b ∈ ρ1 → b ∈ ρ) (hi : ∀ i, i < n → ρ1.ids[i]? = ρ.ids[i]?) : ∀ (d : D) (v : V), closedD n d = true → RD K ρ H d v → RD K ρ1 H d v
  | .non, _, _, h => h
  | .bl _, _, _, h => h
  | .ty _, _, _, h => h
  | .int _, _, _, h => h
  | .str _, _, _, h => h
  | .tup ds, _, c, ⟨a, vs, e, t, r⟩ => by
    refine ⟨a, vs, e, ?_, RDs.sub hs hi ds vs c r⟩
    rcases t with ⟨t, m⟩ | t
    · exact .inl ⟨t, fun z => m (hs a z)⟩
    · exact .inr t
  | .lst ds, _, c, ⟨a, vs, e, t, r⟩ => by
    refine ⟨a, vs, e, ?_, RDs.sub hs hi ds vs c r⟩
    rcases t with ⟨t, m⟩ | t
    · exact .inl ⟨t, fun z => m (hs a z)⟩
    · exact .inr t
  | .tab _ ds, _, c, ⟨a, us, vs, ep, e, h1, h2, h3, h4, h5, r⟩ => ⟨a, us, vs, ep, e, h1, h2, h3, h4, h5, RDs.sub hs hi ds vs c r⟩
  | .obj k, _, c, ⟨a, e, r⟩ => ⟨a, e, by rw [hi k (of_decide_eq_true c)]; exact r⟩
theorem RDs.sub (hs : ∀ b, b ∈ ρ1 → b ∈ ρ) (hi : ∀ i, i < n → ρ1.ids[i]? = ρ.ids[i]?) : ∀ (ds : List D) (vs : List V), closedDs n ds = true → RDs K ρ H ds vs → RDs K ρ1 H ds vs
  | [], _, _, h => h
  | d :: ds, _, c, ⟨v, r, e, h1, h2⟩ => by
    simp only [closedDs, Bool.and_eq_true] at c
    exact ⟨v, r, e, RD.sub hs hi d v c.1 h1, RDs.sub hs hi ds r c.2 h2⟩
end
theorem leaf_closed {b : Bool} {d : D} {l : Leaf} (h : keyL b d = some l) : closedD n d = true := by
  cases d <;> first | rfl | cases h
theorem ents_closed {a : Addr} {md : Md} {kvs : List (D × D)} (h : RO K ρ H a (.dct md kvs)) : closedO ρ.ids.length (.dct md kvs) = true := by
  simp only [closedO, List.all_eq_true, Bool.and_eq_true]
  cases md with
  | lf b =>
    obtain ⟨-, -, xs, -, t⟩ := h
    induction t with
    | nil => intro p hp; cases hp
    | cons q _ ih =>
      intro p hp
      rcases List.mem_cons.mp hp with rfl | hp
      · obtain ⟨q1, v, _, q3⟩ := q
        exact ⟨leaf_closed q1, RD.closed _ _ q3⟩
      · exact ih p hp
  | tp =>
    obtain ⟨-, -, xs, -, t⟩ := h
    induction t with
    | nil => intro p hp; cases hp
    | cons q _ ih =>
      intro p hp
      rcases List.mem_cons.mp hp with rfl | hp
      · obtain ⟨_, _, q1, v, _, q3⟩ := q
        exact ⟨RD.closed _ _ q1, RD.closed _ _ q3⟩
      · exact ih p hp
theorem ents_sub (hs : ∀ b, b ∈ ρ1 → b ∈ ρ) (hi : ∀ i, i < n → ρ1.ids[i]? = ρ.ids[i]?) {a : Addr} {md : Md} {kvs : List (D × D)} (c : closedO n (.dct md kvs) = true) (h : RO K ρ H a (.dct md kvs)) : RO K ρ1 H a (.dct md kvs) := by
  simp only [closedO, List.all_eq_true, Bool.and_eq_true] at c
  cases md with
  | lf b =>
    obtain ⟨h1, h2, xs, h3, t⟩ := h
    refine ⟨h1, h2, xs, h3, ?_⟩
    clear h2 h3
    induction t with
    | nil => exact .nil
    | cons q _ ih =>
      obtain ⟨q1, v, q2, q3⟩ := q
      exact .cons ⟨q1, v, q2, RD.sub hs hi _ _ (c _ List.mem_cons_self).2 q3⟩ (ih fun p hp => c p (List.mem_cons_of_mem _ hp))
  | tp =>
    obtain ⟨h1, h2, xs, h3, t⟩ := h
    refine ⟨h1, h2, xs, h3, ?_⟩
    clear h2 h3
    induction t with
    | nil => exact .nil
    | cons q _ ih =>
      obtain ⟨q0, q1, q2, v, q3, q4⟩ := q
      exact .cons ⟨q0, q1, RD.sub hs hi _ _ (c _ List.mem_cons_self).1 q2, v, q3, RD.sub hs hi _ _ (c _ List.mem_cons_self).2 q4⟩ (ih fun p hp => c p (List.mem_cons_of_mem _ hp))
end

/-- s is cut to what was there before: each thing as it was, or plain -/
structure Trunc (st s st1 : Store) : Prop where
  len : st1.length = st.length
  at_ : ∀ (i : Nat) o, st1[i]? = some o → s[i]? = some o ∧ (st[i]? = some o ∨ pureO o = true)
/-- what was reckoned (d, s) may be given out as (r, st') -/
def RetOk (st : Store) (d : D) (s : Store) (r : D) (st' : Store) : Prop :=
  (d = r ∧ s = st') ∨ ∃ st1, Trunc st s st1 ∧
    ((d = r ∧ pureD d = true ∧ st' = st1) ∨
     ∃ j ds, d = .obj j ∧ st.length ≤ j ∧ s[j]? = some (.lst ds) ∧ pureDs ds = true ∧ ((r = .lst ds ∧ st' = st1) ∨ (r = .obj st.length ∧ st' = st1 ++ [.lst ds])))
theorem give_ok {K : KW} {ρ ρ' : Rg} {H H' : Hp} {st s st' : Store} {d r : D} {v : V} {Q : VK} (h : RetOk st d s r st') (S0 : SR K ρ st H) (T : Step ρ H ρ' H') (S : SR K ρ' s H') (R : RD K ρ' H' d v) (p : Post K ρ H r st' Q) : Q v H' := by
  rcases h with ⟨rfl, rfl⟩ | ⟨st1, tr, h⟩
  · exact p ρ' v H' T S R
  have hn : ρ.ids.length = st.length := S0.len
  obtain ⟨t, ht⟩ := T.pre
  have hle : st.length ≤ ρ'.ids.length := by rw [← ht, ← hn]; simp
  have htake : ρ'.ids.take st.length = ρ.ids := by rw [← ht, ← hn]; simp
  have hidx : ∀ i, i < st.length → ρ.ids[i]? = ρ'.ids[i]? := fun i hi => by rw [← ht, List.getElem?_append_left (by rw [hn]; exact hi)]
  -- the things kept, over any region within
  have keep : ∀ {ρ1 : Rg}, (∀ b, b ∈ ρ1 → b ∈ ρ') → (∀ i, i < st.length → ρ1.ids[i]? = ρ'.ids[i]?) → ∀ (i : Nat) o, st1[i]? = some o → ∃ a, ρ1.ids[i]? = some a ∧ RO K ρ1 H' a o := by
    intro ρ1 hs hi i o e
    have hlt : i < st.length := by rw [← tr.len]; exact (List.getElem?_eq_some_iff.mp e).1
    obtain ⟨e1, e2⟩ := tr.at_ i o e
    obtain ⟨a, ha, ro⟩ := S.ob i o e1
    refine ⟨a, by rw [hi i hlt]; exact ha, ?_⟩
    have hc : closedO st.length o = true := by
      rcases e2 with e2 | e2
      · obtain ⟨b, hb, ro2⟩ := S0.ob i o e2
        cases o with
        | lst ds =>
          obtain ⟨ws, _, r2⟩ := ro2
          have := RDs.closed ds ws r2
          rw [hn] at this
          exact this
        | dct m kvs =>
          have := ents_closed ro2
          rw [hn] at this
          exact this
      · exact closedO_mono (Nat.zero_le _) e2
    cases o with
    | lst ds =>
      obtain ⟨ws, hw, r2⟩ := ro
      exact ⟨ws, hw, RDs.sub hs hi ds ws hc r2⟩
    | dct m kvs => exact ents_sub hs hi hc ro
  have sub0 : ∀ b, b ∈ (⟨ρ.ids, ρ'.prv⟩ : Rg) → b ∈ ρ' := fun b hb => by
    rcases hb with hb | hb
    · exact .inl (ht ▸ List.mem_append_left _ hb)
    · exact .inr hb
  have T0 : Step ρ H ⟨ρ.ids, ρ'.prv⟩ H' := ⟨List.prefix_rfl, T.prv, fun a h => .inl h, T.fr⟩
  have S1 : SR K ⟨ρ.ids, ρ'.prv⟩ st1 H' := ⟨by show ρ.ids.length = _; rw [tr.len, hn], S0.inj, keep sub0 (fun i hi => hidx i hi), fun a ha => ⟨fun hm => (S.prv a ha).1 (ht ▸ List.mem_append_left _ hm), (S.prv a ha).2⟩⟩
  rcases h with ⟨rfl, hp, rfl⟩ | ⟨j, ds, rfl, hj, hs, hp, h⟩
  · exact p _ v H' T0 S1 (RD.sub (n := 0) sub0 (fun i hi => absurd hi (Nat.not_lt_zero _)) d v hp R)
  · obtain ⟨a, rfl, ha⟩ := R
    obtain ⟨b, hb, ws, hw, rs⟩ := S.ob j _ hs
    rw [ha] at hb; cases hb
    have hna : a ∉ ρ.ids := fun hm => by
      obtain ⟨i, hi, e⟩ := List.mem_iff_getElem.mp hm
      have e1 : ρ.ids[i]? = some a := by rw [List.getElem?_eq_getElem hi, e]
      rw [hidx i (by rw [← hn]; exact hi)] at e1
      have := ix_inj S.inj e1 ha
      omega
    have hnp : a ∉ ρ'.prv := fun hm => (S.prv a hm).1 (List.mem_of_getElem? ha)
    rcases h with ⟨rfl, rfl⟩ | ⟨rfl, rfl⟩
    · refine p _ _ H' T0 S1 ⟨a, ws, rfl, .inl ⟨.inl hw, fun hm => ?_⟩, RDs.sub (n := 0) sub0 (fun i hi => absurd hi (Nat.not_lt_zero _)) ds ws hp rs⟩
      rcases hm with hm | hm
      · exact hna hm
      · exact hnp hm
    · have sub1 : ∀ b, b ∈ (⟨ρ.ids ++ [a], ρ'.prv⟩ : Rg) → b ∈ ρ' := fun b hb => by
        rcases hb with hb | hb
        · rcases List.mem_append.mp hb with hb | hb
          · exact .inl (ht ▸ List.mem_append_left _ hb)
          · rw [List.mem_singleton.mp hb]
            exact .inl (List.mem_of_getElem? ha)
        · exact .inr hb
      have new : H a = none := by
        rcases T.new a (List.mem_of_getElem? ha) with h | h
        · exact absurd h hna
        · exact h
      have idx1 : ∀ i, i < st.length → (ρ.ids ++ [a])[i]? = ρ'.ids[i]? := fun i hi => by
        rw [List.getElem?_append_left (by rw [hn]; exact hi)]
        exact hidx i hi
      refine p ⟨ρ.ids ++ [a], ρ'.prv⟩ _ H' ⟨List.prefix_append _ _, T.prv, fun b hb => ?_, T.fr⟩ ⟨?_, ?_, fun i o e => ?_, fun b hb => ⟨fun hm => ?_, (S.prv b hb).2⟩⟩ ⟨a, rfl, ?_⟩
      · rcases List.mem_append.mp hb with hb | hb
        · exact .inl hb
        · rw [List.mem_singleton.mp hb]; exact .inr new
      · simp [tr.len, hn]
      · show (ρ.ids ++ [a]).Nodup
        rw [List.nodup_append]
        exact ⟨S0.inj, by simp, fun x hx y hy e => by
          rw [List.mem_singleton.mp hy] at e
          exact hna (e ▸ hx)⟩
      · by_cases hi : i < st1.length
        · rw [List.getElem?_append_left hi] at e
          exact keep sub1 idx1 i o e
        · have hl := (List.getElem?_eq_some_iff.mp e).1
          have hi2 : i = st1.length := by simp at hl; omega
          subst hi2
          simp at e
          subst e
          refine ⟨a, ?_, ws, hw, RDs.sub (n := 0) sub1 (fun i hi => absurd hi (Nat.not_lt_zero _)) ds ws hp rs⟩
          show (ρ.ids ++ [a])[st1.length]? = _
          rw [tr.len, ← hn]; simp
      · rcases List.mem_append.mp hm with hm | hm
        · exact (S.prv b hb).1 (ht ▸ List.mem_append_left _ hm)
        · rw [List.mem_singleton.mp hm] at hb
          exact hnp hb
      · show (ρ.ids ++ [a])[st.length]? = _
        rw [← hn]; simp

/-! ### a def by its compact code -/
def startD (n : Nat) (ds : List D) : Envr := ds.map some ++ List.replicate (n - ds.length) none
theorem er_start {K : KW} {ρ : Rg} {H : Hp} {N : List Str} {ds : List D} {vs : List V} (r : RDs K ρ H ds vs) : ER K ρ H (startD N.length ds) (L2.start N vs) := by
  refine ⟨by simp [startD, L2.start, r.length], fun i d h => ?_⟩
  unfold startD at h
  by_cases hi : i < ds.length
  · rw [List.getElem?_append_left (by simpa using hi)] at h
    simp only [List.getElem?_map, Option.map_eq_some_iff] at h
    obtain ⟨d', h1, h2⟩ := h
    cases h2
    obtain ⟨v, hv, rv⟩ := r.get h1
    refine ⟨v, ?_, rv⟩
    unfold L2.start
    rw [List.getElem?_append_left (by rw [List.length_map, r.length]; exact hi), List.getElem?_map, hv]; rfl
  · rw [List.getElem?_append_right (by simpa using Nat.le_of_not_lt hi)] at h
    have := List.mem_of_getElem? h
    rw [List.mem_replicate] at this
    cases this.2
/-- the global facts: T's defs stand, at levels up to k -/
structure GEnv (P : Program) (w : World) (K : PySem.W.Frag) (mg : Str → Option Value) (base : Heap) (T : Tab) (L : Nat) (k : Nat) : Prop where
  fns : ∀ (i : Nat) f, i < L → T.fns[i]? = some f → ∃ (a : Addr) (fd : FuncData) (ps : List Str) (lv : Nat) (G : List D → Store → Option (D × Store)) (g : List Value → List Value → List Value) (gV : List V → List V → List V) (gD : List D → List D → List D) (n : Nat),
    mg f.name = some (.ref a) ∧ PySem.W.keepIn K (.ref a) = true ∧ FnG P w K mg base lv a fd ps (spD (KW.mk P w K) G) ∧ lv ≤ k ∧
    (∀ (ds : List D) (st : Store) r, f.F ds st = some r → ds.length = n) ∧
    (∀ (s : Shared) (us ws : List Value), K.In s.heap → ws.length = f.ks.length → us.length + ws.length = n → BindsTo s fd ⟨us, f.ks.zip ws⟩ (ps.zip (g us ws))) ∧
    (∀ {vs zs : List V} {us ws : List Value}, Vals vs us → Vals zs ws → Vals (gV vs zs) (g us ws)) ∧
    (∀ {ρ : Rg} {H : Hp} {ds es : List D} {vs zs : List V}, RDs (KW.mk P w K) ρ H ds vs → RDs (KW.mk P w K) ρ H es zs → RDs (KW.mk P w K) ρ H (gD ds es) (gV vs zs)) ∧
    (∀ (ds es : List D) (st : Store), es.length = f.ks.length → ∀ r, f.F (ds ++ es) st = some r → G (gD ds es) st = some r)
  gls : ∀ (i : Nat) x d, T.gls[i]? = some (x, d) → ∃ u v, mg x = some u ∧ RelV v u ∧ ∀ ρ H, RD (KW.mk P w K) ρ H d v
  bi : ∀ x ∈ bnames, mg x = none
theorem GEnv.good {P : Program} {w : World} {K : PySem.W.Frag} {mg : Str → Option Value} {base : Heap} {T : Tab} {L : Nat} {k : Nat} (G : GEnv P w K mg base T L k) {X : Cx} (h1 : X.prog = P) (h2 : X.w = w) (h3 : X.K = K) (h4 : X.mg = mg) (h5 : X.base = base)
    (nd : X.N.Nodup) (calm : X.calm = true) (xe : X.xe = fun _ _ => False) (hr : RoomG k X.A) : Good T L X := by
  subst h1 h2 h3 h4 h5
  refine ⟨nd, calm, xe, hr.gd, by have := hr.rm.un; omega, fun i f hi e => ?_, G.gls, G.bi⟩
  obtain ⟨a, fd, ps, lv, G', g, gV, gD, n, q1, q2, q3, q4, q5, q6, q7, q8, q9⟩ := G.fns i f hi e
  exact ⟨a, fd, ps, lv, G', g, gV, gD, n, q1, q2, q3, hr.mono q4, q5, q6, q7, q8, q9⟩
section
variable {P : Program} {w : World} {K : PySem.W.Frag} {mg : Str → Option Value} {base : Heap} {T : Tab} {L : Nat} {k : Nat}
/-- what is asked of a def's code -/
def Meets1 (T : Tab) (N : List Str) (ps : List Str) (code : CS) (F : List D → Store → Option (D × Store)) : Prop :=
  ∀ ds st r st', F ds st = some (r, st') → ds.length = ps.length ∧
    WS T code (startD N.length ds) st { nx := fun _ s => RetOk st .non s r st', rt := fun d s => RetOk st d s r st' }
theorem fn_code {x qual : Str} {stm : Stmt} {f : Addr} {fd : FuncData} {N ps : List Str} {code : CS} {F : List D → Store → Option (D × Store)} (G : GEnv P w K mg base T L k) (Fu : Fun K x qual stm f fd) (S : FnScope N ps (defScope stm))
    (hc : chkB T L N (defScope stm) code (defBody stm) = true) (hF : Meets1 T N ps code F) : FnG P w K mg base (k + 1) f fd ps (spD (KW.mk P w K) F) := by
  obtain ⟨oc, od, kV, doc, pm, an, cdv, ct, osl, rfl, lk, hcd⟩ := Fu.ex
  have len : ∀ vs H Q E, spD (KW.mk P w K) F vs H Q E → vs.length = ps.length := fun vs H Q E ⟨ρ, st, ds, r, st', S0, R, e, p⟩ => by
    rw [R.length]; exact (hF ds st r st' e).1
  refine ⟨len, fun A outer s H args us vs Q E hr e0 hb r hsp => ?_⟩
  have hl := len _ _ _ _ hsp
  have KX : K.In s.heap := e0.mod.kin.keeps fun b o e => (e0.bs b o e).1
  have lim : s.heap.NoLimit := e0.mod.nolimit.keeps fun b o e => (e0.bs b o e).1
  have kinds : ∀ y ∈ ps.zip us, (defScope stm).names.lookup y.1 = some .local ∨
      ((defScope stm).names.lookup y.1 = some .cell ∧ ((cellsFrom (s.heap.objs.size + 1) (defScope stm).names []).lookup y.1).isSome = true) := fun y hy => by
    obtain ⟨n, v⟩ := y
    rcases S.par n (List.of_mem_zip hy).1 with q | q
    · exact .inl q
    · exact .inr ⟨q, PySem.W.cellsFrom_some _ _ _ (.inl q)⟩
  refine codeAny_call_function hr.rm.depth (KX _ _ lk) rfl S.co S.gen rfl (PySem.W.codeRec_of KX hcd) (hb _ _ _ _ ?_)
  refine wpAny_newFunctionEnv_cells S.kind kinds fun env he s1 ex => ?_
  subst he
  refine ⟨lim.keeps ex.toInCall.keep, codeAny_func ?_⟩
  obtain ⟨ρ, st, ds, d, st', S0, R, e, p⟩ := hsp
  have I : Inv (cxOf CX0 P w K mg base N qual (defScope stm) f cdv A outer s H E) [] (L2.start N vs) H s1 := inv_start S hr.rm.hd e0 hl r ex
  have gs : GoodS T L (cxOf CX0 P w K mg base N qual (defScope stm) f cdv A outer s H E).nox :=
    ⟨G.good rfl rfl rfl rfl rfl S.nd rfl rfl (hr.deeper _), fun _ => rfl, S.kind⟩
  have body := sb_ok gs code (defBody stm) hc
  have w0 := (hF ds st d st' e).2
  have run := body.nox.run [] s1 (L2.start N vs) H { nx := fun _ H' => Q .non H', rt := Q } I ⟨ρ, st, startD N.length ds, _, S0, er_start R, w0,
    ⟨fun ρ' e' s' σ' H' T1 S1 E1 q => give_ok q S0 T1 S1 rfl p, fun ρ' d' s' v H' T1 S1 R1 q => give_ok q S0 T1 S1 R1 p, fun _ _ _ _ _ _ _ _ q => False.elim q, fun _ _ _ _ _ _ _ _ q => False.elim q⟩⟩
  refine wpAny_mono run (fun fl s' hs => ?_) fun e' s' hs => hs
  have fin : ∀ {σ' : L2.St} {H' : Hp} {v : V} {u : Value}, Inv (cxOf CX0 P w K mg base N qual (defScope stm) f cdv A outer s H E) [] σ' H' s' → RelV v u → Q v H' → L2.CE outer P w H s Q u s' :=
    fun J rv q => ⟨_, _, J.os, J.bare, J.base, J.hok, rv, q⟩
  cases fl with
  | ret u =>
    obtain ⟨v, σ', H', J, rv, q⟩ := hs
    exact fin J rv q
  | next =>
    obtain ⟨σ', H', J, q⟩ := hs
    exact fin (v := V.non) (u := Value.none) J rfl q
  | brk =>
    obtain ⟨_, _, _, q⟩ := hs
    exact False.elim q
  | cont =>
    obtain ⟨_, _, _, q⟩ := hs
    exact False.elim q

/-! ### the table, def by def -/
theorem GEnv.zero (hg : ∀ (i : Nat) x d, T.gls[i]? = some (x, d) → ∃ u v, mg x = some u ∧ RelV v u ∧ ∀ ρ H, RD (KW.mk P w K) ρ H d v) (hb : ∀ x ∈ bnames, mg x = none) : GEnv P w K mg base T 0 0 :=
  ⟨fun i f hi => absurd hi (Nat.not_lt_zero _), hg, hb⟩
def pick {α : Type} (perm : List Nat) (l : List α) : List α := perm.filterMap fun i => l[i]?
theorem Vals.pick {us : List Value} {vs : List V} (r : Vals vs us) : ∀ perm : List Nat, Vals (Bo.pick perm vs) (Bo.pick perm us)
  | [] => .nil
  | i :: perm => by
    have ih := Vals.pick r perm
    unfold Bo.pick at ih ⊢
    cases q : vs[i]? with
    | none =>
      have q2 := r.none_of q
      simp only [List.filterMap_cons, q, q2]
      exact ih
    | some v =>
      obtain ⟨u, q2, h⟩ := r.get q
      simp only [List.filterMap_cons, q, q2]
      exact .cons h ih
theorem RDs.pick {K : KW} {ρ : Rg} {H : Hp} {ds : List D} {vs : List V} (r : RDs K ρ H ds vs) : ∀ perm : List Nat, RDs K ρ H (Bo.pick perm ds) (Bo.pick perm vs)
  | [] => rfl
  | i :: perm => by
    have ih := RDs.pick r perm
    unfold Bo.pick at ih ⊢
    cases q : ds[i]? with
    | none =>
      have q2 : vs[i]? = none := by
        rw [List.getElem?_eq_none_iff] at q ⊢
        rw [r.length]; exact q
      simp only [List.filterMap_cons, q, q2]
      exact ih
    | some d =>
      obtain ⟨v, q2, h⟩ := r.get q
      simp only [List.filterMap_cons, q, q2]
      exact ⟨v, _, rfl, h, ih⟩
/-- one more way to call a def that stands: n arguments, the last of them by the keywords ks; perm: which argument each parameter gets -/
theorem GEnv.add {f : Addr} {fd : FuncData} {ps ks : List Str} {lv k' : Nat} {F F' : List D → Store → Option (D × Store)} {x : Str} (G : GEnv P w K mg base T L k) (n : Nat) (perm : List Nat)
    (FG : FnG P w K mg base lv f fd ps (spD (KW.mk P w K) F)) (hL : T.fns[L]? = some ⟨x, ks, F'⟩) (hm : mg x = some (.ref f)) (hk : PySem.W.keepIn K (.ref f) = true) (hlv : lv ≤ k') (hkk : k ≤ k')
    (hn : ∀ ds st r, F' ds st = some r → ds.length = n ∧ F (Bo.pick perm ds) st = some r)
    (hb : ∀ (s : Shared) (us ws : List Value), K.In s.heap → ws.length = ks.length → us.length + ws.length = n → BindsTo s fd ⟨us, ks.zip ws⟩ (ps.zip (Bo.pick perm (us ++ ws)))) : GEnv P w K mg base T (L + 1) k' := by
  refine ⟨fun i f' hi e => ?_, G.gls, G.bi⟩
  by_cases hiL : i = L
  · subst hiL
    rw [hL] at e
    cases e
    exact ⟨f, fd, ps, lv, F, fun us ws => Bo.pick perm (us ++ ws), fun us ws => Bo.pick perm (us ++ ws), fun us ws => Bo.pick perm (us ++ ws), n, hm, hk, FG, hlv, fun ds st r h => (hn ds st r h).1, hb,
      fun r rz => Vals.pick (r.append rz) perm, fun r rz => RDs.pick (r.append rz) perm, fun ds es st _ r h => (hn _ st r h).2⟩
  · obtain ⟨a, fd', ps', lv', G', g, gV, gD, n', q1, q2, q3, q4, q5⟩ := G.fns i f' (by omega) e
    exact ⟨a, fd', ps', lv', G', g, gV, gD, n', q1, q2, q3, Nat.le_trans q4 hkk, q5⟩
theorem pick_all {α : Type} : ∀ (l : List α), Bo.pick (List.range l.length) l = l
  | [] => rfl
  | x :: l => by
    have ih := pick_all l
    unfold Bo.pick at ih ⊢
    rw [List.length_cons, List.range_succ_eq_map, List.filterMap_cons]
    simp only [List.getElem?_cons_zero, List.filterMap_map]
    congr 1
/-- a def called by positions -/
theorem GEnv.addP {f : Addr} {fd : FuncData} {ps : List Str} {lv k' : Nat} {F : List D → Store → Option (D × Store)} {x : Str} (G : GEnv P w K mg base T L k)
    (FG : FnG P w K mg base lv f fd ps (spD (KW.mk P w K) F)) (hL : T.fns[L]? = some ⟨x, [], F⟩) (hm : mg x = some (.ref f)) (hk : PySem.W.keepIn K (.ref f) = true) (hlv : lv ≤ k') (hkk : k ≤ k')
    (hF : ∀ ds st r, F ds st = some r → ds.length = ps.length) (hb : Binds K fd ps []) : GEnv P w K mg base T (L + 1) k' := by
  refine G.add ps.length (List.range ps.length) FG hL hm hk hlv hkk (fun ds st r h => ?_) fun s us ws hs hw hl => ?_
  · have e := hF ds st r h
    exact ⟨e, by rw [← e, pick_all]; exact h⟩
  · have ew : ws = [] := List.length_eq_zero_iff.mp hw
    subst ew
    have h1 : us.length = ps.length := by simpa using hl
    have h2 := hb s us hs (by simpa using h1)
    rw [List.append_nil, ← h1, pick_all]
    simpa using h2
/-- one def of the text: its code, what it does -/
theorem GEnv.next {f : Addr} {fd : FuncData} {N ps : List Str} {code : CS} {F : List D → Store → Option (D × Store)} {x qual : Str} {stm : Stmt} (G : GEnv P w K mg base T L k) (Fu : Fun K x qual stm f fd) (hm : mg x = some (.ref f))
    (S : FnScope N ps (defScope stm)) (hc : chkB T L N (defScope stm) code (defBody stm) = true) (hF : Meets1 T N ps code F) (hL : T.fns[L]? = some ⟨x, [], F⟩) (hb : Binds K fd ps []) :
    FnG P w K mg base (k + 1) f fd ps (spD (KW.mk P w K) F) ∧ GEnv P w K mg base T (L + 1) (k + 1) := by
  have FG := fn_code G Fu S hc hF
  exact ⟨FG, G.addP FG hL hm Fu.kp (Nat.le_refl _) (Nat.le_succ _) (fun ds st r h => (hF ds st r.1 r.2 h).1) hb⟩
end
end Bo

set_option Elab.async false
set_option linter.all false
set_option maxRecDepth 100000
set_option maxHeartbeats 8000000
/-! Bo, part 12: equations to reckon by. -/
namespace Bo
open PySem PySem.Spec L2
section
variable {T : Tab} {env : Envr} {st : Store} {P : DE}
theorem ws_skip : WS T .skip env st P = P.nx env st := rfl
theorem ws_seq {a b : CS} : WS T (.seq a b) env st P = WS T a env st { P with nx := fun e s => WS T b e s P } := rfl
theorem ws_expr {e : CE} : WS T (.expr e) env st P = match ev T e env st with
    | some (_, st1) => P.nx env st1
    | none => False := rfl
theorem ws_asg {t : TGt} {e : CE} : WS T (.asg t e) env st P = match ev T e env st with
    | some (d, st1) => match asgT t d env with
      | some env1 => P.nx env1 st1
      | none => False
    | none => False := rfl
theorem ws_asgC {i : Nat} {e : CE} : WS T (.asgC i e) env st P = match ev T e env st with
    | some (d, st1) => P.nx (env.set i (some d)) st1
    | none => False := rfl
theorem ws_asg2 {i j : Nat} {a b : CE} : WS T (.asg2 i j a b) env st P = match ev T a env st with
    | some (d, st1) => match ev T b env st1 with
      | some (d', st2) => P.nx ((env.set i (some d)).set j (some d')) st2
      | none => False
    | none => False := rfl
theorem ws_setix {o i e : CE} : WS T (.setix o i e) env st P = match ev T e env st with
    | some (d, st1) => match ev T o env st1 with
      | some (x, st2) => match ev T i env st2 with
        | some (y, st3) => match setixD st3 x y d with
          | some st4 => P.nx env st4
          | none => False
        | none => False
      | none => False
    | none => False := rfl
theorem ws_setix2 {o1 i1 o2 i2 e1 e2 : CE} : WS T (.setix2 o1 i1 o2 i2 e1 e2) env st P = match two T o1 i1 o2 i2 e1 e2 env st with
    | some st8 => P.nx env st8
    | none => False := rfl
theorem two_eq {o1 i1 o2 i2 e1 e2 : CE} : two T o1 i1 o2 i2 e1 e2 env st = match ev T e1 env st with
    | some (d1, st1) => match ev T e2 env st1 with
      | some (d2, st2) => match ev T o1 env st2 with
        | some (x, st3) => match ev T i1 env st3 with
          | some (y, st4) => match setixD st4 x y d1 with
            | some st5 => match ev T o2 env st5 with
              | some (x2, st6) => match ev T i2 env st6 with
                | some (y2, st7) => setixD st7 x2 y2 d2
                | none => none
              | none => none
            | none => none
          | none => none
        | none => none
      | none => none
    | none => none := Eq.trans rfl rfl
theorem ws_aug {i : Nat} {op : BOp} {e : CE} : WS T (.aug i op e) env st P = match env[i]? with
    | some (some x) => match ev T e env st with
      | some (y, st1) => match augD op st1 x y with
        | some (z, st2) => P.nx (env.set i (some z)) st2
        | none => False
      | none => False
    | _ => False := rfl
theorem ws_iff {c : CE} {a b : CS} : WS T (.iff c a b) env st P = match evT T c env st with
    | some (true, st1) => WS T a env st1 P
    | some (false, st1) => WS T b env st1 P
    | none => False := rfl
theorem ws_for {t : TGt} {it : CI} {b : CS} : WS T (.for_ t it b) env st P = match evI T it env st with
    | some (src, st1) => forL (WS T b) t src.ok src.items env st1 P
    | none => False := rfl
theorem ws_ret {e : CE} : WS T (.ret e) env st P = match ev T e env st with
    | some (d, st1) => P.rt d st1
    | none => False := rfl
theorem ws_retN : WS T .retN env st P = P.rt .non st := rfl
theorem ws_raise : WS T .raise_ env st P = False := rfl
theorem ws_brk : WS T .brk env st P = P.bk env st := rfl
theorem ws_cnt : WS T .cnt env st P = P.ct env st := rfl
/-- a for by a word: Pv by the turn -/
theorem forL_inv {body : Envr → Store → DE → Prop} {t : TGt} {ok : Store → Prop} (items : List D) {P : DE} (Pv : Nat → Envr → Store → Prop)
    (turn : ∀ (i : Nat) d e s, items[i]? = some d → Pv i e s → match asgT t d e with
      | some e1 => body e1 s { nx := fun e s => ok s ∧ (ok s → Pv (i + 1) e s), ct := fun e s => ok s ∧ (ok s → Pv (i + 1) e s), bk := P.nx, rt := P.rt }
      | none => False)
    (mono : ∀ e s P1 P2, (∀ e s, P1.nx e s → P2.nx e s) → (∀ d s, P1.rt d s → P2.rt d s) → (∀ e s, P1.bk e s → P2.bk e s) → (∀ e s, P1.ct e s → P2.ct e s) → body e s P1 → body e s P2)
    (fin : ∀ e s, Pv items.length e s → P.nx e s) (h0 : Pv 0 env st) : forL body t ok items env st P := by
  have key : ∀ (n i : Nat) (e : Envr) (s : Store), n = items.length - i → i ≤ items.length → Pv i e s → forL body t ok (items.drop i) e s P := by
    intro n
    induction n with
    | zero =>
      intro i e s h1 h2 h3
      have ei : i = items.length := by omega
      subst ei
      rw [List.drop_length]
      exact fin e s h3
    | succ n ih =>
      intro i e s h1 h2 h3
      have hlt : i < items.length := by omega
      rw [List.drop_eq_getElem_cons hlt]
      have q := turn i _ e s (List.getElem?_eq_getElem hlt) h3
      simp only [forL]
      split at q
      · rename_i e1 he
        try rw [he]
        refine mono _ _ { nx := fun e s => ok s ∧ (ok s → Pv (i + 1) e s), ct := fun e s => ok s ∧ (ok s → Pv (i + 1) e s), bk := P.nx, rt := P.rt } _ (fun e' s' h => ?_) (fun _ _ h => h) (fun _ _ h => h) (fun e' s' h => ?_) q
        · exact ⟨h.1, ih (i + 1) e' s' (by omega) hlt (h.2 h.1)⟩
        · exact ⟨h.1, ih (i + 1) e' s' (by omega) hlt (h.2 h.1)⟩
      · cases q
  exact key _ 0 env st rfl (Nat.zero_le _) h0
end
/-- statements ask no more of weaker ends -/
theorem ws_mono {T : Tab} : ∀ (c : CS) (e : Envr) (s : Store) (P1 P2 : DE), (∀ e s, P1.nx e s → P2.nx e s) → (∀ d s, P1.rt d s → P2.rt d s) → (∀ e s, P1.bk e s → P2.bk e s) → (∀ e s, P1.ct e s → P2.ct e s) → WS T c e s P1 → WS T c e s P2
  | .skip, e, s, P1, P2, h1, _, _, _, h => h1 e s h
  | .seq a b, e, s, P1, P2, h1, h2, h3, h4, h => ws_mono a e s { P1 with nx := fun e s => WS T b e s P1 } { P2 with nx := fun e s => WS T b e s P2 } (fun e s q => ws_mono b e s P1 P2 h1 h2 h3 h4 q) h2 h3 h4 h
  | .expr c, e, s, P1, P2, h1, h2, h3, h4, h => by
    rw [ws_expr] at h ⊢
    split at h
    · exact h1 _ _ h
    · cases h
  | .asg t c, e, s, P1, P2, h1, h2, h3, h4, h => by
    rw [ws_asg] at h ⊢
    split at h
    · split at h
      · exact h1 _ _ h
      · cases h
    · cases h
  | .asgC i c, e, s, P1, P2, h1, h2, h3, h4, h => by
    rw [ws_asgC] at h ⊢
    split at h
    · exact h1 _ _ h
    · cases h
  | .asg2 i j a b, e, s, P1, P2, h1, h2, h3, h4, h => by
    rw [ws_asg2] at h ⊢
    split at h
    · split at h
      · exact h1 _ _ h
      · cases h
    · cases h
  | .setix o i c, e, s, P1, P2, h1, h2, h3, h4, h => by
    rw [ws_setix] at h ⊢
    split at h
    · split at h
      · split at h
        · split at h
          · exact h1 _ _ h
          · cases h
        · cases h
      · cases h
    · cases h
  | .setix2 _ _ _ _ _ _, e, s, P1, P2, h1, h2, h3, h4, h => by
    rw [ws_setix2] at h ⊢
    split at h
    · exact h1 _ _ h
    · cases h
  | .aug i op c, e, s, P1, P2, h1, h2, h3, h4, h => by
    rw [ws_aug] at h ⊢
    split at h
    · split at h
      · split at h
        · exact h1 _ _ h
        · cases h
      · cases h
    · cases h
  | .iff c a b, e, s, P1, P2, h1, h2, h3, h4, h => by
    rw [ws_iff] at h ⊢
    split at h
    · exact ws_mono a _ _ P1 P2 h1 h2 h3 h4 h
    · exact ws_mono b _ _ P1 P2 h1 h2 h3 h4 h
    · cases h
  | .for_ t it b, e, s, P1, P2, h1, h2, h3, h4, h => by
    rw [ws_for] at h ⊢
    split at h
    · rename_i src st1 q
      have key : ∀ (l : List D) (e : Envr) (s : Store), forL (WS T b) t src.ok l e s P1 → forL (WS T b) t src.ok l e s P2 := by
        intro l
        induction l with
        | nil => intro e s h; exact h1 e s h
        | cons d l ih =>
          intro e s h
          simp only [forL] at h ⊢
          split at h
          · exact ws_mono b _ _ { nx := fun e s => src.ok s ∧ forL (WS T b) t src.ok l e s P1, ct := fun e s => src.ok s ∧ forL (WS T b) t src.ok l e s P1, bk := P1.nx, rt := P1.rt } _ (fun e s q => ⟨q.1, ih e s q.2⟩) h2 h1 (fun e s q => ⟨q.1, ih e s q.2⟩) h
          · cases h
      exact key _ _ _ h
    · cases h
  | .whl c b, e, s, P1, P2, h1, h2, h3, h4, h => by
    obtain ⟨J, h0, turn⟩ := h
    refine ⟨J, h0, fun m e s j => ?_⟩
    have q := turn m e s j
    split at q
    · exact ws_mono b _ _ { nx := fun e' s' => ∃ m', m' < m ∧ J m' e' s', ct := fun e' s' => ∃ m', m' < m ∧ J m' e' s', bk := P1.nx, rt := P1.rt } _ (fun _ _ h => h) h2 h1 (fun _ _ h => h) q
    · exact h1 _ _ q
    · cases q
  | .ret c, e, s, P1, P2, h1, h2, h3, h4, h => by
    rw [ws_ret] at h ⊢
    split at h
    · exact h2 _ _ h
    · cases h
  | .retN, e, s, P1, P2, h1, h2, h3, h4, h => h2 _ _ h
  | .brk, e, s, P1, P2, h1, h2, h3, h4, h => h3 _ _ h
  | .cnt, e, s, P1, P2, h1, h2, h3, h4, h => h4 _ _ h
  | .raise_, _, _, _, _, _, _, _, _, h => h
/-- a for in a def by a word -/
theorem for_inv {T : Tab} {b : CS} {t : TGt} {ok : Store → Prop} {env : Envr} {st : Store} {P : DE} (items : List D) (Pv : Nat → Envr → Store → Prop) (h0 : Pv 0 env st)
    (turn : ∀ (i : Nat) d e s, items[i]? = some d → Pv i e s → match asgT t d e with
      | some e1 => WS T b e1 s { nx := fun e s => ok s ∧ (ok s → Pv (i + 1) e s), ct := fun e s => ok s ∧ (ok s → Pv (i + 1) e s), bk := P.nx, rt := P.rt }
      | none => False)
    (fin : ∀ e s, Pv items.length e s → P.nx e s) : forL (WS T b) t ok items env st P :=
  forL_inv items Pv turn (fun e s P1 P2 => ws_mono b e s P1 P2) fin h0

/-! ### expressions -/
section
variable {T : Tab} {env : Envr} {st : Store}
theorem e_var {i : Nat} {d : D} (h : env[i]? = some (some d)) : ev T (.var i) env st = some (d, st) := by simp only [ev, h]
theorem e_var' {i : Nat} : ev T (.var i) env st = match env[i]? with
    | some (some d) => some (d, st)
    | _ => none := by
  simp only [ev] <;> rfl
theorem e_non : ev T .non env st = some (.non, st) := by simp only [ev]
theorem e_bl {b : Bool} : ev T (.bl b) env st = some (.bl b, st) := by simp only [ev]
theorem e_int {i : Int} : ev T (.int i) env st = some (.int i, st) := by simp only [ev]
theorem e_str {s : Str} : ev T (.str s) env st = some (.str s, st) := by simp only [ev]
theorem e_gl {k : Nat} : ev T (.gl k) env st = match T.gls[k]? with
    | some p => some (p.2, st)
    | none => none := by
  simp only [ev]
  cases T.gls[k]? <;> rfl
theorem e_ty {n : String} : ev T (.ty n) env st = some (.ty n, st) := by simp only [ev]
theorem e_bin {op : BOp} {a b : CE} : ev T (.bin op a b) env st = match ev T a env st with
    | some (x, st1) => match ev T b env st1 with
      | some (y, st2) => op.ev st2 x y
      | none => none
    | none => none := by
  simp only [ev] <;> rfl
theorem e_neg {a : CE} : ev T (.neg a) env st = match ev T a env st with
    | some (.int i, st1) => some (.int (-i), st1)
    | _ => none := by
  simp only [ev] <;> rfl
theorem e_nt {a : CE} : ev T (.nt a) env st = match ev T a env st with
    | some (x, st1) => match truD st1 x with
      | some k => some (.bl (!k), st1)
      | none => none
    | none => none := by
  simp only [ev] <;> rfl
theorem e_and {a b : CE} : ev T (.and a b) env st = match ev T a env st with
    | some (x, st1) => match truD st1 x with
      | some k => if k = true then ev T b env st1 else some (x, st1)
      | none => none
    | none => none := by
  simp only [ev]
  cases ev T a env st with
  | none => rfl
  | some r =>
    dsimp only
    cases truD r.2 r.1 with
    | none => rfl
    | some k => cases k <;> rfl
theorem e_or {a b : CE} : ev T (.or a b) env st = match ev T a env st with
    | some (x, st1) => match truD st1 x with
      | some k => if k = true then some (x, st1) else ev T b env st1
      | none => none
    | none => none := by
  simp only [ev]
  cases ev T a env st with
  | none => rfl
  | some r =>
    dsimp only
    cases truD r.2 r.1 with
    | none => rfl
    | some k => cases k <;> rfl
theorem e_cmp {op : COp} {a b : CE} : ev T (.cmp op a b) env st = match ev T a env st with
    | some (x, st1) => match ev T b env st1 with
      | some (y, st2) => match op.ev st2 x y with
        | some k => some (.bl k, st2)
        | none => none
      | none => none
    | none => none := by
  simp only [ev] <;> rfl
theorem e_chn {o1 o2 : COp} {a b c : CE} : ev T (.chn o1 o2 a b c) env st = match ev T a env st with
    | some (x, st1) => match ev T b env st1 with
      | some (y, st2) => match o1.ev st2 x y with
        | some k => if k = true then match ev T c env st2 with
          | some (z, st3) => match o2.ev st3 y z with
            | some k => some (.bl k, st3)
            | none => none
          | none => none
          else some (.bl false, st2)
        | none => none
      | none => none
    | none => none := by
  simp only [ev]
  cases ev T a env st with
  | none => rfl
  | some r =>
    dsimp only
    cases ev T b env r.2 with
    | none => rfl
    | some q =>
      dsimp only
      cases o1.ev q.2 r.1 q.1 with
      | none => rfl
      | some k => cases k <;> rfl
theorem e_ife {c a b : CE} : ev T (.ife c a b) env st = match ev T c env st with
    | some (x, st1) => match truD st1 x with
      | some k => if k = true then ev T a env st1 else ev T b env st1
      | none => none
    | none => none := by
  simp only [ev]
  cases ev T c env st with
  | none => rfl
  | some r =>
    dsimp only
    cases truD r.2 r.1 with
    | none => rfl
    | some k => cases k <;> rfl
theorem e_tup {as : CEs} : ev T (.tup as) env st = match evs T as env st with
    | some (ds, st1) => some (.tup ds, st1)
    | none => none := by
  simp only [ev] <;> rfl
theorem e_lst {as : CEs} : ev T (.lst as) env st = match evs T as env st with
    | some (ds, st1) => some (.lst ds, st1)
    | none => none := by
  simp only [ev] <;> rfl
theorem e_lstO {as : CEs} : ev T (.lstO as) env st = match evs T as env st with
    | some (ds, st1) => some (.obj st1.length, st1 ++ [.lst ds])
    | none => none := by
  simp only [ev] <;> rfl
theorem e_ix {a i : CE} : ev T (.ix a i) env st = match ev T a env st with
    | some (x, st1) => match ev T i env st1 with
      | some (y, st2) => match ixD st2 x y with
        | some d => some (d, st2)
        | none => none
      | none => none
    | none => none := by
  simp only [ev] <;> rfl
theorem e_sl {a : CE} {lo hi : CO} : ev T (.sl a lo hi) env st = match ev T a env st with
    | some (x, st1) => match evO T lo env st1 with
      | some (l, st2) => match evO T hi env st2 with
        | some (u, st3) => match slD st3 x l u with
          | some d => some (d, st3)
          | none => none
        | none => none
      | none => none
    | none => none := by
  simp only [ev] <;> rfl
theorem eo_none : evO T .none env st = some (none, st) := by simp only [evO]
theorem eo_some {a : CE} : evO T (.some a) env st = match ev T a env st with
    | some (.int i, st1) => some (some i, st1)
    | _ => none := by
  simp only [evO] <;> rfl
theorem sl_tupD {ds : List D} {lo hi : Option Int} : slD st (.tup ds) lo hi = some (.tup (cutD ds lo hi)) := Eq.trans rfl rfl
theorem sl_lstD {ds : List D} {lo hi : Option Int} : slD st (.lst ds) lo hi = some (.lst (cutD ds lo hi)) := Eq.trans rfl rfl
theorem sl_objD {n : Nat} {lo hi : Option Int} : slD st (.obj n) lo hi = match st[n]? with
    | some (.lst ds) => some (.lst (cutD ds lo hi))
    | _ => none := Eq.trans rfl rfl
theorem e_rev {a : CE} : ev T (.rev a) env st = match ev T a env st with
    | some (x, st1) => match revD st1 x with
      | some d => some (d, st1)
      | none => none
    | none => none := by
  simp only [ev] <;> rfl
theorem e_lrng {a : CE} : ev T (.lrng a) env st = match ev T a env st with
    | some (.int j, st1) => if rngOk j && lineOk j.toNat then some (.lst (rngD 0 j), st1) else none
    | _ => none := by
  simp only [ev] <;> rfl
theorem e_dsp {m : Md} {ps : CPs} : ev T (.dsp m ps) env st = match evP T ps env st with
    | some (kvs, st1) => if dspOk m kvs then some (.obj st1.length, st1 ++ [.dct m (mergeD [] kvs)]) else none
    | none => none := by
  simp only [ev] <;> rfl
theorem ep_nil : evP T .nil env st = some ([], st) := by simp only [evP]
theorem ep_cons {k v : CE} {ps : CPs} : evP T (.cons k v ps) env st = match ev T k env st with
    | some (x, st1) => match ev T v env st1 with
      | some (y, st2) => match evP T ps env st2 with
        | some (r, st3) => some ((x, y) :: r, st3)
        | none => none
      | none => none
    | none => none := by
  simp only [evP] <;> rfl
theorem e_call {k : Nat} {as : CEs} : ev T (.call k as) env st = match evs T as env st with
    | some (ds, st1) => match T.fns[k]? with
      | some f => f.F ds st1
      | none => none
    | none => none := by
  simp only [ev] <;> rfl
theorem e_bi {f : BI} {as : CEs} : ev T (.bi f as) env st = match evs T as env st with
    | some (ds, st1) => f.ev st1 ds
    | none => none := by
  simp only [ev] <;> rfl
theorem e_mth {m : MT} {o : CE} {as : CEs} : ev T (.mth m o as) env st = match ev T o env st with
    | some (x, st1) => if m.ok st1 x then (match evs T as env st1 with
      | some (ds, st2) => m.ev st2 x ds
      | none => none) else none
    | none => none := by
  simp only [ev] <;> rfl
theorem e_comp {elt : CE} {t : TGt} {it : CI} {cond : CO} {own : List Nat} : ev T (.comp elt t it cond own) env st = match evI T it env st with
    | some (src, st1) => match compL src.ok (stepC T elt t cond (wipeE env own)) src.items st1 with
      | some (r, st2) => some (.lst r, st2)
      | none => none
    | none => none := by
  simp only [ev] <;> rfl
theorem es_nil : evs T .nil env st = some ([], st) := by simp only [evs]
theorem es_cons {a : CE} {as : CEs} : evs T (.cons a as) env st = match ev T a env st with
    | some (x, st1) => match evs T as env st1 with
      | some (xs, st2) => some (x :: xs, st2)
      | none => none
    | none => none := by
  simp only [evs] <;> rfl
theorem ei_rng1 {a : CE} : evI T (.rng1 a) env st = match ev T a env st with
    | some (.int j, st1) => if rngOk j && lineOk j.toNat then some (⟨rngD 0 j, none⟩, st1) else none
    | _ => none := by
  simp only [evI] <;> rfl
theorem ei_rng2 {a b : CE} : evI T (.rng2 a b) env st = match ev T a env st with
    | some (.int i, st1) => match ev T b env st1 with
      | some (.int j, st2) => if rngOk i && rngOk j && lineOk (j - i).toNat then some (⟨rngD i j, none⟩, st2) else none
      | _ => none
    | _ => none := by
  simp only [evI] <;> rfl
theorem ei_enum {a : CE} : evI T (.enum a) env st = match ev T a env st with
    | some (.tup ds, st1) => some (⟨enumD ds, none⟩, st1)
    | some (.lst ds, st1) => some (⟨enumD ds, none⟩, st1)
    | _ => none := by
  simp only [evI] <;> rfl
theorem ei_val {a : CE} : evI T (.val a) env st = match ev T a env st with
    | some (.tup ds, st1) => some (⟨ds, none⟩, st1)
    | some (.lst ds, st1) => some (⟨ds, none⟩, st1)
    | some (.obj n, st1) => match st1[n]? with
      | some (.lst ds) => some (⟨ds, some n⟩, st1)
      | _ => none
    | _ => none := by
  simp only [evI] <;> rfl
theorem ei_items {a : CE} : evI T (.items a) env st = match ev T a env st with
    | some (.tab ks ds, st1) => some (⟨itemsP ks ds, none⟩, st1)
    | _ => none := by
  simp only [evI] <;> rfl
theorem evT_eq {x : CE} : evT T x env st = match ev T x env st with
    | some (d, st1) => match truD st1 d with
      | some k => some (k, st1)
      | none => none
    | none => none := rfl
theorem ws_if {c : CE} {a b : CS} {P : DE} : WS T (.iff c a b) env st P = match evT T c env st with
    | some (k, st1) => if k = true then WS T a env st1 P else WS T b env st1 P
    | none => False := by
  rw [ws_iff]
  cases evT T c env st with
  | none => rfl
  | some r =>
    obtain ⟨k, s⟩ := r
    cases k <;> simp
end
/-! ### operations at known things -/
section
variable {st : Store}
theorem tru_non : truD st .non = some false := Eq.trans rfl rfl
theorem tru_bl {b : Bool} : truD st (.bl b) = some b := Eq.trans rfl rfl
theorem tru_int {i : Int} : truD st (.int i) = some (i != 0) := Eq.trans rfl rfl
theorem tru_tup {ds : List D} : truD st (.tup ds) = some (!ds.isEmpty) := Eq.trans rfl rfl
theorem tru_lst {ds : List D} : truD st (.lst ds) = some (!ds.isEmpty) := Eq.trans rfl rfl
theorem eqD_int {a b : Int} : eqD st (.int a) (.int b) = some (decide (a = b)) := by
  show some (decide (V.int a = V.int b)) = _
  rw [dec_int, Bool.beq_eq_decide_eq]
theorem eqD_str {a b : Str} : eqD st (.str a) (.str b) = some (decide (a = b)) := by
  show some (decide (V.str a = V.str b)) = _
  rw [dec_str, Bool.beq_eq_decide_eq]
theorem eqD_bl {a b : Bool} : eqD st (.bl a) (.bl b) = some (decide (a = b)) := by
  show some (decide (V.bl a = V.bl b)) = _
  rw [dec_bl, Bool.beq_eq_decide_eq]
theorem cmp_eq {a b : D} : COp.ev .eq st a b = eqD st a b := Eq.trans rfl rfl
theorem cmp_ne {a b : D} : COp.ev .ne st a b = (eqD st a b).map (!·) := Eq.trans rfl rfl
theorem cmp_lt {a b : Int} : COp.ev .lt st (.int a) (.int b) = some (decide (a < b)) := Eq.trans rfl rfl
theorem cmp_le {a b : Int} : COp.ev .le st (.int a) (.int b) = some (decide (a ≤ b)) := Eq.trans rfl rfl
theorem cmp_gt {a b : Int} : COp.ev .gt st (.int a) (.int b) = some (decide (b < a)) := Eq.trans rfl rfl
theorem cmp_ge {a b : Int} : COp.ev .ge st (.int a) (.int b) = some (decide (b ≤ a)) := Eq.trans rfl rfl
theorem cmp_inn {a b : D} : COp.ev .inn st a b = inD st a b := Eq.trans rfl rfl
theorem cmp_nin {a b : D} : COp.ev .nin st a b = (inD st a b).map (!·) := Eq.trans rfl rfl
theorem o_add {a b : Int} : BOp.ev .add st (.int a) (.int b) = some (.int (a + b), st) := Eq.trans rfl rfl
theorem o_sub {a b : Int} : BOp.ev .sub st (.int a) (.int b) = some (.int (a - b), st) := Eq.trans rfl rfl
theorem o_mul {a b : Int} : BOp.ev .mul st (.int a) (.int b) = if mulOk a b then some (.int (a * b), st) else none := Eq.trans rfl rfl
theorem o_fdiv {a b : Int} : BOp.ev .fdiv st (.int a) (.int b) = if divOk b then some (.int (a / b), st) else none := Eq.trans rfl rfl
theorem o_mod {a b : Int} : BOp.ev .mod st (.int a) (.int b) = if 0 < b then some (.int (a % b), st) else none := Eq.trans rfl rfl
theorem o_pow {a b : Int} : BOp.ev .pow st (.int a) (.int b) = if powOk a b then some (.int (a ^ b.toNat), st) else none := Eq.trans rfl rfl
theorem o_shl {a b : Int} : BOp.ev .shl st (.int a) (.int b) = if shlOk a b then some (.int (a * 2 ^ b.toNat), st) else none := Eq.trans rfl rfl
theorem o_xor {a b : Int} : BOp.ev .xor st (.int a) (.int b) = some (.int (Builtin.bitXor a b), st) := Eq.trans rfl rfl
theorem o_and {a b : Int} : BOp.ev .and st (.int a) (.int b) = some (.int (Builtin.bitAnd a b), st) := Eq.trans rfl rfl
theorem o_cat {xs ys : List D} : BOp.ev .add st (.tup xs) (.tup ys) = if lineOk (xs.length + ys.length) then some (.tup (xs ++ ys), st) else none := Eq.trans rfl rfl
theorem o_addS {x y : Str} : BOp.ev .add st (.str x) (.str y) = if lineOk (x.length + y.length) then some (.str (x ++ y), st) else none := Eq.trans rfl rfl
theorem o_addL {xs ys : List D} : BOp.ev .add st (.lst xs) (.lst ys) = if lineOk (xs.length + ys.length) then some (.lst (xs ++ ys), st) else none := Eq.trans rfl rfl
theorem o_addOL {n : Nat} {ys : List D} : BOp.ev .add st (.obj n) (.lst ys) = match st[n]? with
    | some (.lst xs) => if lineOk (xs.length + ys.length) then some (.lst (xs ++ ys), st) else none
    | _ => none := by
  show addL st (.obj n) (.lst ys) = _
  cases h : st[n]? with
  | none => simp only [addL, listD, h]
  | some o => cases o <;> simp only [addL, listD, h]
theorem o_mulL {xs : List D} {k : Int} : BOp.ev .mul st (.lst xs) (.int k) = if repOkN xs.length k then some (.lst (List.replicate k.toNat xs).flatten, st) else none := Eq.trans rfl rfl
theorem it_tup {ds : List D} : itemsD st (.tup ds) = some ds := Eq.trans rfl rfl
theorem it_lst {ds : List D} : itemsD st (.lst ds) = some ds := Eq.trans rfl rfl
theorem it_obj {n : Nat} : itemsD st (.obj n) = match st[n]? with
    | some (.lst ds) => some ds
    | _ => none := Eq.trans rfl rfl
theorem ix_tup {ds : List D} {i : Int} : ixD st (.tup ds) (.int i) = L2.atI ds i := Eq.trans rfl rfl
theorem ix_lst {ds : List D} {i : Int} : ixD st (.lst ds) (.int i) = L2.atI ds i := Eq.trans rfl rfl
theorem ix_obj {n : Nat} {i : D} : ixD st (.obj n) i = match st[n]? with
    | some (.lst ds) => (match i with
      | .int i => L2.atI ds i
      | _ => none)
    | some (.dct m kvs) => if okK m i then getK kvs i else none
    | none => none := by
  cases h : st[n]? with
  | none => simp only [ixD, itemsD, ixK, dictD, h]
  | some o => cases o <;> simp only [ixD, itemsD, ixK, dictD, h] <;> rfl
theorem ix_tab {ks : List Str} {ds : List D} {k : D} : ixD st (.tab ks ds) k = if okK (.lf true) k then getK ((ks.map D.str).zip ds) k else none := Eq.trans rfl rfl
theorem in_tup {a : D} {ds : List D} : inD st a (.tup ds) = if flatD a && ds.all flatD then some (inV (absD a) (ds.map absD)) else none := Eq.trans rfl rfl
theorem in_lst {a : D} {ds : List D} : inD st a (.lst ds) = if flatD a && ds.all flatD then some (inV (absD a) (ds.map absD)) else none := Eq.trans rfl rfl
theorem in_obj {a : D} {n : Nat} : inD st a (.obj n) = match st[n]? with
    | some (.lst ds) => if flatD a && ds.all flatD then some (inV (absD a) (ds.map absD)) else none
    | some (.dct m kvs) => if okK m a then some (getK kvs a).isSome else none
    | none => none := by
  cases h : st[n]? with
  | none => simp only [inD, itemsD, dictD, h]
  | some o => cases o <;> simp only [inD, itemsD, dictD, h]
theorem in_tab {a : D} {ks : List Str} {ds : List D} : inD st a (.tab ks ds) = if okK (.lf true) a then some (getK ((ks.map D.str).zip ds) a).isSome else none := Eq.trans rfl rfl
theorem rev_lst {ds : List D} : revD st (.lst ds) = some (.lst ds.reverse) := Eq.trans rfl rfl
theorem okm_app {n : Nat} : MT.ok .append st (.obj n) = match st[n]? with
    | some (.lst _) => true
    | _ => false := by
  cases h : st[n]? with
  | none => simp only [MT.ok, listD, h] <;> rfl
  | some o => cases o <;> simp only [MT.ok, listD, h] <;> rfl
theorem okm_ext {n : Nat} : MT.ok .extend st (.obj n) = match st[n]? with
    | some (.lst _) => true
    | _ => false := by
  cases h : st[n]? with
  | none => simp only [MT.ok, listD, h] <;> rfl
  | some o => cases o <;> simp only [MT.ok, listD, h] <;> rfl
theorem okm_ixO {n : Nat} : MT.ok .index st (.obj n) = match st[n]? with
    | some (.lst _) => true
    | _ => false := by
  cases h : st[n]? with
  | none => simp only [MT.ok, listD, h] <;> rfl
  | some o => cases o <;> simp only [MT.ok, listD, h] <;> rfl
theorem okm_ix {ds : List D} : MT.ok .index st (.lst ds) = true := Eq.trans rfl rfl
theorem okm_get {ks : List Str} {ds : List D} : MT.ok .get st (.tab ks ds) = true := Eq.trans rfl rfl
theorem okm_getO {n : Nat} : MT.ok .get st (.obj n) = match st[n]? with
    | some (.dct _ _) => true
    | _ => false := by
  cases h : st[n]? with
  | none => simp only [MT.ok, dictD, h] <;> rfl
  | some o => cases o <;> simp only [MT.ok, dictD, h] <;> rfl
theorem m_extend {n : Nat} {es : List D} : MT.ev .extend st (.obj n) [.lst es] = match st[n]? with
    | some (.lst ds) => if lineOk (ds.length + es.length) then some (.non, st.set n (.lst (ds ++ es))) else none
    | _ => none := Eq.trans rfl rfl
theorem m_getT {ks : List Str} {ds : List D} {k o : D} : MT.ev .get st (.tab ks ds) [k, o] = if okK (.lf true) k then some ((getK ((ks.map D.str).zip ds) k).getD o, st) else none := Eq.trans rfl rfl
theorem m_getO {n : Nat} {k o : D} : MT.ev .get st (.obj n) [k, o] = match st[n]? with
    | some (.dct m kvs) => if okK m k then some ((getK kvs k).getD o, st) else none
    | _ => none := by
  show dgetD st (.obj n) [k, o] = _
  cases h : st[n]? with
  | none => simp only [dgetD, dictD, h]
  | some o => cases o <;> simp only [dgetD, dictD, h]
theorem m_getT1 {ks : List Str} {ds : List D} {k : D} : MT.ev .get st (.tab ks ds) [k] = if okK (.lf true) k then some ((getK ((ks.map D.str).zip ds) k).getD .non, st) else none := Eq.trans rfl rfl
theorem m_getO1 {n : Nat} {k : D} : MT.ev .get st (.obj n) [k] = match st[n]? with
    | some (.dct m kvs) => if okK m k then some ((getK kvs k).getD .non, st) else none
    | _ => none := by
  show dgetD st (.obj n) [k] = _
  cases h : st[n]? with
  | none => simp only [dgetD, dictD, h]
  | some o => cases o <;> simp only [dgetD, dictD, h]
theorem m_index {ds : List D} {d : D} : MT.ev .index st (.lst ds) [d] = match indexD st (.lst ds) d with
    | some j => some (.int (j : Nat), st)
    | none => none := Eq.trans rfl rfl
theorem okK_str {b : Bool} {s : Str} : okK (.lf b) (.str s) = true := Eq.trans rfl rfl
theorem okK_int {i : Int} : okK (.lf true) (.int i) = true := Eq.trans rfl rfl
theorem okK_bl {i : Bool} : okK (.lf false) (.bl i) = true := Eq.trans rfl rfl
theorem okK_ss {a b : Str} : okK .tp (.tup [.str a, .str b]) = true := Eq.trans rfl rfl
theorem eqK_str {a b : Str} : eqK (.str a) (.str b) = decide (a = b) := by
  show decide (NestedKey.text a = NestedKey.text b) = _
  by_cases h : a = b
  · subst h; simp
  · have : ¬ NestedKey.text a = NestedKey.text b := fun z => h (by cases z; rfl)
    simp [h, this]
theorem eqK_int {a b : Int} : eqK (.int a) (.int b) = decide (a = b) := by
  show decide (NestedKey.num a = NestedKey.num b) = _
  by_cases h : a = b
  · subst h; simp
  · have : ¬ NestedKey.num a = NestedKey.num b := fun z => h (by cases z; rfl)
    simp [h, this]
theorem getK_nil {k : D} : getK [] k = none := Eq.trans rfl rfl
theorem getK_cons {k k' v : D} {r : List (D × D)} : getK ((k', v) :: r) k = if eqK k' k then some v else getK r k := by
  unfold getK
  rw [List.find?_cons]
  cases eqK k' k <;> rfl
theorem b_sorted {ds : List D} : BI.ev .sorted1 st [.lst ds] = match sortD ds with
    | some xs => some (.lst xs, st)
    | none => none := by
  simp only [BI.ev, BI.ev1, listD]
  cases sortD ds <;> rfl
theorem b_len {d : D} : BI.ev .len st [d] = match lenD st d with
    | some n => some (.int n, st)
    | none => none := by
  simp only [BI.ev, BI.ev1]
  cases lenD st d <;> rfl
theorem len_tup {ds : List D} : lenD st (.tup ds) = some ds.length := Eq.trans rfl rfl
theorem len_lst {ds : List D} : lenD st (.lst ds) = some ds.length := Eq.trans rfl rfl
theorem b_abs {i : Int} : BI.ev .abs st [.int i] = some (.int (if i < 0 then -i else i), st) := Eq.trans rfl rfl
theorem b_max {i j : Int} : BI.ev .max2 st [.int i, .int j] = some (.int (if j > i then j else i), st) := Eq.trans rfl rfl
theorem b_min {i j : Int} : BI.ev .min2 st [.int i, .int j] = some (.int (if j < i then j else i), st) := Eq.trans rfl rfl
theorem b_int {i : Int} : BI.ev .int1 st [.int i] = some (.int i, st) := Eq.trans rfl rfl
theorem b_intb {b : Bool} : BI.ev .int1 st [.bl b] = some (.int (if b then 1 else 0), st) := Eq.trans rfl rfl
theorem b_tuple {d : D} : BI.ev .tuple1 st [d] = match itemsD st d with
    | some ds => some (.tup ds, st)
    | none => none := by
  simp only [BI.ev, BI.ev1]
  cases itemsD st d <;> rfl
theorem b_list {d : D} : BI.ev .list1 st [d] = match itemsD st d with
    | some ds => some (.lst ds, st)
    | none => none := by
  simp only [BI.ev, BI.ev1]
  cases itemsD st d <;> rfl
theorem b_repr {d : D} : BI.ev .repr st [d] = match toP st d with
    | some p => if shownOk p then some (.str p.shown, st) else none
    | none => none := by
  simp only [BI.ev, BI.ev1]
  cases h : toP st d with
  | none => rfl
  | some p => cases h2 : shownOk p <;> simp [h2]
theorem m_append {n : Nat} {d : D} : MT.ev .append st (.obj n) [d] = match st[n]? with
    | some (.lst ds) => if decide (ds.length < sizeLine) then some (.non, st.set n (.lst (ds ++ [d]))) else none
    | _ => none := Eq.trans rfl rfl
theorem set_ix {n : Nat} {i d : D} : setixD st (.obj n) i d = match st[n]? with
    | some (.lst ds) => (match i with
      | .int k => (match ixN ds.length k with
        | some j => some (st.set n (.lst (ds.set j d)))
        | none => none)
      | _ => none)
    | some (.dct m kvs) => if okK m i && decide (kvs.length < sizeLine) then some (st.set n (.dct m (setK kvs i d))) else none
    | none => none := Eq.trans rfl rfl
end
theorem mulOk_of {i j : Int} {a b : Nat} (ha : i.natAbs < 2 ^ a) (hb : j.natAbs < 2 ^ b) (h0 : 0 < a) (h1 : 0 < b) (h : a + b ≤ 1000000) : mulOk i j = true := by
  have x := PySem.Flt.log2_lt_of h0 ha
  have y := PySem.Flt.log2_lt_of h1 hb
  exact decide_eq_true (by omega)
theorem divOk_of {j : Int} {b : Nat} (h : 0 < j) (hb : j.natAbs < 2 ^ b) (h0 : 0 < b) (h9 : b ≤ 9000) : divOk j = true := by
  unfold divOk
  rw [Bool.and_eq_true]
  exact ⟨decide_eq_true h, decide_eq_true (Nat.lt_of_lt_of_le (PySem.Flt.log2_lt_of h0 hb) h9)⟩
theorem powOk_of {i j : Int} {a : Nat} (h : 0 ≤ j) (ha : i.natAbs < 2 ^ a) (h0 : 0 < a) (hz : (a : Int) * j ≤ 2 ^ 27) : powOk i j = true := by
  unfold powOk
  rw [Bool.and_eq_true]
  refine ⟨decide_eq_true h, decide_eq_true ?_⟩
  have x := PySem.Flt.log2_lt_of h0 ha
  have b : Builtin.Int.intBits i ≤ a := by
    unfold Builtin.Int.intBits
    split <;> omega
  have : ((Builtin.Int.intBits i : Int)) * j ≤ (a : Int) * j := Int.mul_le_mul_of_nonneg_right (by omega) h
  omega
theorem shlOk_one {j : Int} (h : 0 ≤ j) (h2 : j ≤ 1000000) : shlOk 1 j = true := by
  unfold shlOk
  simp [h, h2]
theorem ret_same {st : Store} {d : D} {s : Store} : RetOk st d s d s := .inl ⟨rfl, rfl⟩
theorem trunc_app {st g : Store} : Trunc st (st ++ g) st := ⟨rfl, fun i o h => ⟨by rw [List.getElem?_append_left (List.getElem?_eq_some_iff.mp h).1]; exact h, .inl h⟩⟩
/-- a plain value; what was made is forgotten -/
theorem ret_app {st g : Store} {d : D} (h : pureD d = true) : RetOk st d (st ++ g) d st := .inr ⟨st, trunc_app, .inl ⟨rfl, h, rfl⟩⟩
end Bo

set_option Elab.async false
set_option linter.all false
set_option maxRecDepth 100000
set_option maxHeartbeats 8000000
/-! Bo, part 13: a def by a word on what it gives; runs are determined. -/
namespace Bo
open PySem PySem.Spec L2
inductive Out where
  | nx (e : Envr) (s : Store)
  | rt (d : D) (s : Store)
  | bk (e : Envr) (s : Store)
  | ct (e : Envr) (s : Store)
def Out.sat (P : DE) : Out → Prop
  | .nx e s => P.nx e s
  | .rt d s => P.rt d s
  | .bk e s => P.bk e s
  | .ct e s => P.ct e s
open Classical in
noncomputable def runFor (body : Envr → Store → Option Out) (t : TGt) (ok : Store → Prop) : List D → Envr → Store → Option Out
  | [], env, st => some (.nx env st)
  | d :: ds, env, st => match asgT t d env with
    | none => none
    | some env1 => match body env1 st with
      | none => none
      | some (.nx e s) => if ok s then runFor body t ok ds e s else none
      | some (.ct e s) => if ok s then runFor body t ok ds e s else none
      | some (.bk e s) => some (.nx e s)
      | some (.rt d s) => some (.rt d s)
def runWh (test : Envr → Store → Option (Bool × Store)) (body : Envr → Store → Option Out) : Nat → Envr → Store → Option Out
  | 0, _, _ => none
  | n + 1, env, st => match test env st with
    | none => none
    | some (false, s1) => some (.nx env s1)
    | some (true, s1) => match body env s1 with
      | none => none
      | some (.nx e s) => runWh test body n e s
      | some (.ct e s) => runWh test body n e s
      | some (.bk e s) => some (.nx e s)
      | some (.rt d s) => some (.rt d s)
theorem runWh_succ {test : Envr → Store → Option (Bool × Store)} {body : Envr → Store → Option Out} : ∀ (n : Nat) (e : Envr) (s : Store) (o : Out), runWh test body n e s = some o → runWh test body (n + 1) e s = some o
  | 0, e, s, o, h => by cases h
  | n + 1, e, s, o, h => by
    rw [runWh] at h ⊢
    split at h
    · cases h
    · exact h
    · rename_i s1 ht
      split at h
      · cases h
      · exact runWh_succ n _ _ o h
      · exact runWh_succ n _ _ o h
      · exact h
      · exact h
theorem runWh_le {test : Envr → Store → Option (Bool × Store)} {body : Envr → Store → Option Out} {n m : Nat} (h : n ≤ m) {e : Envr} {s : Store} {o : Out} (q : runWh test body n e s = some o) : runWh test body m e s = some o := by
  induction h with
  | refl => exact q
  | step _ ih => exact runWh_succ _ _ _ _ ih
open Classical in
noncomputable def run (T : Tab) : CS → Envr → Store → Option Out
  | .skip, env, st => some (.nx env st)
  | .seq a b, env, st => match run T a env st with
    | some (.nx e s) => run T b e s
    | o => o
  | .expr e, env, st => match ev T e env st with
    | some (_, st1) => some (.nx env st1)
    | none => none
  | .asg t e, env, st => match ev T e env st with
    | some (d, st1) => match asgT t d env with
      | some env1 => some (.nx env1 st1)
      | none => none
    | none => none
  | .asgC i e, env, st => match ev T e env st with
    | some (d, st1) => some (.nx (env.set i (some d)) st1)
    | none => none
  | .asg2 i j a b, env, st => match ev T a env st with
    | some (d, st1) => match ev T b env st1 with
      | some (d', st2) => some (.nx ((env.set i (some d)).set j (some d')) st2)
      | none => none
    | none => none
  | .setix o i e, env, st => match ev T e env st with
    | some (d, st1) => match ev T o env st1 with
      | some (x, st2) => match ev T i env st2 with
        | some (y, st3) => match setixD st3 x y d with
          | some st4 => some (.nx env st4)
          | none => none
        | none => none
      | none => none
    | none => none
  | .setix2 o1 i1 o2 i2 e1 e2, env, st => match two T o1 i1 o2 i2 e1 e2 env st with
    | some st8 => some (.nx env st8)
    | none => none
  | .aug i op e, env, st => match env[i]? with
    | some (some x) => match ev T e env st with
      | some (y, st1) => match augD op st1 x y with
        | some (z, st2) => some (.nx (env.set i (some z)) st2)
        | none => none
      | none => none
    | _ => none
  | .iff c a b, env, st => match evT T c env st with
    | some (true, st1) => run T a env st1
    | some (false, st1) => run T b env st1
    | none => none
  | .for_ t it b, env, st => match evI T it env st with
    | some (src, st1) => runFor (run T b) t src.ok src.items env st1
    | none => none
  | .whl c b, env, st => if h : ∃ n o, runWh (fun e s => evT T c e s) (fun e s => run T b e s) n env st = some o then some (choose (choose_spec h)) else none
  | .ret e, env, st => match ev T e env st with
    | some (d, st1) => some (.rt d st1)
    | none => none
  | .retN, _, st => some (.rt .non st)
  | .brk, env, st => some (.bk env st)
  | .cnt, env, st => some (.ct env st)
  | .raise_, _, _ => none
theorem runFor_ws {body : Envr → Store → Option Out} {W : Envr → Store → DE → Prop} {t : TGt} {ok : Store → Prop} (h : ∀ e s o P, body e s = some o → o.sat P → W e s P) :
    ∀ (ds : List D) (e : Envr) (s : Store) (o : Out) (P : DE), runFor body t ok ds e s = some o → o.sat P → forL W t ok ds e s P
  | [], e, s, o, P, q, sat => by cases q; exact sat
  | d :: ds, e, s, o, P, q, sat => by
    simp only [runFor] at q
    simp only [forL]
    split at q
    · cases q
    · rename_i e1 he
      try rw [he]
      try dsimp only
      split at q
      · cases q
      · rename_i e2 s2 hb
        split at q
        · rename_i hok
          exact h _ _ _ _ hb ⟨hok, runFor_ws h ds _ _ o P q sat⟩
        · cases q
      · rename_i e2 s2 hb
        split at q
        · rename_i hok
          exact h _ _ _ _ hb ⟨hok, runFor_ws h ds _ _ o P q sat⟩
        · cases q
      · rename_i e2 s2 hb
        cases q
        exact h _ _ _ _ hb sat
      · rename_i d2 s2 hb
        cases q
        exact h _ _ _ _ hb sat
theorem ws_runFor {body : Envr → Store → Option Out} {W : Envr → Store → DE → Prop} {t : TGt} {ok : Store → Prop} (h : ∀ e s P, W e s P → ∃ o, body e s = some o ∧ o.sat P) :
    ∀ (ds : List D) (e : Envr) (s : Store) (P : DE), forL W t ok ds e s P → ∃ o, runFor body t ok ds e s = some o ∧ o.sat P
  | [], e, s, P, q => ⟨_, rfl, q⟩
  | d :: ds, e, s, P, q => by
    simp only [forL] at q
    simp only [runFor]
    split at q
    · rename_i e1 he
      try rw [he]
      obtain ⟨o, h1, h2⟩ := h _ _ _ q
      try dsimp only
      try rw [h1]
      cases o with
      | nx e2 s2 =>
        try dsimp only
        rw [if_pos h2.1]
        exact ws_runFor h ds _ _ P h2.2
      | ct e2 s2 =>
        try dsimp only
        rw [if_pos h2.1]
        exact ws_runFor h ds _ _ P h2.2
      | bk e2 s2 => exact ⟨_, rfl, h2⟩
      | rt d2 s2 => exact ⟨_, rfl, h2⟩
    · cases q
/-- what a run gives is what it says -/
theorem run_ws {T : Tab} : ∀ (c : CS) (e : Envr) (s : Store) (o : Out) (P : DE), run T c e s = some o → o.sat P → WS T c e s P
  | .skip, e, s, o, P, h, sat => by cases h; exact sat
  | .seq a b, e, s, o, P, h, sat => by
    rw [ws_seq]
    simp only [run] at h
    split at h
    · rename_i e1 s1 ha
      exact run_ws a _ _ _ _ ha (run_ws b e1 s1 o P h sat)
    · rename_i x hx
      refine run_ws a _ _ o _ h ?_
      cases o with
      | nx e1 s1 => exact absurd h (hx e1 s1)
      | rt => exact sat
      | bk => exact sat
      | ct => exact sat
  | .expr c, e, s, o, P, h, sat => by
    rw [ws_expr]
    simp only [run] at h
    split at h
    · rename_i q; cases h; (try rw [q]); exact sat
    · cases h
  | .asg t c, e, s, o, P, h, sat => by
    rw [ws_asg]
    simp only [run] at h
    split at h
    · rename_i q
      try rw [q]
      split at h
      · cases h; rename_i e1 he; (try dsimp only); (try rw [he]); exact sat
      · cases h
    · cases h
  | .asgC i c, e, s, o, P, h, sat => by
    rw [ws_asgC]
    simp only [run] at h
    split at h
    · rename_i q; cases h; (try rw [q]); exact sat
    · cases h
  | .asg2 i j a b, e, s, o, P, h, sat => by
    rw [ws_asg2]
    simp only [run] at h
    split at h
    · rename_i q
      try rw [q]
      split at h
      · cases h; rename_i hb; (try dsimp only); (try rw [hb]); exact sat
      · cases h
    · cases h
  | .setix2 _ _ _ _ _ _, e, s, o, P, h, sat => by
    rw [ws_setix2]
    simp only [run] at h
    split at h
    · rename_i q
      try rw [q]
      cases h; exact sat
    · cases h
  | .setix a i c, e, s, o, P, h, sat => by
    rw [ws_setix]
    simp only [run] at h
    split at h
    · rename_i h0
      try rw [h0]
      split at h
      · rename_i h1
        try dsimp only
        try rw [h1]
        split at h
        · rename_i h2
          try dsimp only
          try rw [h2]
          split at h
          · rename_i h3
            try dsimp only
            try rw [h3]
            cases h; exact sat
          · cases h
        · cases h
      · cases h
    · cases h
  | .aug i op c, e, s, o, P, h, sat => by
    rw [ws_aug]
    simp only [run] at h
    split at h
    · rename_i h0
      try rw [h0]
      split at h
      · rename_i h1
        try dsimp only
        try rw [h1]
        split at h
        · rename_i h2
          try dsimp only
          try rw [h2]
          cases h; exact sat
        · cases h
      · cases h
    · cases h
  | .iff c a b, e, s, o, P, h, sat => by
    rw [ws_iff]
    simp only [run] at h
    split at h
    · rename_i q; (try rw [q]); exact run_ws a _ _ _ _ h sat
    · rename_i q; (try rw [q]); exact run_ws b _ _ _ _ h sat
    · cases h
  | .for_ t it b, e, s, o, P, h, sat => by
    rw [ws_for]
    simp only [run] at h
    split at h
    · rename_i q; (try rw [q]); exact runFor_ws (fun e s o P q w => run_ws b e s o P q w) _ _ _ o P h sat
    · cases h
  | .whl c b, e, s, o, P, h, sat => by
    simp only [run] at h
    simp only [WS]
    split at h
    · rename_i hx
      have hs := Classical.choose_spec (Classical.choose_spec hx)
      cases h
      refine ⟨fun m e' s' => runWh (fun e s => evT T c e s) (fun e s => run T b e s) m e' s' = some (Classical.choose (Classical.choose_spec hx)), ⟨_, hs⟩, fun m e' s' hm => ?_⟩
      cases m with
      | zero => cases hm
      | succ m =>
        rw [runWh] at hm
        split at hm
        · cases hm
        · rename_i s1 ht
          rw [ht]
          have hm' := Option.some.inj hm
          rw [← hm'] at sat
          exact sat
        · rename_i s1 ht
          rw [ht]
          try dsimp only
          split at hm
          · cases hm
          · rename_i e2 s2 hb
            exact run_ws b _ _ _ _ hb ⟨m, Nat.lt_succ_self _, hm⟩
          · rename_i e2 s2 hb
            exact run_ws b _ _ _ _ hb ⟨m, Nat.lt_succ_self _, hm⟩
          · rename_i e2 s2 hb
            have hm' := Option.some.inj hm
            rw [← hm'] at sat
            exact run_ws b _ _ _ _ hb sat
          · rename_i d2 s2 hb
            have hm' := Option.some.inj hm
            rw [← hm'] at sat
            exact run_ws b _ _ _ _ hb sat
    · cases h
  | .ret c, e, s, o, P, h, sat => by
    rw [ws_ret]
    simp only [run] at h
    split at h
    · rename_i q; cases h; (try rw [q]); exact sat
    · cases h
  | .retN, e, s, o, P, h, sat => by cases h; exact sat
  | .brk, e, s, o, P, h, sat => by cases h; exact sat
  | .cnt, e, s, o, P, h, sat => by cases h; exact sat
  | .raise_, e, s, o, P, h, sat => by cases h
theorem ws_run {T : Tab} : ∀ (c : CS) (e : Envr) (s : Store) (P : DE), WS T c e s P → ∃ o, run T c e s = some o ∧ o.sat P
  | .skip, e, s, P, h => ⟨_, rfl, h⟩
  | .seq a b, e, s, P, h => by
    rw [ws_seq] at h
    obtain ⟨o, h1, h2⟩ := ws_run a _ _ _ h
    simp only [run, h1]
    cases o with
    | nx e1 s1 => exact ws_run b _ _ _ h2
    | rt d1 s1 => exact ⟨_, rfl, h2⟩
    | bk e1 s1 => exact ⟨_, rfl, h2⟩
    | ct e1 s1 => exact ⟨_, rfl, h2⟩
  | .expr c, e, s, P, h => by
    rw [ws_expr] at h
    simp only [run]
    split at h
    · rename_i q; (try rw [q]); exact ⟨_, rfl, h⟩
    · cases h
  | .asg t c, e, s, P, h => by
    rw [ws_asg] at h
    simp only [run]
    split at h
    · rename_i q
      try rw [q]
      split at h
      · rename_i q; (try dsimp only); (try rw [q]); exact ⟨_, rfl, h⟩
      · cases h
    · cases h
  | .asgC i c, e, s, P, h => by
    rw [ws_asgC] at h
    simp only [run]
    split at h
    · rename_i q; (try rw [q]); exact ⟨_, rfl, h⟩
    · cases h
  | .asg2 i j a b, e, s, P, h => by
    rw [ws_asg2] at h
    simp only [run]
    split at h
    · rename_i q
      try rw [q]
      split at h
      · rename_i q; (try dsimp only); (try rw [q]); exact ⟨_, rfl, h⟩
      · cases h
    · cases h
  | .setix2 _ _ _ _ _ _, e, s, P, h => by
    rw [ws_setix2] at h
    simp only [run]
    split at h
    · rename_i q
      try rw [q]
      exact ⟨_, rfl, h⟩
    · cases h
  | .setix a i c, e, s, P, h => by
    rw [ws_setix] at h
    simp only [run]
    split at h
    · rename_i h0
      try rw [h0]
      split at h
      · rename_i h1
        try dsimp only
        try rw [h1]
        split at h
        · rename_i h2
          try dsimp only
          try rw [h2]
          split at h
          · rename_i h3
            try dsimp only
            try rw [h3]
            exact ⟨_, rfl, h⟩
          · cases h
        · cases h
      · cases h
    · cases h
  | .aug i op c, e, s, P, h => by
    rw [ws_aug] at h
    simp only [run]
    split at h
    · rename_i h0
      try rw [h0]
      split at h
      · rename_i h1
        try dsimp only
        try rw [h1]
        split at h
        · rename_i h2
          try dsimp only
          try rw [h2]
          exact ⟨_, rfl, h⟩
        · cases h
      · cases h
    · cases h
  | .iff c a b, e, s, P, h => by
    rw [ws_iff] at h
    simp only [run]
    split at h
    · rename_i q; (try rw [q]); exact ws_run a _ _ _ h
    · rename_i q; (try rw [q]); exact ws_run b _ _ _ h
    · cases h
  | .for_ t it b, e, s, P, h => by
    rw [ws_for] at h
    simp only [run]
    split at h
    · rename_i q; (try rw [q]); exact ws_runFor (fun e s P q => ws_run b e s P q) _ _ _ P h
    · cases h
  | .whl c b, e, s, P, h => by
    simp only [WS] at h
    obtain ⟨I, ⟨m, hm⟩, step⟩ := h
    have key : ∀ (k m : Nat) (e : Envr) (s : Store), m < k → I m e s → ∃ n o, runWh (fun e s => evT T c e s) (fun e s => run T b e s) n e s = some o ∧ o.sat P := by
      intro k
      induction k with
      | zero => intro m e s h; omega
      | succ k ih =>
        intro m e s hlt hI
        have q := step m e s hI
        split at q
        · rename_i s1 ht
          obtain ⟨o, h1, h2⟩ := ws_run b _ _ _ q
          cases o with
          | nx e2 s2 =>
            obtain ⟨m', h3, h4⟩ := h2
            obtain ⟨n, o, h5, h6⟩ := ih m' e2 s2 (by omega) h4
            exact ⟨n + 1, o, by rw [runWh, ht]; dsimp only; rw [h1]; exact h5, h6⟩
          | ct e2 s2 =>
            obtain ⟨m', h3, h4⟩ := h2
            obtain ⟨n, o, h5, h6⟩ := ih m' e2 s2 (by omega) h4
            exact ⟨n + 1, o, by rw [runWh, ht]; dsimp only; rw [h1]; exact h5, h6⟩
          | bk e2 s2 => exact ⟨1, .nx e2 s2, by rw [runWh, ht]; dsimp only; rw [h1], h2⟩
          | rt d2 s2 => exact ⟨1, .rt d2 s2, by rw [runWh, ht]; dsimp only; rw [h1], h2⟩
        · rename_i s1 ht
          exact ⟨1, .nx e s1, by rw [runWh, ht], q⟩
        · cases q
    obtain ⟨n, o, h1, h2⟩ := key (m + 1) m e s (Nat.lt_succ_self _) hm
    have hx : ∃ n o, runWh (fun e s => evT T c e s) (fun e s => run T b e s) n e s = some o := ⟨n, o, h1⟩
    have hs := Classical.choose_spec (Classical.choose_spec hx)
    refine ⟨_, by simp only [run]; rw [dif_pos hx], ?_⟩
    have a1 := runWh_le (Nat.le_max_left n (Classical.choose hx)) h1
    have a2 := runWh_le (Nat.le_max_right n (Classical.choose hx)) hs
    have e1 := Option.some.inj (a1.symm.trans a2)
    rw [← e1]
    exact h2
  | .ret c, e, s, P, h => by
    rw [ws_ret] at h
    simp only [run]
    split at h
    · rename_i q; (try rw [q]); exact ⟨_, rfl, h⟩
    · cases h
  | .retN, e, s, P, h => ⟨_, rfl, h⟩
  | .brk, e, s, P, h => ⟨_, rfl, h⟩
  | .cnt, e, s, P, h => ⟨_, rfl, h⟩
  | .raise_, e, s, P, h => by cases h

/-! ### a def by its word -/
abbrev Wd := List D → Store → D → Store → Prop
abbrev endD (st : Store) (r : D) (st' : Store) : DE := { nx := fun _ s => RetOk st .non s r st', rt := fun d s => RetOk st d s r st' }
abbrev endS (ds : List D) (st : Store) (Sp : Wd) : DE := { nx := fun _ s => ∃ r st', RetOk st .non s r st' ∧ Sp ds st r st', rt := fun d s => ∃ r st', RetOk st d s r st' ∧ Sp ds st r st' }
open Classical in
noncomputable def specF (T : Tab) (n np : Nat) (code : CS) (Sp : Wd) : List D → Store → Option (D × Store) := fun ds st =>
  if h : ∃ p : D × Store, ds.length = np ∧ WS T code (startD n ds) st (endD st p.1 p.2) ∧ Sp ds st p.1 p.2 then some (choose h) else none
theorem specF_meets {T : Tab} {N ps : List Str} {code : CS} {Sp : Wd} : Meets1 T N ps code (specF T N.length ps.length code Sp) := by
  intro ds st r st' h
  unfold specF at h
  split at h
  · rename_i hx
    have q := Classical.choose_spec hx
    have e := Option.some.inj h
    rw [e] at q
    exact ⟨q.1, q.2.1⟩
  · cases h
theorem specF_of {T : Tab} {n np : Nat} {code : CS} {Sp : Wd} {ds : List D} {st : Store} (hl : ds.length = np) (h : WS T code (startD n ds) st (endS ds st Sp)) : ∃ r st', specF T n np code Sp ds st = some (r, st') ∧ Sp ds st r st' := by
  obtain ⟨o, h1, h2⟩ := ws_run _ _ _ _ h
  have hx : ∃ p : D × Store, ds.length = np ∧ WS T code (startD n ds) st (endD st p.1 p.2) ∧ Sp ds st p.1 p.2 := by
    cases o with
    | nx e s =>
      obtain ⟨r, st', a, b⟩ := h2
      exact ⟨(r, st'), hl, run_ws _ _ _ _ _ h1 a, b⟩
    | rt d s =>
      obtain ⟨r, st', a, b⟩ := h2
      exact ⟨(r, st'), hl, run_ws _ _ _ _ _ h1 a, b⟩
    | bk e s => cases h2
    | ct e s => cases h2
  refine ⟨(Classical.choose hx).1, (Classical.choose hx).2, ?_, (Classical.choose_spec hx).2.2⟩
  unfold specF
  rw [dif_pos hx]
/-- the word tells one thing: an equation -/
theorem specF_eq {T : Tab} {n np : Nat} {code : CS} {Sp : Wd} {ds : List D} {st : Store} {r : D} {st' : Store} (hl : ds.length = np) (h : WS T code (startD n ds) st (endS ds st Sp)) (u : ∀ r1 s1, Sp ds st r1 s1 → r1 = r ∧ s1 = st') : specF T n np code Sp ds st = some (r, st') := by
  obtain ⟨r1, s1, h1, h2⟩ := specF_of hl h
  obtain ⟨rfl, rfl⟩ := u _ _ h2
  exact h1

/-! ### tables that grow -/
def Tab.push (T : Tab) (f : Fn) : Tab := ⟨T.fns ++ [f], T.gls⟩
section
variable {P : Program} {w : World} {K : PySem.W.Frag} {mg : Str → Option Value} {base : Heap} {T : Tab} {L : Nat} {k : Nat}
theorem GEnv.grow (G : GEnv P w K mg base T L k) (hL : L = T.fns.length) (f : Fn) : GEnv P w K mg base (T.push f) L k := by
  refine ⟨fun i f' hi e => G.fns i f' hi ?_, G.gls, G.bi⟩
  have e' : (T.fns ++ [f])[i]? = some f' := e
  rw [List.getElem?_append_left (by omega)] at e'
  exact e'
theorem push_at {f : Fn} (hL : L = T.fns.length) : (T.push f).fns[L]? = some f := by
  show (T.fns ++ [f])[L]? = _
  rw [List.getElem?_append_right (by omega), hL, Nat.sub_self]
  rfl
theorem specF_len {n np : Nat} {code : CS} {Sp : Wd} {ds : List D} {st : Store} {r : D × Store} (h : specF T n np code Sp ds st = some r) : ds.length = np := by
  unfold specF at h
  split at h
  · rename_i hx
    exact (Classical.choose_spec hx).1
  · cases h
/-- one def more -/
theorem GEnv.def_ {f : Addr} {fd : FuncData} {N ps : List Str} {code : CS} {Sp : Wd} {x qual : Str} {stm : Stmt} (G : GEnv P w K mg base T L k) (hL : L = T.fns.length) (Fu : Fun K x qual stm f fd) (hm : mg x = some (.ref f))
    (S : FnScope N ps (defScope stm)) (hc : chkB T L N (defScope stm) code (defBody stm) = true) (hb : Binds K fd ps []) :
    FnG P w K mg base (k + 1) f fd ps (spD (KW.mk P w K) (specF T N.length ps.length code Sp)) ∧ GEnv P w K mg base (T.push ⟨x, [], specF T N.length ps.length code Sp⟩) (L + 1) (k + 1) := by
  have FG := fn_code (F := specF T N.length ps.length code Sp) G Fu S hc specF_meets
  exact ⟨FG, (G.grow hL _).addP FG (push_at hL) hm Fu.kp (Nat.le_refl _) (Nat.le_succ _) (fun ds st r h => specF_len h) hb⟩
/-- the same def called with keywords -/
def viaF (n : Nat) (perm : List Nat) (F : List D → Store → Option (D × Store)) : List D → Store → Option (D × Store) := fun ds st => if ds.length = n then F (Bo.pick perm ds) st else none
theorem GEnv.via_ {f : Addr} {fd : FuncData} {ps ks : List Str} {lv : Nat} {F : List D → Store → Option (D × Store)} {x : Str} (G : GEnv P w K mg base T L k) (hL : L = T.fns.length) (n : Nat) (perm : List Nat)
    (FG : FnG P w K mg base lv f fd ps (spD (KW.mk P w K) F)) (hm : mg x = some (.ref f)) (hk : PySem.W.keepIn K (.ref f) = true) (hlv : lv ≤ k)
    (hb : ∀ (s : Shared) (us ws : List Value), K.In s.heap → ws.length = ks.length → us.length + ws.length = n → BindsTo s fd ⟨us, ks.zip ws⟩ (ps.zip (Bo.pick perm (us ++ ws)))) : GEnv P w K mg base (T.push ⟨x, ks, viaF n perm F⟩) (L + 1) k :=
  (G.grow hL _).add n perm FG (push_at hL) hm hk hlv (Nat.le_refl _) (fun ds st r h => by
    unfold viaF at h
    split at h
    · rename_i hl; exact ⟨hl, h⟩
    · cases h) hb
end
end Bo

set_option Elab.async false
set_option linter.all false
set_option maxRecDepth 100000
set_option maxHeartbeats 8000000
/-! Bo, part 14: the law's own call. -/
namespace Bo
open PySem PySem.Spec L2
theorem gotK {K : KW} {a : Addr} {xs : List V} {H : Hp} (h : SqL K H a xs) (ns : ∀ o, K.K.lookup a = some o → o.slots = #[]) (O : Only H) : LstAt K ⟨[], []⟩ H a xs := by
  rcases h with h | h
  · exact .inl ⟨h, fun z => z.elim (fun z => nomatch z) fun z => nomatch z⟩
  · exact .inr ⟨.inr h, ns⟩
theorem ints_rd {K : KW} {ρ : Rg} {H : Hp} : ∀ ns : List Int, RDs K ρ H (ns.map D.int) (ns.map V.int)
  | [] => rfl
  | n :: ns => ⟨.int n, ns.map V.int, rfl, rfl, ints_rd ns⟩
theorem sr_nil {K : KW} {H : Hp} : SR K ⟨[], []⟩ [] H :=
  ⟨rfl, List.nodup_nil, fun i o e => by simp at e, fun a ha => by cases ha⟩
/-- the promise of the law's def is kept by what it tells of True -/
theorem sp_law {K : KW} {F : List D → Store → Option (D × Store)} {H : Hp} {a : Addr} {ns : List Int} (O : Only H) (h : SqL K H a (ns.map V.int)) (hsl : ∀ o, K.K.lookup a = some o → o.slots = #[]) {st' : Store} (hF : F [.lst (ns.map D.int)] [] = some (.bl true, st')) :
    spD K F [.ref a] H (fun v _ => v = .bl true) fun _ _ _ => False :=
  ⟨⟨[], []⟩, [], [.lst (ns.map D.int)], .bl true, st', sr_nil, ⟨.ref a, [], rfl, ⟨a, ns.map V.int, rfl, gotK h hsl O, ints_rd ns⟩, rfl⟩, hF, fun ρ' v H' _ _ r => r⟩
section
variable {P : Program} {w : World} {K : PySem.W.Frag} {mg mb : Str → Option Value} {k : Nat} {fa a : Addr} {fd : FuncData} {x : Str} {F : List D → Store → Option (D × Store)} {s : Shared} {vs : List Value} {ns : List Int}
/-- over a heap where only the script is told -/
theorem call_core (KX : K.In s.heap) (hns : s.heap.Ns mainGlobals mg) (hb : s.heap.Ns builtinsNs mb) (hbb : ∀ y : Str, y ≠ "__name__" → mb y = bootBuiltins y) (hlim : s.heap.NoLimit) (hg : s.gens = #[])
    (ha : s.heap.get? a = some { cls := .type "list", data := .seq vs.toArray }) (hr : RoomG k callerA)
    (hF : ∀ base : Heap, K.In base → base.Ns mainGlobals mg → FnG P w K mg base k fa fd [x] (spD (KW.mk P w K) F)) (hbind : ∀ (s : Shared) (u : Value), BindsTo s fd ⟨[u], []⟩ [(x, u)])
    (H : Hp) (O : Only H) (hL : SqL K H a (ns.map V.int)) (ok : HOk P w H s.heap) (one : ∀ b, H b ≠ none → b = a) (nK : H a ≠ none → K.lookup a = none) {st' : Store} (hv : F [.lst (ns.map D.int)] [] = some (.bl true, st')) :
    codeAny (model P w) callerA (.call (.ref fa) ⟨[.ref a], []⟩) (fun r s' => r = .ok (.ret (.bool true)) ∧ OldK s.heap s'.heap ∧ s'.os = s.os ∧ PyProof.Rows.AllBare s'.gens) s := by
  have away : ∀ {b : Addr} {o : Obj}, s.heap.get? b = some o → (b = a → o.data = .seq vs.toArray → False) → H b = none := fun {b o} e ne => by
    cases q : H b with
    | none => rfl
    | some u =>
      have eb := one b (by rw [q]; exact Option.some_ne_none u)
      refine absurd ?_ (fun z : False => z)
      have e2 := e
      rw [eb, ha] at e2
      refine ne eb ?_
      cases e2
      rfl
  have keep : ∀ {b : Addr} {o : Obj}, s.heap.get? b = some o → H b = none → (hidT s.heap H).get? b = some o := fun e n => hidT_get e n
  have spaces : ∀ {b : Addr} {m : Str → Option Value}, s.heap.Ns b m → (hidT s.heap H).Ns b m := by
    intro b m h
    obtain ⟨o, es, ep, e, d, r⟩ := h
    refine ⟨o, es, ep, keep e (away e fun _ d' => ?_), d, r⟩
    rw [d] at d'; cases d'
  have KB : K.In (hidT s.heap H) := by
    intro b o e
    refine keep (KX b o e) ?_
    cases q : H b with
    | none => rfl
    | some u =>
      have nn : H b ≠ none := by rw [q]; exact Option.some_ne_none u
      have eb := one b nn
      have := nK (eb ▸ nn)
      rw [← eb, e] at this
      cases this
  have M : Mod K mg (hidT s.heap H) := by
    refine ⟨KB, spaces hns, ⟨mb, spaces hb, hbb⟩, ?_⟩
    obtain ⟨mc, h1, h2⟩ := hlim
    exact ⟨mc, spaces h1, h2⟩
  have e0 : Env0 P w K mg (hidT s.heap H) callerA [] s H := by
    refine ⟨rfl, M, fun b o e => of_hidT e, Nat.le_of_eq (hidT_size _ _), trivial, fun b z => ?_, ok, PyProof.Rows.AllBare.of_eq hg⟩
    cases z
  have go := (hF _ KB (spaces hns)).run callerA [] s H ⟨[.ref a], []⟩ [.ref a] [.ref a] (fun v _ => v = .bl true) (fun _ _ _ => False) hr e0 (hbind s (.ref a)) (.cons rfl .nil) (sp_law (K := KW.mk P w K) O hL (fun o ho => by have := KX a o ho; rw [ha] at this; cases this; rfl) hv)
  refine codeAny_mono go fun r s' q => ?_
  match r, q with
  | .ok (.ret u), q =>
    obtain ⟨v, H', os, bare, un, ok', rel, q⟩ := q
    rw [q] at rel
    have eu : u = Value.bool true := rel
    refine ⟨by rw [eu], OldK.of_keep fun b o e => ?_, os, bare⟩
    cases q2 : H b with
    | none => exact un.keep b o e q2 (fun z => nomatch z) fun z => nomatch z
    | some u2 =>
      rcases O b with z | ⟨ob, xs, z⟩
      · rw [q2] at z; cases z
      · have z2 := un.frzs b ob _ z
        have e1 := (ok b _ z).1
        have e3 := (ok' b _ z2).1
        rw [e] at e1
        rw [e1]
        exact e3
end
/-- the goal that the head leaves, from the law's word -/
theorem walk_bo {l : PySem.W.OpenLaw} {n k : Nat} {q : Program} {loose : List Str} {XP : (Str → Option Value) → Heap → Prop} {YP : World → Heap → Prop} {d : DefRec} {K : Params → PySem.W.Frag} {F : List D → Store → Option (D × Store)} {x : Str}
    (hn : l.most = some n) (hn2 : n ≤ sizeLine) (hdf : d.params.defaults = []) (hr : RoomG k callerA) (hY : ∀ (w : World) (h : Heap), YP w h → (K w.params).In h)
    (hF : ∀ (w : World) (mg : Str → Option Value) (fa : Addr) (h : Heap), (K w.params).In h → h.Ns mainGlobals mg → mg d.name = some (.ref fa) →
      ∃ fd : FuncData, (∀ (s : Shared) (u : Value), BindsTo s fd ⟨[u], []⟩ [(x, u)]) ∧ ∀ base : Heap, (K w.params).In base → base.Ns mainGlobals mg → FnG l.prog w (K w.params) mg base k fa fd [x] (spD (KW.mk l.prog w (K w.params)) F))
    (hv : ∀ ns : List Int, ns.length ≤ n → ∃ st', F [.lst (ns.map D.int)] [] = some (.bl true, st')) : PySem.W.WalkO q loose XP YP l.row.toRowW d [] (fun f vs => PySem.call f vs) := by
  refine Att.attach_call hn hdf fun w s₀ s mg mb fa o pm cd doc a vs ns G Y ho hd hcd hmg hobj hints hlen hg => ?_
  have KX := hY w _ Y
  obtain ⟨fd, hb, h1⟩ := hF w mg fa _ KX G.T.g hmg
  obtain ⟨st', e⟩ := hv ns hlen
  have vv := vals_ints hints
  have core := fun H O hL ok one nK => call_core KX G.T.g G.T.b G.T.builtins G.T.nolimit hg hobj hr h1 hb H O hL ok one nK (ns := ns) e
  have size : vs.length ≤ sizeLine := by
    rw [hints.length]
    exact Nat.le_trans hlen hn2
  cases hk : (K w.params).lookup a with
  | some ob =>
    have e1 := KX a ob hk
    rw [hobj] at e1
    refine core (fun _ => none) (fun _ => .inl rfl) (.inr ⟨ob, vs.toArray, 0, hk, ?_⟩) (fun b u z => by cases (show (none : Option HO) = some u from z)) (fun b z => absurd rfl z) fun z => absurd rfl z
    cases e1
    exact ⟨rfl, rfl, rfl, by simpa using size, by simpa using vv⟩
  | none =>
    let H : Hp := fun b => if b = a then some (.frz { cls := .type "list", data := .seq vs.toArray } (.lst (ns.map V.int))) else none
    have at_a : H a = some (.frz { cls := .type "list", data := .seq vs.toArray } (.lst (ns.map V.int))) := if_pos rfl
    have else_ : ∀ b, b ≠ a → H b = none := fun b h => if_neg h
    refine core H (fun b => ?_) (.inl (.inr ⟨_, at_a⟩)) (fun b u z => ?_) (fun b z => ?_) fun _ => hk
    · by_cases h : b = a
      · exact .inr ⟨_, _, by rw [h]; exact at_a⟩
      · exact .inl (else_ b h)
    · by_cases h : b = a
      · rw [h] at z ⊢
        rw [at_a] at z
        cases z
        refine ⟨hobj, ?_, vs, _, vv, hobj⟩
        rw [List.length_map, ← hints.length]
        exact size
      · rw [else_ b h] at z
        cases z
    · by_cases h : b = a
      · exact h
      · exact absurd (else_ b h) z
end Bo

set_option Elab.async false
set_option linter.all false
set_option maxRecDepth 100000
set_option maxHeartbeats 8000000
/-! Bo, part 15: what the top has written, name by name. -/
namespace Bo
open PySem PySem.Spec L2
/-- a def stands at its name -/
def Got (K : PySem.W.Frag) (x : Str) (st : Stmt) : Prop := ∃ (f : Addr) (fd : FuncData), PySem.W.nsIn K mainGlobals x = some (some (.ref f)) ∧ Fun K x x st f fd
theorem got_mk {K : PySem.W.Frag} {x : Str} {st : Stmt} {f : Addr} {od an : Option Addr} {sl : Array (Option Value)} {oc kV dc pm cd ct : Value} (a : PySem.W.nsIn K mainGlobals x = some (some (.ref f)))
    (l : K.lookup f = some ⟨oc, od, .func (PySem.W.fnOf x x (defArgs st) (defBody st) (defScope st) .none kV dc pm an cd ct), sl⟩) (c : PySem.W.codeIn K cd x = true) (k : PySem.W.keepIn K (.ref f) = true) : Got K x st :=
  ⟨f, _, a, fun_mk l c k⟩
/-- a constant stands at its name -/
def GotV (P : Program) (w : World) (K : PySem.W.Frag) (mg : Str → Option Value) (x : Str) (d : D) : Prop := ∃ u v, mg x = some u ∧ RelV v u ∧ ∀ ρ H, RD (KW.mk P w K) ρ H d v
theorem gotv_mk {K : PySem.W.Frag} {mg : Str → Option Value} {h : Heap} {P : Program} {w : World} {x : Str} {d : D} {u : Value} {v : V} (KX : K.In h) (G : h.Ns mainGlobals mg) (a : PySem.W.nsIn K mainGlobals x = some (some u)) (r : RelV v u) (p : ∀ ρ H, RD (KW.mk P w K) ρ H d v) : GotV P w K mg x d :=
  ⟨u, v, PySem.W.mg_of KX G a, r, p⟩
theorem got_str {K : PySem.W.Frag} {mg : Str → Option Value} {h : Heap} {P : Program} {w : World} {x s : Str} {t : Tok} (KX : K.In h) (G : h.Ns mainGlobals mg) (a : PySem.W.nsIn K mainGlobals x = some (some (.str s t))) : GotV P w K mg x (.str s) := gotv_mk KX G a (v := .str s) ⟨t, rfl⟩ fun _ _ => rfl
theorem got_int {K : PySem.W.Frag} {mg : Str → Option Value} {h : Heap} {P : Program} {w : World} {x : Str} {i : Int} {t : Tok} (KX : K.In h) (G : h.Ns mainGlobals mg) (a : PySem.W.nsIn K mainGlobals x = some (some (.int i t))) : GotV P w K mg x (.int i) := gotv_mk KX G a (v := .int i) ⟨t, rfl⟩ fun _ _ => rfl
/-- a value of the top stands for a thing -/
def KRel (P : Program) (w : World) (K : PySem.W.Frag) (d : D) (u : Value) : Prop := ∃ v, RelV v u ∧ ∀ ρ H, RD (KW.mk P w K) ρ H d v
def KRels (P : Program) (w : World) (K : PySem.W.Frag) : List D → List Value → Prop
  | [], [] => True
  | d :: ds, u :: us => KRel P w K d u ∧ KRels P w K ds us
  | _, _ => False
def TabEs (P : Program) (w : World) (K : PySem.W.Frag) : List Str → List D → List DictEntry → Prop
  | [], [], [] => True
  | k :: ks, d :: ds, e :: es => (∃ t, e.key = .str k t) ∧ e.hash = PyData.keyHash w.params k ∧ KRel P w K d e.val ∧ TabEs P w K ks ds es
  | _, _, _ => False
section
variable {P : Program} {w : World} {K : PySem.W.Frag}
theorem krel_non : KRel P w K .non .none := ⟨.non, rfl, fun _ _ => rfl⟩
theorem krel_bl {b : Bool} : KRel P w K (.bl b) (.bool b) := ⟨.bl b, rfl, fun _ _ => rfl⟩
theorem krel_int {i : Int} {t : Tok} : KRel P w K (.int i) (.int i t) := ⟨.int i, ⟨t, rfl⟩, fun _ _ => rfl⟩
theorem krel_str {s : Str} {t : Tok} : KRel P w K (.str s) (.str s t) := ⟨.str s, ⟨t, rfl⟩, fun _ _ => rfl⟩
theorem krels_vals : ∀ {ds : List D} {us : List Value}, KRels P w K ds us → ∃ vs, Vals vs us ∧ ∀ ρ H, RDs (KW.mk P w K) ρ H ds vs
  | [], [], _ => ⟨[], .nil, fun _ _ => rfl⟩
  | [], _ :: _, h => h.elim
  | _ :: _, [], h => h.elim
  | d :: ds, u :: us, ⟨⟨v, r, q⟩, t⟩ => by
    obtain ⟨vs, rs, qs⟩ := krels_vals t
    exact ⟨v :: vs, .cons r rs, fun ρ H => ⟨v, vs, rfl, q ρ H, qs ρ H⟩⟩
theorem krel_tup {a : Addr} {od : Option Addr} {its : Array Value} {n : Nat} {sl : Array (Option Value)} {ds : List D} (l : K.lookup a = some ⟨.type "tuple", od, .seq its n, sl⟩) (z : its.size ≤ sizeLine) (h : KRels P w K ds its.toList) : KRel P w K (.tup ds) (.ref a) := by
  obtain ⟨vs, rs, q⟩ := krels_vals h
  exact ⟨.ref a, rfl, fun ρ H => ⟨a, vs, rfl, .inr (.inr ⟨_, its, n, l, rfl, rfl, z, rs⟩), q ρ H⟩⟩
theorem tabEs_of {ep : Nat} : ∀ {ks : List Str} {ds : List D} {es : List DictEntry}, TabEs P w K ks ds es → ∃ us vs, us.length = ks.length ∧ Vals vs us ∧ (∀ ρ H, RDs (KW.mk P w K) ρ H ds vs) ∧ Pairs (kindM true P w) es ((ks.map Leaf.text).zip us) ∧ ∀ e ∈ es, ∃ k, (kindM true P w).is k e.key = true ∧ e.hash = (kindM true P w).hash k
  | [], [], [], _ => ⟨[], [], rfl, .nil, fun _ _ => rfl, .nil, fun e he => by cases he⟩
  | k :: ks, d :: ds, e :: es, ⟨⟨t, h1⟩, h2, ⟨v, h3, h4⟩, h5⟩ => by
    obtain ⟨us, vs, q1, q2, q3, q4, q5⟩ := tabEs_of (ep := ep) h5
    have hk : (kindM true P w).is (.text k) e.key = true := by
      rw [h1]
      show isM true (.text k) (.str k t) = true
      simp [isM, Leaf.isOf, Value.isStrOf]
    refine ⟨e.val :: us, v :: vs, by simp [q1], .cons h3 q2, fun ρ H => ⟨v, vs, rfl, h4 ρ H, q3 ρ H⟩, .cons hk rfl q4, fun e' he => ?_⟩
    rcases List.mem_cons.mp he with rfl | he
    · exact ⟨.text k, hk, h2⟩
    · exact q5 e' he
  | [], [], _ :: _, h => h.elim
  | [], _ :: _, _, h => h.elim
  | _ :: _, [], _, h => h.elim
  | _ :: _, _ :: _, [], h => h.elim
theorem krel_tab {a : Addr} {es : Array DictEntry} {n : Nat} {ks : List Str} {ds : List D} (l : K.lookup a = some ⟨.type "dict", none, .dict es n, #[]⟩) (hs : (a == sysModules) = false) (nd : ks.Nodup) (z : ks.length ≤ sizeLine) (h : TabEs P w K ks ds es.toList) : KRel P w K (.tab ks ds) (.ref a) := by
  obtain ⟨us, vs, q1, q2, q3, q4, q5⟩ := tabEs_of (ep := n) h
  refine ⟨.ref a, rfl, fun ρ H => ⟨a, us, vs, n, rfl, hs, z, q1, fun h' hk => ⟨_, es, hk _ _ l, ⟨rfl, rfl, rfl⟩, rfl, fun e he => q5 e (Array.mem_toList_iff.mpr he), q4, ?_⟩, q2, q3 ρ H⟩⟩
  have e : ((ks.map Leaf.text).zip us).map (·.1) = ks.map Leaf.text := by
    rw [List.map_fst_zip]
    rw [List.length_map, q1]; exact Nat.le_refl _
  rw [e]
  exact List.Pairwise.map _ (fun a b h z => h (by cases z; rfl)) nd
end
theorem got_any {P : Program} {w : World} {K : PySem.W.Frag} {mg : Str → Option Value} {h : Heap} {x : Str} {d : D} {u : Value} (KX : K.In h) (G : h.Ns mainGlobals mg) (a : PySem.W.nsIn K mainGlobals x = some (some u)) (r : KRel P w K d u) : GotV P w K mg x d := by
  obtain ⟨v, q1, q2⟩ := r
  exact gotv_mk KX G a q1 q2
def GotAll (P : Program) (w : World) (K : PySem.W.Frag) (mg : Str → Option Value) : List (Str × D) → Prop
  | [] => True
  | (x, d) :: l => GotV P w K mg x d ∧ GotAll P w K mg l
theorem gl_all {P : Program} {w : World} {K : PySem.W.Frag} {mg : Str → Option Value} : ∀ {l : List (Str × D)} {i : Nat} {x : Str} {d : D}, GotAll P w K mg l → l[i]? = some (x, d) → ∃ u v, mg x = some u ∧ RelV v u ∧ ∀ ρ H, RD (KW.mk P w K) ρ H d v
  | [], i, x, d, _, e => by simp at e
  | (y, d') :: l, 0, x, d, h, e => by cases e; exact h.1
  | (y, d') :: l, i + 1, x, d, h, e => gl_all (l := l) h.2 (by simpa using e)
def NoneAll (K : PySem.W.Frag) : List Str → Prop
  | [] => True
  | x :: l => PySem.W.nsIn K mainGlobals x = some none ∧ NoneAll K l
theorem nones {K : PySem.W.Frag} {mg : Str → Option Value} {h : Heap} (KX : K.In h) (G : h.Ns mainGlobals mg) : ∀ {l : List Str}, NoneAll K l → ∀ x ∈ l, mg x = none
  | [], _, x, hx => by cases hx
  | y :: l, a, x, hx => by
    rcases List.mem_cons.mp hx with rfl | hx
    · exact PySem.W.mg_none_of KX G a.1
    · exact nones KX G a.2 x hx
/-- how a def binds what it is given, some of it by keywords -/
theorem bindsK {K : PySem.W.Frag} {x qual : Str} {st : Stmt} {f : Addr} {fd : FuncData} {ps ks : List Str} {n : Nat} {perm : List Nat} (F : Fun K x qual st f fd)
    (h : ∀ (kV doc pm : Value) (an : Option Addr) (cdv ct : Value) (us ws : List Value), ws.length = ks.length → us.length + ws.length = n →
      bindArgs (PySem.W.fnOf x qual (defArgs st) (defBody st) (defScope st) .none kV doc pm an cdv ct) ⟨us, ks.zip ws⟩ = pure (ps.zip (Bo.pick perm (us ++ ws)))) :
    ∀ (s : Shared) (us ws : List Value), ws.length = ks.length → us.length + ws.length = n → BindsTo s fd ⟨us, ks.zip ws⟩ (ps.zip (Bo.pick perm (us ++ ws))) := by
  obtain ⟨oc, od, kV, doc, pm, an, cdv, ct, osl, rfl, lk, hcd⟩ := F.ex
  exact fun s us ws h1 h2 => .of_eq (h kV doc pm an cdv ct us ws h1 h2)
end Bo

set_option Elab.async false
set_option linter.all false
set_option maxRecDepth 100000
set_option maxHeartbeats 8000000
/-! Bo, part 16: operations under conditions that omega proves. -/
namespace Bo
open PySem PySem.Spec L2
/-! ### statements whose ends are left alone until it is their turn -/
def Tag (_ : DE) : Type := Unit
def tg {P : DE} : Tag P := ()
def W (T : Tab) (c : CS) (e : Envr) (s : Store) (P : DE) (_ : Tag P) : Prop := WS T c e s P
def FL (T : Tab) (b : CS) (t : TGt) (ok : Store → Prop) (l : List D) (e : Envr) (s : Store) (P : DE) (_ : Tag P) : Prop := forL (WS T b) t ok l e s P
section
variable {T : Tab} {env : Envr} {st : Store} {P : DE} {t0 : Tag P}
theorem w_skip : W T .skip env st P t0 = P.nx env st := Eq.trans rfl rfl
theorem w_seq {a b : CS} : W T (.seq a b) env st P t0 = W T a env st { P with nx := fun e s => W T b e s P t0 } tg := Eq.trans rfl rfl
theorem w_expr {e : CE} : W T (.expr e) env st P t0 = match ev T e env st with
    | some (_, st1) => P.nx env st1
    | none => False := ws_expr
theorem w_asg {t : TGt} {e : CE} : W T (.asg t e) env st P t0 = match ev T e env st with
    | some (d, st1) => match asgT t d env with
      | some env1 => P.nx env1 st1
      | none => False
    | none => False := ws_asg
theorem w_asgC {i : Nat} {e : CE} : W T (.asgC i e) env st P t0 = match ev T e env st with
    | some (d, st1) => P.nx (env.set i (some d)) st1
    | none => False := ws_asgC
theorem w_asg2 {i j : Nat} {a b : CE} : W T (.asg2 i j a b) env st P t0 = match ev T a env st with
    | some (d, st1) => match ev T b env st1 with
      | some (d', st2) => P.nx ((env.set i (some d)).set j (some d')) st2
      | none => False
    | none => False := ws_asg2
theorem w_setix {o i e : CE} : W T (.setix o i e) env st P t0 = match ev T e env st with
    | some (d, st1) => match ev T o env st1 with
      | some (x, st2) => match ev T i env st2 with
        | some (y, st3) => match setixD st3 x y d with
          | some st4 => P.nx env st4
          | none => False
        | none => False
      | none => False
    | none => False := ws_setix
theorem w_setix2 {o1 i1 o2 i2 e1 e2 : CE} : W T (.setix2 o1 i1 o2 i2 e1 e2) env st P t0 = match two T o1 i1 o2 i2 e1 e2 env st with
    | some st8 => P.nx env st8
    | none => False := ws_setix2
theorem w_aug {i : Nat} {op : BOp} {e : CE} : W T (.aug i op e) env st P t0 = match env[i]? with
    | some (some x) => match ev T e env st with
      | some (y, st1) => match augD op st1 x y with
        | some (z, st2) => P.nx (env.set i (some z)) st2
        | none => False
      | none => False
    | _ => False := ws_aug
theorem w_if {c : CE} {a b : CS} : W T (.iff c a b) env st P t0 = match evT T c env st with
    | some (k, st1) => if k = true then W T a env st1 P t0 else W T b env st1 P t0
    | none => False := ws_if
theorem w_for {t : TGt} {it : CI} {b : CS} : W T (.for_ t it b) env st P t0 = match evI T it env st with
    | some (src, st1) => FL T b t src.ok src.items env st1 P t0
    | none => False := ws_for
theorem w_ret {e : CE} : W T (.ret e) env st P t0 = match ev T e env st with
    | some (d, st1) => P.rt d st1
    | none => False := ws_ret
theorem w_retN : W T .retN env st P t0 = P.rt .non st := Eq.trans rfl rfl
theorem w_raise : W T .raise_ env st P t0 = False := Eq.trans rfl rfl
theorem w_brk : W T .brk env st P t0 = P.bk env st := Eq.trans rfl rfl
theorem w_cnt : W T .cnt env st P t0 = P.ct env st := Eq.trans rfl rfl
/-- a for by a word -/
theorem w_inv {b : CS} {t : TGt} {ok : Store → Prop} (items : List D) (Pv : Nat → Envr → Store → Prop) (h0 : Pv 0 env st)
    (turn : ∀ (i : Nat) d e s, items[i]? = some d → Pv i e s → match asgT t d e with
      | some e1 => W T b e1 s { nx := fun e s => ok s ∧ (ok s → Pv (i + 1) e s), ct := fun e s => ok s ∧ (ok s → Pv (i + 1) e s), bk := P.nx, rt := P.rt } tg
      | none => False)
    (fin : ∀ e s, Pv items.length e s → P.nx e s) : FL T b t ok items env st P t0 :=
  for_inv items Pv h0 turn fin
end
section
variable {st : Store}
theorem small_abs {i : Int} {n : Nat} (h1 : -(2 ^ n) ≤ i) (h2 : i ≤ 2 ^ n) : i.natAbs < 2 ^ (n + 1) := by
  have h3 : i ≤ ((2 ^ n : Nat) : Int) := by rw [Int.natCast_pow]; exact h2
  have h4 : -((2 ^ n : Nat) : Int) ≤ i := by rw [Int.natCast_pow]; exact h1
  have h5 : 0 < 2 ^ n := Nat.pos_of_ne_zero (by simp)
  rw [Nat.pow_succ]
  omega
theorem b_isi {d : D} {n : String} : BI.ev .isi st [d, .ty n] = match kindD st d with
    | some k => (match isiD k n with
      | some r => some (.bl r, st)
      | none => none)
    | none => none := by
  simp only [BI.ev, BI.ev2]
  cases kindD st d with
  | none => rfl
  | some k =>
    dsimp only
    cases isiD k n <;> rfl
theorem kd_tup {ds : List D} : kindD st (.tup ds) = some "tuple" := Eq.trans rfl rfl
theorem kd_lst {ds : List D} : kindD st (.lst ds) = some "list" := Eq.trans rfl rfl
theorem kd_str {x : Str} : kindD st (.str x) = some "str" := Eq.trans rfl rfl
theorem kd_int {i : Int} : kindD st (.int i) = some "int" := Eq.trans rfl rfl
theorem isi_same {k : String} : isiD k k = some true := if_pos rfl
theorem o_shl1 {b : Int} (h1 : 0 ≤ b) (h2 : b ≤ 1000000) : BOp.ev .shl st (.int 1) (.int b) = some (.int (1 * 2 ^ b.toNat), st) := by
  rw [o_shl, if_pos (shlOk_one h1 h2)]
/-- 2^128 -/
theorem o_mulS {a b : Int} (h1 : -340282366920938463463374607431768211456 ≤ a) (h2 : a ≤ 340282366920938463463374607431768211456) (h3 : -340282366920938463463374607431768211456 ≤ b) (h4 : b ≤ 340282366920938463463374607431768211456) :
    BOp.ev .mul st (.int a) (.int b) = some (.int (a * b), st) := by
  rw [o_mul, if_pos (mulOk_of (a := 129) (b := 129) (small_abs (n := 128) h1 h2) (small_abs (n := 128) h3 h4) (by decide) (by decide) (by decide))]
theorem o_fdivS {a b : Int} (h1 : 0 < b) (h2 : b ≤ 340282366920938463463374607431768211456) : BOp.ev .fdiv st (.int a) (.int b) = some (.int (a / b), st) := by
  rw [o_fdiv, if_pos (divOk_of (b := 129) h1 (small_abs (n := 128) (by omega) h2) (by decide) (by decide))]
theorem o_pow3 {a : Int} (h1 : -340282366920938463463374607431768211456 ≤ a) (h2 : a ≤ 340282366920938463463374607431768211456) : BOp.ev .pow st (.int a) (.int 3) = some (.int (a ^ 3), st) := by
  rw [o_pow, if_pos (powOk_of (a := 129) (by decide) (small_abs (n := 128) h1 h2) (by decide) (by decide))]
  rfl
theorem o_pow5 {a : Int} (h1 : -340282366920938463463374607431768211456 ≤ a) (h2 : a ≤ 340282366920938463463374607431768211456) : BOp.ev .pow st (.int a) (.int 5) = some (.int (a ^ 5), st) := by
  rw [o_pow, if_pos (powOk_of (a := 129) (by decide) (small_abs (n := 128) h1 h2) (by decide) (by decide))]
  rfl
theorem o_pow18 : BOp.ev .pow st (.int 10) (.int 18) = some (.int 1000000000000000000, st) := by
  rw [o_pow, if_pos (by decide)]
  rfl
theorem atI_0 {x0 : D} {xs : List D} : atI (x0 :: xs) (0 : Int) = some x0 := atI_nat (j := 0) rfl
theorem atI_1 {x0 x1 : D} {xs : List D} : atI (x0 :: x1 :: xs) (1 : Int) = some x1 := atI_nat (j := 1) rfl
theorem atI_2 {x0 x1 x2 : D} {xs : List D} : atI (x0 :: x1 :: x2 :: xs) (2 : Int) = some x2 := atI_nat (j := 2) rfl
theorem atI_3 {x0 x1 x2 x3 : D} {xs : List D} : atI (x0 :: x1 :: x2 :: x3 :: xs) (3 : Int) = some x3 := atI_nat (j := 3) rfl
theorem atI_4 {x0 x1 x2 x3 x4 : D} {xs : List D} : atI (x0 :: x1 :: x2 :: x3 :: x4 :: xs) (4 : Int) = some x4 := atI_nat (j := 4) rfl
theorem atI_5 {x0 x1 x2 x3 x4 x5 : D} {xs : List D} : atI (x0 :: x1 :: x2 :: x3 :: x4 :: x5 :: xs) (5 : Int) = some x5 := atI_nat (j := 5) rfl
theorem atI_6 {x0 x1 x2 x3 x4 x5 x6 : D} {xs : List D} : atI (x0 :: x1 :: x2 :: x3 :: x4 :: x5 :: x6 :: xs) (6 : Int) = some x6 := atI_nat (j := 6) rfl
theorem atI_7 {x0 x1 x2 x3 x4 x5 x6 x7 : D} {xs : List D} : atI (x0 :: x1 :: x2 :: x3 :: x4 :: x5 :: x6 :: x7 :: xs) (7 : Int) = some x7 := atI_nat (j := 7) rfl
theorem atI_8 {x0 x1 x2 x3 x4 x5 x6 x7 x8 : D} {xs : List D} : atI (x0 :: x1 :: x2 :: x3 :: x4 :: x5 :: x6 :: x7 :: x8 :: xs) (8 : Int) = some x8 := atI_nat (j := 8) rfl
theorem atI_9 {x0 x1 x2 x3 x4 x5 x6 x7 x8 x9 : D} {xs : List D} : atI (x0 :: x1 :: x2 :: x3 :: x4 :: x5 :: x6 :: x7 :: x8 :: x9 :: xs) (9 : Int) = some x9 := atI_nat (j := 9) rfl
def setAt (ds : List D) (k : Int) (d : D) : Option (List D) := (L2.ixN ds.length k).map fun j => ds.set j d
def setL (st : Store) (n : Nat) (ds : List D) (i d : D) : Option Store := match i with
  | .int k => match setAt ds k d with
    | some ds' => some (st.set n (.lst ds'))
    | none => none
  | _ => none
theorem setL_int {n : Nat} {ds : List D} {k : Int} {d : D} : setL st n ds (.int k) d = match setAt ds k d with
    | some ds' => some (st.set n (.lst ds'))
    | none => none := Eq.trans rfl rfl
theorem set_ixU {n : Nat} {i d : D} : setixD st (.obj n) i d = match st[n]? with
    | some (.lst ds) => setL st n ds i d
    | some (.dct m kvs) => if okK m i = true ∧ kvs.length < 16777216 then some (st.set n (.dct m (setK kvs i d))) else none
    | none => none := by
  rw [set_ix]
  cases h : st[n]? with
  | none => rfl
  | some o =>
    cases o with
    | lst ds =>
      dsimp only
      cases i with
      | int k =>
        simp only [setL, setAt]
        cases L2.ixN ds.length k <;> rfl
      | _ => rfl
    | dct m kvs =>
      simp only [Bool.and_eq_true, decide_eq_true_eq] <;> rfl
theorem m_appendU {n : Nat} {d : D} : MT.ev .append st (.obj n) [d] = match st[n]? with
    | some (.lst ds) => if ds.length < 16777216 then some (.non, st.set n (.lst (ds ++ [d]))) else none
    | _ => none := by
  rw [m_append]
  cases st[n]? with
  | none => rfl
  | some o =>
    cases o with
    | lst ds => simp only [decide_eq_true_eq]; rfl
    | dct _ _ => rfl
theorem setAt_0 {x0 d : D} {xs : List D} : setAt (x0 :: xs) 0 d = some (d :: xs) := by
  unfold setAt L2.ixN
  rw [if_pos (by decide), if_pos (by rw [List.length_cons]; omega)]
  rfl
theorem setAt_1 {x0 x1 d : D} {xs : List D} : setAt (x0 :: x1 :: xs) 1 d = some (x0 :: d :: xs) := by
  unfold setAt L2.ixN
  rw [if_pos (by decide), if_pos (by rw [List.length_cons, List.length_cons]; omega)]
  rfl
theorem setAt_2 {x0 x1 x2 d : D} {xs : List D} : setAt (x0 :: x1 :: x2 :: xs) 2 d = some (x0 :: x1 :: d :: xs) := by
  unfold setAt L2.ixN
  rw [if_pos (by decide), if_pos (by rw [List.length_cons, List.length_cons, List.length_cons]; omega)]
  rfl
theorem setAt_3 {x0 x1 x2 x3 d : D} {xs : List D} : setAt (x0 :: x1 :: x2 :: x3 :: xs) 3 d = some (x0 :: x1 :: x2 :: d :: xs) := by
  unfold setAt L2.ixN
  rw [if_pos (by decide), if_pos (by rw [List.length_cons, List.length_cons, List.length_cons, List.length_cons]; omega)]
  rfl
theorem setAt_4 {x0 x1 x2 x3 x4 d : D} {xs : List D} : setAt (x0 :: x1 :: x2 :: x3 :: x4 :: xs) 4 d = some (x0 :: x1 :: x2 :: x3 :: d :: xs) := by
  unfold setAt L2.ixN
  rw [if_pos (by decide), if_pos (by rw [List.length_cons, List.length_cons, List.length_cons, List.length_cons, List.length_cons]; omega)]
  rfl
theorem setAt_5 {x0 x1 x2 x3 x4 x5 d : D} {xs : List D} : setAt (x0 :: x1 :: x2 :: x3 :: x4 :: x5 :: xs) 5 d = some (x0 :: x1 :: x2 :: x3 :: x4 :: d :: xs) := by
  unfold setAt L2.ixN
  rw [if_pos (by decide), if_pos (by rw [List.length_cons, List.length_cons, List.length_cons, List.length_cons, List.length_cons, List.length_cons]; omega)]
  rfl
theorem ei_rng1S {T : Tab} {env : Envr} {a : CE} {j : Int} {st1 : Store} (h : ev T a env st = some (.int j, st1)) (h1 : -1000000 ≤ j) (h2 : j ≤ 1000000) : evI T (.rng1 a) env st = some (⟨rngD 0 j, none⟩, st1) := by
  rw [ei_rng1, h]
  dsimp only
  rw [if_pos]
  rw [Bool.and_eq_true]
  refine ⟨?_, ?_⟩
  · unfold rngOk
    rw [Bool.and_eq_true]
    exact ⟨decide_eq_true (by omega), decide_eq_true (by omega)⟩
  · unfold lineOk
    exact decide_eq_true (by unfold sizeLine; omega)
theorem atI_in {ds : List D} {i : Int} (h1 : 0 ≤ i) (h2 : i < ds.length) : ∃ d, atI ds i = some d ∧ d ∈ ds := by
  obtain ⟨j, rfl⟩ : ∃ j : Nat, i = j := ⟨i.toNat, by omega⟩
  have h3 : j < ds.length := by omega
  exact ⟨ds[j], atI_nat (List.getElem?_eq_getElem h3), List.getElem_mem h3⟩
theorem atI_int {ds : List D} {j : Nat} : atI ds (j : Int) = ds[j]? := by
  cases h : ds[j]? with
  | some d => exact atI_nat h
  | none =>
    rw [List.getElem?_eq_none_iff] at h
    unfold atI L2.ixN
    rw [if_pos (by omega), if_neg (by omega)]
    rfl
end
theorem rng_ok1 {j : Int} (h1 : -1000000 ≤ j) (h2 : j ≤ 1000000) : (rngOk j && lineOk j.toNat) = true := by
  rw [Bool.and_eq_true]
  refine ⟨?_, ?_⟩
  · unfold rngOk
    rw [Bool.and_eq_true]
    exact ⟨decide_eq_true (by omega), decide_eq_true (by omega)⟩
  · unfold lineOk
    exact decide_eq_true (by unfold sizeLine; omega)
/-- ranges -/
theorem rng_get {a b : Int} {i : Nat} {d : D} (h : (rngD a b)[i]? = some d) : d = .int (a + (i : Nat)) ∧ (i : Int) < b - a := by
  unfold rngD at h
  rw [List.getElem?_map, Option.map_eq_some_iff] at h
  obtain ⟨k, h1, h2⟩ := h
  have h3 := (List.getElem?_eq_some_iff.mp h1).1
  rw [List.length_range] at h3
  rw [List.getElem?_range h3] at h1
  cases h1
  exact ⟨h2.symm, by omega⟩
theorem rng_len {a b : Int} : (rngD a b).length = (b - a).toNat := by
  simp [rngD]
def isWord (w : Int) : D → Bool
  | .int i => decide (0 ≤ i ∧ i < 2 ^ w.toNat)
  | _ => false
theorem isWord_int {w i : Int} : isWord w (.int i) = true ↔ 0 ≤ i ∧ i < 2 ^ w.toNat := decide_eq_true_iff
end Bo

set_option Elab.async false
set_option linter.all false
set_option maxRecDepth 100000
set_option maxHeartbeats 8000000
/-! Bo, part 17: the laws' pools. -/
namespace Bo
open PySem PySem.Spec L2
structure Pool where
  a : Int
  b : Int
  c : Int
def Pool.o (p : Pool) : O := .lst [.int p.a, .int p.b, .int p.c]
/-- a pool from which at most n were drawn by the second way -/
structure Pool.ok (n : Nat) (p : Pool) : Prop where
  a : 0 ≤ p.a
  b0 : 0 ≤ p.b
  b1 : p.b < 2 ^ 100
  c0 : 0 ≤ p.c
  c1 : p.c ≤ n
/-- a pool stands at k -/
def Pl (st : Store) (k n : Nat) : Prop := ∃ p : Pool, st[k]? = some p.o ∧ p.ok n
theorem Pl.mono {st : Store} {k n m : Nat} (h : Pl st k n) (hm : n ≤ m) : Pl st k m := by
  obtain ⟨p, h1, h2⟩ := h
  exact ⟨p, h1, h2.a, h2.b0, h2.b1, h2.c0, by have := h2.c1; omega⟩
theorem Pl.lt {st : Store} {k n : Nat} (h : Pl st k n) : k < st.length := by
  obtain ⟨p, h1, _⟩ := h
  exact (List.getElem?_eq_some_iff.mp h1).1
theorem Pl.app {st g : Store} {k n : Nat} (h : Pl st k n) : Pl (st ++ g) k n := by
  obtain ⟨p, h1, h2⟩ := h
  exact ⟨p, by rw [List.getElem?_append_left (List.getElem?_eq_some_iff.mp h1).1]; exact h1, h2⟩
/-- up to c draws later -/
def Dr (st : Store) (k : Nat) (s : Store) (c : Nat) : Prop := (∃ p : Pool, s = st.set k p.o) ∧ ∀ n, Pl st k n → Pl s k (n + c)
theorem Dr.refl {st : Store} {k n : Nat} (h : Pl st k n) : Dr st k st 0 := by
  obtain ⟨p, h1, h2⟩ := h
  have hl := (List.getElem?_eq_some_iff.mp h1)
  exact ⟨⟨p, by rw [← hl.2, List.set_getElem_self]⟩, fun n h => h⟩
theorem Dr.trans {st s s' : Store} {k c c' : Nat} (h : Dr st k s c) (h' : Dr s k s' c') : Dr st k s' (c + c') := by
  obtain ⟨⟨p, h1⟩, h2⟩ := h
  obtain ⟨⟨q, h3⟩, h4⟩ := h'
  refine ⟨⟨q, by rw [h3, h1, List.set_set]⟩, fun n h => ?_⟩
  rw [← Nat.add_assoc]
  exact h4 _ (h2 _ h)
theorem Dr.mono {st s : Store} {k c c' : Nat} (h : Dr st k s c) (hc : c ≤ c') : Dr st k s c' := ⟨h.1, fun n q => (h.2 n q).mono (by omega)⟩
theorem Dr.pl {st s : Store} {k c n : Nat} (h : Dr st k s c) (q : Pl st k n) : Pl s k (n + c) := h.2 n q
theorem Dr.len {st s : Store} {k c : Nat} (h : Dr st k s c) : s.length = st.length := by
  obtain ⟨⟨p, h1⟩, _⟩ := h
  rw [h1, List.length_set]
/-- drawn while there was more in the store -/
theorem Dr.app {st g s : Store} {k c n : Nat} (q : Pl st k n) (h : Dr (st ++ g) k s c) : ∃ s', s = s' ++ g ∧ Dr st k s' c := by
  obtain ⟨⟨p, h1⟩, h2⟩ := h
  have hk := q.lt
  rw [List.set_append_left k p.o hk] at h1
  refine ⟨st.set k p.o, h1, ⟨p, rfl⟩, fun n q => ?_⟩
  obtain ⟨p', h3, h4⟩ := h2 n q.app
  refine ⟨p', ?_, h4⟩
  rw [h1, List.getElem?_append_left (by rw [List.length_set]; exact hk)] at h3
  exact h3
theorem drawn_trunc {st g s : Store} {k c : Nat} (h : Dr st k s c) : Trunc st (s ++ g) s := by
  obtain ⟨⟨p, h1⟩, _⟩ := h
  refine ⟨by rw [h1, List.length_set], fun i o e => ⟨by rw [List.getElem?_append_left (List.getElem?_eq_some_iff.mp e).1]; exact e, ?_⟩⟩
  rw [h1, List.getElem?_set] at e
  split at e
  · split at e
    · cases e
      exact .inr rfl
    · cases e
  · exact .inl e
/-- a plain value, after draws; what was made is forgotten -/
theorem ret_drawn {st g s : Store} {k c : Nat} {d : D} (h : Dr st k s c) (hd : pureD d = true) : RetOk st d (s ++ g) d s := .inr ⟨s, drawn_trunc h, .inl ⟨rfl, hd, rfl⟩⟩
/-- a thing made here, given away for good -/
theorem ret_made {st g s : Store} {k c : Nat} {ds : List D} {j : Nat} (h : Dr st k s c) (hj : s.length ≤ j) (hg : (s ++ g)[j]? = some (.lst ds)) (hd : pureDs ds = true) : RetOk st (.obj j) (s ++ g) (.lst ds) s :=
  .inr ⟨s, drawn_trunc h, .inr ⟨j, ds, rfl, by have := h.len; omega, hg, hd, .inl ⟨rfl, rfl⟩⟩⟩
/-- the numbers that may be drawn from -/
def Many (m : Int) : Prop := 0 < m ∧ m ≤ 2 ^ 2000
theorem many_small {m : Int} (h : 0 < m) (h2 : m ≤ 1000000000000000000000000000000) : Many m := ⟨h, by
  have : (1000000000000000000000000000000 : Int) ≤ 2 ^ 2000 := by decide +kernel
  omega⟩
theorem pow_le_2 {a b : Nat} (h : a ≤ b) : (2 : Int) ^ a ≤ 2 ^ b := by
  have := Nat.pow_le_pow_right (by decide : 0 < 2) h
  exact_mod_cast this
theorem pow_pos2 {a : Nat} : (0 : Int) < 2 ^ a := by
  have : 0 < 2 ^ a := Nat.pos_of_ne_zero (by simp)
  exact_mod_cast this
theorem many_pow {w : Nat} (h : w ≤ 2000) : Many (2 ^ w) := ⟨pow_pos2, pow_le_2 h⟩
end Bo

set_option Elab.async false
set_option linter.all false
set_option maxRecDepth 100000
set_option maxHeartbeats 8000000
/-! Bo, part 18: plain data: comparing it, showing it. -/
namespace Bo
open PySem PySem.Spec L2
mutual
def pd : D → PyData
  | .non => .none
  | .bl b => .bool b
  | .int i => .int i
  | .str s => .str s
  | .tup ds => .tuple (pds ds)
  | .lst ds => .list (pds ds)
  | .obj _ => .none
  | .ty _ => .none
  | .tab _ _ => .none
def pds : List D → List PyData
  | [] => []
  | d :: ds => pd d :: pds ds
end
mutual
/-- no thing of the store, no odd string, no overlong number -/
def fineD : D → Bool
  | .non => true
  | .bl _ => true
  | .int i => decide (i.natAbs < 2 ^ 1900)
  | .str s => s.cps.all (· < 0x110000)
  | .tup ds => fineDs ds
  | .lst ds => fineDs ds
  | .obj _ => false
  | .ty _ => false
  | .tab _ _ => false
def fineDs : List D → Bool
  | [] => true
  | d :: ds => fineD d && fineDs ds
end
mutual
def dpt : D → Nat
  | .tup ds => dpts ds + 1
  | .lst ds => dpts ds + 1
  | _ => 0
def dpts : List D → Nat
  | [] => 0
  | d :: ds => max (dpt d) (dpts ds)
end
mutual
def blk : D → Nat
  | .str x => x.cps.size
  | .tup ds => blks ds
  | .lst ds => blks ds
  | _ => 0
def blks : List D → Nat
  | [] => 0
  | d :: ds => blk d + 1 + blks ds
end
mutual
/-- no truth values -/
def nobl : D → Bool
  | .bl _ => false
  | .tup ds => nobls ds
  | .lst ds => nobls ds
  | .obj _ => false
  | .ty _ => false
  | .tab _ _ => false
  | _ => true
def nobls : List D → Bool
  | [] => true
  | d :: ds => nobl d && nobls ds
end
section
mutual
theorem toPF_fine {f : Nat → Option PyData} : ∀ d : D, fineD d = true → toPF f d = some (pd d)
  | .non, _ => by simp only [toPF, pd]
  | .bl _, _ => by simp only [toPF, pd]
  | .int _, _ => by simp only [toPF, pd]
  | .str _, _ => by simp only [toPF, pd]
  | .tup ds, h => by
    simp only [fineD] at h
    simp only [toPF, pd, toPFs_fine ds h]
  | .lst ds, h => by
    simp only [fineD] at h
    simp only [toPF, pd, toPFs_fine ds h]
  | .obj _, h => by simp [fineD] at h
  | .ty _, h => by simp [fineD] at h
  | .tab _ _, h => by simp [fineD] at h
theorem toPFs_fine {f : Nat → Option PyData} : ∀ ds : List D, fineDs ds = true → toPFs f ds = some (pds ds)
  | [], _ => by simp only [toPFs, pds]
  | d :: ds, h => by
    simp only [fineDs, Bool.and_eq_true] at h
    simp only [toPFs, pds, toPF_fine d h.1, toPFs_fine ds h.2]
end
theorem toP_fine {st : Store} {d : D} (h : fineD d = true) : toP st d = some (pd d) := toPF_fine d h
theorem toP_obj {st : Store} {n : Nat} {ds : List D} (e : st[n]? = some (.lst ds)) (h : fineDs ds = true) : toP st (.obj n) = some (pd (.lst ds)) := by
  show toPF (deref st 3) (.obj n) = _
  simp only [toPF, deref, e, toPFs_fine ds h, pd]
mutual
theorem canLay_fine : ∀ d : D, fineD d = true → (pd d).canLay0 = true
  | .non, _ => by simp only [pd, PyData.canLay0]
  | .bl _, _ => by simp only [pd, PyData.canLay0]
  | .int _, _ => by simp only [pd, PyData.canLay0]
  | .str _, h => by simp only [fineD] at h; simpa only [pd, PyData.canLay0, PyData.strOk] using h
  | .tup ds, h => by
    simp only [fineD] at h
    simp only [pd, PyData.canLay0]
    exact canLays_fine ds h
  | .lst ds, h => by
    simp only [fineD] at h
    simp only [pd, PyData.canLay0]
    exact canLays_fine ds h
  | .obj _, h => by simp [fineD] at h
  | .ty _, h => by simp [fineD] at h
  | .tab _ _, h => by simp [fineD] at h
theorem canLays_fine : ∀ ds : List D, fineDs ds = true → PyData.canLayAll0 (pds ds) = true
  | [], _ => by simp only [pds, PyData.canLayAll0]
  | d :: ds, h => by
    simp only [fineDs, Bool.and_eq_true] at h
    simp only [pds, PyData.canLayAll0, canLay_fine d h.1, canLays_fine ds h.2, Bool.and_self]
end
mutual
theorem depth_pd : ∀ d : D, (pd d).depth = dpt d
  | .non => by simp only [pd, PyData.depth, dpt]
  | .bl _ => by simp only [pd, PyData.depth, dpt]
  | .int _ => by simp only [pd, PyData.depth, dpt]
  | .str _ => by simp only [pd, PyData.depth, dpt]
  | .obj _ => by simp only [pd, PyData.depth, dpt]
  | .ty _ => by simp only [pd, PyData.depth, dpt]
  | .tab _ _ => by simp only [pd, PyData.depth, dpt]
  | .tup ds => by simp only [pd, PyData.depth, dpt, depth_pds ds]
  | .lst ds => by simp only [pd, PyData.depth, dpt, depth_pds ds]
theorem depth_pds : ∀ ds : List D, PyData.depthAll (pds ds) = dpts ds
  | [] => by simp only [pds, PyData.depthAll, dpts]
  | d :: ds => by simp only [pds, PyData.depthAll, dpts, depth_pd d, depth_pds ds]
end
mutual
theorem bulk_pd : ∀ d : D, (pd d).bulk = blk d
  | .non => by simp only [pd, PyData.bulk, blk]
  | .bl _ => by simp only [pd, PyData.bulk, blk]
  | .int _ => by simp only [pd, PyData.bulk, blk]
  | .str _ => by simp only [pd, PyData.bulk, blk]
  | .obj _ => by simp only [pd, PyData.bulk, blk]
  | .ty _ => by simp only [pd, PyData.bulk, blk]
  | .tab _ _ => by simp only [pd, PyData.bulk, blk]
  | .tup ds => by simp only [pd, PyData.bulk, blk, bulk_pds ds]
  | .lst ds => by simp only [pd, PyData.bulk, blk, bulk_pds ds]
theorem bulk_pds : ∀ ds : List D, PyData.bulkAll (pds ds) = blks ds
  | [] => by simp only [pds, PyData.bulkAll, blks]
  | d :: ds => by simp only [pds, PyData.bulkAll, blks, bulk_pd d, bulk_pds ds]
end
theorem shaped_fine {d : D} (h : fineD d = true) (h2 : dpt d ≤ 64) : okP (pd d) = true := by
  unfold okP SeqAt.shaped
  rw [Bool.and_eq_true]
  exact ⟨canLay_fine d h, decide_eq_true (by rw [depth_pd]; exact h2)⟩
mutual
theorem eqv_refl : ∀ d : PyData, d.canLay0 = true → PyData.eqv d d = true
  | .none, _ => by simp [PyData.eqv]
  | .bool _, _ => by simp [PyData.eqv]
  | .int _, _ => by simp [PyData.eqv]
  | .str _, _ => by simp [PyData.eqv]
  | .list xs, h => by
    simp only [PyData.canLay0] at h
    simp only [PyData.eqv, eqvs_refl xs h]
  | .tuple xs, h => by
    simp only [PyData.canLay0] at h
    simp only [PyData.eqv, eqvs_refl xs h]
  | .dict _, h => by simp [PyData.canLay0] at h
theorem eqvs_refl : ∀ ds : List PyData, PyData.canLayAll0 ds = true → PyData.eqvAll ds ds = true
  | [], _ => by simp only [PyData.eqvAll]
  | d :: ds, h => by
    simp only [PyData.canLayAll0, Bool.and_eq_true] at h
    simp only [PyData.eqvAll, eqv_refl d h.1, eqvs_refl ds h.2, Bool.and_self]
end
mutual
/-- things without truth values: equal are the same -/
theorem eqv_nobl : ∀ a b : D, nobl a = true → nobl b = true → PyData.eqv (pd a) (pd b) = true → a = b
  | .non, b, _, hb, h => by
    cases b <;> simp_all [pd, PyData.eqv, nobl]
  | .int i, b, _, hb, h => by
    cases b <;> simp_all [pd, PyData.eqv, nobl]
  | .str s, b, _, hb, h => by
    cases b <;> simp_all [pd, PyData.eqv, nobl]
  | .bl _, b, ha, _, _ => by simp [nobl] at ha
  | .obj _, b, ha, _, _ => by simp [nobl] at ha
  | .ty _, b, ha, _, _ => by simp [nobl] at ha
  | .tab _ _, b, ha, _, _ => by simp [nobl] at ha
  | .tup xs, b, ha, hb, h => by
    cases b with
    | tup ys =>
      simp only [pd, PyData.eqv, nobl] at h ha hb
      rw [eqvs_nobl xs ys ha hb h]
    | _ => simp_all [pd, PyData.eqv, nobl]
  | .lst xs, b, ha, hb, h => by
    cases b with
    | lst ys =>
      simp only [pd, PyData.eqv, nobl] at h ha hb
      rw [eqvs_nobl xs ys ha hb h]
    | _ => simp_all [pd, PyData.eqv, nobl]
theorem eqvs_nobl : ∀ a b : List D, nobls a = true → nobls b = true → PyData.eqvAll (pds a) (pds b) = true → a = b
  | [], [], _, _, _ => rfl
  | [], b :: bs, _, _, h => by simp [pds, PyData.eqvAll] at h
  | a :: as, [], _, _, h => by simp [pds, PyData.eqvAll] at h
  | a :: as, b :: bs, ha, hb, h => by
    simp only [nobls, Bool.and_eq_true] at ha hb
    simp only [pds, PyData.eqvAll, Bool.and_eq_true] at h
    rw [eqv_nobl a b ha.1 hb.1 h.1, eqvs_nobl as bs ha.2 hb.2 h.2]
end
open Classical in
theorem deepEq_fine {st : Store} {a b : D} (ha : fineD a = true) (hb : fineD b = true) (da : dpt a ≤ 64) (db : dpt b ≤ 64) (na : nobl a = true) (nb : nobl b = true) : deepEq st a b = some (decide (a = b)) := by
  unfold deepEq
  rw [toP_fine ha, toP_fine hb]
  dsimp only
  rw [shaped_fine ha da, shaped_fine hb db, if_pos (by decide)]
  congr 1
  rw [Bool.eq_iff_iff, decide_eq_true_iff]
  refine ⟨eqv_nobl a b na nb, fun h => ?_⟩
  subst h
  exact eqv_refl _ (canLay_fine a ha)
end
/-! ### showing -/
theorem nat_lt_pow10 {n : Nat} (h : n < 2 ^ 1900) : n < 10 ^ 600 := Nat.lt_trans h (by decide +kernel)
theorem str_int {i : Int} (h : i.natAbs < 2 ^ 1900) : (PyData.shown (.int i)).length ≤ 700 := by
  show (Str.ofString (toString i)).length ≤ 700
  by_cases h0 : 0 ≤ i
  · refine Nat.le_trans (PyProof.Rows.toString_length_le (k := 600) h0 (by decide) ?_) (by decide)
    have := nat_lt_pow10 h
    have e : (10 : Int) ^ 600 = ((10 ^ 600 : Nat) : Int) := by rw [Int.natCast_pow]; rfl
    rw [e]
    omega
  · have hn : 0 ≤ -i := by omega
    have h2 := PyProof.Rows.toString_length_le (v := -i) (k := 600) hn (by decide) (by
      have := nat_lt_pow10 h
      have e : (10 : Int) ^ 600 = ((10 ^ 600 : Nat) : Int) := by rw [Int.natCast_pow]; rfl
      rw [e]
      omega)
    obtain ⟨n, hn⟩ : ∃ n : Nat, i = Int.negSucc n := ⟨i.natAbs - 1, by omega⟩
    subst hn
    have e1 : toString (Int.negSucc n) = "-" ++ toString (n + 1) := rfl
    have e2 : toString (-(Int.negSucc n)) = toString (n + 1) := rfl
    rw [e2, PyProof.Rows.ofString_length] at h2
    rw [e1, PyProof.Rows.ofString_length, String.toList_append, List.length_append]
    have e3 : ("-" : String).toList.length = 1 := by decide
    omega
mutual
theorem leaves_fine : ∀ d : D, fineD d = true → (pd d).leavesShort 700 = true
  | .non, _ => by simp only [pd, PyData.leavesShort]
  | .bl _, _ => by simp only [pd, PyData.leavesShort]
  | .int i, h => by
    simp only [fineD] at h
    simp only [pd, PyData.leavesShort]
    exact decide_eq_true (str_int (of_decide_eq_true h))
  | .str s, h => by
    simp only [fineD] at h
    simp only [pd, PyData.leavesShort]
    rw [List.all_eq_true]
    intro c hc
    rw [Array.all_eq_true_iff_forall_mem] at h
    have := of_decide_eq_true (h c (by simpa using hc))
    exact decide_eq_true (by omega)
  | .tup ds, h => by
    simp only [fineD] at h
    simp only [pd, PyData.leavesShort]
    exact leavess_fine ds h
  | .lst ds, h => by
    simp only [fineD] at h
    simp only [pd, PyData.leavesShort]
    exact leavess_fine ds h
  | .obj _, h => by simp [fineD] at h
  | .ty _, h => by simp [fineD] at h
  | .tab _ _, h => by simp [fineD] at h
theorem leavess_fine : ∀ ds : List D, fineDs ds = true → PyData.leavesShortAll 700 (pds ds) = true
  | [], _ => by simp only [pds, PyData.leavesShortAll]
  | d :: ds, h => by
    simp only [fineDs, Bool.and_eq_true] at h
    simp only [pds, PyData.leavesShortAll, leaves_fine d h.1, leavess_fine ds h.2, Bool.and_self]
end
mutual
theorem show_fine : ∀ d : D, fineD d = true → (pd d).showable = true
  | .non, _ => by simp only [pd, PyData.showable]
  | .bl _, _ => by simp only [pd, PyData.showable]
  | .int i, h => by
    simp only [fineD] at h
    simp only [pd, PyData.showable]
    exact decide_eq_true (Nat.lt_of_lt_of_le (PySem.Flt.log2_lt_of (k := 1900) (by decide) (of_decide_eq_true h)) (by decide))
  | .str s, h => by simp only [pd, PyData.showable]
  | .tup ds, h => by
    simp only [fineD] at h
    simp only [pd, PyData.showable]
    exact shows_fine ds h
  | .lst ds, h => by
    simp only [fineD] at h
    simp only [pd, PyData.showable]
    exact shows_fine ds h
  | .obj _, h => by simp [fineD] at h
  | .ty _, h => by simp [fineD] at h
  | .tab _ _, h => by simp [fineD] at h
theorem shows_fine : ∀ ds : List D, fineDs ds = true → PyData.showableAll (pds ds) = true
  | [], _ => by simp only [pds, PyData.showableAll]
  | d :: ds, h => by
    simp only [fineDs, Bool.and_eq_true] at h
    simp only [pds, PyData.showableAll, show_fine d h.1, shows_fine ds h.2, Bool.and_self]
end
def isDsp : D → Bool
  | .tup _ => true
  | .lst _ => true
  | _ => false
/-- what repr can show here -/
def repOk (d : D) : Prop := fineD d = true ∧ dpt d ≤ 64 ∧ blk d ≤ 20000 ∧ isDsp d = true
theorem shown_fine {d : D} (h : repOk d) : shownOk (pd d) = true := by
  obtain ⟨h1, h2, h3, h4⟩ := h
  unfold shownOk
  have hd : PyProof.Rows.isDisplay (pd d) = true := by
    cases d <;> first | (simp only [pd]; rfl) | exact absurd h4 (by simp [isDsp])
  rw [show_fine d h1, PyData.hasDict_of_canLay _ (canLay_fine d h1), hd, depth_pd]
  have hb := PyData.shown_le_bulk 700 (by decide) (pd d) (leaves_fine d h1)
  rw [bulk_pd] at hb
  have : lineOk (pd d).shown.length = true := decide_eq_true (by unfold sizeLine; omega)
  rw [this, decide_eq_true h2]
  rfl
theorem b_reprF {st : Store} {d : D} (h : repOk d) : BI.ev .repr st [d] = some (.str (pd d).shown, st) := by
  rw [b_repr, toP_fine h.1]
  dsimp only
  rw [if_pos (shown_fine h)]
end Bo

set_option Elab.async false
set_option linter.all false
set_option maxRecDepth 100000
set_option maxHeartbeats 8000000
/-! Bo, part 19: lists of numbers; the last thing of the store. -/
namespace Bo
open PySem PySem.Spec L2
theorem closed_ints {n : Nat} : ∀ xs : List Int, closedDs n (xs.map D.int) = true
  | [] => rfl
  | x :: xs => by simp only [List.map_cons, closedDs, closedD, closed_ints xs, Bool.and_self]
theorem dpts_ints : ∀ xs : List Int, dpts (xs.map D.int) = 0
  | [] => rfl
  | x :: xs => by simp only [List.map_cons, dpts, dpt, dpts_ints xs, Nat.max_self]
theorem nobls_ints : ∀ xs : List Int, nobls (xs.map D.int) = true
  | [] => rfl
  | x :: xs => by simp only [List.map_cons, nobls, nobl, nobls_ints xs, Bool.and_self]
theorem blks_ints : ∀ xs : List Int, blks (xs.map D.int) = xs.length
  | [] => rfl
  | x :: xs => by simp only [List.map_cons, blks, blk, blks_ints xs, List.length_cons]; omega
/-- words of some width -/
def Words (w : Nat) (xs : List Int) : Prop := ∀ x ∈ xs, 0 ≤ x ∧ x < 2 ^ w
theorem Words.nil {w : Nat} : Words w [] := fun x h => by cases h
theorem Words.snoc {w : Nat} {xs : List Int} {x : Int} (h : Words w xs) (h0 : 0 ≤ x) (h1 : x < 2 ^ w) : Words w (xs ++ [x]) := fun y hy => by
  rcases List.mem_append.mp hy with hy | hy
  · exact h y hy
  · rw [List.mem_singleton.mp hy]; exact ⟨h0, h1⟩
theorem fine_int {w : Nat} {x : Int} (h0 : 0 ≤ x) (h1 : x < 2 ^ w) (hw : w ≤ 1900) : x.natAbs < 2 ^ 1900 := by
  have h2 := pow_le_2 hw
  have e : ((2 ^ 1900 : Nat) : Int) = 2 ^ 1900 := by rw [Int.natCast_pow]; rfl
  omega
theorem Words.fine {w : Nat} (hw : w ≤ 1900) : ∀ {xs : List Int}, Words w xs → fineDs (xs.map D.int) = true
  | [], _ => rfl
  | x :: xs, h => by
    have hx := h x (List.mem_cons_self ..)
    simp only [List.map_cons, fineDs, fineD, Bool.and_eq_true]
    exact ⟨decide_eq_true (fine_int hx.1 hx.2 hw), Words.fine hw fun y hy => h y (List.mem_cons_of_mem _ hy)⟩
theorem Words.all {w : Int} : ∀ {xs : List Int}, Words w.toNat xs → (xs.map D.int).all (isWord w) = true
  | [], _ => rfl
  | x :: xs, h => by
    have hx := h x (List.mem_cons_self ..)
    simp only [List.map_cons, List.all_cons, Bool.and_eq_true]
    exact ⟨isWord_int.mpr hx, Words.all fun y hy => h y (List.mem_cons_of_mem _ hy)⟩
theorem last_get {s : Store} {o : O} {n : Nat} (h : s.length = n) : (s ++ [o])[n]? = some o := by
  subst h
  simp
theorem last_set {s : Store} {o o' : O} {n : Nat} (h : s.length = n) : (s ++ [o]).set n o' = s ++ [o'] := by
  subst h
  rw [List.set_append_right _ _ (Nat.le_refl _), Nat.sub_self]
  rfl
section
variable {st : Store}
theorem len_obj {st : Store} {n : Nat} : lenD st (.obj n) = match st[n]? with
    | some (.lst ds) => some ds.length
    | some (.dct (.lf _) kvs) => some kvs.length
    | _ => none := Eq.trans rfl rfl
theorem eqD_nil {n : Nat} {ds : List D} (e : st[n]? = some (.lst ds)) (h : fineDs ds = true) (h2 : dpts ds ≤ 60) : eqD st (.obj n) (.lst []) = some ds.isEmpty := by
  show deepEq st (.obj n) (.lst []) = _
  unfold deepEq
  rw [toP_obj e h, toP_fine (d := .lst []) rfl]
  dsimp only
  have a1 : okP (pd (.lst ds)) = true := shaped_fine (by simpa only [fineD] using h) (by simp only [dpt]; omega)
  rw [a1, shaped_fine (d := .lst []) rfl (by decide), if_pos (by decide)]
  cases ds with
  | nil => rfl
  | cons d ds => simp [pd, pds, PyData.eqv, PyData.eqvAll]
open Classical in
theorem eqD_tt {a b : List D} (ha : fineDs a = true) (hb : fineDs b = true) (da : dpts a ≤ 60) (db : dpts b ≤ 60) (na : nobls a = true) (nb : nobls b = true) : eqD st (.tup a) (.tup b) = some (decide (a = b)) := by
  show deepEq st (.tup a) (.tup b) = _
  rw [deepEq_fine (by simpa only [fineD] using ha) (by simpa only [fineD] using hb) (by simp only [dpt]; omega) (by simp only [dpt]; omega) (by simpa only [nobl] using na) (by simpa only [nobl] using nb)]
  simp
open Classical in
theorem eqD_ll {a b : List D} (ha : fineDs a = true) (hb : fineDs b = true) (da : dpts a ≤ 60) (db : dpts b ≤ 60) (na : nobls a = true) (nb : nobls b = true) : eqD st (.lst a) (.lst b) = some (decide (a = b)) := by
  show deepEq st (.lst a) (.lst b) = _
  rw [deepEq_fine (by simpa only [fineD] using ha) (by simpa only [fineD] using hb) (by simp only [dpt]; omega) (by simp only [dpt]; omega) (by simpa only [nobl] using na) (by simpa only [nobl] using nb)]
  simp
end
end Bo

set_option Elab.async false
set_option linter.all false
set_option maxRecDepth 100000
set_option maxHeartbeats 8000000
/-! Bo, part 20: comprehensions over known items. -/
namespace Bo
open PySem PySem.Spec L2
/-- the highest bit changed -/
theorem xor_top {x : Int} {k : Nat} (h0 : 0 ≤ x) (h1 : x < 2 * 2 ^ k) : Builtin.bitXor x (2 ^ k) = if x < 2 ^ k then x + 2 ^ k else x - 2 ^ k := by
  have p : (0 : Int) < 2 ^ k := pow_pos2
  split
  · rename_i h
    have o := Bits.bitOr_join (a := x) (b := 1) (k := k) h0 h (by decide)
    rw [Int.one_mul] at o
    have a := PyProof.Rows.bitXor_and x (2 ^ k)
    have b : Builtin.bitXor x (2 ^ k) = Builtin.bitOr x (2 ^ k) - Builtin.bitAnd x (2 ^ k) := rfl
    omega
  · rename_i h
    have q : x / 2 ^ k = 1 := by
      have e := Int.mul_ediv_add_emod x (2 ^ k)
      have r0 := Int.emod_nonneg x (show (2 : Int) ^ k ≠ 0 by omega)
      have r1 := Int.emod_lt_of_pos x p
      have d0 : 0 ≤ x / 2 ^ k := Int.ediv_nonneg h0 (by omega)
      have d1 : x / 2 ^ k < 2 := Int.ediv_lt_of_lt_mul p (by omega)
      have d2 : ¬ x / 2 ^ k < 1 := fun z => by
        have z0 : x / 2 ^ k = 0 := by omega
        rw [z0, Int.mul_zero] at e
        omega
      omega
    have y := xor_high k h0
    rw [q, Int.one_mul] at y
    have e := Int.mul_ediv_add_emod x (2 ^ k)
    rw [q, Int.mul_one] at e
    rw [y]
    omega
section
variable {T : Tab} {env : Envr} {st : Store}
theorem step_none {elt : CE} {t : TGt} {d : D} : stepC T elt t .none env d st = match asgT t d env with
    | none => none
    | some env2 => match ev T elt env2 st with
      | some (r, st3) => some (some r, st3)
      | none => none := by
  unfold stepC
  cases asgT t d env with
  | none => rfl
  | some e => simp only [evC] <;> rfl
theorem step_some {elt c : CE} {t : TGt} {d : D} : stepC T elt t (.some c) env d st = match asgT t d env with
    | none => none
    | some env2 => match evT T c env2 st with
      | some (k, st2) => if k = true then (match ev T elt env2 st2 with
        | some (r, st3) => some (some r, st3)
        | none => none) else some (none, st2)
      | none => none := by
  unfold stepC
  cases asgT t d env with
  | none => rfl
  | some e =>
    have h : evC T (.some c) e st = evT T c e st := by
      rw [evT_eq]
      simp only [evC] <;> rfl
    dsimp only
    rw [h]
    cases evT T c e st with
    | none => rfl
    | some r =>
      obtain ⟨k, s⟩ := r
      cases k
      · simp
      · simp only [if_true]
        try rfl
theorem wipe_nil : wipeE env [] = env := Eq.trans rfl rfl
theorem wipe_cons {i : Nat} {l : List Nat} : wipeE env (i :: l) = (wipeE env l).set i none := Eq.trans rfl rfl
theorem compL_all {α : Type} {ok : Store → Prop} {F : D → Store → Option (Option D × Store)} (hok : ok st) (f g : α → D) (p : α → Bool) : ∀ xs : List α, (∀ x ∈ xs, F (f x) st = some (if p x = true then some (g x) else none, st)) →
    compL ok F (xs.map f) st = some ((xs.filter p).map g, st)
  | [], _ => rfl
  | x :: xs, h => by
    simp only [List.map_cons, compL]
    rw [h x (List.mem_cons_self ..)]
    dsimp only
    rw [if_pos hok, compL_all hok f g p xs fun y hy => h y (List.mem_cons_of_mem _ hy)]
    cases hp : p x with
    | true => simp [hp]
    | false => simp [hp]
theorem comp_src {α : Type} {elt : CE} {t : TGt} {it : CI} {cond : CO} {own : List Nat} {src : Src} {st1 : Store} (xs : List α) (f g : α → D) (p : α → Bool) (hI : evI T it env st = some (src, st1)) (hs : src.items = xs.map f) (ho : src.ok st1)
    (h : ∀ x ∈ xs, stepC T elt t cond (wipeE env own) (f x) st1 = some (if p x = true then some (g x) else none, st1)) : ev T (.comp elt t it cond own) env st = some (.lst ((xs.filter p).map g), st1) := by
  rw [e_comp, hI]
  dsimp only
  rw [hs, compL_all ho f g p xs h]
/-- a comprehension with a test -/
theorem comp_if {α : Type} {elt : CE} {t : TGt} {it : CI} {cond : CO} {own : List Nat} {st1 : Store} (xs : List α) (f g : α → D) (p : α → Bool) (hI : evI T it env st = some (⟨xs.map f, none⟩, st1))
    (h : ∀ x ∈ xs, stepC T elt t cond (wipeE env own) (f x) st1 = some (if p x = true then some (g x) else none, st1)) : ev T (.comp elt t it cond own) env st = some (.lst ((xs.filter p).map g), st1) :=
  comp_src xs f g p hI rfl trivial h
/-- .. without -/
theorem comp_map {α : Type} {elt : CE} {t : TGt} {it : CI} {own : List Nat} {st1 : Store} (xs : List α) (f g : α → D) (hI : evI T it env st = some (⟨xs.map f, none⟩, st1))
    (h : ∀ x ∈ xs, stepC T elt t .none (wipeE env own) (f x) st1 = some (some (g x), st1)) : ev T (.comp elt t it .none own) env st = some (.lst (xs.map g), st1) := by
  have q := comp_if (own := own) xs f g (fun _ => true) hI (fun x hx => by rw [h x hx]; rfl)
  rwa [List.filter_eq_self.mpr (fun _ _ => rfl)] at q
/-- numbers of numbers -/
theorem comp_ints {elt : CE} {t : TGt} {it : CI} {own : List Nat} {st1 : Store} (xs : List Int) (g : Int → Int) (hI : evI T it env st = some (⟨xs.map D.int, none⟩, st1))
    (h : ∀ x ∈ xs, stepC T elt t .none (wipeE env own) (.int x) st1 = some (some (.int (g x)), st1)) : ev T (.comp elt t it .none own) env st = some (.lst ((xs.map g).map D.int), st1) := by
  rw [List.map_map]
  exact comp_map xs D.int (fun x => .int (g x)) hI h
end
end Bo

set_option Elab.async false
set_option linter.all false
set_option maxRecDepth 100000
set_option maxHeartbeats 8000000
/-! Bo, part 21: words, in plain Lean. -/
namespace Bo
open PySem PySem.Spec L2
def half (w : Int) : Int := 2 ^ (w - 1).toNat
def oc (c a b : Int) : Str := if a = b then "E" else if decide (c ≤ a) = decide (c ≤ b) then (if a < b then "LB" else "GA") else if a < c then "GB" else "LA"
def sgn (w a : Int) : Int := if half w ≤ a then a - 2 ^ w.toNat else a
def flip (w x : Int) : Int := if x < half w then x + half w else x - half w
def inv (w x : Int) : Int := 2 ^ w.toNat - 1 - x
def ext (w v : Int) (k : Bool) (x : Int) : Int := if half w ≤ x then x + (if k = true then 2 ^ v.toNat - 2 ^ w.toNat else 0) else x
theorem half_twice {w : Int} (h : 1 ≤ w) : (2 : Int) ^ w.toNat = 2 * half w := by
  obtain ⟨n, hn⟩ : ∃ n : Nat, w.toNat = n + 1 := ⟨w.toNat - 1, by omega⟩
  have e : (w - 1).toNat = n := by omega
  unfold half
  rw [hn, e, Int.pow_succ]
  omega
theorem half_pos {w : Int} : 0 < half w := pow_pos2
theorem ints_inj : ∀ {xs ys : List Int}, xs.map D.int = ys.map D.int → xs = ys
  | [], [], _ => rfl
  | [], _ :: _, h => by cases h
  | _ :: _, [], h => by cases h
  | x :: xs, y :: ys, h => by
    simp only [List.map_cons, List.cons.injEq, D.int.injEq] at h
    rw [h.1, ints_inj h.2]
theorem oc_fine {c a b : Int} : fineD (.str (oc c a b)) = true ∧ blk (.str (oc c a b)) ≤ 10 := by
  unfold oc
  split
  · decide +kernel
  · split
    · split <;> decide +kernel
    · split <;> decide +kernel
theorem sgn_fine {w a : Int} (h1 : 1 ≤ w) (h2 : w ≤ 1000) (a0 : 0 ≤ a) (a1 : a < 2 ^ w.toNat) : (sgn w a).natAbs < 2 ^ 1900 := by
  have h := fine_int (w := w.toNat) (x := 2 ^ w.toNat - 1) (by omega) (by omega) (by omega)
  have p : (0 : Int) < 2 ^ w.toNat := pow_pos2
  have q : (2 : Int) ^ w.toNat ≤ 2 ^ 1899 := pow_le_2 (by omega)
  have e : ((2 ^ 1899 : Nat) : Int) = 2 ^ 1899 := by rw [Int.natCast_pow]; rfl
  have e2 : 2 ^ 1900 = 2 * 2 ^ 1899 := by rw [Nat.pow_succ]; omega
  unfold sgn
  split <;> omega
theorem words_map {w : Nat} {f : Int → Int} {xs : List Int} (h : Words w xs) (hf : ∀ x, 0 ≤ x → x < 2 ^ w → 0 ≤ f x ∧ f x < 2 ^ w) : Words w (xs.map f) := fun y hy => by
  obtain ⟨x, hx, rfl⟩ := List.mem_map.mp hy
  exact hf x (h x hx).1 (h x hx).2
theorem map_twice {w : Nat} {f : Int → Int} {xs : List Int} (h : Words w xs) (hf : ∀ x, 0 ≤ x → x < 2 ^ w → f (f x) = x) : (xs.map f).map f = xs := by
  rw [List.map_map]
  conv => rhs; rw [← List.map_id xs]
  exact List.map_congr_left fun x hx => hf x (h x hx).1 (h x hx).2
theorem rep_two {w : Nat} {xs : List Int} (h : Words w xs) (hw : w ≤ 1900) (hl : xs.length ≤ 100) : repOk (.lst [.tup (xs.map D.int), .tup (xs.map D.int)]) := by
  refine ⟨?_, ?_, ?_, rfl⟩
  · simp only [fineD, fineDs, h.fine hw, Bool.and_self]
  · simp only [dpt, dpts, dpts_ints]; omega
  · simp only [blk, blks, blks_ints]; omega
theorem rep_one {w : Nat} {xs : List Int} (h : Words w xs) (hw : w ≤ 1900) (hl : xs.length ≤ 100) : repOk (.tup (xs.map D.int)) := by
  refine ⟨?_, ?_, ?_, rfl⟩
  · simp only [fineD, h.fine hw]
  · simp only [dpt, dpts_ints]; omega
  · simp only [blk, blks_ints]; omega
theorem eqD_words {st : Store} {w : Nat} {xs : List Int} (h : Words w xs) (hw : w ≤ 1900) : eqD st (.tup (xs.map D.int)) (.tup (xs.map D.int)) = some true := by
  rw [eqD_tt (h.fine hw) (h.fine hw) (by rw [dpts_ints]; omega) (by rw [dpts_ints]; omega) (nobls_ints xs) (nobls_ints xs)]
  simp
theorem flip_word {w : Int} (h : 1 ≤ w) {x : Int} (h0 : 0 ≤ x) (h1 : x < 2 ^ w.toNat) : 0 ≤ flip w x ∧ flip w x < 2 ^ w.toNat := by
  rw [half_twice h] at h1 ⊢
  unfold flip
  split <;> omega
theorem flip_twice {w : Int} (h : 1 ≤ w) {x : Int} (h0 : 0 ≤ x) (h1 : x < 2 ^ w.toNat) : flip w (flip w x) = x := by
  rw [half_twice h] at h1
  unfold flip
  by_cases c : x < half w
  · rw [if_pos c, if_neg (by omega)]; omega
  · rw [if_neg c, if_pos (by omega)]; omega
theorem half_mono {w v : Int} (h : w ≤ v) : half w ≤ half v := pow_le_2 (by omega)
theorem ext_word {w v x : Int} (h : 1 ≤ w) (hv : w ≤ v) (h0 : 0 ≤ x) (h1 : x < 2 ^ w.toNat) : 0 ≤ ext w v true x ∧ ext w v true x < 2 ^ v.toNat := by
  have a : (2 : Int) ^ w.toNat ≤ 2 ^ v.toNat := pow_le_2 (by omega)
  unfold ext
  rw [if_pos rfl]
  split <;> omega
theorem sgn_ext {w v x : Int} (h : 1 ≤ w) (hv : w ≤ v) (h0 : 0 ≤ x) (h1 : x < 2 ^ w.toNat) : sgn v (ext w v true x) = sgn w x := by
  have a := half_mono hv
  have b := half_twice (w := v) (by omega)
  have c := half_twice h
  unfold sgn ext
  rw [if_pos rfl, b, c]
  rw [c] at h1
  by_cases q : half w ≤ x
  · rw [if_pos q, if_pos (by omega), if_pos q]; omega
  · rw [if_neg q, if_neg (by omega), if_neg q]
theorem ext_false {w v x : Int} : ext w v false x = x := by
  unfold ext
  rw [if_neg Bool.false_ne_true]
  split <;> omega
theorem sgns_fine {w : Int} (h1 : 1 ≤ w) (h2 : w ≤ 1000) : ∀ {xs : List Int}, Words w.toNat xs → fineDs ((xs.map (sgn w)).map D.int) = true
  | [], _ => rfl
  | x :: xs, h => by
    have hx := h x (List.mem_cons_self ..)
    simp only [List.map_cons, fineDs, fineD, Bool.and_eq_true]
    exact ⟨decide_eq_true (sgn_fine h1 h2 hx.1 hx.2), sgns_fine h1 h2 fun y hy => h y (List.mem_cons_of_mem _ hy)⟩
end Bo

set_option Elab.async false
set_option linter.all false
set_option maxRecDepth 100000
set_option maxHeartbeats 8000000
/-! Bo, part 22: conditions, in plain Lean. -/
namespace Bo
open PySem PySem.Spec L2
theorem last_get0 {s : Store} {o : O} : (s ++ [o])[s.length]? = some o := last_get rfl
theorem last_set0 {s : Store} {o o' : O} : (s ++ [o]).set s.length o' = s ++ [o'] := last_set rfl
def conds : List Str := ["e", "ne", "l", "le", "g", "ge", "b", "be", "a", "ae", "same", "mixed"]
def outs : List Str := ["E", "LB", "GA", "GB", "LA"]
/-- what the law's table of a pair holds -/
def truthKvs (l r o t : Int) : List (D × D) :=
  [(.str "e", .bl (decide (o = t))), (.str "ne", .bl (!decide (o = t))), (.str "l", .bl (decide (l < r))), (.str "le", .bl (decide (l ≤ r))), (.str "g", .bl (decide (r < l))),
   (.str "ge", .bl (decide (r ≤ l))), (.str "b", .bl (decide (o < t))), (.str "be", .bl (decide (o ≤ t))), (.str "a", .bl (decide (t < o))), (.str "ae", .bl (decide (t ≤ o))),
   (.str "same", .bl (decide (decide (l < 0) = decide (r < 0)))), (.str "mixed", .bl (!decide (decide (l < 0) = decide (r < 0))))]
def truth (c : Str) (l r o t : Int) : Bool := match getK (truthKvs l r o t) (.str c) with
  | some (.bl b) => b
  | _ => false
def strAt (k : List Str) (v : List Str) (c : Str) : Str := ((k.zip v).lookup c).getD c
def exch (c : Str) : Str := strAt ["l", "le", "g", "ge", "b", "be", "a", "ae"] ["b", "be", "a", "ae", "l", "le", "g", "ge"] c
def rvs (c : Str) : Str := strAt ["l", "le", "g", "ge", "b", "be", "a", "ae"] ["g", "ge", "l", "le", "a", "ae", "b", "be"] c
theorem mem_conds {c : Str} (h : c ∈ conds) : c = "e" ∨ c = "ne" ∨ c = "l" ∨ c = "le" ∨ c = "g" ∨ c = "ge" ∨ c = "b" ∨ c = "be" ∨ c = "a" ∨ c = "ae" ∨ c = "same" ∨ c = "mixed" := by
  simpa [conds] using h
theorem truth_at {l r o t : Int} {c : Str} (h : c ∈ conds) : getK (truthKvs l r o t) (.str c) = some (.bl (truth c l r o t)) := by
  rcases mem_conds h with rfl | rfl | rfl | rfl | rfl | rfl | rfl | rfl | rfl | rfl | rfl | rfl <;> rfl
theorem exch_in {c : Str} (h : c ∈ conds) : exch c ∈ conds := by
  rcases mem_conds h with rfl | rfl | rfl | rfl | rfl | rfl | rfl | rfl | rfl | rfl | rfl | rfl <;> decide
theorem rvs_in {c : Str} (h : c ∈ conds) : rvs c ∈ conds := by
  rcases mem_conds h with rfl | rfl | rfl | rfl | rfl | rfl | rfl | rfl | rfl | rfl | rfl | rfl <;> decide
section
variable {l r o t : Int}
theorem truth_e : truth "e" l r o t = (decide (o = t)) := by rfl
theorem truth_ne : truth "ne" l r o t = (!decide (o = t)) := by rfl
theorem truth_l : truth "l" l r o t = (decide (l < r)) := by rfl
theorem truth_le : truth "le" l r o t = (decide (l ≤ r)) := by rfl
theorem truth_g : truth "g" l r o t = (decide (r < l)) := by rfl
theorem truth_ge : truth "ge" l r o t = (decide (r ≤ l)) := by rfl
theorem truth_b : truth "b" l r o t = (decide (o < t)) := by rfl
theorem truth_be : truth "be" l r o t = (decide (o ≤ t)) := by rfl
theorem truth_a : truth "a" l r o t = (decide (t < o)) := by rfl
theorem truth_ae : truth "ae" l r o t = (decide (t ≤ o)) := by rfl
theorem truth_same : truth "same" l r o t = (decide (decide (l < 0) = decide (r < 0))) := by rfl
theorem truth_mixed : truth "mixed" l r o t = (!decide (decide (l < 0) = decide (r < 0))) := by rfl
theorem exch_e : exch "e" = "e" := by decide
theorem exch_ne : exch "ne" = "ne" := by decide
theorem exch_l : exch "l" = "b" := by decide
theorem exch_le : exch "le" = "be" := by decide
theorem exch_g : exch "g" = "a" := by decide
theorem exch_ge : exch "ge" = "ae" := by decide
theorem exch_b : exch "b" = "l" := by decide
theorem exch_be : exch "be" = "le" := by decide
theorem exch_a : exch "a" = "g" := by decide
theorem exch_ae : exch "ae" = "ge" := by decide
theorem exch_same : exch "same" = "same" := by decide
theorem exch_mixed : exch "mixed" = "mixed" := by decide
theorem rvs_e : rvs "e" = "e" := by decide
theorem rvs_ne : rvs "ne" = "ne" := by decide
theorem rvs_l : rvs "l" = "g" := by decide
theorem rvs_le : rvs "le" = "ge" := by decide
theorem rvs_g : rvs "g" = "l" := by decide
theorem rvs_ge : rvs "ge" = "le" := by decide
theorem rvs_b : rvs "b" = "a" := by decide
theorem rvs_be : rvs "be" = "ae" := by decide
theorem rvs_a : rvs "a" = "b" := by decide
theorem rvs_ae : rvs "ae" = "be" := by decide
theorem rvs_same : rvs "same" = "same" := by decide
theorem rvs_mixed : rvs "mixed" = "mixed" := by decide
theorem dec_of {p q : Prop} [Decidable p] [Decidable q] (h : p ↔ q) : decide p = decide q := decide_eq_decide.mpr h
theorem ndec_of {p q : Prop} [Decidable p] [Decidable q] (h : p ↔ q) : (!decide p) = !decide q := by rw [dec_of h]
theorem dd_iff {a b c d : Prop} [Decidable a] [Decidable b] [Decidable c] [Decidable d] (h1 : a ↔ c) (h2 : b ↔ d) : (decide a = decide b) ↔ (decide c = decide d) := by
  rw [dec_of h1, dec_of h2]
theorem exch_truth {c : Str} {H : Int} (h : c ∈ conds) (e1 : l < 0 ↔ H ≤ o) (e2 : r < 0 ↔ H ≤ t) (e3 : l = r ↔ o = t) : truth (exch c) l r o t = truth c (o - H) (t - H) (l + H) (r + H) := by
  rcases mem_conds h with rfl | rfl | rfl | rfl | rfl | rfl | rfl | rfl | rfl | rfl | rfl | rfl <;> simp only [truth_e, truth_ne, truth_l, truth_le, truth_g, truth_ge, truth_b, truth_be, truth_a, truth_ae, truth_same, truth_mixed, exch_e, exch_ne, exch_l, exch_le, exch_g, exch_ge, exch_b, exch_be, exch_a, exch_ae, exch_same, exch_mixed] <;>
    first | exact dec_of (by omega) | exact ndec_of (by omega) | skip
  · have a1 : (o - H < 0) ↔ ¬ l < 0 := by omega
    have a2 : (t - H < 0) ↔ ¬ r < 0 := by omega
    refine dec_of ?_
    rw [dec_of a1, dec_of a2, decide_not, decide_not]
    cases decide (l < 0) <;> cases decide (r < 0) <;> simp
  · have a1 : (o - H < 0) ↔ ¬ l < 0 := by omega
    have a2 : (t - H < 0) ↔ ¬ r < 0 := by omega
    refine ndec_of ?_
    rw [dec_of a1, dec_of a2, decide_not, decide_not]
    cases decide (l < 0) <;> cases decide (r < 0) <;> simp
theorem rvs_truth {c : Str} {M : Int} (h : c ∈ conds) : truth (rvs c) l r o t = truth c (-1 - l) (-1 - r) (M - o) (M - t) := by
  rcases mem_conds h with rfl | rfl | rfl | rfl | rfl | rfl | rfl | rfl | rfl | rfl | rfl | rfl <;> simp only [truth_e, truth_ne, truth_l, truth_le, truth_g, truth_ge, truth_b, truth_be, truth_a, truth_ae, truth_same, truth_mixed, rvs_e, rvs_ne, rvs_l, rvs_le, rvs_g, rvs_ge, rvs_b, rvs_be, rvs_a, rvs_ae, rvs_same, rvs_mixed] <;>
    first | exact dec_of (by omega) | exact ndec_of (by omega) | skip
  · have a1 : (-1 - l < 0) ↔ ¬ l < 0 := by omega
    have a2 : (-1 - r < 0) ↔ ¬ r < 0 := by omega
    refine dec_of ?_
    rw [dec_of a1, dec_of a2, decide_not, decide_not]
    cases decide (l < 0) <;> cases decide (r < 0) <;> simp
  · have a1 : (-1 - l < 0) ↔ ¬ l < 0 := by omega
    have a2 : (-1 - r < 0) ↔ ¬ r < 0 := by omega
    refine ndec_of ?_
    rw [dec_of a1, dec_of a2, decide_not, decide_not]
    cases decide (l < 0) <;> cases decide (r < 0) <;> simp
end
/-! ### words turned -/
theorem sgn_lt {w a : Int} (h1 : 1 ≤ w) (a0 : 0 ≤ a) (a1 : a < 2 ^ w.toNat) : (sgn w a < 0 ↔ half w ≤ a) ∧ (half w ≤ a → sgn w a = a - 2 * half w) ∧ (¬ half w ≤ a → sgn w a = a) := by
  have h2 := half_twice h1
  have hp : 0 < half w := pow_pos2
  unfold sgn
  by_cases c : half w ≤ a
  · rw [if_pos c]; omega
  · rw [if_neg c]; omega
theorem sgn_turn {w a : Int} (h1 : 1 ≤ w) (a0 : 0 ≤ a) (a1 : a < 2 ^ w.toNat) : (a + half w) % 2 ^ w.toNat = sgn w a + half w ∧ 0 ≤ sgn w a + half w ∧ sgn w a + half w < 2 ^ w.toNat ∧ sgn w (sgn w a + half w) = a - half w := by
  have h2 := half_twice h1
  have hp : 0 < half w := pow_pos2
  by_cases c : half w ≤ a
  · have s := (sgn_lt h1 a0 a1).2.1 c
    have e : (a + half w) % 2 ^ w.toNat = a - half w := by
      have : a + half w = (a - half w) + 2 ^ w.toNat := by omega
      rw [this, Int.add_emod_right]
      exact Int.emod_eq_of_lt (by omega) (by omega)
    have q := (sgn_lt (w := w) (a := a - half w) h1 (by omega) (by omega)).2.2 (by omega)
    rw [s, e]
    have e2 : a - 2 * half w + half w = a - half w := by omega
    rw [e2, q]
    exact ⟨rfl, by omega, by omega, rfl⟩
  · have s := (sgn_lt h1 a0 a1).2.2 c
    have e : (a + half w) % 2 ^ w.toNat = a + half w := Int.emod_eq_of_lt (by omega) (by omega)
    have q := (sgn_lt (w := w) (a := a + half w) h1 (by omega) (by omega)).2.1 (by omega)
    rw [s, e, q]
    exact ⟨rfl, by omega, by omega, by omega⟩
theorem sgn_back {w a : Int} (h1 : 1 ≤ w) (a0 : 0 ≤ a) (a1 : a < 2 ^ w.toNat) : 0 ≤ 2 ^ w.toNat - 1 - a ∧ 2 ^ w.toNat - 1 - a < 2 ^ w.toNat ∧ sgn w (2 ^ w.toNat - 1 - a) = -1 - sgn w a := by
  have h2 := half_twice h1
  have hp : 0 < half w := pow_pos2
  refine ⟨by omega, by omega, ?_⟩
  have q := sgn_lt (w := w) (a := 2 ^ w.toNat - 1 - a) h1 (by omega) (by omega)
  have s := sgn_lt h1 a0 a1
  by_cases c : half w ≤ a
  · rw [s.2.1 c, q.2.2 (by omega)]; omega
  · rw [s.2.2 c, q.2.1 (by omega)]; omega
theorem sgn_inj {w a b : Int} (h1 : 1 ≤ w) (a0 : 0 ≤ a) (a1 : a < 2 ^ w.toNat) (b0 : 0 ≤ b) (b1 : b < 2 ^ w.toNat) : sgn w a = sgn w b ↔ a = b := by
  have h2 := half_twice h1
  have s := sgn_lt h1 a0 a1
  have q := sgn_lt h1 b0 b1
  by_cases c : half w ≤ a <;> by_cases d : half w ≤ b
  · rw [s.2.1 c, q.2.1 d]; omega
  · rw [s.2.1 c, q.2.2 d]; omega
  · rw [s.2.2 c, q.2.1 d]; omega
  · rw [s.2.2 c, q.2.2 d]
end Bo

set_option Elab.async false
set_option linter.all false
set_option maxRecDepth 100000
set_option maxHeartbeats 8000000
/-! Bo, part 23: lists of texts. -/
namespace Bo
open PySem PySem.Spec L2
def tfv : List (List Str) := [["E"], ["LB", "GA", "GB", "LA"], ["LB", "LA"], ["E", "LB", "LA"], ["GA", "GB"], ["E", "GA", "GB"], ["LB", "GB"], ["E", "LB", "GB"], ["GA", "LA"], ["E", "GA", "LA"], ["E", "LB", "GA"], ["GB", "LA"]]
def trueFor (c : Str) : List Str := ((conds.zip tfv).lookup c).getD []
def inOrder (xs : List Str) : List Str := outs.filter (fun o => decide (o ∈ xs))
def condOf (xs : List Str) : Option Str := conds.find? fun c => decide (trueFor c = inOrder xs)
def optS : Option Str → D
  | some c => .str c
  | none => .non
theorem inV_strs {x : Str} : ∀ xs : List Str, inV (.str x) ((xs.map D.str).map absD) = decide (x ∈ xs)
  | [] => rfl
  | y :: xs => by
    have ih := inV_strs (x := x) xs
    unfold inV at ih ⊢
    rw [List.map_cons, List.map_cons, List.any_cons, ih]
    show (y == x || _) = _
    by_cases h : x = y
    · subst h; simp
    · have h' : ¬ y = x := fun e => h e.symm
      by_cases h2 : x ∈ xs <;> simp [h, h', h2]
theorem flat_strs : ∀ xs : List Str, (xs.map D.str).all flatD = true
  | [] => rfl
  | _ :: xs => flat_strs xs
section
variable {st : Store}
theorem in_strT {x : Str} {xs : List Str} : inD st (.str x) (.tup (xs.map D.str)) = some (decide (x ∈ xs)) := by
  rw [in_tup, flat_strs]
  show some (inV (.str x) _) = _
  rw [inV_strs]
theorem in_strL {x : Str} {xs : List Str} : inD st (.str x) (.lst (xs.map D.str)) = some (decide (x ∈ xs)) := by
  rw [in_lst, flat_strs]
  show some (inV (.str x) _) = _
  rw [inV_strs]
theorem strs_inj {xs ys : List Str} (h : xs.map D.str = ys.map D.str) : xs = ys := by
  induction xs generalizing ys with
  | nil => cases ys with
    | nil => rfl
    | cons _ _ => cases h
  | cons x xs ih => cases ys with
    | nil => cases h
    | cons y ys =>
      simp only [List.map_cons, List.cons.injEq, D.str.injEq] at h
      rw [h.1, ih h.2]
theorem fine_strs {xs : List Str} (h : ∀ x ∈ xs, fineD (.str x) = true) : fineDs (xs.map D.str) = true ∧ dpts (xs.map D.str) ≤ 60 ∧ nobls (xs.map D.str) = true := by
  induction xs with
  | nil => exact ⟨rfl, by decide, rfl⟩
  | cons x xs ih =>
    obtain ⟨a, b, c⟩ := ih fun y hy => h y (List.mem_cons_of_mem _ hy)
    refine ⟨?_, ?_, ?_⟩
    · simp only [List.map_cons, fineDs, Bool.and_eq_true]
      exact ⟨h x List.mem_cons_self, a⟩
    · simp only [List.map_cons, dpts, dpt]
      omega
    · simp only [List.map_cons, nobls, nobl, Bool.and_eq_true]
      exact ⟨trivial, c⟩
theorem eqD_strT {xs ys : List Str} (hx : ∀ x ∈ xs, fineD (.str x) = true) (hy : ∀ x ∈ ys, fineD (.str x) = true) : eqD st (.tup (xs.map D.str)) (.tup (ys.map D.str)) = some (decide (xs = ys)) := by
  obtain ⟨a, b, c⟩ := fine_strs hx
  obtain ⟨a', b', c'⟩ := fine_strs hy
  rw [eqD_tt a a' b b' c c']
  congr 1
  exact decide_eq_decide.mpr ⟨strs_inj, fun h => by rw [h]⟩
theorem eqD_strL {xs ys : List Str} (hx : ∀ x ∈ xs, fineD (.str x) = true) (hy : ∀ x ∈ ys, fineD (.str x) = true) : eqD st (.lst (xs.map D.str)) (.lst (ys.map D.str)) = some (decide (xs = ys)) := by
  obtain ⟨a, b, c⟩ := fine_strs hx
  obtain ⟨a', b', c'⟩ := fine_strs hy
  rw [eqD_ll a a' b b' c c']
  congr 1
  exact decide_eq_decide.mpr ⟨strs_inj, fun h => by rw [h]⟩
end
theorem outs_fine : ∀ x ∈ outs, fineD (.str x) = true := by
  intro x h
  simp only [outs, List.mem_cons, List.not_mem_nil, or_false] at h
  rcases h with rfl | rfl | rfl | rfl | rfl <;> decide +kernel
theorem conds_fine : ∀ x ∈ conds, fineD (.str x) = true := by
  intro x h
  rcases mem_conds h with rfl | rfl | rfl | rfl | rfl | rfl | rfl | rfl | rfl | rfl | rfl | rfl <;> decide +kernel
theorem order_sub {xs : List Str} : ∀ x ∈ inOrder xs, x ∈ outs := fun x h => (List.mem_filter.mp h).1
theorem tf_sub {c : Str} (h : c ∈ conds) : ∀ x ∈ trueFor c, x ∈ outs := by
  rcases mem_conds h with rfl | rfl | rfl | rfl | rfl | rfl | rfl | rfl | rfl | rfl | rfl | rfl <;> decide
theorem tf_order {c : Str} (h : c ∈ conds) : inOrder (trueFor c) = trueFor c := by
  rcases mem_conds h with rfl | rfl | rfl | rfl | rfl | rfl | rfl | rfl | rfl | rfl | rfl | rfl <;> decide
theorem cond_of_tf {c : Str} (h : c ∈ conds) : condOf (trueFor c) = some c := by
  rcases mem_conds h with rfl | rfl | rfl | rfl | rfl | rfl | rfl | rfl | rfl | rfl | rfl | rfl <;> decide
theorem tf_zip : (conds.zip (tfv.map fun xs => D.tup (xs.map D.str))) = conds.map fun c => (c, D.tup ((trueFor c).map D.str)) := by rfl
theorem tf_items : itemsP conds (tfv.map fun xs => D.tup (xs.map D.str)) = conds.map fun c => D.tup [.str c, .tup ((trueFor c).map D.str)] := by rfl
theorem tf_get {c : Str} (h : c ∈ conds) : getK ((conds.map D.str).zip (tfv.map fun xs => D.tup (xs.map D.str))) (.str c) = some (.tup ((trueFor c).map D.str)) := by
  rcases mem_conds h with rfl | rfl | rfl | rfl | rfl | rfl | rfl | rfl | rfl | rfl | rfl | rfl <;> rfl
theorem exch_twice {c : Str} (h : c ∈ conds) : exch (exch c) = c := by
  rcases mem_conds h with rfl | rfl | rfl | rfl | rfl | rfl | rfl | rfl | rfl | rfl | rfl | rfl <;> decide
theorem rvs_twice {c : Str} (h : c ∈ conds) : rvs (rvs c) = c := by
  rcases mem_conds h with rfl | rfl | rfl | rfl | rfl | rfl | rfl | rfl | rfl | rfl | rfl | rfl <;> decide
theorem exch_rvs {c : Str} (h : c ∈ conds) : exch (rvs c) = rvs (exch c) := by
  rcases mem_conds h with rfl | rfl | rfl | rfl | rfl | rfl | rfl | rfl | rfl | rfl | rfl | rfl <;> decide
end Bo

set_option Elab.async false
set_option linter.all false
set_option maxRecDepth 100000
set_option maxHeartbeats 8000000
/-! Bo, part 24: comprehensions of two clauses and with draws; dicts asked behind a change; outcomes of three words. -/
namespace Bo
open PySem PySem.Spec L2
section
variable {T : Tab} {env : Envr} {st : Store}
theorem e_comp2 {elt : CE} {t t1 : TGt} {it it1 : CI} {cond cond1 : CO} {own own1 : List Nat} : ev T (.comp2 elt t it cond t1 it1 cond1 own own1) env st = match evI T it env st with
    | some (src, st1) => match compL2 src.ok (stepC2 T elt t cond t1 it1 cond1 own1 (wipeE env own)) src.items st1 with
      | some (r, st2) => if lineOk r.length then some (.lst r, st2) else none
      | none => none
    | none => none := by
  simp only [ev] <;> rfl
theorem compL2_all {α : Type} {ok : Store → Prop} {F : D → Store → Option (List D × Store)} (hok : ok st) (f : α → D) (g : α → List D) : ∀ xs : List α, (∀ x ∈ xs, F (f x) st = some (g x, st)) → compL2 ok F (xs.map f) st = some (xs.flatMap g, st)
  | [], _ => rfl
  | x :: xs, h => by
    simp only [List.map_cons, compL2]
    rw [h x (List.mem_cons_self ..)]
    dsimp only
    rw [if_pos hok, compL2_all hok f g xs fun y hy => h y (List.mem_cons_of_mem _ hy)]
    rfl
theorem len_flat {α β γ : Type} (xs : List α) (ys : List β) (g : α → β → γ) : (xs.flatMap fun x => ys.map (g x)).length = xs.length * ys.length := by
  induction xs with
  | nil => simp
  | cons x xs ih => rw [List.flatMap_cons, List.length_append, ih, List.length_map, List.length_cons, Nat.succ_mul, Nat.add_comm]
/-- two clauses, nothing changes -/
theorem comp2_map {α β : Type} {elt : CE} {t t1 : TGt} {it it1 : CI} {own own1 : List Nat} {st1 : Store} (xs : List α) (ys : List β) (f : α → D) (f1 : β → D) (g : α → β → D) (hI : evI T it env st = some (⟨xs.map f, none⟩, st1)) (hl : xs.length * ys.length ≤ 16777216)
    (h : ∀ x ∈ xs, ∃ env2, asgT t (f x) (wipeE env own) = some env2 ∧ evI T it1 env2 st1 = some (⟨ys.map f1, none⟩, st1) ∧ ∀ y ∈ ys, stepC T elt t1 .none (wipeE env2 own1) (f1 y) st1 = some (some (g x y), st1)) :
    ev T (.comp2 elt t it .none t1 it1 .none own own1) env st = some (.lst (xs.flatMap fun x => ys.map (g x)), st1) := by
  rw [e_comp2, hI]
  dsimp only
  rw [compL2_all (f := f) (g := fun x => ys.map (g x)) (st := st1) trivial xs (fun x hx => by
    obtain ⟨env2, h1, h2, h3⟩ := h x hx
    unfold stepC2
    rw [h1]
    simp only [evC, h2]
    have q := compL_all (ok := (⟨ys.map f1, none⟩ : Src).ok) (st := st1) trivial f1 (g x) (fun _ => true) ys (F := stepC T elt t1 .none (wipeE env2 own1)) (fun y hy => by rw [h3 y hy]; rfl)
    rw [q, List.filter_eq_self.mpr (fun _ _ => rfl)])]
  dsimp only
  rw [if_pos]
  unfold lineOk
  rw [len_flat, sizeLine_eq]
  exact decide_eq_true hl
/-- a comprehension whose turns change the store -/
theorem comp_run {elt : CE} {t : TGt} {it : CI} {own : List Nat} {st1 : Store} {items : List D} (hI : evI T it env st = some (⟨items, none⟩, st1)) (Pv : Nat → List D → Store → Prop) (h0 : Pv 0 [] st1)
    (turn : ∀ (i : Nat) d acc s, items[i]? = some d → Pv i acc s → ∃ y s', stepC T elt t .none (wipeE env own) d s = some (some y, s') ∧ Pv (i + 1) (acc ++ [y]) s') :
    ∃ ys s', ev T (.comp elt t it .none own) env st = some (.lst ys, s') ∧ Pv items.length ys s' := by
  have key : ∀ (n i : Nat) (acc : List D) (s : Store), items.length - i = n → i ≤ items.length → Pv i acc s → ∃ ys s', compL (⟨items, none⟩ : Src).ok (stepC T elt t .none (wipeE env own)) (items.drop i) s = some (ys, s') ∧ Pv items.length (acc ++ ys) s' := by
    intro n
    induction n with
    | zero =>
      intro i acc s h1 h2 h3
      have ei : i = items.length := by omega
      subst ei
      rw [List.drop_length]
      exact ⟨[], s, rfl, by rw [List.append_nil]; exact h3⟩
    | succ n ih =>
      intro i acc s h1 h2 h3
      have hlt : i < items.length := by omega
      rw [List.drop_eq_getElem_cons hlt]
      obtain ⟨y, s1, e1, p1⟩ := turn i _ acc s (List.getElem?_eq_getElem hlt) h3
      obtain ⟨ys, s2, e2, p2⟩ := ih (i + 1) (acc ++ [y]) s1 (by omega) hlt p1
      refine ⟨y :: ys, s2, ?_, by rw [List.append_assoc] at p2; exact p2⟩
      unfold compL
      rw [e1]
      dsimp only
      rw [if_pos (show (⟨items, none⟩ : Src).ok s1 from trivial), e2]
      rfl
  obtain ⟨ys, s', e, p⟩ := key _ 0 [] st1 rfl (Nat.zero_le _) h0
  refine ⟨ys, s', ?_, p⟩
  rw [e_comp, hI]
  dsimp only
  rw [List.drop_zero] at e
  rw [e]
end
/-! ### dicts -/
theorem eqK_self {k : D} {n : NestedKey} (h : keyN k = some n) : eqK k k = true := by
  unfold eqK; rw [h]; simp
theorem eqK_trans {a b c : D} (h : eqK a b = true) : eqK a c = eqK b c := by
  unfold eqK at h ⊢
  cases ha : keyN a with
  | none => rw [ha] at h; cases h
  | some x =>
    cases hb : keyN b with
    | none => rw [ha, hb] at h; cases h
    | some y =>
      rw [ha, hb] at h
      have e : x = y := of_decide_eq_true h
      subst e
      rfl
theorem eqK_comm {a b : D} : eqK a b = eqK b a := by
  unfold eqK
  cases keyN a with
  | none => cases keyN b <;> rfl
  | some x => cases keyN b with
    | none => rfl
    | some y => exact decide_eq_decide.mpr ⟨Eq.symm, Eq.symm⟩
theorem getK_map {k v j : D} : ∀ kvs : List (D × D), getK (kvs.map fun p => if eqK p.1 k then (p.1, v) else p) j = (getK kvs j).map fun d => if eqK j k then v else d
  | [] => rfl
  | (a, d) :: r => by
    have ih := getK_map (k := k) (v := v) (j := j) r
    rw [List.map_cons]
    by_cases h : eqK a k = true
    · simp only [h, if_true]
      rw [getK_cons, getK_cons]
      by_cases h2 : eqK a j = true
      · have h3 : eqK j k = true := by rw [← eqK_trans (c := k) h2]; exact h
        simp [h2, h3]
      · simp only [h2, Bool.false_eq_true, if_false]
        exact ih
    · simp only [h, Bool.false_eq_true, if_false]
      rw [getK_cons, getK_cons]
      by_cases h2 : eqK a j = true
      · have h3 : eqK j k = false := by
          cases q : eqK j k with
          | false => rfl
          | true => rw [← eqK_trans (c := k) h2] at q; exact absurd q h
        simp [h2, h3]
      · simp only [h2, Bool.false_eq_true, if_false]
        exact ih
theorem getK_snoc {k v j : D} : ∀ kvs : List (D × D), getK (kvs ++ [(k, v)]) j = match getK kvs j with
    | some d => some d
    | none => if eqK k j then some v else none
  | [] => by
    show getK [(k, v)] j = _
    rw [getK_cons]; rfl
  | (a, d) :: r => by
    rw [List.cons_append, getK_cons, getK_cons]
    by_cases h : eqK a j = true
    · simp [h]
    · simp only [h, Bool.false_eq_true, if_false]
      exact getK_snoc r
theorem any_get {k : D} : ∀ kvs : List (D × D), (kvs.any fun p => eqK p.1 k) = (getK kvs k).isSome
  | [] => rfl
  | (a, d) :: r => by
    rw [List.any_cons, getK_cons, any_get r]
    by_cases h : eqK a k = true <;> simp [h]
/-- what a dict holds behind d[k] = v -/
theorem getK_setK {kvs : List (D × D)} {k v j : D} : getK (setK kvs k v) j = if eqK k j then some v else getK kvs j := by
  unfold setK
  rw [any_get]
  cases h : getK kvs k with
  | some d =>
    rw [if_pos (show (some d).isSome = true from rfl), getK_map]
    by_cases e : eqK k j = true
    · have ej : eqK j k = true := by rw [eqK_comm]; exact e
      have g : getK kvs j = some d := by
        have : ∀ l : List (D × D), getK l j = getK l k := fun l => by
          unfold getK
          congr 1
          refine congrFun (congrArg _ (funext fun p => ?_)) l
          rw [eqK_comm (a := p.1), eqK_comm (a := p.1)]
          exact (eqK_trans e).symm
        rw [this, h]
      rw [g, if_pos e]
      simp [ej]
    · have ej : eqK j k = false := by
        cases q : eqK j k with
        | false => rfl
        | true => rw [eqK_comm] at q; exact absurd q e
      rw [if_neg e]
      cases getK kvs j <;> simp [ej]
  | none =>
    rw [if_neg (by simp), getK_snoc]
    by_cases e : eqK k j = true
    · have g : getK kvs j = none := by
        have : ∀ l : List (D × D), getK l j = getK l k := fun l => by
          unfold getK
          congr 1
          refine congrFun (congrArg _ (funext fun p => ?_)) l
          rw [eqK_comm (a := p.1), eqK_comm (a := p.1)]
          exact (eqK_trans e).symm
        rw [this, h]
      rw [g]
    · cases getK kvs j <;> simp [e]
theorem eqK_ss {a b c d : Str} : eqK (.tup [.str a, .str b]) (.tup [.str c, .str d]) = decide (a = c ∧ b = d) := by
  show decide (NestedKey.tup [.text a, .text b] = NestedKey.tup [.text c, .text d]) = _
  refine decide_eq_decide.mpr ⟨fun h => ?_, fun ⟨h1, h2⟩ => by rw [h1, h2]⟩
  injection h with h
  injection h with h1 h2
  injection h2 with h2 _
  injection h1 with h1
  injection h2 with h2
  exact ⟨h1, h2⟩

/-! ### outcomes of three words -/
def ocs : List Int := [0, 1, 2, 3, 4, 5, 6, 7]
def before (a : Str) (m : Int) : List Int := ocs.filter fun x => decide (oc 4 x m = a)
def behind (b : Str) (m : Int) : List Int := ocs.filter fun x => decide (oc 4 m x = b)
def foundAt (a b : Str) (m : Int) : List Str := (before a m).flatMap fun x => (behind b m).map fun y => oc 4 x y
def compo (a b : Str) : List Str := inOrder (ocs.flatMap (foundAt a b))
theorem oc_outs (c x y : Int) : oc c x y ∈ outs := by
  unfold oc
  split
  · decide
  · split
    · split <;> decide
    · split <;> decide
/-- a word among three, small -/
def sm (h x y z : Int) : Int := (if h ≤ x then 4 else 0) + (if y < x ∧ (h ≤ x ↔ h ≤ y) then 1 else 0) + (if z < x ∧ (h ≤ x ↔ h ≤ z) then 1 else 0)
theorem sm_in (h x y z : Int) : sm h x y z ∈ ocs := by
  have a0 : 0 ≤ sm h x y z ∧ sm h x y z ≤ 6 := by
    unfold sm
    split <;> split <;> split <;> omega
  have : ∀ k : Int, 0 ≤ k → k ≤ 6 → k ∈ ocs := by
    intro k h1 h2
    have : k = 0 ∨ k = 1 ∨ k = 2 ∨ k = 3 ∨ k = 4 ∨ k = 5 ∨ k = 6 := by omega
    rcases this with rfl | rfl | rfl | rfl | rfl | rfl | rfl <;> decide
  exact this _ a0.1 a0.2
theorem sm_oc {h x y z x' y' : Int} (e1 : x = y ↔ x' = y') (e2 : h ≤ x ↔ 4 ≤ x') (e3 : h ≤ y ↔ 4 ≤ y') (e4 : (h ≤ x ↔ h ≤ y) → (x < y ↔ x' < y')) : oc h x y = oc 4 x' y' := by
  unfold oc
  have d1 : (decide (h ≤ x) = decide (h ≤ y)) ↔ (h ≤ x ↔ h ≤ y) := decide_eq_decide
  have d2 : (decide (4 ≤ x') = decide (4 ≤ y')) ↔ (4 ≤ x' ↔ 4 ≤ y') := decide_eq_decide
  by_cases a : x = y
  · rw [if_pos a, if_pos (e1.mp a)]
  · rw [if_neg a, if_neg (fun z => a (e1.mpr z))]
    by_cases b : h ≤ x ↔ h ≤ y
    · rw [if_pos (d1.mpr b), if_pos (d2.mpr (by rw [← e2, ← e3]; exact b))]
      by_cases c : x < y
      · rw [if_pos c, if_pos ((e4 b).mp c)]
      · rw [if_neg c, if_neg (fun z => c ((e4 b).mpr z))]
    · rw [if_neg (show ¬ decide (h ≤ x) = decide (h ≤ y) from fun z => b (d1.mp z)), if_neg (show ¬ decide (4 ≤ x') = decide (4 ≤ y') from fun z => b (by rw [e2, e3]; exact d2.mp z))]
      have f : x < h ↔ x' < 4 := by omega
      by_cases c : x < h
      · rw [if_pos c, if_pos (f.mp c)]
      · rw [if_neg c, if_neg (fun z => c (f.mpr z))]
theorem sm_hi (h x y z : Int) : h ≤ x ↔ 4 ≤ sm h x y z := by
  unfold sm
  split <;> split <;> split <;> omega
theorem sm_xy (h x y z : Int) : (x = y ↔ sm h x y z = sm h y x z) ∧ ((h ≤ x ↔ h ≤ y) → (x < y ↔ sm h x y z < sm h y x z)) := by
  unfold sm
  refine ⟨?_, ?_⟩ <;> (repeat' split) <;> omega
theorem sm_comm (h x y z : Int) : sm h x y z = sm h x z y := by
  unfold sm; omega
theorem compo_has (h x y z : Int) : oc h x z ∈ compo (oc h x y) (oc h y z) := by
  have a1 : oc h x y = oc 4 (sm h x y z) (sm h y x z) := sm_oc (z := z) (sm_xy h x y z).1 (sm_hi ..) (sm_hi ..) (sm_xy h x y z).2
  have a2 : oc h y z = oc 4 (sm h y x z) (sm h z x y) := by
    have q := sm_xy h y z x
    rw [sm_comm h y z x, sm_comm h z y x] at q
    exact sm_oc (z := x) q.1 (sm_hi ..) (sm_hi ..) q.2
  have a3 : oc h x z = oc 4 (sm h x y z) (sm h z x y) := by
    have q := sm_xy h x z y
    rw [sm_comm h x z y] at q
    exact sm_oc (z := y) q.1 (sm_hi ..) (sm_hi ..) q.2
  unfold compo inOrder
  refine List.mem_filter.mpr ⟨oc_outs .., decide_eq_true (List.mem_flatMap.mpr ⟨sm h y x z, sm_in .., List.mem_flatMap.mpr ⟨sm h x y z, List.mem_filter.mpr ⟨sm_in .., decide_eq_true a1.symm⟩, List.mem_map.mpr ⟨sm h z x y, List.mem_filter.mpr ⟨sm_in .., decide_eq_true a2.symm⟩, a3.symm⟩⟩⟩)⟩
/-- what the law's own dict holds for a pair, behind some triples -/
def valsOf (l : List (Int × Int × Int)) (a b : Str) : List Str := (l.filter fun t => decide (oc 4 t.1 t.2.1 = a ∧ oc 4 t.2.1 t.2.2 = b)).map fun t => oc 4 t.1 t.2.2
def triples : List (Int × Int × Int) := ocs.flatMap fun x => ocs.flatMap fun y => ocs.map fun z => (x, y, z)
theorem triples_order (a b : Str) : inOrder (valsOf triples a b) = compo a b := by
  unfold compo inOrder
  refine List.filter_congr fun o _ => decide_eq_decide.mpr ⟨fun h => ?_, fun h => ?_⟩
  · obtain ⟨⟨x, y, z⟩, hm, rfl⟩ := List.mem_map.mp h
    obtain ⟨h1, h2⟩ := List.mem_filter.mp hm
    have h2 := of_decide_eq_true h2
    obtain ⟨x', hx, h1⟩ := List.mem_flatMap.mp h1
    obtain ⟨y', hy, h1⟩ := List.mem_flatMap.mp h1
    obtain ⟨z', hz, e⟩ := List.mem_map.mp h1
    simp only [Prod.mk.injEq] at e
    obtain ⟨rfl, rfl, rfl⟩ := e
    exact List.mem_flatMap.mpr ⟨y', hy, List.mem_flatMap.mpr ⟨x', List.mem_filter.mpr ⟨hx, decide_eq_true h2.1⟩, List.mem_map.mpr ⟨z', List.mem_filter.mpr ⟨hz, decide_eq_true h2.2⟩, rfl⟩⟩⟩
  · obtain ⟨y, hy, h⟩ := List.mem_flatMap.mp h
    obtain ⟨x, hx, h⟩ := List.mem_flatMap.mp h
    obtain ⟨z, hz, rfl⟩ := List.mem_map.mp h
    obtain ⟨hx, h1⟩ := List.mem_filter.mp hx
    obtain ⟨hz, h2⟩ := List.mem_filter.mp hz
    exact List.mem_map.mpr ⟨(x, y, z), List.mem_filter.mpr ⟨List.mem_flatMap.mpr ⟨x, hx, List.mem_flatMap.mpr ⟨y, hy, List.mem_map.mpr ⟨z, hz, rfl⟩⟩⟩, decide_eq_true ⟨of_decide_eq_true h1, of_decide_eq_true h2⟩⟩, rfl⟩
theorem compo_gg : compo "GB" "GB" = [] := by decide +kernel
/-- a condition's outcomes are those for which it is true -/
theorem tf_truth {h l r x y : Int} {c : Str} (hc : c ∈ conds) (e1 : l < 0 ↔ h ≤ x) (e2 : r < 0 ↔ h ≤ y) (e3 : l = r ↔ x = y) (e4 : (h ≤ x ↔ h ≤ y) → (l < r ↔ x < y)) : decide (oc h x y ∈ trueFor c) = truth c l r x y := by
  have d1 : (decide (h ≤ x) = decide (h ≤ y)) ↔ (h ≤ x ↔ h ≤ y) := decide_eq_decide
  have o : (x = y ∧ oc h x y = "E") ∨ (x ≠ y ∧ (h ≤ x ↔ h ≤ y) ∧ x < y ∧ oc h x y = "LB") ∨ (x ≠ y ∧ (h ≤ x ↔ h ≤ y) ∧ ¬ x < y ∧ oc h x y = "GA") ∨ (x ≠ y ∧ ¬ (h ≤ x ↔ h ≤ y) ∧ x < h ∧ oc h x y = "GB") ∨ (x ≠ y ∧ ¬ (h ≤ x ↔ h ≤ y) ∧ ¬ x < h ∧ oc h x y = "LA") := by
    unfold oc
    by_cases a : x = y
    · exact .inl ⟨a, if_pos a⟩
    · rw [if_neg a]
      by_cases b : h ≤ x ↔ h ≤ y
      · rw [if_pos (d1.mpr b)]
        by_cases c : x < y
        · exact .inr (.inl ⟨a, b, c, if_pos c⟩)
        · exact .inr (.inr (.inl ⟨a, b, c, if_neg c⟩))
      · rw [if_neg (fun z => b (d1.mp z))]
        by_cases c : x < h
        · exact .inr (.inr (.inr (.inl ⟨a, b, c, if_pos c⟩)))
        · exact .inr (.inr (.inr (.inr ⟨a, b, c, if_neg c⟩)))
  have dd : (decide (l < 0) = decide (r < 0)) ↔ (h ≤ x ↔ h ≤ y) := by rw [decide_eq_decide, e1, e2]
  rcases o with ⟨a, e⟩ | ⟨a, b, c, e⟩ | ⟨a, b, c, e⟩ | ⟨a, b, c, e⟩ | ⟨a, b, c, e⟩ <;> rw [e] <;>
    rcases mem_conds hc with rfl | rfl | rfl | rfl | rfl | rfl | rfl | rfl | rfl | rfl | rfl | rfl <;>
    simp only [truth_e, truth_ne, truth_l, truth_le, truth_g, truth_ge, truth_b, truth_be, truth_a, truth_ae, truth_same, truth_mixed, dd] <;>
    first
      | (refine Eq.trans (b := true) (by decide) ?_; symm; first | exact decide_eq_true (by omega) | (rw [Bool.not_eq_true']; exact decide_eq_false (by omega)))
      | (refine Eq.trans (b := false) (by decide) ?_; symm; first | exact decide_eq_false (by omega) | (rw [Bool.not_eq_false']; exact decide_eq_true (by omega)))
theorem order_rev (xs : List Str) : inOrder xs.reverse = inOrder xs := by
  unfold inOrder
  exact List.filter_congr fun o _ => decide_eq_decide.mpr (by simp)
theorem tf_inj : ∀ a ∈ conds, ∀ b ∈ conds, trueFor a = trueFor b → a = b := by decide +kernel
theorem due_one (xs : List Str) : (conds.filter fun c => decide (trueFor c = inOrder xs)) = (condOf xs).toList := by
  unfold condOf
  have key : ∀ l : List Str, l.Nodup → (∀ a ∈ l, a ∈ conds) → (l.filter fun c => decide (trueFor c = inOrder xs)) = (l.find? fun c => decide (trueFor c = inOrder xs)).toList := by
    intro l
    induction l with
    | nil => intro _ _; rfl
    | cons a l ih =>
      intro nd hs
      rw [List.filter_cons, List.find?_cons]
      by_cases h : trueFor a = inOrder xs
      · have e : decide (trueFor a = inOrder xs) = true := decide_eq_true h
        rw [e, if_pos rfl]
        have : (l.filter fun c => decide (trueFor c = inOrder xs)) = [] := by
          rw [List.filter_eq_nil_iff]
          intro b hb hq
          have hq := of_decide_eq_true hq
          have := tf_inj b (hs b (List.mem_cons_of_mem _ hb)) a (hs a List.mem_cons_self) (hq.trans h.symm)
          subst this
          exact (List.nodup_cons.mp nd).1 hb
        rw [this]; rfl
      · have e : decide (trueFor a = inOrder xs) = false := decide_eq_false h
        rw [e, if_neg Bool.false_ne_true]
        exact ih (List.nodup_cons.mp nd).2 fun b hb => hs b (List.mem_cons_of_mem _ hb)
  exact key conds (by decide) fun _ h => h
section
variable {st : Store}
theorem is_non : COp.ev .is st .non .non = some true := Eq.trans rfl rfl
theorem is_str {s : Str} : COp.ev .is st (.str s) .non = some false := Eq.trans rfl rfl
theorem is_int {s : Int} : COp.ev .is st (.int s) .non = some false := Eq.trans rfl rfl
theorem isn_non : COp.ev .isn st .non .non = some false := Eq.trans rfl rfl
theorem isn_str {s : Str} : COp.ev .isn st (.str s) .non = some true := Eq.trans rfl rfl
theorem isn_int {s : Int} : COp.ev .isn st (.int s) .non = some true := Eq.trans rfl rfl
end
theorem closed_strs {n : Nat} : ∀ xs : List Str, closedDs n (xs.map D.str) = true
  | [] => rfl
  | _ :: xs => by
    simp only [List.map_cons, closedDs, closedD, Bool.true_and]
    exact closed_strs xs
theorem blks_strs {m : Nat} {xs : List Str} (h : ∀ x ∈ xs, x.cps.size ≤ m) : blks (xs.map D.str) ≤ (m + 1) * xs.length := by
  induction xs with
  | nil => simp [blks]
  | cons x xs ih =>
    have a := h x List.mem_cons_self
    have b := ih fun y hy => h y (List.mem_cons_of_mem _ hy)
    simp only [List.map_cons, blks, blk, List.length_cons, Nat.mul_succ]
    omega
theorem outs_small : ∀ x ∈ outs, x.cps.size ≤ 10 := by
  intro x h
  simp only [outs, List.mem_cons, List.not_mem_nil, or_false] at h
  rcases h with rfl | rfl | rfl | rfl | rfl <;> decide +kernel
theorem rep_order (xs : List Str) : repOk (.tup ((inOrder xs).map D.str)) := by
  have f := fine_strs (xs := inOrder xs) fun x hx => outs_fine x (order_sub x hx)
  have l : (inOrder xs).length ≤ 5 := Nat.le_trans (List.length_filter_le _ _) (by decide)
  have b := blks_strs (m := 10) (xs := inOrder xs) fun x hx => outs_small x (order_sub x hx)
  refine ⟨f.1, ?_, ?_, rfl⟩
  · have := f.2.1
    simp only [dpt]; omega
  · simp only [blk]; omega
theorem mul_big {st : Store} {a b : Int} (h1 : 0 ≤ a) (h2 : a ≤ 2 ^ 2000) (h3 : 0 ≤ b) (h4 : b ≤ 2 ^ 2000) : BOp.ev .mul st (.int a) (.int b) = some (.int (a * b), st) := by
  rw [o_mul, if_pos (mulOk_of (a := 2001) (b := 2001) (small_abs (n := 2000) (by omega) h2) (small_abs (n := 2000) (by omega) h4) (by decide) (by decide) (by decide))]
theorem fdiv_many {st : Store} {a m : Int} (h : Many m) : BOp.ev .fdiv st (.int a) (.int m) = some (.int (a / m), st) := by
  rw [o_fdiv, if_pos (divOk_of (b := 2001) h.1 (small_abs (n := 2000) (by have := h.1; have : (0 : Int) < 2 ^ 2000 := pow_pos2; omega) h.2) (by decide) (by decide))]
end Bo

set_option Elab.async false
set_option linter.all false
set_option maxRecDepth 100000
set_option maxHeartbeats 8000000
/-! Bo, part 25: sets of ints, dicts by comprehensions: equations; how many are less. -/
namespace Bo
open PySem PySem.Spec L2
section
variable {T : Tab} {env : Envr} {st : Store}
theorem e_lset {a : CE} : ev T (.lset a) env st = match ev T a env st with
    | some (x, st1) => match lsetD st1 x with
      | some d => some (d, st1)
      | none => none
    | none => none := by
  simp only [ev] <;> rfl
theorem e_dcomp {kx vx : CE} {t : TGt} {it : CI} {cond : CO} {own : List Nat} : ev T (.dcomp kx vx t it cond own) env st = match evI T it env st with
    | some (src, st1) => match compL src.ok (stepK T kx vx t cond (wipeE env own)) src.items st1 with
      | some (rs, st2) => some (.obj st2.length, st2 ++ [.dct (.lf true) (dictOfP rs)])
      | none => none
    | none => none := by
  simp only [ev] <;> rfl
theorem lset_ints {ns : List Int} (h : ns.length < 4000) : lsetD st (.lst (ns.map D.int)) = some (.int (setLen ns : Nat)) := by
  unfold lsetD
  show (match some (ns.map D.int) with
    | some ds => match intsOf ds with
      | some ns => if ns.length < 4000 then some (D.int (setLen ns : Nat)) else none
      | none => none
    | none => none) = _
  simp only [intsOf_ints, if_pos h]
theorem b_max1 {ns : List Int} (h : ns ≠ []) : BI.ev .max1 st [.tup (ns.map D.int)] = some (.int (maxI ns), st) := by
  have e : ns.isEmpty = false := by cases ns with
    | nil => exact absurd rfl h
    | cons _ _ => rfl
  simp only [BI.ev, BI.ev1, itemsD, intsOf_ints, e, Bool.false_eq_true, if_false]
theorem b_max1L {ns : List Int} (h : ns ≠ []) : BI.ev .max1 st [.lst (ns.map D.int)] = some (.int (maxI ns), st) := by
  have e : ns.isEmpty = false := by cases ns with
    | nil => exact absurd rfl h
    | cons _ _ => rfl
  simp only [BI.ev, BI.ev1, itemsD, intsOf_ints, e, Bool.false_eq_true, if_false]
theorem b_max1T2 {a b : Int} : BI.ev .max1 st [.tup [.int a, .int b]] = some (.int (if b > a then b else a), st) := by
  have := b_max1 (st := st) (ns := [a, b]) (by simp)
  have e : maxI [a, b] = if b > a then b else a := by
    unfold maxI
    simp only [List.headD_cons, List.foldl_cons, List.foldl_nil]
    split <;> split <;> omega
  rw [e] at this
  exact this
theorem cmp_leT {ns ms : List Int} : COp.ev .le st (.tup (ns.map D.int)) (.tup (ms.map D.int)) = some (leT ns ms) := by
  simp only [COp.ev, intsOf_ints]
/-- different ones, as they come -/
def nub (ns : List Int) : List Int := ns.foldl PyProof.Rows.step_dedup []
theorem setLen_nub (ns : List Int) : setLen ns = (nub ns).length := rfl
theorem step_has {l : List Int} {x y : Int} : y ∈ PyProof.Rows.step_dedup l x ↔ y ∈ l ∨ y = x := by
  unfold PyProof.Rows.step_dedup
  split
  · rename_i h
    obtain ⟨z, hz, e⟩ := List.any_eq_true.mp h
    have e2 : z = x := by simpa using e
    subst e2
    exact ⟨.inl, fun h => h.elim id fun e => e ▸ hz⟩
  · simp
theorem step_nodup {l : List Int} {x : Int} (h : l.Nodup) : (PyProof.Rows.step_dedup l x).Nodup := by
  unfold PyProof.Rows.step_dedup
  split
  · exact h
  · rename_i hx
    rw [List.nodup_append]
    refine ⟨h, by simp, fun a ha b hb e => hx ?_⟩
    rw [List.mem_singleton.mp hb] at e
    exact List.any_eq_true.mpr ⟨a, ha, by simp [e]⟩
theorem fold_has : ∀ (ns l : List Int) (y : Int), y ∈ ns.foldl PyProof.Rows.step_dedup l ↔ y ∈ l ∨ y ∈ ns
  | [], l, y => by simp
  | x :: r, l, y => by
    rw [List.foldl_cons, fold_has r, step_has, List.mem_cons]
    constructor
    · rintro ((h | h) | h)
      · exact .inl h
      · exact .inr (.inl h)
      · exact .inr (.inr h)
    · rintro (h | h | h)
      · exact .inl (.inl h)
      · exact .inl (.inr h)
      · exact .inr h
theorem fold_nodup : ∀ (ns l : List Int), l.Nodup → (ns.foldl PyProof.Rows.step_dedup l).Nodup
  | [], _, h => h
  | x :: r, l, h => fold_nodup r _ (step_nodup h)
theorem mem_nub {ns : List Int} {y : Int} : y ∈ nub ns ↔ y ∈ ns := by
  unfold nub
  rw [fold_has]
  simp
theorem nub_nodup (ns : List Int) : (nub ns).Nodup := fold_nodup ns [] List.nodup_nil
theorem nub_len (ns : List Int) : (nub ns).length ≤ ns.length := PySem.W.oss_len ns
/-- lists without repetition with the same members are equally long -/
theorem same_len {a b : List Int} (ha : a.Nodup) (hb : b.Nodup) (h : ∀ x, x ∈ a ↔ x ∈ b) : a.length = b.length :=
  ((List.perm_ext_iff_of_nodup ha hb).mpr h).length_eq
/-- how many different ones are less -/
def below (ns : List Int) (x : Int) : Nat := (nub (ns.filter fun y => decide (y < x))).length
theorem below_eq (ns : List Int) (x : Int) : below ns x = ((nub ns).filter fun y => decide (y < x)).length :=
  same_len (nub_nodup _) ((nub_nodup ns).filter _) fun y => by
    rw [mem_nub, List.mem_filter, List.mem_filter, mem_nub]
end
end Bo

set_option Elab.async false
set_option linter.all false
set_option maxRecDepth 100000
set_option maxHeartbeats 8000000
/-! Bo, part 26: rankings of ints, in plain words. -/
namespace Bo
open PySem PySem.Spec L2
theorem nodup_mapI {g : Int → Int} {l : List Int} (h : l.Nodup) (inj : ∀ x ∈ l, ∀ y ∈ l, g x = g y → x = y) : (l.map g).Nodup := by
  induction l with
  | nil => exact List.nodup_nil
  | cons a l ih =>
    rw [List.nodup_cons] at h
    rw [List.map_cons, List.nodup_cons]
    refine ⟨fun m => ?_, ih h.2 fun x hx y hy e => inj x (List.mem_cons_of_mem _ hx) y (List.mem_cons_of_mem _ hy) e⟩
    obtain ⟨b, hb, e⟩ := List.mem_map.mp m
    have := inj b (List.mem_cons_of_mem _ hb) a List.mem_cons_self e
    exact h.1 (this ▸ hb)
theorem below_mono {ns : List Int} {x y : Int} (h : x ≤ y) : below ns x ≤ below ns y := by
  rw [below_eq, below_eq, ← List.countP_eq_length_filter, ← List.countP_eq_length_filter]
  exact List.countP_mono_left fun z _ hz => decide_eq_true (Int.lt_of_lt_of_le (of_decide_eq_true hz) h)
theorem below_le (ns : List Int) (x : Int) : below ns x ≤ (nub ns).length := by
  rw [below_eq]
  exact List.length_filter_le _ _
theorem below_in {ns : List Int} {x : Int} (h : x ∈ ns) : below ns (x + 1) = below ns x + 1 := by
  have : (x :: nub (ns.filter fun y => decide (y < x))).length = below ns x + 1 := rfl
  rw [← this]
  refine same_len (nub_nodup _) (List.nodup_cons.mpr ⟨fun m => ?_, nub_nodup _⟩) fun y => ?_
  · have := of_decide_eq_true (List.mem_filter.mp (mem_nub.mp m)).2
    omega
  · rw [mem_nub, List.mem_cons, mem_nub, List.mem_filter, List.mem_filter]
    simp only [decide_eq_true_eq]
    constructor
    · rintro ⟨h1, h2⟩
      by_cases e : y = x
      · exact .inl e
      · exact .inr ⟨h1, by omega⟩
    · rintro (rfl | ⟨h1, h2⟩)
      · exact ⟨h, by omega⟩
      · exact ⟨h1, by omega⟩
theorem below_out {ns : List Int} {x : Int} (h : x ∉ ns) : below ns (x + 1) = below ns x := by
  refine same_len (nub_nodup _) (nub_nodup _) fun y => ?_
  rw [mem_nub, mem_nub, List.mem_filter, List.mem_filter]
  simp only [decide_eq_true_eq]
  constructor
  · rintro ⟨h1, h2⟩
    have : y ≠ x := fun e => h (e ▸ h1)
    exact ⟨h1, by omega⟩
  · rintro ⟨h1, h2⟩
    exact ⟨h1, by omega⟩
theorem below_step (ns : List Int) (x : Int) : below ns (x + 1) ≤ below ns x + 1 := by
  by_cases h : x ∈ ns
  · rw [below_in h]; exact Nat.le_refl _
  · rw [below_out h]; exact Nat.le_succ _
theorem below_gap (ns : List Int) (x : Int) : ∀ n : Nat, below ns (x + n) ≤ below ns x + n
  | 0 => by simp
  | n + 1 => by
    have h1 := below_gap ns x n
    have h2 := below_step ns (x + n)
    have e : x + (n : Int) + 1 = x + ((n + 1 : Nat) : Int) := by omega
    rw [e] at h2
    omega
theorem below_diff {ns : List Int} {x y : Int} (h : x ≤ y) : (below ns y : Int) - below ns x ≤ y - x := by
  have := below_gap ns x (y - x).toNat
  have e : x + ((y - x).toNat : Int) = y := by omega
  rw [e] at this
  omega
theorem below_zero {ns : List Int} {x : Int} (h : ∀ y ∈ ns, x ≤ y) : below ns x = 0 := by
  rw [below_eq]
  have : (nub ns).filter (fun y => decide (y < x)) = [] := List.filter_eq_nil_iff.mpr fun y hy => by
    have := h y (mem_nub.mp hy)
    simp only [decide_eq_true_eq]
    omega
  rw [this]; rfl
theorem below_full {ns : List Int} {x : Int} (h : ∀ y ∈ ns, y < x) : below ns x = (nub ns).length := by
  rw [below_eq]
  have : (nub ns).filter (fun y => decide (y < x)) = nub ns := List.filter_eq_self.mpr fun y hy => decide_eq_true (h y (mem_nub.mp hy))
  rw [this]
theorem below_lt {ns : List Int} {x y : Int} (h : x ∈ ns) (l : x < y) : below ns x < below ns y := by
  have h1 := below_in h
  have h2 := below_mono (ns := ns) (x := x + 1) (y := y) (by omega)
  omega
theorem below_iff {ns : List Int} {x y : Int} (hx : x ∈ ns) : below ns x < below ns y ↔ x < y := by
  constructor
  · intro l
    by_cases h : x < y
    · exact h
    · have := below_mono (ns := ns) (x := y) (y := x) (by omega)
      omega
  · exact below_lt hx
theorem below_inj {ns : List Int} {x y : Int} (hx : x ∈ ns) (hy : y ∈ ns) (e : below ns x = below ns y) : x = y := by
  have h1 := below_iff (ns := ns) (x := x) (y := y) hx
  have h2 := below_iff (ns := ns) (x := y) (y := x) hy
  omega
/-- a rising change of the members changes no rank -/
theorem below_map {ns : List Int} {g : Int → Int} (up : ∀ x ∈ ns, ∀ y ∈ ns, x < y → g x < g y) {c d : Int} (hc : ∀ x ∈ ns, g x < d ↔ x < c) : below (ns.map g) d = below ns c := by
  have inj : ∀ x ∈ ns, ∀ y ∈ ns, g x = g y → x = y := fun x hx y hy e => by
    have h1 := up x hx y hy
    have h2 := up y hy x hx
    omega
  have e : below ns c = ((nub (ns.filter fun y => decide (y < c))).map g).length := by rw [List.length_map]; rfl
  rw [e]
  refine same_len (nub_nodup _) (nodup_mapI (nub_nodup _) fun x hx y hy => inj x (List.mem_filter.mp (mem_nub.mp hx)).1 y (List.mem_filter.mp (mem_nub.mp hy)).1) fun y => ?_
  rw [mem_nub, List.mem_filter, List.mem_map, List.mem_map]
  constructor
  · rintro ⟨⟨x, hx, rfl⟩, hd⟩
    exact ⟨x, mem_nub.mpr (List.mem_filter.mpr ⟨hx, decide_eq_true ((hc x hx).mp (of_decide_eq_true hd))⟩), rfl⟩
  · rintro ⟨x, hx, rfl⟩
    obtain ⟨h1, h2⟩ := List.mem_filter.mp (mem_nub.mp hx)
    exact ⟨⟨x, h1, rfl⟩, decide_eq_true ((hc x h1).mpr (of_decide_eq_true h2))⟩
/-- the ranks -/
def ranksOf (ns : List Int) : List Int := ns.map fun x => (below ns x : Int)
theorem ranks_len (ns : List Int) : (ranksOf ns).length = ns.length := List.length_map ..
theorem ranks_up {ns : List Int} : ∀ x ∈ ns, ∀ y ∈ ns, x < y → (below ns x : Int) < (below ns y : Int) := fun x hx y _ l => by
  have := below_lt hx l
  omega
theorem ranks_map {ns : List Int} {g : Int → Int} (up : ∀ x ∈ ns, ∀ y ∈ ns, x < y → g x < g y) : ranksOf (ns.map g) = ranksOf ns := by
  unfold ranksOf
  rw [List.map_map]
  refine List.map_congr_left fun a ha => ?_
  show ((below (ns.map g) (g a) : Nat) : Int) = _
  rw [below_map up (c := a) fun x hx => ?_]
  constructor
  · intro l
    by_cases h : x < a
    · exact h
    · by_cases e : x = a
      · subst e; omega
      · have := up a ha x hx (by omega)
        omega
  · exact up x hx a ha
theorem ranks_ranks (ns : List Int) : ranksOf (ranksOf ns) = ranksOf ns := ranks_map (g := fun x => (below ns x : Int)) ranks_up
theorem ranks_max {ns : List Int} (h : ns ≠ []) : maxI (ranksOf ns) + 1 = (nub ns).length := by
  obtain ⟨h1, h2⟩ := maxI_is h
  have e : (below ns (maxI ns) : Int) = maxI (ranksOf ns) := maxI_eq (List.mem_map.mpr ⟨_, h1, rfl⟩) fun y hy => by
    obtain ⟨a, ha, rfl⟩ := List.mem_map.mp hy
    have := below_mono (ns := ns) (h2 a ha)
    show (below ns a : Int) ≤ _
    omega
  have h3 := below_in h1
  have h4 := below_full (ns := ns) (x := maxI ns + 1) fun y hy => by have := h2 y hy; omega
  rw [← e]
  omega
section
variable {ns : List Int} {half : Int}
/-- words by their ranks: the least ones -/
def leastI (cut half : Int) (rs : List Int) : List Int := rs.map fun r => if r < cut then r else half + r - cut
theorem cut_ranks : below (ranksOf ns) (below ns half) = below ns half := below_map (ns := ns) (g := fun x => (below ns x : Int)) ranks_up fun x hx => by
  have := below_iff (ns := ns) (x := x) (y := half) hx
  omega
theorem cut_half (h0 : ∀ x ∈ ns, 0 ≤ x) (hh : 0 ≤ half) : (below ns half : Int) ≤ half := by
  have h1 := below_diff (ns := ns) hh
  rw [below_zero h0] at h1
  omega
theorem rest_half (h2 : ∀ x ∈ ns, x < 2 * half) (hh : 0 ≤ half) : ((nub ns).length : Int) - below ns half ≤ half := by
  have h1 := below_diff (ns := ns) (x := half) (y := 2 * half) (by omega)
  rw [below_full h2] at h1
  omega
theorem least_up (hc : (below ns half : Int) ≤ half) : ∀ x ∈ ranksOf ns, ∀ y ∈ ranksOf ns, x < y → (if x < below ns half then x else half + x - below ns half) < (if y < below ns half then y else half + y - below ns half) := fun x _ y _ l => by
  split <;> split <;> omega
theorem least_ranks (hc : (below ns half : Int) ≤ half) : ranksOf (leastI (below ns half) half (ranksOf ns)) = ranksOf ns := by
  unfold leastI
  rw [ranks_map (least_up hc), ranks_ranks]
theorem least_cut (hc : (below ns half : Int) ≤ half) : below (leastI (below ns half) half (ranksOf ns)) half = below ns half := by
  unfold leastI
  rw [below_map (least_up hc) (c := below ns half) fun x _ => by split <;> omega]
  exact cut_ranks
theorem rank_top {x : Int} (h : x ∈ ranksOf ns) : 0 ≤ x ∧ x < (nub ns).length := by
  obtain ⟨a, ha, rfl⟩ := List.mem_map.mp h
  have h1 := below_in ha
  have h2 := below_le ns (a + 1)
  show 0 ≤ (below ns a : Int) ∧ (below ns a : Int) < _
  omega
theorem least_words_in (h0 : ∀ x ∈ ns, 0 ≤ x) (h2 : ∀ x ∈ ns, x < 2 * half) (hh : 0 ≤ half) : ∀ y ∈ leastI (below ns half) half (ranksOf ns), 0 ≤ y ∧ y < 2 * half := fun y hy => by
  obtain ⟨r, hr, rfl⟩ := List.mem_map.mp hy
  have h3 := rank_top hr
  have h4 := cut_half h0 hh
  have h5 := rest_half h2 hh
  split <;> omega
theorem least_le (h0 : ∀ x ∈ ns, 0 ≤ x) (hh : 0 ≤ half) : leastI (below ns half) half (ranksOf ns) = ns.map fun a => (if (below ns a : Int) < below ns half then (below ns a : Int) else half + below ns a - below ns half) := by
  unfold leastI ranksOf
  rw [List.map_map]
  rfl
theorem least_pt (h0 : ∀ x ∈ ns, 0 ≤ x) (hh : 0 ≤ half) {a : Int} (ha : a ∈ ns) : (if (below ns a : Int) < below ns half then (below ns a : Int) else half + below ns a - below ns half) ≤ a := by
  have h1 := below_diff (ns := ns) (h0 a ha)
  rw [below_zero h0] at h1
  have h2 := below_iff (ns := ns) (x := a) (y := half) ha
  split
  · omega
  · have h3 := below_diff (ns := ns) (x := half) (y := a) (by omega)
    omega
end
/-! ### lists of ints in order -/
theorem lexAt_pt {ns ms : List Int} (h : ∀ j, ns.getD j 0 ≤ ms.getD j 0) (z : Bool) (hz : z = true) : ∀ (k i : Nat), Ob.lexAt (fun j => decide (ns.getD j 0 = ms.getD j 0)) (fun j => decide (ns.getD j 0 ≤ ms.getD j 0)) z i k = true
  | 0, i => by rw [Ob.lexAt_zero, hz]
  | k + 1, i => by
    rw [Ob.lexAt_succ]
    split
    · exact lexAt_pt h z hz k (i + 1)
    · exact decide_eq_true (h i)
theorem leT_pt {ns : List Int} {f : Int → Int} (h : ∀ a ∈ ns, f a ≤ a) : leT (ns.map f) ns = true := by
  unfold leT
  refine lexAt_pt (fun j => ?_) _ (decide_eq_true (by rw [List.length_map]; exact Nat.le_refl _)) _ _
  rw [List.getD_eq_getElem?_getD, List.getD_eq_getElem?_getD, List.getElem?_map]
  cases q : ns[j]? with
  | none => simp
  | some a => exact h a (List.mem_of_getElem? q)
theorem idx_sorted {x : Int} : ∀ {s : List Int}, s.Pairwise (· < ·) → x ∈ s → s.findIdx? (fun y => decide (y = x)) = some ((s.filter fun y => decide (y < x)).length)
  | [], _, h => by cases h
  | y :: r, p, h => by
    obtain ⟨p1, p2⟩ := List.pairwise_cons.mp p
    rw [List.findIdx?_cons]
    by_cases e : y = x
    · subst e
      have : (y :: r).filter (fun z => decide (z < y)) = [] := List.filter_eq_nil_iff.mpr fun z hz => by
        rcases List.mem_cons.mp hz with rfl | hz
        · simp
        · have := p1 z hz
          simp only [decide_eq_true_eq]
          omega
      rw [this]
      simp
    · have hr : x ∈ r := by
        rcases List.mem_cons.mp h with h | h
        · exact absurd h.symm e
        · exact h
      have ly := p1 x hr
      rw [idx_sorted p2 hr]
      simp [e, ly]
theorem sort_strict (ns : List Int) : (sortI (nub ns)).Pairwise (· < ·) := by
  have h1 : (sortI (nub ns)).Pairwise (· ≤ ·) := by
    have q := List.pairwise_mergeSort (le := fun a b : Int => decide (a ≤ b)) (fun a b c h1 h2 => decide_eq_true (Int.le_trans (of_decide_eq_true h1) (of_decide_eq_true h2))) (fun a b => by
      rcases Int.le_total a b with h | h <;> simp [h]) (nub ns)
    exact q.imp fun h => of_decide_eq_true h
  have h2 : (sortI (nub ns)).Nodup := (List.mergeSort_perm (nub ns) _).nodup_iff.mpr (nub_nodup ns)
  exact (h1.and h2).imp fun {x y} ⟨a, b⟩ => by omega
theorem mem_sort {ns : List Int} {x : Int} : x ∈ sortI (nub ns) ↔ x ∈ ns := (List.mergeSort_perm (nub ns) _).mem_iff.trans mem_nub
theorem idx_rank {ns : List Int} {x : Int} (h : x ∈ ns) : (sortI (nub ns)).findIdx? (fun y => decide (y = x)) = some (below ns x) := by
  rw [idx_sorted (sort_strict ns) (mem_sort.mpr h), below_eq]
  exact congrArg some ((List.mergeSort_perm (nub ns) _).filter _).length_eq
end Bo

set_option Elab.async false
set_option linter.all false
set_option maxRecDepth 100000
set_option maxHeartbeats 8000000
/-! Bo, part 27: dicts of ints by comprehensions, places in lists of ints. -/
namespace Bo
open PySem PySem.Spec L2
section
variable {T : Tab} {env : Envr} {st : Store}
/-- a pair of a dict that only holds keys -/
def keyP (n : Int) : D := .tup [.int n, .bl true]
def entP (n : Int) : D × D := (.int n, .bl true)
theorem dict_nub_from : ∀ (ns l : List Int), (ns.map keyP).foldl (fun acc r => match r with
    | .tup [k, v] => setK acc k v
    | _ => acc) (l.map entP) = (ns.foldl PyProof.Rows.step_dedup l).map entP
  | [], l => rfl
  | n :: r, l => by
    rw [List.map_cons, List.foldl_cons, List.foldl_cons]
    have e : setK (l.map entP) (.int n) (.bl true) = (PyProof.Rows.step_dedup l n).map entP := by
      unfold setK PyProof.Rows.step_dedup
      have ea : ((l.map entP).any fun p => eqK p.1 (.int n)) = l.any (· == n) := by
        rw [List.any_map]
        congr 1
        funext a
        show eqK (.int a) (.int n) = (a == n)
        rw [keyV_eq (j := .inl a) (k := .inl n) rfl rfl, Bool.beq_eq_decide_eq]
        exact decide_eq_decide.mpr ⟨fun z => Sum.inl.inj z, fun z => by rw [z]⟩
      rw [ea]
      by_cases h : l.any (· == n) = true
      · rw [if_pos h, if_pos h, List.map_map]
        refine List.map_congr_left fun a _ => ?_
        show (if eqK (.int a) (.int n) = true then ((.int a : D), (.bl true : D)) else entP a) = entP a
        split <;> rfl
      · rw [if_neg h, if_neg h, List.map_append]
        rfl
    show List.foldl _ (setK (l.map entP) (.int n) (.bl true)) _ = _
    rw [e, dict_nub_from r]
theorem dict_nub (ns : List Int) : dictOfP (ns.map keyP) = (nub ns).map entP := dict_nub_from ns []
theorem keys_nub (ns : List Int) : intsOf (((nub ns).map entP).map (·.1)) = some (nub ns) := by
  rw [List.map_map]
  exact intsOf_ints (nub ns)
theorem sort_dict {ns : List Int} {n : Nat} (h : st[n]? = some (.dct (.lf true) ((nub ns).map entP))) (h64 : (nub ns).length < 64) : BI.ev .sorted1 st [.obj n] = some (.lst ((sortI (nub ns)).map D.int), st) := by
  have e1 : listD st (.obj n) = none := by simp only [listD, h]
  have e2 : keysD st (.obj n) = some (nub ns) := by simp only [keysD, h, keys_nub]
  simp only [BI.ev, BI.ev1, e1, e2, h64, if_true]
/-- a dict by a comprehension that changes nothing else -/
theorem dcomp_if {α : Type} {kx vx : CE} {t : TGt} {it : CI} {cond : CO} {own : List Nat} {st1 : Store} (xs : List α) (f g : α → D) (p : α → Bool) (hI : evI T it env st = some (⟨xs.map f, none⟩, st1))
    (h : ∀ x ∈ xs, stepK T kx vx t cond (wipeE env own) (f x) st1 = some (if p x = true then some (g x) else none, st1)) :
    ev T (.dcomp kx vx t it cond own) env st = some (.obj st1.length, st1 ++ [.dct (.lf true) (dictOfP ((xs.filter p).map g))]) := by
  rw [e_dcomp, hI]
  dsimp only
  rw [compL_all (ok := (⟨xs.map f, none⟩ : Src).ok) trivial f g p xs h]
theorem stepK_none {kx vx : CE} {t : TGt} {d : D} : stepK T kx vx t .none env d st = match asgT t d env with
    | none => none
    | some e => match ev T kx e st with
      | some (x, st3) => match ev T vx e st3 with
        | some (y, st4) => if (keyV x).isSome then some (some (.tup [x, y]), st4) else none
        | none => none
      | none => none := by
  unfold stepK
  cases asgT t d env with
  | none => rfl
  | some e =>
    simp only [evC]
    try rfl
theorem stepK_some {kx vx c : CE} {t : TGt} {d : D} : stepK T kx vx t (.some c) env d st = match asgT t d env with
    | none => none
    | some e => match evT T c e st with
      | some (k, st2) => if k = true then (match ev T kx e st2 with
        | some (x, st3) => match ev T vx e st3 with
          | some (y, st4) => if (keyV x).isSome then some (some (.tup [x, y]), st4) else none
          | none => none
        | none => none) else some (none, st2)
      | none => none := by
  unfold stepK
  cases asgT t d env with
  | none => rfl
  | some e =>
    have h : evC T (.some c) e st = evT T c e st := by
      rw [evT_eq]
      simp only [evC] <;> rfl
    dsimp only
    rw [h]
    cases evT T c e st with
    | none => rfl
    | some r =>
      obtain ⟨k, s⟩ := r
      cases k
      · simp
      · simp only [if_true]
        try rfl
theorem kv_int {i : Int} : (keyV (.int i)).isSome = true := rfl
theorem kv_str {i : Str} : (keyV (.str i)).isSome = true := rfl
theorem pds_ints : ∀ ns : List Int, pds (ns.map D.int) = ns.map PyData.int
  | [] => by simp only [List.map_nil, pds]
  | n :: r => by simp only [List.map_cons, pds, pd, pds_ints r]
theorem idx_ints {ns : List Int} {x : Int} (h : fineDs (ns.map D.int) = true) (hx : fineD (.int x) = true) : indexD st (.lst (ns.map D.int)) (.int x) = ns.findIdx? fun y => decide (y = x) := by
  unfold indexD
  have h1 : fineD (.lst (ns.map D.int)) = true := by simpa only [fineD] using h
  rw [toP_fine h1, toP_fine hx]
  have e1 : pd (.lst (ns.map D.int)) = .list (ns.map PyData.int) := by simp only [pd, pds_ints]
  have e2 : pd (.int x) = .int x := by simp only [pd]
  have o1 := shaped_fine h1 (by simp only [dpt, dpts_ints]; omega)
  have o2 := shaped_fine hx (by simp only [dpt]; omega)
  rw [e1] at o1 ⊢
  rw [e2] at o2 ⊢
  dsimp only
  rw [o1, o2]
  show findD st _ _ = _
  unfold findD
  rw [List.findIdx?_map]
  rfl
theorem fine_mem {ns : List Int} {x : Int} (h : fineDs (ns.map D.int) = true) (hx : x ∈ ns) : fineD (.int x) = true := by
  induction ns with
  | nil => cases hx
  | cons a r ih =>
    rw [List.map_cons] at h
    simp only [fineDs, Bool.and_eq_true] at h
    rcases List.mem_cons.mp hx with rfl | hx
    · exact h.1
    · exact ih h.2 hx
theorem fine_ints {ns : List Int} (h : ∀ x ∈ ns, fineD (.int x) = true) : fineDs (ns.map D.int) = true := by
  induction ns with
  | nil => rfl
  | cons a r ih =>
    rw [List.map_cons]
    simp only [fineDs, Bool.and_eq_true]
    exact ⟨h a List.mem_cons_self, ih fun x hx => h x (List.mem_cons_of_mem _ hx)⟩
theorem fine_small {x : Int} (h0 : 0 ≤ x) (h1 : x < 100000) : fineD (.int x) = true := by
  simp only [fineD, decide_eq_true_eq]
  have : x.natAbs < 100000 := by omega
  exact Nat.lt_trans this (by decide +kernel)
theorem atI_map {α β : Type} {ns : List α} {f : α → β} {i : Int} {a : α} (h : atI ns i = some a) : atI (ns.map f) i = some (f a) := by
  unfold atI at h ⊢
  rw [List.length_map]
  cases q : ixN ns.length i with
  | none => rw [q] at h; cases h
  | some j =>
    rw [q] at h
    have h2 : ns[j]? = some a := h
    show (ns.map f)[j]? = some (f a)
    rw [List.getElem?_map, h2]; rfl
/-- outcomes by ranks are those by values -/
theorem oc_ranks {ns : List Int} {hf a b : Int} (ha : a ∈ ns) (hb : b ∈ ns) : oc (below ns hf : Nat) (below ns a : Nat) (below ns b : Nat) = oc hf a b := by
  have e1 := below_iff (ns := ns) (x := a) (y := b) ha
  have e2 := below_iff (ns := ns) (x := b) (y := a) hb
  have e3 := below_iff (ns := ns) (x := a) (y := hf) ha
  have e4 := below_iff (ns := ns) (x := b) (y := hf) hb
  have c1 : ((below ns a : Nat) : Int) = (below ns b : Nat) ↔ a = b := by constructor <;> intro h <;> omega
  have c2 : ((below ns a : Nat) : Int) < (below ns b : Nat) ↔ a < b := by omega
  have c3 : ((below ns hf : Nat) : Int) ≤ (below ns a : Nat) ↔ hf ≤ a := by omega
  have c4 : ((below ns hf : Nat) : Int) ≤ (below ns b : Nat) ↔ hf ≤ b := by omega
  have c5 : ((below ns a : Nat) : Int) < (below ns hf : Nat) ↔ a < hf := by omega
  unfold oc
  simp only [c1, c2, c3, c4, c5]
end
end Bo

set_option Elab.async false
set_option linter.all false
set_option maxRecDepth 100000
set_option maxHeartbeats 8000000
namespace Bo
open PySem PySem.Spec L2
def topS (i : Nat) : Stmt := PySem.Challenge.pw_branchorders_k07_rankings_of_words.main.body.getD i (.Pass ⟨0, 0, 0, 0⟩)

def gls0 : List (Str × D) := [("EQUAL", .str "E"), ("LESS", .str "LB"), ("GREATER", .str "GA"), ("MIXED", .str "GB"), ("MIXED_BACK", .str "LA")]
def T_0 : Tab := ⟨[], gls0⟩
def N__law_pool : List Str := ["script", "at", "cell"]
def P__law_pool : List Str := ["script", "at"]
def c__law_pool : CS :=
      (.seq (.asg (.nm 2) (.int 0))
      (.seq (.iff (.cmp .lt (.var 1) (.bi .len (.cons (.var 0) .nil)))
      (.seq (.asg (.nm 2) (.ix (.var 0) (.var 1)))
      .skip)
      .skip)
      (.seq (.ret (.lstO (.cons (.bi .max2 (.cons (.int 0) (.cons (.bin .sub (.bi .abs (.cons (.var 2) .nil)) (.bin .pow (.int 10) (.int 18))) .nil))) (.cons (.bin .add (.bin .mod (.var 2) (.int 2305843009213693951)) (.bin .mul (.int 3276509057) (.bin .add (.var 1) (.int 1)))) (.cons (.int 0) .nil)))))
      .skip)))
theorem sc__law_pool : FnScope N__law_pool P__law_pool (defScope (topS 28)) := ⟨rfl, rfl, rfl, by decide +kernel, rfl, by decide +kernel, by decide +kernel⟩
theorem ch__law_pool : chkB T_0 0 N__law_pool (defScope (topS 28)) c__law_pool (defBody (topS 28)) = true := by decide +kernel
local macro_rules | `(tactic| walk_at "_law_pool") => `(tactic| simp (discharger := first | assumption | omega | (simp only [List.all_cons, List.all_nil, isWord, decide_eq_true_eq, Bool.and_true, Bool.and_eq_true]; omega)) only [w_skip, w_seq, w_expr, w_asg, w_asgC, w_asg2, w_setix, w_setix2, two_eq, w_aug, w_if, w_for, w_ret, w_retN, w_raise, w_brk, w_cnt, e_var', e_non, e_bl, e_int, e_str, e_gl, e_ty, e_bin, e_neg, e_nt, e_and, e_or, e_cmp, e_chn, e_ife, e_tup, e_lst, e_lstO, e_ix, e_call, e_bi, e_mth, es_nil, es_cons, ei_rng1, ei_rng2, ei_enum, ei_val, evT_eq, asgT, asgTs, tru_non, tru_bl, tru_int, tru_tup, tru_lst, eqD_int, eqD_bl, eqD_str, cmp_eq, cmp_ne, cmp_lt, cmp_le, cmp_gt, cmp_ge, cmp_inn, cmp_nin, o_add, o_sub, o_mulS, o_fdivS, o_mod, o_pow18, o_pow3, o_pow5, o_shl1, o_xor, o_and, o_cat, it_tup, it_lst, it_obj, ix_tup, ix_lst, ix_obj, ix_tab, in_strT, in_strL, in_obj, in_tab, b_len, len_tup, len_lst, b_abs, b_max, b_min, b_int, b_intb, b_tuple, b_list, b_reprF, len_obj, List.getElem?_cons_zero, List.getElem?_cons_succ, List.set_cons_zero, List.set_cons_succ, if_true, if_false, decide_eq_true_eq, Bool.not_eq_true', decide_eq_false_iff_not, Bool.false_eq_true, Bool.true_eq_false, not_true_eq_false, not_false_eq_true, decide_true, decide_false, Bool.not_true, Bool.not_false, reduceIte, Option.map_some, if_pos, if_neg, Int.one_mul, atI_0, atI_1, atI_2, atI_3, atI_4, atI_5, atI_6, atI_7, atI_8, atI_9, List.getElem?_set_self, set_ixU, m_appendU, setAt_0, setAt_1, setAt_2, setAt_3, setAt_4, setAt_5, rng_ok1, step_none, step_some, wipe_nil, wipe_cons, b_isi, kd_tup, kd_lst, kd_str, kd_int, isi_same, e_sl, eo_none, eo_some, sl_tupD, sl_lstD, sl_objD, e_rev, e_lrng, e_dsp, ep_nil, ep_cons, ei_items, rev_lst, okm_app, okm_ext, okm_ixO, okm_ix, okm_get, okm_getO, m_extend, m_getT, m_getO, m_getT1, m_getO1, m_index, setL_int, okK_str, okK_int, okK_bl, okK_ss, b_sorted, o_addL, o_addOL, o_mulL, o_addS, last_get0, last_set0, and_self, and_true, true_and, is_non, is_str, is_int, isn_non, isn_str, isn_int, e_lset, lset_ints, b_max1, b_max1L, b_max1T2, cmp_leT, kv_int, kv_str, stepK_none, stepK_some, *])
local macro_rules | `(tactic| walk_at "0_law_pool") => `(tactic| simp (discharger := first | assumption | omega | (simp only [List.all_cons, List.all_nil, isWord, decide_eq_true_eq, Bool.and_true, Bool.and_eq_true]; omega)) only [w_skip, w_seq, w_expr, w_asg, w_asgC, w_asg2, w_setix, w_setix2, two_eq, w_aug, w_if, w_for, w_ret, w_retN, w_raise, w_brk, w_cnt, e_var', e_non, e_bl, e_int, e_str, e_gl, e_ty, e_bin, e_neg, e_nt, e_and, e_or, e_cmp, e_chn, e_ife, e_tup, e_lst, e_lstO, e_ix, e_call, e_bi, e_mth, es_nil, es_cons, ei_rng1, ei_rng2, ei_enum, ei_val, evT_eq, asgT, asgTs, tru_non, tru_bl, tru_int, tru_tup, tru_lst, eqD_int, eqD_bl, eqD_str, cmp_eq, cmp_ne, cmp_lt, cmp_le, cmp_gt, cmp_ge, cmp_inn, cmp_nin, o_add, o_sub, o_mulS, o_fdivS, o_mod, o_pow18, o_pow3, o_pow5, o_shl1, o_xor, o_and, o_cat, it_tup, it_lst, it_obj, ix_tup, ix_lst, ix_obj, ix_tab, in_strT, in_strL, in_obj, in_tab, b_len, len_tup, len_lst, b_abs, b_max, b_min, b_int, b_intb, b_tuple, b_list, b_reprF, len_obj, List.getElem?_cons_zero, List.getElem?_cons_succ, List.set_cons_zero, List.set_cons_succ, if_true, if_false, decide_eq_true_eq, Bool.not_eq_true', decide_eq_false_iff_not, Bool.false_eq_true, Bool.true_eq_false, not_true_eq_false, not_false_eq_true, decide_true, decide_false, Bool.not_true, Bool.not_false, reduceIte, Option.map_some, if_pos, if_neg, Int.one_mul, atI_0, atI_1, atI_2, atI_3, atI_4, atI_5, atI_6, atI_7, atI_8, atI_9, List.getElem?_set_self, set_ixU, m_appendU, setAt_0, setAt_1, setAt_2, setAt_3, setAt_4, setAt_5, rng_ok1, step_none, step_some, wipe_nil, wipe_cons, b_isi, kd_tup, kd_lst, kd_str, kd_int, isi_same, e_sl, eo_none, eo_some, sl_tupD, sl_lstD, sl_objD, e_rev, e_lrng, e_dsp, ep_nil, ep_cons, ei_items, rev_lst, okm_app, okm_ext, okm_ixO, okm_ix, okm_get, okm_getO, m_extend, m_getT, m_getO, m_getT1, m_getO1, m_index, setL_int, okK_str, okK_int, okK_bl, okK_ss, b_sorted, o_addL, o_addOL, o_mulL, o_addS, last_get0, last_set0, and_self, and_true, true_and, is_non, is_str, is_int, isn_non, isn_str, isn_int, e_lset, lset_ints, b_max1, b_max1L, b_max1T2, cmp_leT, kv_int, kv_str, stepK_none, stepK_some])
def S__law_pool : Wd := fun _ st r s => r = .obj st.length ∧ ∃ p : Pool, s = st ++ [p.o] ∧ p.ok 0
noncomputable def F__law_pool : List D → Store → Option (D × Store) := specF T_0 3 2 c__law_pool S__law_pool
noncomputable def T__law_pool : Tab := T_0.push ⟨"_law_pool", [], F__law_pool⟩
theorem q__law_pool {ns : List Int} {at_ : Int} {st : Store} (h0 : 0 ≤ at_) (h1 : at_ ≤ 1000) (hl : ns.length ≤ 1000) : ∃ s, F__law_pool [.lst (ns.map D.int), .int at_] st = some (.obj st.length, s) ∧ ∃ p : Pool, s = st ++ [p.o] ∧ p.ok 0 := by
  have key : ∃ r s, F__law_pool [.lst (ns.map D.int), .int at_] st = some (r, s) ∧ S__law_pool [.lst (ns.map D.int), .int at_] st r s := by
    refine specF_of rfl ?_
    show W _ c__law_pool [some (.lst (ns.map D.int)), some (.int at_), none] st _ tg
    unfold c__law_pool
    have fin : ∀ a b : Int, 0 ≤ a → 0 ≤ b → b < 2 ^ 100 → ∃ r st', RetOk st (.obj st.length) (st ++ [O.lst [.int a, .int b, .int 0]]) r st' ∧ S__law_pool [.lst (ns.map D.int), .int at_] st r st' := fun a b ha hb hc =>
      ⟨_, _, ret_same, rfl, ⟨a, b, 0⟩, rfl, ha, hb, hc, Int.le_refl 0, Int.le_refl 0⟩
    have hl2 : (ns.map D.int).length ≤ 1000 := by rw [List.length_map]; exact hl
    by_cases h : at_ < ((ns.map D.int).length : Int)
    · obtain ⟨d, hd, hm⟩ := atI_in h0 h
      obtain ⟨c, _, rfl⟩ := List.mem_map.mp hm
      walk_at "0_law_pool"
      simp only [hd]
      walk_at "0_law_pool"
      exact fin _ _ (by first | omega | (split <;> omega)) (by omega) (by omega)
    · walk_at "0_law_pool"
      exact fin _ _ (by first | omega | (split <;> omega)) (by omega) (by omega)
  obtain ⟨r, s, e, rfl, h⟩ := key
  exact ⟨s, e, h⟩
end Bo

set_option Elab.async false
set_option linter.all false
set_option maxRecDepth 100000
set_option maxHeartbeats 8000000
namespace Bo
open PySem PySem.Spec L2
def N_check_width : List Str := ["width"]
def P_check_width : List Str := ["width"]
def c_check_width : CS :=
      (.seq (.iff (.cmp .lt (.var 0) (.int 1))
      (.seq .raise_
      .skip)
      .skip)
      .skip)
theorem sc_check_width : FnScope N_check_width P_check_width (defScope (topS 12)) := ⟨rfl, rfl, rfl, by decide +kernel, rfl, by decide +kernel, by decide +kernel⟩
theorem ch_check_width : chkB T__law_pool 1 N_check_width (defScope (topS 12)) c_check_width (defBody (topS 12)) = true := by decide +kernel
local macro_rules | `(tactic| walk_at "check_width") => `(tactic| simp (discharger := first | assumption | omega | (simp only [List.all_cons, List.all_nil, isWord, decide_eq_true_eq, Bool.and_true, Bool.and_eq_true]; omega)) only [w_skip, w_seq, w_expr, w_asg, w_asgC, w_asg2, w_setix, w_setix2, two_eq, w_aug, w_if, w_for, w_ret, w_retN, w_raise, w_brk, w_cnt, e_var', e_non, e_bl, e_int, e_str, e_gl, e_ty, e_bin, e_neg, e_nt, e_and, e_or, e_cmp, e_chn, e_ife, e_tup, e_lst, e_lstO, e_ix, e_call, e_bi, e_mth, es_nil, es_cons, ei_rng1, ei_rng2, ei_enum, ei_val, evT_eq, asgT, asgTs, tru_non, tru_bl, tru_int, tru_tup, tru_lst, eqD_int, eqD_bl, eqD_str, cmp_eq, cmp_ne, cmp_lt, cmp_le, cmp_gt, cmp_ge, cmp_inn, cmp_nin, o_add, o_sub, o_mulS, o_fdivS, o_mod, o_pow18, o_pow3, o_pow5, o_shl1, o_xor, o_and, o_cat, it_tup, it_lst, it_obj, ix_tup, ix_lst, ix_obj, ix_tab, in_strT, in_strL, in_obj, in_tab, b_len, len_tup, len_lst, b_abs, b_max, b_min, b_int, b_intb, b_tuple, b_list, b_reprF, len_obj, List.getElem?_cons_zero, List.getElem?_cons_succ, List.set_cons_zero, List.set_cons_succ, if_true, if_false, decide_eq_true_eq, Bool.not_eq_true', decide_eq_false_iff_not, Bool.false_eq_true, Bool.true_eq_false, not_true_eq_false, not_false_eq_true, decide_true, decide_false, Bool.not_true, Bool.not_false, reduceIte, Option.map_some, if_pos, if_neg, Int.one_mul, atI_0, atI_1, atI_2, atI_3, atI_4, atI_5, atI_6, atI_7, atI_8, atI_9, List.getElem?_set_self, set_ixU, m_appendU, setAt_0, setAt_1, setAt_2, setAt_3, setAt_4, setAt_5, rng_ok1, step_none, step_some, wipe_nil, wipe_cons, b_isi, kd_tup, kd_lst, kd_str, kd_int, isi_same, e_sl, eo_none, eo_some, sl_tupD, sl_lstD, sl_objD, e_rev, e_lrng, e_dsp, ep_nil, ep_cons, ei_items, rev_lst, okm_app, okm_ext, okm_ixO, okm_ix, okm_get, okm_getO, m_extend, m_getT, m_getO, m_getT1, m_getO1, m_index, setL_int, okK_str, okK_int, okK_bl, okK_ss, b_sorted, o_addL, o_addOL, o_mulL, o_addS, last_get0, last_set0, and_self, and_true, true_and, is_non, is_str, is_int, isn_non, isn_str, isn_int, e_lset, lset_ints, b_max1, b_max1L, b_max1T2, cmp_leT, kv_int, kv_str, stepK_none, stepK_some, *])
local macro_rules | `(tactic| walk_at "0check_width") => `(tactic| simp (discharger := first | assumption | omega | (simp only [List.all_cons, List.all_nil, isWord, decide_eq_true_eq, Bool.and_true, Bool.and_eq_true]; omega)) only [w_skip, w_seq, w_expr, w_asg, w_asgC, w_asg2, w_setix, w_setix2, two_eq, w_aug, w_if, w_for, w_ret, w_retN, w_raise, w_brk, w_cnt, e_var', e_non, e_bl, e_int, e_str, e_gl, e_ty, e_bin, e_neg, e_nt, e_and, e_or, e_cmp, e_chn, e_ife, e_tup, e_lst, e_lstO, e_ix, e_call, e_bi, e_mth, es_nil, es_cons, ei_rng1, ei_rng2, ei_enum, ei_val, evT_eq, asgT, asgTs, tru_non, tru_bl, tru_int, tru_tup, tru_lst, eqD_int, eqD_bl, eqD_str, cmp_eq, cmp_ne, cmp_lt, cmp_le, cmp_gt, cmp_ge, cmp_inn, cmp_nin, o_add, o_sub, o_mulS, o_fdivS, o_mod, o_pow18, o_pow3, o_pow5, o_shl1, o_xor, o_and, o_cat, it_tup, it_lst, it_obj, ix_tup, ix_lst, ix_obj, ix_tab, in_strT, in_strL, in_obj, in_tab, b_len, len_tup, len_lst, b_abs, b_max, b_min, b_int, b_intb, b_tuple, b_list, b_reprF, len_obj, List.getElem?_cons_zero, List.getElem?_cons_succ, List.set_cons_zero, List.set_cons_succ, if_true, if_false, decide_eq_true_eq, Bool.not_eq_true', decide_eq_false_iff_not, Bool.false_eq_true, Bool.true_eq_false, not_true_eq_false, not_false_eq_true, decide_true, decide_false, Bool.not_true, Bool.not_false, reduceIte, Option.map_some, if_pos, if_neg, Int.one_mul, atI_0, atI_1, atI_2, atI_3, atI_4, atI_5, atI_6, atI_7, atI_8, atI_9, List.getElem?_set_self, set_ixU, m_appendU, setAt_0, setAt_1, setAt_2, setAt_3, setAt_4, setAt_5, rng_ok1, step_none, step_some, wipe_nil, wipe_cons, b_isi, kd_tup, kd_lst, kd_str, kd_int, isi_same, e_sl, eo_none, eo_some, sl_tupD, sl_lstD, sl_objD, e_rev, e_lrng, e_dsp, ep_nil, ep_cons, ei_items, rev_lst, okm_app, okm_ext, okm_ixO, okm_ix, okm_get, okm_getO, m_extend, m_getT, m_getO, m_getT1, m_getO1, m_index, setL_int, okK_str, okK_int, okK_bl, okK_ss, b_sorted, o_addL, o_addOL, o_mulL, o_addS, last_get0, last_set0, and_self, and_true, true_and, is_non, is_str, is_int, isn_non, isn_str, isn_int, e_lset, lset_ints, b_max1, b_max1L, b_max1T2, cmp_leT, kv_int, kv_str, stepK_none, stepK_some])
def S_check_width : Wd := fun _ st r s => r = .non ∧ s = st
noncomputable def F_check_width : List D → Store → Option (D × Store) := specF T__law_pool 1 1 c_check_width S_check_width
noncomputable def T_check_width : Tab := T__law_pool.push ⟨"check_width", [], F_check_width⟩
theorem q_check_width {w : Int} {st : Store} (h : 1 ≤ w) : F_check_width [.int w] st = some (.non, st) := by
  refine specF_eq rfl ?_ (fun r s h => h)
  show W _ c_check_width [some (.int w)] st _ tg
  unfold c_check_width
  walk_at "0check_width"
  exact ⟨_, _, ret_same, rfl, rfl⟩
end Bo

set_option Elab.async false
set_option linter.all false
set_option maxRecDepth 100000
set_option maxHeartbeats 8000000
namespace Bo
open PySem PySem.Spec L2
def N_check_words : List Str := ["width", "words", "index", "word"]
def P_check_words : List Str := ["width", "words"]
def c_check_words : CS :=
      (.seq (.for_ (.tp (.cons (.nm 2) (.cons (.nm 3) .nil))) (.enum (.var 1))
      (.seq (.iff (.nt (.chn .le .lt (.int 0) (.var 3) (.bin .shl (.int 1) (.var 0))))
      (.seq .raise_
      .skip)
      .skip)
      .skip))
      .skip)
theorem sc_check_words : FnScope N_check_words P_check_words (defScope (topS 13)) := ⟨rfl, rfl, rfl, by decide +kernel, rfl, by decide +kernel, by decide +kernel⟩
theorem ch_check_words : chkB T_check_width 2 N_check_words (defScope (topS 13)) c_check_words (defBody (topS 13)) = true := by decide +kernel
local macro_rules | `(tactic| walk_at "check_words") => `(tactic| simp (discharger := first | assumption | omega | (simp only [List.all_cons, List.all_nil, isWord, decide_eq_true_eq, Bool.and_true, Bool.and_eq_true]; omega)) only [w_skip, w_seq, w_expr, w_asg, w_asgC, w_asg2, w_setix, w_setix2, two_eq, w_aug, w_if, w_for, w_ret, w_retN, w_raise, w_brk, w_cnt, e_var', e_non, e_bl, e_int, e_str, e_gl, e_ty, e_bin, e_neg, e_nt, e_and, e_or, e_cmp, e_chn, e_ife, e_tup, e_lst, e_lstO, e_ix, e_call, e_bi, e_mth, es_nil, es_cons, ei_rng1, ei_rng2, ei_enum, ei_val, evT_eq, asgT, asgTs, tru_non, tru_bl, tru_int, tru_tup, tru_lst, eqD_int, eqD_bl, eqD_str, cmp_eq, cmp_ne, cmp_lt, cmp_le, cmp_gt, cmp_ge, cmp_inn, cmp_nin, o_add, o_sub, o_mulS, o_fdivS, o_mod, o_pow18, o_pow3, o_pow5, o_shl1, o_xor, o_and, o_cat, it_tup, it_lst, it_obj, ix_tup, ix_lst, ix_obj, ix_tab, in_strT, in_strL, in_obj, in_tab, b_len, len_tup, len_lst, b_abs, b_max, b_min, b_int, b_intb, b_tuple, b_list, b_reprF, len_obj, List.getElem?_cons_zero, List.getElem?_cons_succ, List.set_cons_zero, List.set_cons_succ, if_true, if_false, decide_eq_true_eq, Bool.not_eq_true', decide_eq_false_iff_not, Bool.false_eq_true, Bool.true_eq_false, not_true_eq_false, not_false_eq_true, decide_true, decide_false, Bool.not_true, Bool.not_false, reduceIte, Option.map_some, if_pos, if_neg, Int.one_mul, atI_0, atI_1, atI_2, atI_3, atI_4, atI_5, atI_6, atI_7, atI_8, atI_9, List.getElem?_set_self, set_ixU, m_appendU, setAt_0, setAt_1, setAt_2, setAt_3, setAt_4, setAt_5, rng_ok1, step_none, step_some, wipe_nil, wipe_cons, b_isi, kd_tup, kd_lst, kd_str, kd_int, isi_same, e_sl, eo_none, eo_some, sl_tupD, sl_lstD, sl_objD, e_rev, e_lrng, e_dsp, ep_nil, ep_cons, ei_items, rev_lst, okm_app, okm_ext, okm_ixO, okm_ix, okm_get, okm_getO, m_extend, m_getT, m_getO, m_getT1, m_getO1, m_index, setL_int, okK_str, okK_int, okK_bl, okK_ss, b_sorted, o_addL, o_addOL, o_mulL, o_addS, last_get0, last_set0, and_self, and_true, true_and, is_non, is_str, is_int, isn_non, isn_str, isn_int, e_lset, lset_ints, b_max1, b_max1L, b_max1T2, cmp_leT, kv_int, kv_str, stepK_none, stepK_some, *])
local macro_rules | `(tactic| walk_at "0check_words") => `(tactic| simp (discharger := first | assumption | omega | (simp only [List.all_cons, List.all_nil, isWord, decide_eq_true_eq, Bool.and_true, Bool.and_eq_true]; omega)) only [w_skip, w_seq, w_expr, w_asg, w_asgC, w_asg2, w_setix, w_setix2, two_eq, w_aug, w_if, w_for, w_ret, w_retN, w_raise, w_brk, w_cnt, e_var', e_non, e_bl, e_int, e_str, e_gl, e_ty, e_bin, e_neg, e_nt, e_and, e_or, e_cmp, e_chn, e_ife, e_tup, e_lst, e_lstO, e_ix, e_call, e_bi, e_mth, es_nil, es_cons, ei_rng1, ei_rng2, ei_enum, ei_val, evT_eq, asgT, asgTs, tru_non, tru_bl, tru_int, tru_tup, tru_lst, eqD_int, eqD_bl, eqD_str, cmp_eq, cmp_ne, cmp_lt, cmp_le, cmp_gt, cmp_ge, cmp_inn, cmp_nin, o_add, o_sub, o_mulS, o_fdivS, o_mod, o_pow18, o_pow3, o_pow5, o_shl1, o_xor, o_and, o_cat, it_tup, it_lst, it_obj, ix_tup, ix_lst, ix_obj, ix_tab, in_strT, in_strL, in_obj, in_tab, b_len, len_tup, len_lst, b_abs, b_max, b_min, b_int, b_intb, b_tuple, b_list, b_reprF, len_obj, List.getElem?_cons_zero, List.getElem?_cons_succ, List.set_cons_zero, List.set_cons_succ, if_true, if_false, decide_eq_true_eq, Bool.not_eq_true', decide_eq_false_iff_not, Bool.false_eq_true, Bool.true_eq_false, not_true_eq_false, not_false_eq_true, decide_true, decide_false, Bool.not_true, Bool.not_false, reduceIte, Option.map_some, if_pos, if_neg, Int.one_mul, atI_0, atI_1, atI_2, atI_3, atI_4, atI_5, atI_6, atI_7, atI_8, atI_9, List.getElem?_set_self, set_ixU, m_appendU, setAt_0, setAt_1, setAt_2, setAt_3, setAt_4, setAt_5, rng_ok1, step_none, step_some, wipe_nil, wipe_cons, b_isi, kd_tup, kd_lst, kd_str, kd_int, isi_same, e_sl, eo_none, eo_some, sl_tupD, sl_lstD, sl_objD, e_rev, e_lrng, e_dsp, ep_nil, ep_cons, ei_items, rev_lst, okm_app, okm_ext, okm_ixO, okm_ix, okm_get, okm_getO, m_extend, m_getT, m_getO, m_getT1, m_getO1, m_index, setL_int, okK_str, okK_int, okK_bl, okK_ss, b_sorted, o_addL, o_addOL, o_mulL, o_addS, last_get0, last_set0, and_self, and_true, true_and, is_non, is_str, is_int, isn_non, isn_str, isn_int, e_lset, lset_ints, b_max1, b_max1L, b_max1T2, cmp_leT, kv_int, kv_str, stepK_none, stepK_some])
def S_check_words : Wd := fun _ st r s => r = .non ∧ s = st
noncomputable def F_check_words : List D → Store → Option (D × Store) := specF T_check_width 4 2 c_check_words S_check_words
noncomputable def T_check_words : Tab := T_check_width.push ⟨"check_words", [], F_check_words⟩
theorem q_check_words {w : Int} {ds : List D} {st : Store} (h1 : 1 ≤ w) (h2 : w ≤ 1000) (ha : ds.all (isWord w) = true) : F_check_words [.int w, .tup ds] st = some (.non, st) := by
  refine specF_eq rfl ?_ (fun r s h => h)
  show W _ c_check_words [some (.int w), some (.tup ds), none, none] st _ tg
  unfold c_check_words
  walk_at "0check_words"
  refine w_inv (enumD ds) (fun i e s => s = st ∧ ∃ x y, e = [some (.int w), some (.tup ds), x, y]) ⟨rfl, _, _, rfl⟩ (fun i d e s hd ⟨hs, x, y, he⟩ => ?_) (fun e s ⟨hs, _⟩ => by subst hs; exact ⟨_, _, ret_same, rfl, rfl⟩)
  subst hs he
  obtain ⟨d', hd', rfl⟩ := enumD_get hd
  have hm := List.all_eq_true.mp ha d' (List.mem_of_getElem? hd')
  cases d' with
  | int v =>
    obtain ⟨hv1, hv2⟩ := isWord_int.mp hm
    walk_at "0check_words"
    first | exact ⟨trivial, fun _ => ⟨trivial, _, _, rfl⟩⟩ | exact ⟨trivial, fun _ => ⟨_, _, rfl⟩⟩ | exact ⟨trivial, fun _ => ⟨rfl, _, _, rfl⟩⟩
  | _ => cases hm
end Bo

set_option Elab.async false
set_option linter.all false
set_option maxRecDepth 100000
set_option maxHeartbeats 8000000
namespace Bo
open PySem PySem.Spec L2
def N_ranks_of : List Str := ["integers", "different", "integer"]
def P_ranks_of : List Str := ["integers"]
def c_ranks_of : CS :=
      (.seq (.asg (.nm 1) (.bi .sorted1 (.cons (.dcomp (.var 2) (.bl true) (.nm 2) (.val (.var 0)) .none [2]) .nil)))
      (.seq (.ret (.bi .tuple1 (.cons (.comp (.mth .index (.var 1) (.cons (.var 2) .nil)) (.nm 2) (.val (.var 0)) .none [2]) .nil)))
      .skip))
theorem sc_ranks_of : FnScope N_ranks_of P_ranks_of (defScope (topS 17)) := ⟨rfl, rfl, rfl, by decide +kernel, rfl, by decide +kernel, by decide +kernel⟩
theorem ch_ranks_of : chkB T_check_words 3 N_ranks_of (defScope (topS 17)) c_ranks_of (defBody (topS 17)) = true := by decide +kernel
local macro_rules | `(tactic| walk_at "ranks_of") => `(tactic| simp (discharger := first | assumption | omega | (simp only [List.all_cons, List.all_nil, isWord, decide_eq_true_eq, Bool.and_true, Bool.and_eq_true]; omega)) only [w_skip, w_seq, w_expr, w_asg, w_asgC, w_asg2, w_setix, w_setix2, two_eq, w_aug, w_if, w_for, w_ret, w_retN, w_raise, w_brk, w_cnt, e_var', e_non, e_bl, e_int, e_str, e_gl, e_ty, e_bin, e_neg, e_nt, e_and, e_or, e_cmp, e_chn, e_ife, e_tup, e_lst, e_lstO, e_ix, e_call, e_bi, e_mth, es_nil, es_cons, ei_rng1, ei_rng2, ei_enum, ei_val, evT_eq, asgT, asgTs, tru_non, tru_bl, tru_int, tru_tup, tru_lst, eqD_int, eqD_bl, eqD_str, cmp_eq, cmp_ne, cmp_lt, cmp_le, cmp_gt, cmp_ge, cmp_inn, cmp_nin, o_add, o_sub, o_mulS, o_fdivS, o_mod, o_pow18, o_pow3, o_pow5, o_shl1, o_xor, o_and, o_cat, it_tup, it_lst, it_obj, ix_tup, ix_lst, ix_obj, ix_tab, in_strT, in_strL, in_obj, in_tab, b_len, len_tup, len_lst, b_abs, b_max, b_min, b_int, b_intb, b_tuple, b_list, b_reprF, len_obj, List.getElem?_cons_zero, List.getElem?_cons_succ, List.set_cons_zero, List.set_cons_succ, if_true, if_false, decide_eq_true_eq, Bool.not_eq_true', decide_eq_false_iff_not, Bool.false_eq_true, Bool.true_eq_false, not_true_eq_false, not_false_eq_true, decide_true, decide_false, Bool.not_true, Bool.not_false, reduceIte, Option.map_some, if_pos, if_neg, Int.one_mul, atI_0, atI_1, atI_2, atI_3, atI_4, atI_5, atI_6, atI_7, atI_8, atI_9, List.getElem?_set_self, set_ixU, m_appendU, setAt_0, setAt_1, setAt_2, setAt_3, setAt_4, setAt_5, rng_ok1, step_none, step_some, wipe_nil, wipe_cons, b_isi, kd_tup, kd_lst, kd_str, kd_int, isi_same, e_sl, eo_none, eo_some, sl_tupD, sl_lstD, sl_objD, e_rev, e_lrng, e_dsp, ep_nil, ep_cons, ei_items, rev_lst, okm_app, okm_ext, okm_ixO, okm_ix, okm_get, okm_getO, m_extend, m_getT, m_getO, m_getT1, m_getO1, m_index, setL_int, okK_str, okK_int, okK_bl, okK_ss, b_sorted, o_addL, o_addOL, o_mulL, o_addS, last_get0, last_set0, and_self, and_true, true_and, is_non, is_str, is_int, isn_non, isn_str, isn_int, e_lset, lset_ints, b_max1, b_max1L, b_max1T2, cmp_leT, kv_int, kv_str, stepK_none, stepK_some, *])
local macro_rules | `(tactic| walk_at "0ranks_of") => `(tactic| simp (discharger := first | assumption | omega | (simp only [List.all_cons, List.all_nil, isWord, decide_eq_true_eq, Bool.and_true, Bool.and_eq_true]; omega)) only [w_skip, w_seq, w_expr, w_asg, w_asgC, w_asg2, w_setix, w_setix2, two_eq, w_aug, w_if, w_for, w_ret, w_retN, w_raise, w_brk, w_cnt, e_var', e_non, e_bl, e_int, e_str, e_gl, e_ty, e_bin, e_neg, e_nt, e_and, e_or, e_cmp, e_chn, e_ife, e_tup, e_lst, e_lstO, e_ix, e_call, e_bi, e_mth, es_nil, es_cons, ei_rng1, ei_rng2, ei_enum, ei_val, evT_eq, asgT, asgTs, tru_non, tru_bl, tru_int, tru_tup, tru_lst, eqD_int, eqD_bl, eqD_str, cmp_eq, cmp_ne, cmp_lt, cmp_le, cmp_gt, cmp_ge, cmp_inn, cmp_nin, o_add, o_sub, o_mulS, o_fdivS, o_mod, o_pow18, o_pow3, o_pow5, o_shl1, o_xor, o_and, o_cat, it_tup, it_lst, it_obj, ix_tup, ix_lst, ix_obj, ix_tab, in_strT, in_strL, in_obj, in_tab, b_len, len_tup, len_lst, b_abs, b_max, b_min, b_int, b_intb, b_tuple, b_list, b_reprF, len_obj, List.getElem?_cons_zero, List.getElem?_cons_succ, List.set_cons_zero, List.set_cons_succ, if_true, if_false, decide_eq_true_eq, Bool.not_eq_true', decide_eq_false_iff_not, Bool.false_eq_true, Bool.true_eq_false, not_true_eq_false, not_false_eq_true, decide_true, decide_false, Bool.not_true, Bool.not_false, reduceIte, Option.map_some, if_pos, if_neg, Int.one_mul, atI_0, atI_1, atI_2, atI_3, atI_4, atI_5, atI_6, atI_7, atI_8, atI_9, List.getElem?_set_self, set_ixU, m_appendU, setAt_0, setAt_1, setAt_2, setAt_3, setAt_4, setAt_5, rng_ok1, step_none, step_some, wipe_nil, wipe_cons, b_isi, kd_tup, kd_lst, kd_str, kd_int, isi_same, e_sl, eo_none, eo_some, sl_tupD, sl_lstD, sl_objD, e_rev, e_lrng, e_dsp, ep_nil, ep_cons, ei_items, rev_lst, okm_app, okm_ext, okm_ixO, okm_ix, okm_get, okm_getO, m_extend, m_getT, m_getO, m_getT1, m_getO1, m_index, setL_int, okK_str, okK_int, okK_bl, okK_ss, b_sorted, o_addL, o_addOL, o_mulL, o_addS, last_get0, last_set0, and_self, and_true, true_and, is_non, is_str, is_int, isn_non, isn_str, isn_int, e_lset, lset_ints, b_max1, b_max1L, b_max1T2, cmp_leT, kv_int, kv_str, stepK_none, stepK_some])
def S_ranks_of : Wd := fun ds st r s => ∃ ns : List Int, ds = [.tup (ns.map D.int)] ∧ r = .tup ((ranksOf ns).map D.int) ∧ s = st
noncomputable def F_ranks_of : List D → Store → Option (D × Store) := specF T_check_words 3 1 c_ranks_of S_ranks_of
noncomputable def T_ranks_of : Tab := T_check_words.push ⟨"ranks_of", [], F_ranks_of⟩
theorem q_ranks_of {ns : List Int} {st : Store} (hf : fineDs (ns.map D.int) = true) (hl : ns.length < 64) : F_ranks_of [.tup (ns.map D.int)] st = some (.tup ((ranksOf ns).map D.int), st) := by
  refine specF_eq rfl ?_ (fun r s ⟨ns', e, h3, h4⟩ => ?_)
  · show W _ c_ranks_of [some (.tup (ns.map D.int)), none, none] st _ tg
    unfold c_ranks_of
    walk_at "0ranks_of"
    rw [dcomp_if ns D.int keyP (fun _ => true) (st1 := st) (by walk_at "0ranks_of") (fun x hx => by
      walk_at "0ranks_of"
      first | done | rfl), List.filter_eq_self.mpr (fun _ _ => rfl), dict_nub]
    walk_at "0ranks_of"
    rw [sort_dict (ns := ns) (last_get rfl) (Nat.lt_of_le_of_lt (nub_len ns) hl)]
    walk_at "0ranks_of"
    have sf : fineDs ((sortI (nub ns)).map D.int) = true := fine_ints fun x hx => fine_mem hf (mem_sort.mp hx)
    have em : (ns.map fun x => D.int (below ns x : Int)) = (ranksOf ns).map D.int := by unfold ranksOf; rw [List.map_map]; rfl
    rw [comp_map ns D.int (fun x => .int (below ns x : Int)) (st1 := st ++ [.dct (.lf true) ((nub ns).map entP)]) (by walk_at "0ranks_of") (fun x hx => by
      have im : ∀ st, indexD st (.lst ((sortI (nub ns)).map D.int)) (.int x) = some (below ns x) := fun st => by rw [idx_ints sf (fine_mem hf hx), idx_rank hx]
      clear sf hf hl hx em
      walk_at "ranks_of"), em]
    walk_at "0ranks_of"
    exact ⟨_, _, ret_app (by simp only [pureD, closedD, closed_ints]), ns, rfl, rfl, rfl⟩
  · simp only [List.cons.injEq, D.tup.injEq, and_true] at e
    rw [ints_inj e]
    exact ⟨h3, h4⟩
end Bo

set_option Elab.async false
set_option linter.all false
set_option maxRecDepth 100000
set_option maxHeartbeats 8000000
namespace Bo
open PySem PySem.Spec L2
def N_half_of : List Str := ["width"]
def P_half_of : List Str := ["width"]
def c_half_of : CS :=
      (.seq (.ret (.bin .shl (.int 1) (.bin .sub (.var 0) (.int 1))))
      .skip)
theorem sc_half_of : FnScope N_half_of P_half_of (defScope (topS 14)) := ⟨rfl, rfl, rfl, by decide +kernel, rfl, by decide +kernel, by decide +kernel⟩
theorem ch_half_of : chkB T_ranks_of 4 N_half_of (defScope (topS 14)) c_half_of (defBody (topS 14)) = true := by decide +kernel
local macro_rules | `(tactic| walk_at "half_of") => `(tactic| simp (discharger := first | assumption | omega | (simp only [List.all_cons, List.all_nil, isWord, decide_eq_true_eq, Bool.and_true, Bool.and_eq_true]; omega)) only [w_skip, w_seq, w_expr, w_asg, w_asgC, w_asg2, w_setix, w_setix2, two_eq, w_aug, w_if, w_for, w_ret, w_retN, w_raise, w_brk, w_cnt, e_var', e_non, e_bl, e_int, e_str, e_gl, e_ty, e_bin, e_neg, e_nt, e_and, e_or, e_cmp, e_chn, e_ife, e_tup, e_lst, e_lstO, e_ix, e_call, e_bi, e_mth, es_nil, es_cons, ei_rng1, ei_rng2, ei_enum, ei_val, evT_eq, asgT, asgTs, tru_non, tru_bl, tru_int, tru_tup, tru_lst, eqD_int, eqD_bl, eqD_str, cmp_eq, cmp_ne, cmp_lt, cmp_le, cmp_gt, cmp_ge, cmp_inn, cmp_nin, o_add, o_sub, o_mulS, o_fdivS, o_mod, o_pow18, o_pow3, o_pow5, o_shl1, o_xor, o_and, o_cat, it_tup, it_lst, it_obj, ix_tup, ix_lst, ix_obj, ix_tab, in_strT, in_strL, in_obj, in_tab, b_len, len_tup, len_lst, b_abs, b_max, b_min, b_int, b_intb, b_tuple, b_list, b_reprF, len_obj, List.getElem?_cons_zero, List.getElem?_cons_succ, List.set_cons_zero, List.set_cons_succ, if_true, if_false, decide_eq_true_eq, Bool.not_eq_true', decide_eq_false_iff_not, Bool.false_eq_true, Bool.true_eq_false, not_true_eq_false, not_false_eq_true, decide_true, decide_false, Bool.not_true, Bool.not_false, reduceIte, Option.map_some, if_pos, if_neg, Int.one_mul, atI_0, atI_1, atI_2, atI_3, atI_4, atI_5, atI_6, atI_7, atI_8, atI_9, List.getElem?_set_self, set_ixU, m_appendU, setAt_0, setAt_1, setAt_2, setAt_3, setAt_4, setAt_5, rng_ok1, step_none, step_some, wipe_nil, wipe_cons, b_isi, kd_tup, kd_lst, kd_str, kd_int, isi_same, e_sl, eo_none, eo_some, sl_tupD, sl_lstD, sl_objD, e_rev, e_lrng, e_dsp, ep_nil, ep_cons, ei_items, rev_lst, okm_app, okm_ext, okm_ixO, okm_ix, okm_get, okm_getO, m_extend, m_getT, m_getO, m_getT1, m_getO1, m_index, setL_int, okK_str, okK_int, okK_bl, okK_ss, b_sorted, o_addL, o_addOL, o_mulL, o_addS, last_get0, last_set0, and_self, and_true, true_and, is_non, is_str, is_int, isn_non, isn_str, isn_int, e_lset, lset_ints, b_max1, b_max1L, b_max1T2, cmp_leT, kv_int, kv_str, stepK_none, stepK_some, *])
local macro_rules | `(tactic| walk_at "0half_of") => `(tactic| simp (discharger := first | assumption | omega | (simp only [List.all_cons, List.all_nil, isWord, decide_eq_true_eq, Bool.and_true, Bool.and_eq_true]; omega)) only [w_skip, w_seq, w_expr, w_asg, w_asgC, w_asg2, w_setix, w_setix2, two_eq, w_aug, w_if, w_for, w_ret, w_retN, w_raise, w_brk, w_cnt, e_var', e_non, e_bl, e_int, e_str, e_gl, e_ty, e_bin, e_neg, e_nt, e_and, e_or, e_cmp, e_chn, e_ife, e_tup, e_lst, e_lstO, e_ix, e_call, e_bi, e_mth, es_nil, es_cons, ei_rng1, ei_rng2, ei_enum, ei_val, evT_eq, asgT, asgTs, tru_non, tru_bl, tru_int, tru_tup, tru_lst, eqD_int, eqD_bl, eqD_str, cmp_eq, cmp_ne, cmp_lt, cmp_le, cmp_gt, cmp_ge, cmp_inn, cmp_nin, o_add, o_sub, o_mulS, o_fdivS, o_mod, o_pow18, o_pow3, o_pow5, o_shl1, o_xor, o_and, o_cat, it_tup, it_lst, it_obj, ix_tup, ix_lst, ix_obj, ix_tab, in_strT, in_strL, in_obj, in_tab, b_len, len_tup, len_lst, b_abs, b_max, b_min, b_int, b_intb, b_tuple, b_list, b_reprF, len_obj, List.getElem?_cons_zero, List.getElem?_cons_succ, List.set_cons_zero, List.set_cons_succ, if_true, if_false, decide_eq_true_eq, Bool.not_eq_true', decide_eq_false_iff_not, Bool.false_eq_true, Bool.true_eq_false, not_true_eq_false, not_false_eq_true, decide_true, decide_false, Bool.not_true, Bool.not_false, reduceIte, Option.map_some, if_pos, if_neg, Int.one_mul, atI_0, atI_1, atI_2, atI_3, atI_4, atI_5, atI_6, atI_7, atI_8, atI_9, List.getElem?_set_self, set_ixU, m_appendU, setAt_0, setAt_1, setAt_2, setAt_3, setAt_4, setAt_5, rng_ok1, step_none, step_some, wipe_nil, wipe_cons, b_isi, kd_tup, kd_lst, kd_str, kd_int, isi_same, e_sl, eo_none, eo_some, sl_tupD, sl_lstD, sl_objD, e_rev, e_lrng, e_dsp, ep_nil, ep_cons, ei_items, rev_lst, okm_app, okm_ext, okm_ixO, okm_ix, okm_get, okm_getO, m_extend, m_getT, m_getO, m_getT1, m_getO1, m_index, setL_int, okK_str, okK_int, okK_bl, okK_ss, b_sorted, o_addL, o_addOL, o_mulL, o_addS, last_get0, last_set0, and_self, and_true, true_and, is_non, is_str, is_int, isn_non, isn_str, isn_int, e_lset, lset_ints, b_max1, b_max1L, b_max1T2, cmp_leT, kv_int, kv_str, stepK_none, stepK_some])
def S_half_of : Wd
  | [.int w], st, r, s => r = .int (half w) ∧ s = st
  | _, _, _, _ => False
noncomputable def F_half_of : List D → Store → Option (D × Store) := specF T_ranks_of 1 1 c_half_of S_half_of
noncomputable def T_half_of : Tab := T_ranks_of.push ⟨"half_of", [], F_half_of⟩
theorem q_half_of {w : Int} {st : Store} (h1 : 1 ≤ w) (h2 : w ≤ 1000) : F_half_of [.int w] st = some (.int (half w), st) := by
  refine specF_eq rfl ?_ (fun r s h => h)
  show W _ c_half_of [some (.int w)] st _ tg
  unfold c_half_of
  walk_at "0half_of"
  exact ⟨_, _, ret_same, rfl, rfl⟩
end Bo

set_option Elab.async false
set_option linter.all false
set_option maxRecDepth 100000
set_option maxHeartbeats 8000000
namespace Bo
open PySem PySem.Spec L2
def N_ranking_of : List Str := ["width", "words", "plus", "word"]
def P_ranking_of : List Str := ["width", "words"]
def c_ranking_of : CS :=
      (.seq (.expr (.call 1 (.cons (.var 0) .nil)))
      (.seq (.expr (.call 2 (.cons (.var 0) (.cons (.var 1) .nil))))
      (.seq (.asgC 2 (.dcomp (.var 3) (.bl true) (.nm 3) (.val (.var 1)) (.some (.cmp .lt (.var 3) (.call 4 (.cons (.var 0) .nil)))) [3]))
      (.seq (.ret (.tup (.cons (.call 3 (.cons (.var 1) .nil)) (.cons (.bi .len (.cons (.var 2) .nil)) .nil))))
      .skip))))
theorem sc_ranking_of : FnScope N_ranking_of P_ranking_of (defScope (topS 24)) := ⟨rfl, rfl, rfl, by decide +kernel, rfl, by decide +kernel, by decide +kernel⟩
theorem ch_ranking_of : chkB T_half_of 5 N_ranking_of (defScope (topS 24)) c_ranking_of (defBody (topS 24)) = true := by decide +kernel
theorem l_ranking_of_1 : T_half_of.fns[1]? = some ⟨"check_width", [], F_check_width⟩ := rfl
theorem l_ranking_of_2 : T_half_of.fns[2]? = some ⟨"check_words", [], F_check_words⟩ := rfl
theorem l_ranking_of_3 : T_half_of.fns[3]? = some ⟨"ranks_of", [], F_ranks_of⟩ := rfl
theorem l_ranking_of_4 : T_half_of.fns[4]? = some ⟨"half_of", [], F_half_of⟩ := rfl
local macro_rules | `(tactic| walk_at "ranking_of") => `(tactic| simp (discharger := first | assumption | omega | (simp only [List.all_cons, List.all_nil, isWord, decide_eq_true_eq, Bool.and_true, Bool.and_eq_true]; omega)) only [l_ranking_of_1, q_check_width, l_ranking_of_2, q_check_words, l_ranking_of_3, q_ranks_of, l_ranking_of_4, q_half_of, w_skip, w_seq, w_expr, w_asg, w_asgC, w_asg2, w_setix, w_setix2, two_eq, w_aug, w_if, w_for, w_ret, w_retN, w_raise, w_brk, w_cnt, e_var', e_non, e_bl, e_int, e_str, e_gl, e_ty, e_bin, e_neg, e_nt, e_and, e_or, e_cmp, e_chn, e_ife, e_tup, e_lst, e_lstO, e_ix, e_call, e_bi, e_mth, es_nil, es_cons, ei_rng1, ei_rng2, ei_enum, ei_val, evT_eq, asgT, asgTs, tru_non, tru_bl, tru_int, tru_tup, tru_lst, eqD_int, eqD_bl, eqD_str, cmp_eq, cmp_ne, cmp_lt, cmp_le, cmp_gt, cmp_ge, cmp_inn, cmp_nin, o_add, o_sub, o_mulS, o_fdivS, o_mod, o_pow18, o_pow3, o_pow5, o_shl1, o_xor, o_and, o_cat, it_tup, it_lst, it_obj, ix_tup, ix_lst, ix_obj, ix_tab, in_strT, in_strL, in_obj, in_tab, b_len, len_tup, len_lst, b_abs, b_max, b_min, b_int, b_intb, b_tuple, b_list, b_reprF, len_obj, List.getElem?_cons_zero, List.getElem?_cons_succ, List.set_cons_zero, List.set_cons_succ, if_true, if_false, decide_eq_true_eq, Bool.not_eq_true', decide_eq_false_iff_not, Bool.false_eq_true, Bool.true_eq_false, not_true_eq_false, not_false_eq_true, decide_true, decide_false, Bool.not_true, Bool.not_false, reduceIte, Option.map_some, if_pos, if_neg, Int.one_mul, atI_0, atI_1, atI_2, atI_3, atI_4, atI_5, atI_6, atI_7, atI_8, atI_9, List.getElem?_set_self, set_ixU, m_appendU, setAt_0, setAt_1, setAt_2, setAt_3, setAt_4, setAt_5, rng_ok1, step_none, step_some, wipe_nil, wipe_cons, b_isi, kd_tup, kd_lst, kd_str, kd_int, isi_same, e_sl, eo_none, eo_some, sl_tupD, sl_lstD, sl_objD, e_rev, e_lrng, e_dsp, ep_nil, ep_cons, ei_items, rev_lst, okm_app, okm_ext, okm_ixO, okm_ix, okm_get, okm_getO, m_extend, m_getT, m_getO, m_getT1, m_getO1, m_index, setL_int, okK_str, okK_int, okK_bl, okK_ss, b_sorted, o_addL, o_addOL, o_mulL, o_addS, last_get0, last_set0, and_self, and_true, true_and, is_non, is_str, is_int, isn_non, isn_str, isn_int, e_lset, lset_ints, b_max1, b_max1L, b_max1T2, cmp_leT, kv_int, kv_str, stepK_none, stepK_some, *])
local macro_rules | `(tactic| walk_at "0ranking_of") => `(tactic| simp (discharger := first | assumption | omega | (simp only [List.all_cons, List.all_nil, isWord, decide_eq_true_eq, Bool.and_true, Bool.and_eq_true]; omega)) only [l_ranking_of_1, q_check_width, l_ranking_of_2, q_check_words, l_ranking_of_3, q_ranks_of, l_ranking_of_4, q_half_of, w_skip, w_seq, w_expr, w_asg, w_asgC, w_asg2, w_setix, w_setix2, two_eq, w_aug, w_if, w_for, w_ret, w_retN, w_raise, w_brk, w_cnt, e_var', e_non, e_bl, e_int, e_str, e_gl, e_ty, e_bin, e_neg, e_nt, e_and, e_or, e_cmp, e_chn, e_ife, e_tup, e_lst, e_lstO, e_ix, e_call, e_bi, e_mth, es_nil, es_cons, ei_rng1, ei_rng2, ei_enum, ei_val, evT_eq, asgT, asgTs, tru_non, tru_bl, tru_int, tru_tup, tru_lst, eqD_int, eqD_bl, eqD_str, cmp_eq, cmp_ne, cmp_lt, cmp_le, cmp_gt, cmp_ge, cmp_inn, cmp_nin, o_add, o_sub, o_mulS, o_fdivS, o_mod, o_pow18, o_pow3, o_pow5, o_shl1, o_xor, o_and, o_cat, it_tup, it_lst, it_obj, ix_tup, ix_lst, ix_obj, ix_tab, in_strT, in_strL, in_obj, in_tab, b_len, len_tup, len_lst, b_abs, b_max, b_min, b_int, b_intb, b_tuple, b_list, b_reprF, len_obj, List.getElem?_cons_zero, List.getElem?_cons_succ, List.set_cons_zero, List.set_cons_succ, if_true, if_false, decide_eq_true_eq, Bool.not_eq_true', decide_eq_false_iff_not, Bool.false_eq_true, Bool.true_eq_false, not_true_eq_false, not_false_eq_true, decide_true, decide_false, Bool.not_true, Bool.not_false, reduceIte, Option.map_some, if_pos, if_neg, Int.one_mul, atI_0, atI_1, atI_2, atI_3, atI_4, atI_5, atI_6, atI_7, atI_8, atI_9, List.getElem?_set_self, set_ixU, m_appendU, setAt_0, setAt_1, setAt_2, setAt_3, setAt_4, setAt_5, rng_ok1, step_none, step_some, wipe_nil, wipe_cons, b_isi, kd_tup, kd_lst, kd_str, kd_int, isi_same, e_sl, eo_none, eo_some, sl_tupD, sl_lstD, sl_objD, e_rev, e_lrng, e_dsp, ep_nil, ep_cons, ei_items, rev_lst, okm_app, okm_ext, okm_ixO, okm_ix, okm_get, okm_getO, m_extend, m_getT, m_getO, m_getT1, m_getO1, m_index, setL_int, okK_str, okK_int, okK_bl, okK_ss, b_sorted, o_addL, o_addOL, o_mulL, o_addS, last_get0, last_set0, and_self, and_true, true_and, is_non, is_str, is_int, isn_non, isn_str, isn_int, e_lset, lset_ints, b_max1, b_max1L, b_max1T2, cmp_leT, kv_int, kv_str, stepK_none, stepK_some])
def S_ranking_of : Wd := fun ds st r s => ∃ (w : Int) (ns : List Int), ds = [.int w, .tup (ns.map D.int)] ∧ r = .tup [.tup ((ranksOf ns).map D.int), .int (below ns (half w) : Nat)] ∧ s = st
noncomputable def F_ranking_of : List D → Store → Option (D × Store) := specF T_half_of 4 2 c_ranking_of S_ranking_of
noncomputable def T_ranking_of : Tab := T_half_of.push ⟨"ranking_of", [], F_ranking_of⟩
noncomputable def T_ranking_of_6 : Tab := T_ranking_of.push ⟨"ranking_of", ["words", "width"], viaF 2 [1, 0] F_ranking_of⟩
theorem q_ranking_of {w : Int} {ns : List Int} {st : Store} (h1 : 1 ≤ w) (h2 : w ≤ 1000) (hx : Words w.toNat ns) (hl : ns.length < 64) : F_ranking_of [.int w, .tup (ns.map D.int)] st = some (.tup [.tup ((ranksOf ns).map D.int), .int (below ns (half w) : Nat)], st) := by
  refine specF_eq rfl ?_ (fun r s ⟨w', ns', e, h3, h4⟩ => ?_)
  · show W _ c_ranking_of [some (.int w), some (.tup (ns.map D.int)), none, none] st _ tg
    unfold c_ranking_of
    have ha := hx.all
    have rk := fun st => q_ranks_of (ns := ns) (st := st) (hx.fine (by omega)) hl
    walk_at "0ranking_of"
    rw [dcomp_if ns D.int keyP (fun x => decide (x < half w)) (st1 := st) (by walk_at "0ranking_of") (fun x hx => by
      walk_at "0ranking_of"
      by_cases q : x < half w <;> simp [q, keyP]), dict_nub]
    have g := last_get (s := st) (o := .dct (.lf true) ((nub (ns.filter fun x => decide (x < half w))).map entP)) rfl
    have lm : ((nub (ns.filter fun x => decide (x < half w))).map entP).length = below ns (half w) := List.length_map ..
    clear ha hx
    walk_at "0ranking_of"
    simp only [rk]
    try walk_at "0ranking_of"
    simp only [g, lm]
    try walk_at "0ranking_of"
    exact ⟨_, _, ret_app (by simp only [pureD, closedD, closedDs, closed_ints, Bool.and_self]), w, ns, rfl, rfl, rfl⟩
  · simp only [List.cons.injEq, D.int.injEq, D.tup.injEq, and_true] at e
    obtain ⟨rfl, e⟩ := e
    rw [ints_inj e]
    exact ⟨h3, h4⟩
end Bo

set_option Elab.async false
set_option linter.all false
set_option maxRecDepth 100000
set_option maxHeartbeats 8000000
namespace Bo
open PySem PySem.Spec L2
def N__law_draw : List Str := ["pool", "many", "drawn", "mixed"]
def P__law_draw : List Str := ["pool", "many"]
def c__law_draw : CS :=
      (.seq (.iff (.cmp .gt (.ix (.var 0) (.int 0)) (.int 0))
      (.seq (.asg (.nm 2) (.bin .mod (.ix (.var 0) (.int 0)) (.var 1)))
      (.seq (.setix (.var 0) (.int 0) (.bin .fdiv (.ix (.var 0) (.int 0)) (.var 1)))
      (.seq (.ret (.var 2))
      .skip)))
      .skip)
      (.seq (.setix (.var 0) (.int 2) (.bin .add (.ix (.var 0) (.int 2)) (.int 1)))
      (.seq (.asg (.nm 3) (.bin .mod (.bin .pow (.bin .add (.ix (.var 0) (.int 1)) (.bin .mul (.int 15487469) (.ix (.var 0) (.int 2)))) (.int 3)) (.int 162259276829213363391578010288127)))
      (.seq (.asg (.nm 3) (.bin .mod (.bin .pow (.bin .add (.var 3) (.bin .mul (.int 32453123) (.ix (.var 0) (.int 2)))) (.int 5)) (.int 170141183460469231731687303715884105727)))
      (.seq (.ret (.bin .mod (.bin .fdiv (.var 3) (.int 1048576)) (.var 1)))
      .skip)))))
theorem sc__law_draw : FnScope N__law_draw P__law_draw (defScope (topS 29)) := ⟨rfl, rfl, rfl, by decide +kernel, rfl, by decide +kernel, by decide +kernel⟩
theorem ch__law_draw : chkB T_ranking_of_6 7 N__law_draw (defScope (topS 29)) c__law_draw (defBody (topS 29)) = true := by decide +kernel
local macro_rules | `(tactic| walk_at "_law_draw") => `(tactic| simp (discharger := first | assumption | omega | (simp only [List.all_cons, List.all_nil, isWord, decide_eq_true_eq, Bool.and_true, Bool.and_eq_true]; omega)) only [w_skip, w_seq, w_expr, w_asg, w_asgC, w_asg2, w_setix, w_setix2, two_eq, w_aug, w_if, w_for, w_ret, w_retN, w_raise, w_brk, w_cnt, e_var', e_non, e_bl, e_int, e_str, e_gl, e_ty, e_bin, e_neg, e_nt, e_and, e_or, e_cmp, e_chn, e_ife, e_tup, e_lst, e_lstO, e_ix, e_call, e_bi, e_mth, es_nil, es_cons, ei_rng1, ei_rng2, ei_enum, ei_val, evT_eq, asgT, asgTs, tru_non, tru_bl, tru_int, tru_tup, tru_lst, eqD_int, eqD_bl, eqD_str, cmp_eq, cmp_ne, cmp_lt, cmp_le, cmp_gt, cmp_ge, cmp_inn, cmp_nin, o_add, o_sub, o_mulS, o_fdivS, o_mod, o_pow18, o_pow3, o_pow5, o_shl1, o_xor, o_and, o_cat, it_tup, it_lst, it_obj, ix_tup, ix_lst, ix_obj, ix_tab, in_strT, in_strL, in_obj, in_tab, b_len, len_tup, len_lst, b_abs, b_max, b_min, b_int, b_intb, b_tuple, b_list, b_reprF, len_obj, List.getElem?_cons_zero, List.getElem?_cons_succ, List.set_cons_zero, List.set_cons_succ, if_true, if_false, decide_eq_true_eq, Bool.not_eq_true', decide_eq_false_iff_not, Bool.false_eq_true, Bool.true_eq_false, not_true_eq_false, not_false_eq_true, decide_true, decide_false, Bool.not_true, Bool.not_false, reduceIte, Option.map_some, if_pos, if_neg, Int.one_mul, atI_0, atI_1, atI_2, atI_3, atI_4, atI_5, atI_6, atI_7, atI_8, atI_9, List.getElem?_set_self, set_ixU, m_appendU, setAt_0, setAt_1, setAt_2, setAt_3, setAt_4, setAt_5, rng_ok1, step_none, step_some, wipe_nil, wipe_cons, b_isi, kd_tup, kd_lst, kd_str, kd_int, isi_same, e_sl, eo_none, eo_some, sl_tupD, sl_lstD, sl_objD, e_rev, e_lrng, e_dsp, ep_nil, ep_cons, ei_items, rev_lst, okm_app, okm_ext, okm_ixO, okm_ix, okm_get, okm_getO, m_extend, m_getT, m_getO, m_getT1, m_getO1, m_index, setL_int, okK_str, okK_int, okK_bl, okK_ss, b_sorted, o_addL, o_addOL, o_mulL, o_addS, last_get0, last_set0, and_self, and_true, true_and, is_non, is_str, is_int, isn_non, isn_str, isn_int, e_lset, lset_ints, b_max1, b_max1L, b_max1T2, cmp_leT, kv_int, kv_str, stepK_none, stepK_some, *])
local macro_rules | `(tactic| walk_at "0_law_draw") => `(tactic| simp (discharger := first | assumption | omega | (simp only [List.all_cons, List.all_nil, isWord, decide_eq_true_eq, Bool.and_true, Bool.and_eq_true]; omega)) only [w_skip, w_seq, w_expr, w_asg, w_asgC, w_asg2, w_setix, w_setix2, two_eq, w_aug, w_if, w_for, w_ret, w_retN, w_raise, w_brk, w_cnt, e_var', e_non, e_bl, e_int, e_str, e_gl, e_ty, e_bin, e_neg, e_nt, e_and, e_or, e_cmp, e_chn, e_ife, e_tup, e_lst, e_lstO, e_ix, e_call, e_bi, e_mth, es_nil, es_cons, ei_rng1, ei_rng2, ei_enum, ei_val, evT_eq, asgT, asgTs, tru_non, tru_bl, tru_int, tru_tup, tru_lst, eqD_int, eqD_bl, eqD_str, cmp_eq, cmp_ne, cmp_lt, cmp_le, cmp_gt, cmp_ge, cmp_inn, cmp_nin, o_add, o_sub, o_mulS, o_fdivS, o_mod, o_pow18, o_pow3, o_pow5, o_shl1, o_xor, o_and, o_cat, it_tup, it_lst, it_obj, ix_tup, ix_lst, ix_obj, ix_tab, in_strT, in_strL, in_obj, in_tab, b_len, len_tup, len_lst, b_abs, b_max, b_min, b_int, b_intb, b_tuple, b_list, b_reprF, len_obj, List.getElem?_cons_zero, List.getElem?_cons_succ, List.set_cons_zero, List.set_cons_succ, if_true, if_false, decide_eq_true_eq, Bool.not_eq_true', decide_eq_false_iff_not, Bool.false_eq_true, Bool.true_eq_false, not_true_eq_false, not_false_eq_true, decide_true, decide_false, Bool.not_true, Bool.not_false, reduceIte, Option.map_some, if_pos, if_neg, Int.one_mul, atI_0, atI_1, atI_2, atI_3, atI_4, atI_5, atI_6, atI_7, atI_8, atI_9, List.getElem?_set_self, set_ixU, m_appendU, setAt_0, setAt_1, setAt_2, setAt_3, setAt_4, setAt_5, rng_ok1, step_none, step_some, wipe_nil, wipe_cons, b_isi, kd_tup, kd_lst, kd_str, kd_int, isi_same, e_sl, eo_none, eo_some, sl_tupD, sl_lstD, sl_objD, e_rev, e_lrng, e_dsp, ep_nil, ep_cons, ei_items, rev_lst, okm_app, okm_ext, okm_ixO, okm_ix, okm_get, okm_getO, m_extend, m_getT, m_getO, m_getT1, m_getO1, m_index, setL_int, okK_str, okK_int, okK_bl, okK_ss, b_sorted, o_addL, o_addOL, o_mulL, o_addS, last_get0, last_set0, and_self, and_true, true_and, is_non, is_str, is_int, isn_non, isn_str, isn_int, e_lset, lset_ints, b_max1, b_max1L, b_max1T2, cmp_leT, kv_int, kv_str, stepK_none, stepK_some])
def S__law_draw : Wd := fun ds st r s => ∃ k m v, ds = [.obj k, .int m] ∧ r = .int v ∧ 0 ≤ v ∧ v < m ∧ Dr st k s 1
noncomputable def F__law_draw : List D → Store → Option (D × Store) := specF T_ranking_of_6 4 2 c__law_draw S__law_draw
noncomputable def T__law_draw : Tab := T_ranking_of_6.push ⟨"_law_draw", [], F__law_draw⟩
theorem q__law_draw {st : Store} {k n : Nat} {m : Int} (h : Pl st k n) (hn : n ≤ 1000000000) (hm : Many m) : ∃ v s, F__law_draw [.obj k, .int m] st = some (.int v, s) ∧ 0 ≤ v ∧ v < m ∧ Dr st k s 1 := by
  have key : ∃ r s, F__law_draw [.obj k, .int m] st = some (r, s) ∧ S__law_draw [.obj k, .int m] st r s := by
    refine specF_of rfl ?_
    show W _ c__law_draw [some (.obj k), some (.int m), none, none] st _ tg
    unfold c__law_draw
    obtain ⟨p, hp, ok⟩ := h
    obtain ⟨a, b, c⟩ := p
    have h0 : st[k]? = some (.lst [.int a, .int b, .int c]) := hp
    obtain ⟨o1, o2, o3, o4, o5⟩ := ok
    have hm0 := hm.1
    dsimp only at o1 o2 o3 o4 o5
    have hk : k < st.length := (List.getElem?_eq_some_iff.mp hp).1
    have ss : ∀ o : O, (st.set k o)[k]? = some o := fun o => List.getElem?_set_self hk
    have same : ∀ n', Pl st k n' → (⟨a, b, c⟩ : Pool).ok n' := fun n' h' => by
      obtain ⟨p', hp', ok'⟩ := h'
      rw [hp] at hp'
      have e : p' = ⟨a, b, c⟩ := by
        obtain ⟨a', b', c'⟩ := p'
        have := O.lst.inj (Option.some.inj hp')
        simp only [List.cons.injEq, D.int.injEq] at this
        obtain ⟨r1, r2, r3, _⟩ := this
        rw [← r1, ← r2, ← r3]
      rw [← e]
      exact ok'
    clear hp
    by_cases ha : 0 < a
    · have fd := fdiv_many (st := st) (a := a) hm
      walk_at "_law_draw"
      refine ⟨_, _, ret_same, k, m, _, rfl, rfl, Int.emod_nonneg _ (by omega), Int.emod_lt_of_pos _ hm0, ⟨⟨a / m, b, c⟩, rfl⟩, fun n' h' => ?_⟩
      have ok' := same n' h'
      exact ⟨⟨a / m, b, c⟩, ss _, Int.ediv_nonneg o1 (by omega), o2, o3, o4, by have := ok'.c1; dsimp only at this ⊢; omega⟩
    · walk_at "_law_draw"
      refine ⟨_, _, ret_same, k, m, _, rfl, rfl, Int.emod_nonneg _ (by omega), Int.emod_lt_of_pos _ hm0, ⟨⟨a, b, c + 1⟩, rfl⟩, fun n' h' => ?_⟩
      have ok' := same n' h'
      exact ⟨⟨a, b, c + 1⟩, ss _, o1, o2, o3, by show 0 ≤ c + 1; omega, by have := ok'.c1; dsimp only at this ⊢; omega⟩
  obtain ⟨r, s, e, k', m', v, e1, rfl, h1, h2, h3⟩ := key
  cases e1
  exact ⟨v, s, e, h1, h2, h3⟩
end Bo

set_option Elab.async false
set_option linter.all false
set_option maxRecDepth 100000
set_option maxHeartbeats 8000000
namespace Bo
open PySem PySem.Spec L2
def N__law_wide : List Str := ["pool", "some"]
def P__law_wide : List Str := ["pool"]
def c__law_wide : CS :=
      (.seq (.asg (.nm 1) (.lst (.cons (.bin .add (.int 1) (.call 7 (.cons (.var 0) (.cons (.int 4) .nil)))) (.cons (.ix (.lst (.cons (.int 8) (.cons (.int 16) (.cons (.int 32) (.cons (.int 64) (.cons (.int 300) .nil)))))) (.call 7 (.cons (.var 0) (.cons (.int 5) .nil)))) (.cons (.bin .add (.int 1) (.call 7 (.cons (.var 0) (.cons (.int 300) .nil)))) .nil)))))
      (.seq (.ret (.ix (.var 1) (.call 7 (.cons (.var 0) (.cons (.int 3) .nil)))))
      .skip))
theorem sc__law_wide : FnScope N__law_wide P__law_wide (defScope (topS 30)) := ⟨rfl, rfl, rfl, by decide +kernel, rfl, by decide +kernel, by decide +kernel⟩
theorem ch__law_wide : chkB T__law_draw 8 N__law_wide (defScope (topS 30)) c__law_wide (defBody (topS 30)) = true := by decide +kernel
theorem l__law_wide_7 : T__law_draw.fns[7]? = some ⟨"_law_draw", [], F__law_draw⟩ := rfl
local macro_rules | `(tactic| walk_at "_law_wide") => `(tactic| simp (discharger := first | assumption | omega | (simp only [List.all_cons, List.all_nil, isWord, decide_eq_true_eq, Bool.and_true, Bool.and_eq_true]; omega)) only [l__law_wide_7, w_skip, w_seq, w_expr, w_asg, w_asgC, w_asg2, w_setix, w_setix2, two_eq, w_aug, w_if, w_for, w_ret, w_retN, w_raise, w_brk, w_cnt, e_var', e_non, e_bl, e_int, e_str, e_gl, e_ty, e_bin, e_neg, e_nt, e_and, e_or, e_cmp, e_chn, e_ife, e_tup, e_lst, e_lstO, e_ix, e_call, e_bi, e_mth, es_nil, es_cons, ei_rng1, ei_rng2, ei_enum, ei_val, evT_eq, asgT, asgTs, tru_non, tru_bl, tru_int, tru_tup, tru_lst, eqD_int, eqD_bl, eqD_str, cmp_eq, cmp_ne, cmp_lt, cmp_le, cmp_gt, cmp_ge, cmp_inn, cmp_nin, o_add, o_sub, o_mulS, o_fdivS, o_mod, o_pow18, o_pow3, o_pow5, o_shl1, o_xor, o_and, o_cat, it_tup, it_lst, it_obj, ix_tup, ix_lst, ix_obj, ix_tab, in_strT, in_strL, in_obj, in_tab, b_len, len_tup, len_lst, b_abs, b_max, b_min, b_int, b_intb, b_tuple, b_list, b_reprF, len_obj, List.getElem?_cons_zero, List.getElem?_cons_succ, List.set_cons_zero, List.set_cons_succ, if_true, if_false, decide_eq_true_eq, Bool.not_eq_true', decide_eq_false_iff_not, Bool.false_eq_true, Bool.true_eq_false, not_true_eq_false, not_false_eq_true, decide_true, decide_false, Bool.not_true, Bool.not_false, reduceIte, Option.map_some, if_pos, if_neg, Int.one_mul, atI_0, atI_1, atI_2, atI_3, atI_4, atI_5, atI_6, atI_7, atI_8, atI_9, List.getElem?_set_self, set_ixU, m_appendU, setAt_0, setAt_1, setAt_2, setAt_3, setAt_4, setAt_5, rng_ok1, step_none, step_some, wipe_nil, wipe_cons, b_isi, kd_tup, kd_lst, kd_str, kd_int, isi_same, e_sl, eo_none, eo_some, sl_tupD, sl_lstD, sl_objD, e_rev, e_lrng, e_dsp, ep_nil, ep_cons, ei_items, rev_lst, okm_app, okm_ext, okm_ixO, okm_ix, okm_get, okm_getO, m_extend, m_getT, m_getO, m_getT1, m_getO1, m_index, setL_int, okK_str, okK_int, okK_bl, okK_ss, b_sorted, o_addL, o_addOL, o_mulL, o_addS, last_get0, last_set0, and_self, and_true, true_and, is_non, is_str, is_int, isn_non, isn_str, isn_int, e_lset, lset_ints, b_max1, b_max1L, b_max1T2, cmp_leT, kv_int, kv_str, stepK_none, stepK_some, *])
local macro_rules | `(tactic| walk_at "0_law_wide") => `(tactic| simp (discharger := first | assumption | omega | (simp only [List.all_cons, List.all_nil, isWord, decide_eq_true_eq, Bool.and_true, Bool.and_eq_true]; omega)) only [l__law_wide_7, w_skip, w_seq, w_expr, w_asg, w_asgC, w_asg2, w_setix, w_setix2, two_eq, w_aug, w_if, w_for, w_ret, w_retN, w_raise, w_brk, w_cnt, e_var', e_non, e_bl, e_int, e_str, e_gl, e_ty, e_bin, e_neg, e_nt, e_and, e_or, e_cmp, e_chn, e_ife, e_tup, e_lst, e_lstO, e_ix, e_call, e_bi, e_mth, es_nil, es_cons, ei_rng1, ei_rng2, ei_enum, ei_val, evT_eq, asgT, asgTs, tru_non, tru_bl, tru_int, tru_tup, tru_lst, eqD_int, eqD_bl, eqD_str, cmp_eq, cmp_ne, cmp_lt, cmp_le, cmp_gt, cmp_ge, cmp_inn, cmp_nin, o_add, o_sub, o_mulS, o_fdivS, o_mod, o_pow18, o_pow3, o_pow5, o_shl1, o_xor, o_and, o_cat, it_tup, it_lst, it_obj, ix_tup, ix_lst, ix_obj, ix_tab, in_strT, in_strL, in_obj, in_tab, b_len, len_tup, len_lst, b_abs, b_max, b_min, b_int, b_intb, b_tuple, b_list, b_reprF, len_obj, List.getElem?_cons_zero, List.getElem?_cons_succ, List.set_cons_zero, List.set_cons_succ, if_true, if_false, decide_eq_true_eq, Bool.not_eq_true', decide_eq_false_iff_not, Bool.false_eq_true, Bool.true_eq_false, not_true_eq_false, not_false_eq_true, decide_true, decide_false, Bool.not_true, Bool.not_false, reduceIte, Option.map_some, if_pos, if_neg, Int.one_mul, atI_0, atI_1, atI_2, atI_3, atI_4, atI_5, atI_6, atI_7, atI_8, atI_9, List.getElem?_set_self, set_ixU, m_appendU, setAt_0, setAt_1, setAt_2, setAt_3, setAt_4, setAt_5, rng_ok1, step_none, step_some, wipe_nil, wipe_cons, b_isi, kd_tup, kd_lst, kd_str, kd_int, isi_same, e_sl, eo_none, eo_some, sl_tupD, sl_lstD, sl_objD, e_rev, e_lrng, e_dsp, ep_nil, ep_cons, ei_items, rev_lst, okm_app, okm_ext, okm_ixO, okm_ix, okm_get, okm_getO, m_extend, m_getT, m_getO, m_getT1, m_getO1, m_index, setL_int, okK_str, okK_int, okK_bl, okK_ss, b_sorted, o_addL, o_addOL, o_mulL, o_addS, last_get0, last_set0, and_self, and_true, true_and, is_non, is_str, is_int, isn_non, isn_str, isn_int, e_lset, lset_ints, b_max1, b_max1L, b_max1T2, cmp_leT, kv_int, kv_str, stepK_none, stepK_some])
def S__law_wide : Wd := fun ds st r s => ∃ k v, ds = [.obj k] ∧ r = .int v ∧ 1 ≤ v ∧ v ≤ 300 ∧ Dr st k s 4
noncomputable def F__law_wide : List D → Store → Option (D × Store) := specF T__law_draw 2 1 c__law_wide S__law_wide
noncomputable def T__law_wide : Tab := T__law_draw.push ⟨"_law_wide", [], F__law_wide⟩
theorem q__law_wide {st : Store} {k n : Nat} (h : Pl st k n) (hn : n ≤ 100000000) : ∃ v s, F__law_wide [.obj k] st = some (.int v, s) ∧ 1 ≤ v ∧ v ≤ 300 ∧ Dr st k s 4 := by
  have key : ∃ r s, F__law_wide [.obj k] st = some (r, s) ∧ S__law_wide [.obj k] st r s := by
    refine specF_of rfl ?_
    show W _ c__law_wide [some (.obj k), none] st _ tg
    unfold c__law_wide
    obtain ⟨v1, s1, e1, a1, b1, d1⟩ := q__law_draw h (by omega) (many_small (m := 4) (by decide) (by decide))
    have h1 := d1.pl h
    obtain ⟨v2, s2, e2, a2, b2, d2⟩ := q__law_draw h1 (by omega) (many_small (m := 5) (by decide) (by decide))
    have h2 := d2.pl h1
    obtain ⟨v3, s3, e3, a3, b3, d3⟩ := q__law_draw h2 (by omega) (many_small (m := 300) (by decide) (by decide))
    have h3 := d3.pl h2
    obtain ⟨v4, s4, e4, a4, b4, d4⟩ := q__law_draw h3 (by omega) (many_small (m := 3) (by decide) (by decide))
    obtain ⟨x, hx, mx⟩ := atI_in (ds := [.int 8, .int 16, .int 32, .int 64, .int 300]) a2 b2
    obtain ⟨y, rfl, y1, y2⟩ : ∃ y : Int, x = .int y ∧ 1 ≤ y ∧ y ≤ 300 := by
      simp only [List.mem_cons, List.not_mem_nil, or_false] at mx
      rcases mx with rfl | rfl | rfl | rfl | rfl <;> exact ⟨_, rfl, by decide, by decide⟩
    obtain ⟨z, hz, mz⟩ := atI_in (ds := [.int (1 + v1), .int y, .int (1 + v3)]) a4 b4
    obtain ⟨u, rfl, u1, u2⟩ : ∃ y : Int, z = .int y ∧ 1 ≤ y ∧ y ≤ 300 := by
      simp only [List.mem_cons, List.not_mem_nil, or_false] at mz
      rcases mz with rfl | rfl | rfl <;> exact ⟨_, rfl, by omega, by omega⟩
    walk_at "_law_wide"
    exact ⟨_, _, ret_same, k, u, rfl, rfl, u1, u2, ((d1.trans d2).trans d3).trans d4⟩
  obtain ⟨r, s, e, k', v, e1, rfl, h1, h2, h3⟩ := key
  cases e1
  exact ⟨v, s, e, h1, h2, h3⟩
end Bo

set_option Elab.async false
set_option linter.all false
set_option maxRecDepth 100000
set_option maxHeartbeats 8000000
namespace Bo
open PySem PySem.Spec L2
def N__law_power : List Str := ["many", "found", "turn"]
def P__law_power : List Str := ["many"]
def c__law_power : CS :=
      (.seq (.asg (.nm 1) (.int 1))
      (.seq (.for_ (.nm 2) (.rng1 (.var 0))
      (.seq (.asg (.nm 1) (.bin .mul (.var 1) (.int 2)))
      .skip))
      (.seq (.ret (.var 1))
      .skip)))
theorem sc__law_power : FnScope N__law_power P__law_power (defScope (topS 31)) := ⟨rfl, rfl, rfl, by decide +kernel, rfl, by decide +kernel, by decide +kernel⟩
theorem ch__law_power : chkB T__law_wide 9 N__law_power (defScope (topS 31)) c__law_power (defBody (topS 31)) = true := by decide +kernel
local macro_rules | `(tactic| walk_at "_law_power") => `(tactic| simp (discharger := first | assumption | omega | (simp only [List.all_cons, List.all_nil, isWord, decide_eq_true_eq, Bool.and_true, Bool.and_eq_true]; omega)) only [w_skip, w_seq, w_expr, w_asg, w_asgC, w_asg2, w_setix, w_setix2, two_eq, w_aug, w_if, w_for, w_ret, w_retN, w_raise, w_brk, w_cnt, e_var', e_non, e_bl, e_int, e_str, e_gl, e_ty, e_bin, e_neg, e_nt, e_and, e_or, e_cmp, e_chn, e_ife, e_tup, e_lst, e_lstO, e_ix, e_call, e_bi, e_mth, es_nil, es_cons, ei_rng1, ei_rng2, ei_enum, ei_val, evT_eq, asgT, asgTs, tru_non, tru_bl, tru_int, tru_tup, tru_lst, eqD_int, eqD_bl, eqD_str, cmp_eq, cmp_ne, cmp_lt, cmp_le, cmp_gt, cmp_ge, cmp_inn, cmp_nin, o_add, o_sub, o_mulS, o_fdivS, o_mod, o_pow18, o_pow3, o_pow5, o_shl1, o_xor, o_and, o_cat, it_tup, it_lst, it_obj, ix_tup, ix_lst, ix_obj, ix_tab, in_strT, in_strL, in_obj, in_tab, b_len, len_tup, len_lst, b_abs, b_max, b_min, b_int, b_intb, b_tuple, b_list, b_reprF, len_obj, List.getElem?_cons_zero, List.getElem?_cons_succ, List.set_cons_zero, List.set_cons_succ, if_true, if_false, decide_eq_true_eq, Bool.not_eq_true', decide_eq_false_iff_not, Bool.false_eq_true, Bool.true_eq_false, not_true_eq_false, not_false_eq_true, decide_true, decide_false, Bool.not_true, Bool.not_false, reduceIte, Option.map_some, if_pos, if_neg, Int.one_mul, atI_0, atI_1, atI_2, atI_3, atI_4, atI_5, atI_6, atI_7, atI_8, atI_9, List.getElem?_set_self, set_ixU, m_appendU, setAt_0, setAt_1, setAt_2, setAt_3, setAt_4, setAt_5, rng_ok1, step_none, step_some, wipe_nil, wipe_cons, b_isi, kd_tup, kd_lst, kd_str, kd_int, isi_same, e_sl, eo_none, eo_some, sl_tupD, sl_lstD, sl_objD, e_rev, e_lrng, e_dsp, ep_nil, ep_cons, ei_items, rev_lst, okm_app, okm_ext, okm_ixO, okm_ix, okm_get, okm_getO, m_extend, m_getT, m_getO, m_getT1, m_getO1, m_index, setL_int, okK_str, okK_int, okK_bl, okK_ss, b_sorted, o_addL, o_addOL, o_mulL, o_addS, last_get0, last_set0, and_self, and_true, true_and, is_non, is_str, is_int, isn_non, isn_str, isn_int, e_lset, lset_ints, b_max1, b_max1L, b_max1T2, cmp_leT, kv_int, kv_str, stepK_none, stepK_some, *])
local macro_rules | `(tactic| walk_at "0_law_power") => `(tactic| simp (discharger := first | assumption | omega | (simp only [List.all_cons, List.all_nil, isWord, decide_eq_true_eq, Bool.and_true, Bool.and_eq_true]; omega)) only [w_skip, w_seq, w_expr, w_asg, w_asgC, w_asg2, w_setix, w_setix2, two_eq, w_aug, w_if, w_for, w_ret, w_retN, w_raise, w_brk, w_cnt, e_var', e_non, e_bl, e_int, e_str, e_gl, e_ty, e_bin, e_neg, e_nt, e_and, e_or, e_cmp, e_chn, e_ife, e_tup, e_lst, e_lstO, e_ix, e_call, e_bi, e_mth, es_nil, es_cons, ei_rng1, ei_rng2, ei_enum, ei_val, evT_eq, asgT, asgTs, tru_non, tru_bl, tru_int, tru_tup, tru_lst, eqD_int, eqD_bl, eqD_str, cmp_eq, cmp_ne, cmp_lt, cmp_le, cmp_gt, cmp_ge, cmp_inn, cmp_nin, o_add, o_sub, o_mulS, o_fdivS, o_mod, o_pow18, o_pow3, o_pow5, o_shl1, o_xor, o_and, o_cat, it_tup, it_lst, it_obj, ix_tup, ix_lst, ix_obj, ix_tab, in_strT, in_strL, in_obj, in_tab, b_len, len_tup, len_lst, b_abs, b_max, b_min, b_int, b_intb, b_tuple, b_list, b_reprF, len_obj, List.getElem?_cons_zero, List.getElem?_cons_succ, List.set_cons_zero, List.set_cons_succ, if_true, if_false, decide_eq_true_eq, Bool.not_eq_true', decide_eq_false_iff_not, Bool.false_eq_true, Bool.true_eq_false, not_true_eq_false, not_false_eq_true, decide_true, decide_false, Bool.not_true, Bool.not_false, reduceIte, Option.map_some, if_pos, if_neg, Int.one_mul, atI_0, atI_1, atI_2, atI_3, atI_4, atI_5, atI_6, atI_7, atI_8, atI_9, List.getElem?_set_self, set_ixU, m_appendU, setAt_0, setAt_1, setAt_2, setAt_3, setAt_4, setAt_5, rng_ok1, step_none, step_some, wipe_nil, wipe_cons, b_isi, kd_tup, kd_lst, kd_str, kd_int, isi_same, e_sl, eo_none, eo_some, sl_tupD, sl_lstD, sl_objD, e_rev, e_lrng, e_dsp, ep_nil, ep_cons, ei_items, rev_lst, okm_app, okm_ext, okm_ixO, okm_ix, okm_get, okm_getO, m_extend, m_getT, m_getO, m_getT1, m_getO1, m_index, setL_int, okK_str, okK_int, okK_bl, okK_ss, b_sorted, o_addL, o_addOL, o_mulL, o_addS, last_get0, last_set0, and_self, and_true, true_and, is_non, is_str, is_int, isn_non, isn_str, isn_int, e_lset, lset_ints, b_max1, b_max1L, b_max1T2, cmp_leT, kv_int, kv_str, stepK_none, stepK_some])
def S__law_power : Wd
  | [.int w], st, r, s => r = .int (2 ^ w.toNat) ∧ s = st
  | _, _, _, _ => False
noncomputable def F__law_power : List D → Store → Option (D × Store) := specF T__law_wide 3 1 c__law_power S__law_power
noncomputable def T__law_power : Tab := T__law_wide.push ⟨"_law_power", [], F__law_power⟩
theorem q__law_power {w : Int} {st : Store} (h1 : 0 ≤ w) (h2 : w ≤ 2000) : F__law_power [.int w] st = some (.int (2 ^ w.toNat), st) := by
  refine specF_eq rfl ?_ (fun r s h => h)
  show W _ c__law_power [some (.int w), none, none] st _ tg
  unfold c__law_power
  walk_at "_law_power"
  refine w_inv (rngD 0 w) (fun i e s => s = st ∧ ∃ x, e = [some (.int w), some (.int (2 ^ i)), x]) ⟨rfl, _, rfl⟩ (fun i d e s hd ⟨hs, x, he⟩ => ?_) (fun e s ⟨hs, x, he⟩ => ?_)
  · subst hs he
    obtain ⟨rfl, hi⟩ := rng_get hd
    have hp : (2 : Int) ^ i ≤ 2 ^ 2000 := pow_le_2 (by omega)
    have h0 : (0 : Int) < 2 ^ i := pow_pos2
    walk_at "_law_power"
    simp only [mul_big (a := 2 ^ i) (b := 2) (by omega) hp (by decide) (by omega)]
    exact ⟨trivial, fun _ => ⟨trivial, _, by rw [Int.pow_succ]⟩⟩
  · subst hs he
    have e : (rngD 0 w).length = w.toNat := by rw [rng_len]; congr 1; omega
    rw [e]
    walk_at "_law_power"
    exact ⟨_, _, ret_same, rfl, rfl⟩
end Bo

set_option Elab.async false
set_option linter.all false
set_option maxRecDepth 100000
set_option maxHeartbeats 8000000
namespace Bo
open PySem PySem.Spec L2
def N__law_rank : List Str := ["wide", "some", "half", "ranks", "two", "one"]
def P__law_rank : List Str := ["wide", "some"]
def c__law_rank : CS :=
      (.seq (.asg (.nm 2) (.call 9 (.cons (.bin .sub (.var 0) (.int 1)) .nil)))
      (.seq (.asgC 3 (.comp (.lset (.comp (.var 4) (.nm 4) (.val (.var 1)) (.some (.cmp .lt (.var 4) (.var 5))) [4])) (.nm 5) (.val (.var 1)) .none [5]))
      (.seq (.ret (.tup (.cons (.bi .tuple1 (.cons (.var 3) .nil)) (.cons (.lset (.comp (.var 5) (.nm 5) (.val (.var 1)) (.some (.cmp .lt (.var 5) (.var 2))) [5])) .nil))))
      .skip)))
theorem sc__law_rank : FnScope N__law_rank P__law_rank (defScope (topS 36)) := ⟨rfl, rfl, rfl, by decide +kernel, rfl, by decide +kernel, by decide +kernel⟩
theorem ch__law_rank : chkB T__law_power 10 N__law_rank (defScope (topS 36)) c__law_rank (defBody (topS 36)) = true := by decide +kernel
theorem l__law_rank_9 : T__law_power.fns[9]? = some ⟨"_law_power", [], F__law_power⟩ := rfl
local macro_rules | `(tactic| walk_at "_law_rank") => `(tactic| simp (discharger := first | assumption | omega | (simp only [List.all_cons, List.all_nil, isWord, decide_eq_true_eq, Bool.and_true, Bool.and_eq_true]; omega)) only [l__law_rank_9, q__law_power, w_skip, w_seq, w_expr, w_asg, w_asgC, w_asg2, w_setix, w_setix2, two_eq, w_aug, w_if, w_for, w_ret, w_retN, w_raise, w_brk, w_cnt, e_var', e_non, e_bl, e_int, e_str, e_gl, e_ty, e_bin, e_neg, e_nt, e_and, e_or, e_cmp, e_chn, e_ife, e_tup, e_lst, e_lstO, e_ix, e_call, e_bi, e_mth, es_nil, es_cons, ei_rng1, ei_rng2, ei_enum, ei_val, evT_eq, asgT, asgTs, tru_non, tru_bl, tru_int, tru_tup, tru_lst, eqD_int, eqD_bl, eqD_str, cmp_eq, cmp_ne, cmp_lt, cmp_le, cmp_gt, cmp_ge, cmp_inn, cmp_nin, o_add, o_sub, o_mulS, o_fdivS, o_mod, o_pow18, o_pow3, o_pow5, o_shl1, o_xor, o_and, o_cat, it_tup, it_lst, it_obj, ix_tup, ix_lst, ix_obj, ix_tab, in_strT, in_strL, in_obj, in_tab, b_len, len_tup, len_lst, b_abs, b_max, b_min, b_int, b_intb, b_tuple, b_list, b_reprF, len_obj, List.getElem?_cons_zero, List.getElem?_cons_succ, List.set_cons_zero, List.set_cons_succ, if_true, if_false, decide_eq_true_eq, Bool.not_eq_true', decide_eq_false_iff_not, Bool.false_eq_true, Bool.true_eq_false, not_true_eq_false, not_false_eq_true, decide_true, decide_false, Bool.not_true, Bool.not_false, reduceIte, Option.map_some, if_pos, if_neg, Int.one_mul, atI_0, atI_1, atI_2, atI_3, atI_4, atI_5, atI_6, atI_7, atI_8, atI_9, List.getElem?_set_self, set_ixU, m_appendU, setAt_0, setAt_1, setAt_2, setAt_3, setAt_4, setAt_5, rng_ok1, step_none, step_some, wipe_nil, wipe_cons, b_isi, kd_tup, kd_lst, kd_str, kd_int, isi_same, e_sl, eo_none, eo_some, sl_tupD, sl_lstD, sl_objD, e_rev, e_lrng, e_dsp, ep_nil, ep_cons, ei_items, rev_lst, okm_app, okm_ext, okm_ixO, okm_ix, okm_get, okm_getO, m_extend, m_getT, m_getO, m_getT1, m_getO1, m_index, setL_int, okK_str, okK_int, okK_bl, okK_ss, b_sorted, o_addL, o_addOL, o_mulL, o_addS, last_get0, last_set0, and_self, and_true, true_and, is_non, is_str, is_int, isn_non, isn_str, isn_int, e_lset, lset_ints, b_max1, b_max1L, b_max1T2, cmp_leT, kv_int, kv_str, stepK_none, stepK_some, *])
local macro_rules | `(tactic| walk_at "0_law_rank") => `(tactic| simp (discharger := first | assumption | omega | (simp only [List.all_cons, List.all_nil, isWord, decide_eq_true_eq, Bool.and_true, Bool.and_eq_true]; omega)) only [l__law_rank_9, q__law_power, w_skip, w_seq, w_expr, w_asg, w_asgC, w_asg2, w_setix, w_setix2, two_eq, w_aug, w_if, w_for, w_ret, w_retN, w_raise, w_brk, w_cnt, e_var', e_non, e_bl, e_int, e_str, e_gl, e_ty, e_bin, e_neg, e_nt, e_and, e_or, e_cmp, e_chn, e_ife, e_tup, e_lst, e_lstO, e_ix, e_call, e_bi, e_mth, es_nil, es_cons, ei_rng1, ei_rng2, ei_enum, ei_val, evT_eq, asgT, asgTs, tru_non, tru_bl, tru_int, tru_tup, tru_lst, eqD_int, eqD_bl, eqD_str, cmp_eq, cmp_ne, cmp_lt, cmp_le, cmp_gt, cmp_ge, cmp_inn, cmp_nin, o_add, o_sub, o_mulS, o_fdivS, o_mod, o_pow18, o_pow3, o_pow5, o_shl1, o_xor, o_and, o_cat, it_tup, it_lst, it_obj, ix_tup, ix_lst, ix_obj, ix_tab, in_strT, in_strL, in_obj, in_tab, b_len, len_tup, len_lst, b_abs, b_max, b_min, b_int, b_intb, b_tuple, b_list, b_reprF, len_obj, List.getElem?_cons_zero, List.getElem?_cons_succ, List.set_cons_zero, List.set_cons_succ, if_true, if_false, decide_eq_true_eq, Bool.not_eq_true', decide_eq_false_iff_not, Bool.false_eq_true, Bool.true_eq_false, not_true_eq_false, not_false_eq_true, decide_true, decide_false, Bool.not_true, Bool.not_false, reduceIte, Option.map_some, if_pos, if_neg, Int.one_mul, atI_0, atI_1, atI_2, atI_3, atI_4, atI_5, atI_6, atI_7, atI_8, atI_9, List.getElem?_set_self, set_ixU, m_appendU, setAt_0, setAt_1, setAt_2, setAt_3, setAt_4, setAt_5, rng_ok1, step_none, step_some, wipe_nil, wipe_cons, b_isi, kd_tup, kd_lst, kd_str, kd_int, isi_same, e_sl, eo_none, eo_some, sl_tupD, sl_lstD, sl_objD, e_rev, e_lrng, e_dsp, ep_nil, ep_cons, ei_items, rev_lst, okm_app, okm_ext, okm_ixO, okm_ix, okm_get, okm_getO, m_extend, m_getT, m_getO, m_getT1, m_getO1, m_index, setL_int, okK_str, okK_int, okK_bl, okK_ss, b_sorted, o_addL, o_addOL, o_mulL, o_addS, last_get0, last_set0, and_self, and_true, true_and, is_non, is_str, is_int, isn_non, isn_str, isn_int, e_lset, lset_ints, b_max1, b_max1L, b_max1T2, cmp_leT, kv_int, kv_str, stepK_none, stepK_some])
def S__law_rank : Wd := fun ds st r s => ∃ (w : Int) (ns : List Int), ds = [.int w, .tup (ns.map D.int)] ∧ r = .tup [.tup ((ranksOf ns).map D.int), .int (below ns (half w) : Nat)] ∧ s = st
noncomputable def F__law_rank : List D → Store → Option (D × Store) := specF T__law_power 6 2 c__law_rank S__law_rank
noncomputable def T__law_rank : Tab := T__law_power.push ⟨"_law_rank", [], F__law_rank⟩
theorem q__law_rank {w : Int} {ns : List Int} {st : Store} (h1 : 1 ≤ w) (h2 : w ≤ 1000) (hl : ns.length < 64) : F__law_rank [.int w, .tup (ns.map D.int)] st = some (.tup [.tup ((ranksOf ns).map D.int), .int (below ns (half w) : Nat)], st) := by
  refine specF_eq rfl ?_ (fun r s ⟨w', ns', e, h3, h4⟩ => ?_)
  · show W _ c__law_rank [some (.int w), some (.tup (ns.map D.int)), none, none, none, none] st _ tg
    unfold c__law_rank
    have hp : (2 : Int) ^ (w - 1).toNat = half w := rfl
    have lf : ∀ x : Int, (ns.filter fun y => decide (y < x)).length < 4000 := fun x => Nat.lt_of_le_of_lt (List.length_filter_le _ _) (by omega)
    walk_at "0_law_rank"
    have em : (ns.map fun x => D.int (below ns x : Nat)) = (ranksOf ns).map D.int := by unfold ranksOf; rw [List.map_map]; rfl
    rw [comp_map ns D.int (fun x => .int (below ns x : Nat)) (st1 := st) (by walk_at "0_law_rank") (fun x hx => by
      walk_at "0_law_rank"
      rw [comp_if ns D.int D.int (fun y => decide (y < x)) (st1 := st) (by walk_at "0_law_rank") (fun y hy => by
        walk_at "0_law_rank"
        by_cases q : y < x <;> simp [q])]
      dsimp only
      rw [lset_ints (lf x)]
      first | done | rfl), em]
    walk_at "0_law_rank"
    rw [comp_if ns D.int D.int (fun y => decide (y < half w)) (st1 := st) (by walk_at "0_law_rank") (fun y hy => by
      walk_at "0_law_rank"
      rw [hp]
      by_cases q : y < half w <;> simp [q])]
    dsimp only
    rw [lset_ints (lf (half w))]
    walk_at "0_law_rank"
    exact ⟨_, _, ret_same, w, ns, rfl, rfl, rfl⟩
  · simp only [List.cons.injEq, D.int.injEq, D.tup.injEq, and_true] at e
    obtain ⟨rfl, e⟩ := e
    rw [ints_inj e]
    exact ⟨h3, h4⟩
end Bo

set_option Elab.async false
set_option linter.all false
set_option maxRecDepth 100000
set_option maxHeartbeats 8000000
namespace Bo
open PySem PySem.Spec L2
def N_is_row_of_ranks : List Str := ["ranks"]
def P_is_row_of_ranks : List Str := ["ranks"]
def c_is_row_of_ranks : CS :=
      (.seq (.ret (.cmp .eq (.call 3 (.cons (.var 0) .nil)) (.bi .tuple1 (.cons (.var 0) .nil))))
      .skip)
theorem sc_is_row_of_ranks : FnScope N_is_row_of_ranks P_is_row_of_ranks (defScope (topS 18)) := ⟨rfl, rfl, rfl, by decide +kernel, rfl, by decide +kernel, by decide +kernel⟩
theorem ch_is_row_of_ranks : chkB T__law_rank 11 N_is_row_of_ranks (defScope (topS 18)) c_is_row_of_ranks (defBody (topS 18)) = true := by decide +kernel
theorem l_is_row_of_ranks_3 : T__law_rank.fns[3]? = some ⟨"ranks_of", [], F_ranks_of⟩ := rfl
local macro_rules | `(tactic| walk_at "is_row_of_ranks") => `(tactic| simp (discharger := first | assumption | omega | (simp only [List.all_cons, List.all_nil, isWord, decide_eq_true_eq, Bool.and_true, Bool.and_eq_true]; omega)) only [l_is_row_of_ranks_3, q_ranks_of, w_skip, w_seq, w_expr, w_asg, w_asgC, w_asg2, w_setix, w_setix2, two_eq, w_aug, w_if, w_for, w_ret, w_retN, w_raise, w_brk, w_cnt, e_var', e_non, e_bl, e_int, e_str, e_gl, e_ty, e_bin, e_neg, e_nt, e_and, e_or, e_cmp, e_chn, e_ife, e_tup, e_lst, e_lstO, e_ix, e_call, e_bi, e_mth, es_nil, es_cons, ei_rng1, ei_rng2, ei_enum, ei_val, evT_eq, asgT, asgTs, tru_non, tru_bl, tru_int, tru_tup, tru_lst, eqD_int, eqD_bl, eqD_str, cmp_eq, cmp_ne, cmp_lt, cmp_le, cmp_gt, cmp_ge, cmp_inn, cmp_nin, o_add, o_sub, o_mulS, o_fdivS, o_mod, o_pow18, o_pow3, o_pow5, o_shl1, o_xor, o_and, o_cat, it_tup, it_lst, it_obj, ix_tup, ix_lst, ix_obj, ix_tab, in_strT, in_strL, in_obj, in_tab, b_len, len_tup, len_lst, b_abs, b_max, b_min, b_int, b_intb, b_tuple, b_list, b_reprF, len_obj, List.getElem?_cons_zero, List.getElem?_cons_succ, List.set_cons_zero, List.set_cons_succ, if_true, if_false, decide_eq_true_eq, Bool.not_eq_true', decide_eq_false_iff_not, Bool.false_eq_true, Bool.true_eq_false, not_true_eq_false, not_false_eq_true, decide_true, decide_false, Bool.not_true, Bool.not_false, reduceIte, Option.map_some, if_pos, if_neg, Int.one_mul, atI_0, atI_1, atI_2, atI_3, atI_4, atI_5, atI_6, atI_7, atI_8, atI_9, List.getElem?_set_self, set_ixU, m_appendU, setAt_0, setAt_1, setAt_2, setAt_3, setAt_4, setAt_5, rng_ok1, step_none, step_some, wipe_nil, wipe_cons, b_isi, kd_tup, kd_lst, kd_str, kd_int, isi_same, e_sl, eo_none, eo_some, sl_tupD, sl_lstD, sl_objD, e_rev, e_lrng, e_dsp, ep_nil, ep_cons, ei_items, rev_lst, okm_app, okm_ext, okm_ixO, okm_ix, okm_get, okm_getO, m_extend, m_getT, m_getO, m_getT1, m_getO1, m_index, setL_int, okK_str, okK_int, okK_bl, okK_ss, b_sorted, o_addL, o_addOL, o_mulL, o_addS, last_get0, last_set0, and_self, and_true, true_and, is_non, is_str, is_int, isn_non, isn_str, isn_int, e_lset, lset_ints, b_max1, b_max1L, b_max1T2, cmp_leT, kv_int, kv_str, stepK_none, stepK_some, *])
local macro_rules | `(tactic| walk_at "0is_row_of_ranks") => `(tactic| simp (discharger := first | assumption | omega | (simp only [List.all_cons, List.all_nil, isWord, decide_eq_true_eq, Bool.and_true, Bool.and_eq_true]; omega)) only [l_is_row_of_ranks_3, q_ranks_of, w_skip, w_seq, w_expr, w_asg, w_asgC, w_asg2, w_setix, w_setix2, two_eq, w_aug, w_if, w_for, w_ret, w_retN, w_raise, w_brk, w_cnt, e_var', e_non, e_bl, e_int, e_str, e_gl, e_ty, e_bin, e_neg, e_nt, e_and, e_or, e_cmp, e_chn, e_ife, e_tup, e_lst, e_lstO, e_ix, e_call, e_bi, e_mth, es_nil, es_cons, ei_rng1, ei_rng2, ei_enum, ei_val, evT_eq, asgT, asgTs, tru_non, tru_bl, tru_int, tru_tup, tru_lst, eqD_int, eqD_bl, eqD_str, cmp_eq, cmp_ne, cmp_lt, cmp_le, cmp_gt, cmp_ge, cmp_inn, cmp_nin, o_add, o_sub, o_mulS, o_fdivS, o_mod, o_pow18, o_pow3, o_pow5, o_shl1, o_xor, o_and, o_cat, it_tup, it_lst, it_obj, ix_tup, ix_lst, ix_obj, ix_tab, in_strT, in_strL, in_obj, in_tab, b_len, len_tup, len_lst, b_abs, b_max, b_min, b_int, b_intb, b_tuple, b_list, b_reprF, len_obj, List.getElem?_cons_zero, List.getElem?_cons_succ, List.set_cons_zero, List.set_cons_succ, if_true, if_false, decide_eq_true_eq, Bool.not_eq_true', decide_eq_false_iff_not, Bool.false_eq_true, Bool.true_eq_false, not_true_eq_false, not_false_eq_true, decide_true, decide_false, Bool.not_true, Bool.not_false, reduceIte, Option.map_some, if_pos, if_neg, Int.one_mul, atI_0, atI_1, atI_2, atI_3, atI_4, atI_5, atI_6, atI_7, atI_8, atI_9, List.getElem?_set_self, set_ixU, m_appendU, setAt_0, setAt_1, setAt_2, setAt_3, setAt_4, setAt_5, rng_ok1, step_none, step_some, wipe_nil, wipe_cons, b_isi, kd_tup, kd_lst, kd_str, kd_int, isi_same, e_sl, eo_none, eo_some, sl_tupD, sl_lstD, sl_objD, e_rev, e_lrng, e_dsp, ep_nil, ep_cons, ei_items, rev_lst, okm_app, okm_ext, okm_ixO, okm_ix, okm_get, okm_getO, m_extend, m_getT, m_getO, m_getT1, m_getO1, m_index, setL_int, okK_str, okK_int, okK_bl, okK_ss, b_sorted, o_addL, o_addOL, o_mulL, o_addS, last_get0, last_set0, and_self, and_true, true_and, is_non, is_str, is_int, isn_non, isn_str, isn_int, e_lset, lset_ints, b_max1, b_max1L, b_max1T2, cmp_leT, kv_int, kv_str, stepK_none, stepK_some])
def S_is_row_of_ranks : Wd := fun _ st r s => r = .bl true ∧ s = st
noncomputable def F_is_row_of_ranks : List D → Store → Option (D × Store) := specF T__law_rank 1 1 c_is_row_of_ranks S_is_row_of_ranks
noncomputable def T_is_row_of_ranks : Tab := T__law_rank.push ⟨"is_row_of_ranks", [], F_is_row_of_ranks⟩
theorem q_is_row_of_ranks {rs : List Int} {st : Store} (hr : ranksOf rs = rs) (hf : fineDs (rs.map D.int) = true) (hl : rs.length < 64) : F_is_row_of_ranks [.tup (rs.map D.int)] st = some (.bl true, st) := by
  refine specF_eq rfl ?_ (fun r s h => h)
  show W _ c_is_row_of_ranks [some (.tup (rs.map D.int))] st _ tg
  unfold c_is_row_of_ranks
  have rk := fun st => q_ranks_of (ns := rs) (st := st) hf hl
  rw [hr] at rk
  have eq : ∀ st, eqD st (.tup (rs.map D.int)) (.tup (rs.map D.int)) = some true := fun st => by
    rw [eqD_tt hf hf (by rw [dpts_ints]; omega) (by rw [dpts_ints]; omega) (nobls_ints _) (nobls_ints _)]
    simp
  clear hr hf hl
  walk_at "is_row_of_ranks"
  exact ⟨_, _, ret_same, rfl, rfl⟩
end Bo

set_option Elab.async false
set_option linter.all false
set_option maxRecDepth 100000
set_option maxHeartbeats 8000000
namespace Bo
open PySem PySem.Spec L2
def N_check_ranking : List Str := ["ranking", "ranks", "cut"]
def P_check_ranking : List Str := ["ranking"]
def c_check_ranking : CS :=
      (.seq (.asg (.tp (.cons (.nm 1) (.cons (.nm 2) .nil))) (.var 0))
      (.seq (.iff (.or (.nt (.call 11 (.cons (.var 1) .nil))) (.nt (.chn .le .le (.int 0) (.var 2) (.bin .add (.bi .max1 (.cons (.var 1) .nil)) (.int 1)))))
      (.seq .raise_
      .skip)
      .skip)
      .skip))
theorem sc_check_ranking : FnScope N_check_ranking P_check_ranking (defScope (topS 19)) := ⟨rfl, rfl, rfl, by decide +kernel, rfl, by decide +kernel, by decide +kernel⟩
theorem ch_check_ranking : chkB T_is_row_of_ranks 12 N_check_ranking (defScope (topS 19)) c_check_ranking (defBody (topS 19)) = true := by decide +kernel
theorem l_check_ranking_11 : T_is_row_of_ranks.fns[11]? = some ⟨"is_row_of_ranks", [], F_is_row_of_ranks⟩ := rfl
local macro_rules | `(tactic| walk_at "check_ranking") => `(tactic| simp (discharger := first | assumption | omega | (simp only [List.all_cons, List.all_nil, isWord, decide_eq_true_eq, Bool.and_true, Bool.and_eq_true]; omega)) only [l_check_ranking_11, q_is_row_of_ranks, w_skip, w_seq, w_expr, w_asg, w_asgC, w_asg2, w_setix, w_setix2, two_eq, w_aug, w_if, w_for, w_ret, w_retN, w_raise, w_brk, w_cnt, e_var', e_non, e_bl, e_int, e_str, e_gl, e_ty, e_bin, e_neg, e_nt, e_and, e_or, e_cmp, e_chn, e_ife, e_tup, e_lst, e_lstO, e_ix, e_call, e_bi, e_mth, es_nil, es_cons, ei_rng1, ei_rng2, ei_enum, ei_val, evT_eq, asgT, asgTs, tru_non, tru_bl, tru_int, tru_tup, tru_lst, eqD_int, eqD_bl, eqD_str, cmp_eq, cmp_ne, cmp_lt, cmp_le, cmp_gt, cmp_ge, cmp_inn, cmp_nin, o_add, o_sub, o_mulS, o_fdivS, o_mod, o_pow18, o_pow3, o_pow5, o_shl1, o_xor, o_and, o_cat, it_tup, it_lst, it_obj, ix_tup, ix_lst, ix_obj, ix_tab, in_strT, in_strL, in_obj, in_tab, b_len, len_tup, len_lst, b_abs, b_max, b_min, b_int, b_intb, b_tuple, b_list, b_reprF, len_obj, List.getElem?_cons_zero, List.getElem?_cons_succ, List.set_cons_zero, List.set_cons_succ, if_true, if_false, decide_eq_true_eq, Bool.not_eq_true', decide_eq_false_iff_not, Bool.false_eq_true, Bool.true_eq_false, not_true_eq_false, not_false_eq_true, decide_true, decide_false, Bool.not_true, Bool.not_false, reduceIte, Option.map_some, if_pos, if_neg, Int.one_mul, atI_0, atI_1, atI_2, atI_3, atI_4, atI_5, atI_6, atI_7, atI_8, atI_9, List.getElem?_set_self, set_ixU, m_appendU, setAt_0, setAt_1, setAt_2, setAt_3, setAt_4, setAt_5, rng_ok1, step_none, step_some, wipe_nil, wipe_cons, b_isi, kd_tup, kd_lst, kd_str, kd_int, isi_same, e_sl, eo_none, eo_some, sl_tupD, sl_lstD, sl_objD, e_rev, e_lrng, e_dsp, ep_nil, ep_cons, ei_items, rev_lst, okm_app, okm_ext, okm_ixO, okm_ix, okm_get, okm_getO, m_extend, m_getT, m_getO, m_getT1, m_getO1, m_index, setL_int, okK_str, okK_int, okK_bl, okK_ss, b_sorted, o_addL, o_addOL, o_mulL, o_addS, last_get0, last_set0, and_self, and_true, true_and, is_non, is_str, is_int, isn_non, isn_str, isn_int, e_lset, lset_ints, b_max1, b_max1L, b_max1T2, cmp_leT, kv_int, kv_str, stepK_none, stepK_some, *])
local macro_rules | `(tactic| walk_at "0check_ranking") => `(tactic| simp (discharger := first | assumption | omega | (simp only [List.all_cons, List.all_nil, isWord, decide_eq_true_eq, Bool.and_true, Bool.and_eq_true]; omega)) only [l_check_ranking_11, q_is_row_of_ranks, w_skip, w_seq, w_expr, w_asg, w_asgC, w_asg2, w_setix, w_setix2, two_eq, w_aug, w_if, w_for, w_ret, w_retN, w_raise, w_brk, w_cnt, e_var', e_non, e_bl, e_int, e_str, e_gl, e_ty, e_bin, e_neg, e_nt, e_and, e_or, e_cmp, e_chn, e_ife, e_tup, e_lst, e_lstO, e_ix, e_call, e_bi, e_mth, es_nil, es_cons, ei_rng1, ei_rng2, ei_enum, ei_val, evT_eq, asgT, asgTs, tru_non, tru_bl, tru_int, tru_tup, tru_lst, eqD_int, eqD_bl, eqD_str, cmp_eq, cmp_ne, cmp_lt, cmp_le, cmp_gt, cmp_ge, cmp_inn, cmp_nin, o_add, o_sub, o_mulS, o_fdivS, o_mod, o_pow18, o_pow3, o_pow5, o_shl1, o_xor, o_and, o_cat, it_tup, it_lst, it_obj, ix_tup, ix_lst, ix_obj, ix_tab, in_strT, in_strL, in_obj, in_tab, b_len, len_tup, len_lst, b_abs, b_max, b_min, b_int, b_intb, b_tuple, b_list, b_reprF, len_obj, List.getElem?_cons_zero, List.getElem?_cons_succ, List.set_cons_zero, List.set_cons_succ, if_true, if_false, decide_eq_true_eq, Bool.not_eq_true', decide_eq_false_iff_not, Bool.false_eq_true, Bool.true_eq_false, not_true_eq_false, not_false_eq_true, decide_true, decide_false, Bool.not_true, Bool.not_false, reduceIte, Option.map_some, if_pos, if_neg, Int.one_mul, atI_0, atI_1, atI_2, atI_3, atI_4, atI_5, atI_6, atI_7, atI_8, atI_9, List.getElem?_set_self, set_ixU, m_appendU, setAt_0, setAt_1, setAt_2, setAt_3, setAt_4, setAt_5, rng_ok1, step_none, step_some, wipe_nil, wipe_cons, b_isi, kd_tup, kd_lst, kd_str, kd_int, isi_same, e_sl, eo_none, eo_some, sl_tupD, sl_lstD, sl_objD, e_rev, e_lrng, e_dsp, ep_nil, ep_cons, ei_items, rev_lst, okm_app, okm_ext, okm_ixO, okm_ix, okm_get, okm_getO, m_extend, m_getT, m_getO, m_getT1, m_getO1, m_index, setL_int, okK_str, okK_int, okK_bl, okK_ss, b_sorted, o_addL, o_addOL, o_mulL, o_addS, last_get0, last_set0, and_self, and_true, true_and, is_non, is_str, is_int, isn_non, isn_str, isn_int, e_lset, lset_ints, b_max1, b_max1L, b_max1T2, cmp_leT, kv_int, kv_str, stepK_none, stepK_some])
def S_check_ranking : Wd := fun _ st r s => r = .non ∧ s = st
noncomputable def F_check_ranking : List D → Store → Option (D × Store) := specF T_is_row_of_ranks 3 1 c_check_ranking S_check_ranking
noncomputable def T_check_ranking : Tab := T_is_row_of_ranks.push ⟨"check_ranking", [], F_check_ranking⟩
theorem q_check_ranking {rs : List Int} {c : Int} {st : Store} (hr : ranksOf rs = rs) (hf : fineDs (rs.map D.int) = true) (hl : rs.length < 64) (hn : rs ≠ []) (h0 : 0 ≤ c) (h1 : c ≤ maxI rs + 1) (h2 : maxI rs < 1000) :
    F_check_ranking [.tup [.tup (rs.map D.int), .int c]] st = some (.non, st) := by
  refine specF_eq rfl ?_ (fun r s h => h)
  show W _ c_check_ranking [some (.tup [.tup (rs.map D.int), .int c]), none, none] st _ tg
  unfold c_check_ranking
  have rk := fun st => q_is_row_of_ranks (st := st) hr hf hl
  have mx := fun st => b_max1 (st := st) hn
  clear hr hf hl hn
  walk_at "check_ranking"
  exact ⟨_, _, ret_same, rfl, rfl⟩
end Bo

set_option Elab.async false
set_option linter.all false
set_option maxRecDepth 100000
set_option maxHeartbeats 8000000
namespace Bo
open PySem PySem.Spec L2
def N_halves : List Str := ["ranking", "ranks", "cut"]
def P_halves : List Str := ["ranking"]
def c_halves : CS :=
      (.seq (.asg (.tp (.cons (.nm 1) (.cons (.nm 2) .nil))) (.var 0))
      (.seq (.ret (.tup (.cons (.var 2) (.cons (.bin .sub (.bin .add (.bi .max1 (.cons (.var 1) .nil)) (.int 1)) (.var 2)) .nil))))
      .skip))
theorem sc_halves : FnScope N_halves P_halves (defScope (topS 21)) := ⟨rfl, rfl, rfl, by decide +kernel, rfl, by decide +kernel, by decide +kernel⟩
theorem ch_halves : chkB T_check_ranking 13 N_halves (defScope (topS 21)) c_halves (defBody (topS 21)) = true := by decide +kernel
local macro_rules | `(tactic| walk_at "halves") => `(tactic| simp (discharger := first | assumption | omega | (simp only [List.all_cons, List.all_nil, isWord, decide_eq_true_eq, Bool.and_true, Bool.and_eq_true]; omega)) only [w_skip, w_seq, w_expr, w_asg, w_asgC, w_asg2, w_setix, w_setix2, two_eq, w_aug, w_if, w_for, w_ret, w_retN, w_raise, w_brk, w_cnt, e_var', e_non, e_bl, e_int, e_str, e_gl, e_ty, e_bin, e_neg, e_nt, e_and, e_or, e_cmp, e_chn, e_ife, e_tup, e_lst, e_lstO, e_ix, e_call, e_bi, e_mth, es_nil, es_cons, ei_rng1, ei_rng2, ei_enum, ei_val, evT_eq, asgT, asgTs, tru_non, tru_bl, tru_int, tru_tup, tru_lst, eqD_int, eqD_bl, eqD_str, cmp_eq, cmp_ne, cmp_lt, cmp_le, cmp_gt, cmp_ge, cmp_inn, cmp_nin, o_add, o_sub, o_mulS, o_fdivS, o_mod, o_pow18, o_pow3, o_pow5, o_shl1, o_xor, o_and, o_cat, it_tup, it_lst, it_obj, ix_tup, ix_lst, ix_obj, ix_tab, in_strT, in_strL, in_obj, in_tab, b_len, len_tup, len_lst, b_abs, b_max, b_min, b_int, b_intb, b_tuple, b_list, b_reprF, len_obj, List.getElem?_cons_zero, List.getElem?_cons_succ, List.set_cons_zero, List.set_cons_succ, if_true, if_false, decide_eq_true_eq, Bool.not_eq_true', decide_eq_false_iff_not, Bool.false_eq_true, Bool.true_eq_false, not_true_eq_false, not_false_eq_true, decide_true, decide_false, Bool.not_true, Bool.not_false, reduceIte, Option.map_some, if_pos, if_neg, Int.one_mul, atI_0, atI_1, atI_2, atI_3, atI_4, atI_5, atI_6, atI_7, atI_8, atI_9, List.getElem?_set_self, set_ixU, m_appendU, setAt_0, setAt_1, setAt_2, setAt_3, setAt_4, setAt_5, rng_ok1, step_none, step_some, wipe_nil, wipe_cons, b_isi, kd_tup, kd_lst, kd_str, kd_int, isi_same, e_sl, eo_none, eo_some, sl_tupD, sl_lstD, sl_objD, e_rev, e_lrng, e_dsp, ep_nil, ep_cons, ei_items, rev_lst, okm_app, okm_ext, okm_ixO, okm_ix, okm_get, okm_getO, m_extend, m_getT, m_getO, m_getT1, m_getO1, m_index, setL_int, okK_str, okK_int, okK_bl, okK_ss, b_sorted, o_addL, o_addOL, o_mulL, o_addS, last_get0, last_set0, and_self, and_true, true_and, is_non, is_str, is_int, isn_non, isn_str, isn_int, e_lset, lset_ints, b_max1, b_max1L, b_max1T2, cmp_leT, kv_int, kv_str, stepK_none, stepK_some, *])
local macro_rules | `(tactic| walk_at "0halves") => `(tactic| simp (discharger := first | assumption | omega | (simp only [List.all_cons, List.all_nil, isWord, decide_eq_true_eq, Bool.and_true, Bool.and_eq_true]; omega)) only [w_skip, w_seq, w_expr, w_asg, w_asgC, w_asg2, w_setix, w_setix2, two_eq, w_aug, w_if, w_for, w_ret, w_retN, w_raise, w_brk, w_cnt, e_var', e_non, e_bl, e_int, e_str, e_gl, e_ty, e_bin, e_neg, e_nt, e_and, e_or, e_cmp, e_chn, e_ife, e_tup, e_lst, e_lstO, e_ix, e_call, e_bi, e_mth, es_nil, es_cons, ei_rng1, ei_rng2, ei_enum, ei_val, evT_eq, asgT, asgTs, tru_non, tru_bl, tru_int, tru_tup, tru_lst, eqD_int, eqD_bl, eqD_str, cmp_eq, cmp_ne, cmp_lt, cmp_le, cmp_gt, cmp_ge, cmp_inn, cmp_nin, o_add, o_sub, o_mulS, o_fdivS, o_mod, o_pow18, o_pow3, o_pow5, o_shl1, o_xor, o_and, o_cat, it_tup, it_lst, it_obj, ix_tup, ix_lst, ix_obj, ix_tab, in_strT, in_strL, in_obj, in_tab, b_len, len_tup, len_lst, b_abs, b_max, b_min, b_int, b_intb, b_tuple, b_list, b_reprF, len_obj, List.getElem?_cons_zero, List.getElem?_cons_succ, List.set_cons_zero, List.set_cons_succ, if_true, if_false, decide_eq_true_eq, Bool.not_eq_true', decide_eq_false_iff_not, Bool.false_eq_true, Bool.true_eq_false, not_true_eq_false, not_false_eq_true, decide_true, decide_false, Bool.not_true, Bool.not_false, reduceIte, Option.map_some, if_pos, if_neg, Int.one_mul, atI_0, atI_1, atI_2, atI_3, atI_4, atI_5, atI_6, atI_7, atI_8, atI_9, List.getElem?_set_self, set_ixU, m_appendU, setAt_0, setAt_1, setAt_2, setAt_3, setAt_4, setAt_5, rng_ok1, step_none, step_some, wipe_nil, wipe_cons, b_isi, kd_tup, kd_lst, kd_str, kd_int, isi_same, e_sl, eo_none, eo_some, sl_tupD, sl_lstD, sl_objD, e_rev, e_lrng, e_dsp, ep_nil, ep_cons, ei_items, rev_lst, okm_app, okm_ext, okm_ixO, okm_ix, okm_get, okm_getO, m_extend, m_getT, m_getO, m_getT1, m_getO1, m_index, setL_int, okK_str, okK_int, okK_bl, okK_ss, b_sorted, o_addL, o_addOL, o_mulL, o_addS, last_get0, last_set0, and_self, and_true, true_and, is_non, is_str, is_int, isn_non, isn_str, isn_int, e_lset, lset_ints, b_max1, b_max1L, b_max1T2, cmp_leT, kv_int, kv_str, stepK_none, stepK_some])
def S_halves : Wd := fun ds st r s => ∃ (rs : List Int) (c : Int), ds = [.tup [.tup (rs.map D.int), .int c]] ∧ r = .tup [.int c, .int (maxI rs + 1 - c)] ∧ s = st
noncomputable def F_halves : List D → Store → Option (D × Store) := specF T_check_ranking 3 1 c_halves S_halves
noncomputable def T_halves : Tab := T_check_ranking.push ⟨"halves", [], F_halves⟩
theorem q_halves {rs : List Int} {c : Int} {st : Store} (hn : rs ≠ []) (h0 : 0 ≤ c) (h1 : c ≤ 1000) (h2 : maxI rs < 1000) (h3 : 0 ≤ maxI rs) : F_halves [.tup [.tup (rs.map D.int), .int c]] st = some (.tup [.int c, .int (maxI rs + 1 - c)], st) := by
  refine specF_eq rfl ?_ (fun r s ⟨rs', c', e, h3, h4⟩ => ?_)
  · show W _ c_halves [some (.tup [.tup (rs.map D.int), .int c]), none, none] st _ tg
    unfold c_halves
    have mx := fun st => b_max1 (st := st) hn
    clear hn
    walk_at "halves"
    exact ⟨_, _, ret_same, rs, c, rfl, rfl, rfl⟩
  · simp only [List.cons.injEq, D.int.injEq, D.tup.injEq, and_true] at e
    obtain ⟨e, rfl⟩ := e
    rw [ints_inj e]
    exact ⟨h3, h4⟩
end Bo

set_option Elab.async false
set_option linter.all false
set_option maxRecDepth 100000
set_option maxHeartbeats 8000000
namespace Bo
open PySem PySem.Spec L2
def N_fits_width : List Str := ["ranking", "width"]
def P_fits_width : List Str := ["ranking", "width"]
def c_fits_width : CS :=
      (.seq (.ret (.cmp .ge (.call 4 (.cons (.var 1) .nil)) (.bi .max1 (.cons (.call 13 (.cons (.var 0) .nil)) .nil))))
      .skip)
theorem sc_fits_width : FnScope N_fits_width P_fits_width (defScope (topS 22)) := ⟨rfl, rfl, rfl, by decide +kernel, rfl, by decide +kernel, by decide +kernel⟩
theorem ch_fits_width : chkB T_halves 14 N_fits_width (defScope (topS 22)) c_fits_width (defBody (topS 22)) = true := by decide +kernel
theorem l_fits_width_4 : T_halves.fns[4]? = some ⟨"half_of", [], F_half_of⟩ := rfl
theorem l_fits_width_13 : T_halves.fns[13]? = some ⟨"halves", [], F_halves⟩ := rfl
local macro_rules | `(tactic| walk_at "fits_width") => `(tactic| simp (discharger := first | assumption | omega | (simp only [List.all_cons, List.all_nil, isWord, decide_eq_true_eq, Bool.and_true, Bool.and_eq_true]; omega)) only [l_fits_width_4, q_half_of, l_fits_width_13, q_halves, w_skip, w_seq, w_expr, w_asg, w_asgC, w_asg2, w_setix, w_setix2, two_eq, w_aug, w_if, w_for, w_ret, w_retN, w_raise, w_brk, w_cnt, e_var', e_non, e_bl, e_int, e_str, e_gl, e_ty, e_bin, e_neg, e_nt, e_and, e_or, e_cmp, e_chn, e_ife, e_tup, e_lst, e_lstO, e_ix, e_call, e_bi, e_mth, es_nil, es_cons, ei_rng1, ei_rng2, ei_enum, ei_val, evT_eq, asgT, asgTs, tru_non, tru_bl, tru_int, tru_tup, tru_lst, eqD_int, eqD_bl, eqD_str, cmp_eq, cmp_ne, cmp_lt, cmp_le, cmp_gt, cmp_ge, cmp_inn, cmp_nin, o_add, o_sub, o_mulS, o_fdivS, o_mod, o_pow18, o_pow3, o_pow5, o_shl1, o_xor, o_and, o_cat, it_tup, it_lst, it_obj, ix_tup, ix_lst, ix_obj, ix_tab, in_strT, in_strL, in_obj, in_tab, b_len, len_tup, len_lst, b_abs, b_max, b_min, b_int, b_intb, b_tuple, b_list, b_reprF, len_obj, List.getElem?_cons_zero, List.getElem?_cons_succ, List.set_cons_zero, List.set_cons_succ, if_true, if_false, decide_eq_true_eq, Bool.not_eq_true', decide_eq_false_iff_not, Bool.false_eq_true, Bool.true_eq_false, not_true_eq_false, not_false_eq_true, decide_true, decide_false, Bool.not_true, Bool.not_false, reduceIte, Option.map_some, if_pos, if_neg, Int.one_mul, atI_0, atI_1, atI_2, atI_3, atI_4, atI_5, atI_6, atI_7, atI_8, atI_9, List.getElem?_set_self, set_ixU, m_appendU, setAt_0, setAt_1, setAt_2, setAt_3, setAt_4, setAt_5, rng_ok1, step_none, step_some, wipe_nil, wipe_cons, b_isi, kd_tup, kd_lst, kd_str, kd_int, isi_same, e_sl, eo_none, eo_some, sl_tupD, sl_lstD, sl_objD, e_rev, e_lrng, e_dsp, ep_nil, ep_cons, ei_items, rev_lst, okm_app, okm_ext, okm_ixO, okm_ix, okm_get, okm_getO, m_extend, m_getT, m_getO, m_getT1, m_getO1, m_index, setL_int, okK_str, okK_int, okK_bl, okK_ss, b_sorted, o_addL, o_addOL, o_mulL, o_addS, last_get0, last_set0, and_self, and_true, true_and, is_non, is_str, is_int, isn_non, isn_str, isn_int, e_lset, lset_ints, b_max1, b_max1L, b_max1T2, cmp_leT, kv_int, kv_str, stepK_none, stepK_some, *])
local macro_rules | `(tactic| walk_at "0fits_width") => `(tactic| simp (discharger := first | assumption | omega | (simp only [List.all_cons, List.all_nil, isWord, decide_eq_true_eq, Bool.and_true, Bool.and_eq_true]; omega)) only [l_fits_width_4, q_half_of, l_fits_width_13, q_halves, w_skip, w_seq, w_expr, w_asg, w_asgC, w_asg2, w_setix, w_setix2, two_eq, w_aug, w_if, w_for, w_ret, w_retN, w_raise, w_brk, w_cnt, e_var', e_non, e_bl, e_int, e_str, e_gl, e_ty, e_bin, e_neg, e_nt, e_and, e_or, e_cmp, e_chn, e_ife, e_tup, e_lst, e_lstO, e_ix, e_call, e_bi, e_mth, es_nil, es_cons, ei_rng1, ei_rng2, ei_enum, ei_val, evT_eq, asgT, asgTs, tru_non, tru_bl, tru_int, tru_tup, tru_lst, eqD_int, eqD_bl, eqD_str, cmp_eq, cmp_ne, cmp_lt, cmp_le, cmp_gt, cmp_ge, cmp_inn, cmp_nin, o_add, o_sub, o_mulS, o_fdivS, o_mod, o_pow18, o_pow3, o_pow5, o_shl1, o_xor, o_and, o_cat, it_tup, it_lst, it_obj, ix_tup, ix_lst, ix_obj, ix_tab, in_strT, in_strL, in_obj, in_tab, b_len, len_tup, len_lst, b_abs, b_max, b_min, b_int, b_intb, b_tuple, b_list, b_reprF, len_obj, List.getElem?_cons_zero, List.getElem?_cons_succ, List.set_cons_zero, List.set_cons_succ, if_true, if_false, decide_eq_true_eq, Bool.not_eq_true', decide_eq_false_iff_not, Bool.false_eq_true, Bool.true_eq_false, not_true_eq_false, not_false_eq_true, decide_true, decide_false, Bool.not_true, Bool.not_false, reduceIte, Option.map_some, if_pos, if_neg, Int.one_mul, atI_0, atI_1, atI_2, atI_3, atI_4, atI_5, atI_6, atI_7, atI_8, atI_9, List.getElem?_set_self, set_ixU, m_appendU, setAt_0, setAt_1, setAt_2, setAt_3, setAt_4, setAt_5, rng_ok1, step_none, step_some, wipe_nil, wipe_cons, b_isi, kd_tup, kd_lst, kd_str, kd_int, isi_same, e_sl, eo_none, eo_some, sl_tupD, sl_lstD, sl_objD, e_rev, e_lrng, e_dsp, ep_nil, ep_cons, ei_items, rev_lst, okm_app, okm_ext, okm_ixO, okm_ix, okm_get, okm_getO, m_extend, m_getT, m_getO, m_getT1, m_getO1, m_index, setL_int, okK_str, okK_int, okK_bl, okK_ss, b_sorted, o_addL, o_addOL, o_mulL, o_addS, last_get0, last_set0, and_self, and_true, true_and, is_non, is_str, is_int, isn_non, isn_str, isn_int, e_lset, lset_ints, b_max1, b_max1L, b_max1T2, cmp_leT, kv_int, kv_str, stepK_none, stepK_some])
def S_fits_width : Wd := fun _ st r s => r = .bl true ∧ s = st
noncomputable def F_fits_width : List D → Store → Option (D × Store) := specF T_halves 2 2 c_fits_width S_fits_width
noncomputable def T_fits_width : Tab := T_halves.push ⟨"fits_width", [], F_fits_width⟩
theorem q_fits_width {rs : List Int} {c w : Int} {st : Store} (hn : rs ≠ []) (h0 : 0 ≤ c) (h1 : c ≤ 1000) (h2 : maxI rs < 1000) (h3 : 0 ≤ maxI rs) (w1 : 1 ≤ w) (w2 : w ≤ 1000) (f1 : c ≤ half w) (f2 : maxI rs + 1 - c ≤ half w) :
    F_fits_width [.tup [.tup (rs.map D.int), .int c], .int w] st = some (.bl true, st) := by
  refine specF_eq rfl ?_ (fun r s h => h)
  show W _ c_fits_width [some (.tup [.tup (rs.map D.int), .int c]), some (.int w)] st _ tg
  unfold c_fits_width
  have hv := fun st => q_halves (rs := rs) (c := c) (st := st) hn h0 h1 h2 h3
  have dc : decide ((if maxI rs + 1 - c > c then maxI rs + 1 - c else c) ≤ half w) = true := decide_eq_true (by split <;> omega)
  clear hn
  walk_at "fits_width"
  exact ⟨_, _, ret_same, rfl, rfl⟩
end Bo

set_option Elab.async false
set_option linter.all false
set_option maxRecDepth 100000
set_option maxHeartbeats 8000000
namespace Bo
open PySem PySem.Spec L2
def N_least_in : List Str := ["ranking", "width", "ranks", "cut", "rank"]
def P_least_in : List Str := ["ranking", "width"]
def c_least_in : CS :=
      (.seq (.iff (.nt (.call 14 (.cons (.var 0) (.cons (.var 1) .nil))))
      (.seq (.ret .non)
      .skip)
      .skip)
      (.seq (.asg (.tp (.cons (.nm 2) (.cons (.nm 3) .nil))) (.var 0))
      (.seq (.ret (.bi .tuple1 (.cons (.comp (.ife (.cmp .lt (.var 4) (.var 3)) (.var 4) (.bin .sub (.bin .add (.call 4 (.cons (.var 1) .nil)) (.var 4)) (.var 3))) (.nm 4) (.val (.var 2)) .none [4]) .nil)))
      .skip)))
theorem sc_least_in : FnScope N_least_in P_least_in (defScope (topS 23)) := ⟨rfl, rfl, rfl, by decide +kernel, rfl, by decide +kernel, by decide +kernel⟩
theorem ch_least_in : chkB T_fits_width 15 N_least_in (defScope (topS 23)) c_least_in (defBody (topS 23)) = true := by decide +kernel
theorem l_least_in_4 : T_fits_width.fns[4]? = some ⟨"half_of", [], F_half_of⟩ := rfl
theorem l_least_in_14 : T_fits_width.fns[14]? = some ⟨"fits_width", [], F_fits_width⟩ := rfl
local macro_rules | `(tactic| walk_at "least_in") => `(tactic| simp (discharger := first | assumption | omega | (simp only [List.all_cons, List.all_nil, isWord, decide_eq_true_eq, Bool.and_true, Bool.and_eq_true]; omega)) only [l_least_in_4, q_half_of, l_least_in_14, w_skip, w_seq, w_expr, w_asg, w_asgC, w_asg2, w_setix, w_setix2, two_eq, w_aug, w_if, w_for, w_ret, w_retN, w_raise, w_brk, w_cnt, e_var', e_non, e_bl, e_int, e_str, e_gl, e_ty, e_bin, e_neg, e_nt, e_and, e_or, e_cmp, e_chn, e_ife, e_tup, e_lst, e_lstO, e_ix, e_call, e_bi, e_mth, es_nil, es_cons, ei_rng1, ei_rng2, ei_enum, ei_val, evT_eq, asgT, asgTs, tru_non, tru_bl, tru_int, tru_tup, tru_lst, eqD_int, eqD_bl, eqD_str, cmp_eq, cmp_ne, cmp_lt, cmp_le, cmp_gt, cmp_ge, cmp_inn, cmp_nin, o_add, o_sub, o_mulS, o_fdivS, o_mod, o_pow18, o_pow3, o_pow5, o_shl1, o_xor, o_and, o_cat, it_tup, it_lst, it_obj, ix_tup, ix_lst, ix_obj, ix_tab, in_strT, in_strL, in_obj, in_tab, b_len, len_tup, len_lst, b_abs, b_max, b_min, b_int, b_intb, b_tuple, b_list, b_reprF, len_obj, List.getElem?_cons_zero, List.getElem?_cons_succ, List.set_cons_zero, List.set_cons_succ, if_true, if_false, decide_eq_true_eq, Bool.not_eq_true', decide_eq_false_iff_not, Bool.false_eq_true, Bool.true_eq_false, not_true_eq_false, not_false_eq_true, decide_true, decide_false, Bool.not_true, Bool.not_false, reduceIte, Option.map_some, if_pos, if_neg, Int.one_mul, atI_0, atI_1, atI_2, atI_3, atI_4, atI_5, atI_6, atI_7, atI_8, atI_9, List.getElem?_set_self, set_ixU, m_appendU, setAt_0, setAt_1, setAt_2, setAt_3, setAt_4, setAt_5, rng_ok1, step_none, step_some, wipe_nil, wipe_cons, b_isi, kd_tup, kd_lst, kd_str, kd_int, isi_same, e_sl, eo_none, eo_some, sl_tupD, sl_lstD, sl_objD, e_rev, e_lrng, e_dsp, ep_nil, ep_cons, ei_items, rev_lst, okm_app, okm_ext, okm_ixO, okm_ix, okm_get, okm_getO, m_extend, m_getT, m_getO, m_getT1, m_getO1, m_index, setL_int, okK_str, okK_int, okK_bl, okK_ss, b_sorted, o_addL, o_addOL, o_mulL, o_addS, last_get0, last_set0, and_self, and_true, true_and, is_non, is_str, is_int, isn_non, isn_str, isn_int, e_lset, lset_ints, b_max1, b_max1L, b_max1T2, cmp_leT, kv_int, kv_str, stepK_none, stepK_some, *])
local macro_rules | `(tactic| walk_at "0least_in") => `(tactic| simp (discharger := first | assumption | omega | (simp only [List.all_cons, List.all_nil, isWord, decide_eq_true_eq, Bool.and_true, Bool.and_eq_true]; omega)) only [l_least_in_4, q_half_of, l_least_in_14, w_skip, w_seq, w_expr, w_asg, w_asgC, w_asg2, w_setix, w_setix2, two_eq, w_aug, w_if, w_for, w_ret, w_retN, w_raise, w_brk, w_cnt, e_var', e_non, e_bl, e_int, e_str, e_gl, e_ty, e_bin, e_neg, e_nt, e_and, e_or, e_cmp, e_chn, e_ife, e_tup, e_lst, e_lstO, e_ix, e_call, e_bi, e_mth, es_nil, es_cons, ei_rng1, ei_rng2, ei_enum, ei_val, evT_eq, asgT, asgTs, tru_non, tru_bl, tru_int, tru_tup, tru_lst, eqD_int, eqD_bl, eqD_str, cmp_eq, cmp_ne, cmp_lt, cmp_le, cmp_gt, cmp_ge, cmp_inn, cmp_nin, o_add, o_sub, o_mulS, o_fdivS, o_mod, o_pow18, o_pow3, o_pow5, o_shl1, o_xor, o_and, o_cat, it_tup, it_lst, it_obj, ix_tup, ix_lst, ix_obj, ix_tab, in_strT, in_strL, in_obj, in_tab, b_len, len_tup, len_lst, b_abs, b_max, b_min, b_int, b_intb, b_tuple, b_list, b_reprF, len_obj, List.getElem?_cons_zero, List.getElem?_cons_succ, List.set_cons_zero, List.set_cons_succ, if_true, if_false, decide_eq_true_eq, Bool.not_eq_true', decide_eq_false_iff_not, Bool.false_eq_true, Bool.true_eq_false, not_true_eq_false, not_false_eq_true, decide_true, decide_false, Bool.not_true, Bool.not_false, reduceIte, Option.map_some, if_pos, if_neg, Int.one_mul, atI_0, atI_1, atI_2, atI_3, atI_4, atI_5, atI_6, atI_7, atI_8, atI_9, List.getElem?_set_self, set_ixU, m_appendU, setAt_0, setAt_1, setAt_2, setAt_3, setAt_4, setAt_5, rng_ok1, step_none, step_some, wipe_nil, wipe_cons, b_isi, kd_tup, kd_lst, kd_str, kd_int, isi_same, e_sl, eo_none, eo_some, sl_tupD, sl_lstD, sl_objD, e_rev, e_lrng, e_dsp, ep_nil, ep_cons, ei_items, rev_lst, okm_app, okm_ext, okm_ixO, okm_ix, okm_get, okm_getO, m_extend, m_getT, m_getO, m_getT1, m_getO1, m_index, setL_int, okK_str, okK_int, okK_bl, okK_ss, b_sorted, o_addL, o_addOL, o_mulL, o_addS, last_get0, last_set0, and_self, and_true, true_and, is_non, is_str, is_int, isn_non, isn_str, isn_int, e_lset, lset_ints, b_max1, b_max1L, b_max1T2, cmp_leT, kv_int, kv_str, stepK_none, stepK_some])
def S_least_in : Wd := fun ds st r s => ∃ (rs : List Int) (c w : Int), ds = [.tup [.tup (rs.map D.int), .int c], .int w] ∧ r = .tup ((leastI c (half w) rs).map D.int) ∧ s = st
noncomputable def F_least_in : List D → Store → Option (D × Store) := specF T_fits_width 5 2 c_least_in S_least_in
noncomputable def T_least_in : Tab := T_fits_width.push ⟨"least_in", [], F_least_in⟩
theorem q_least_in {rs : List Int} {c w : Int} {st : Store} (hn : rs ≠ []) (h0 : 0 ≤ c) (h1 : c ≤ 1000) (h2 : maxI rs < 1000) (h3 : 0 ≤ maxI rs) (w1 : 1 ≤ w) (w2 : w ≤ 1000) (f1 : c ≤ half w) (f2 : maxI rs + 1 - c ≤ half w) (hr : ∀ r ∈ rs, 0 ≤ r ∧ r < 1000) :
    F_least_in [.tup [.tup (rs.map D.int), .int c], .int w] st = some (.tup ((leastI c (half w) rs).map D.int), st) := by
  refine specF_eq rfl ?_ (fun r s ⟨rs', c', w', e, h3, h4⟩ => ?_)
  · show W _ c_least_in [some (.tup [.tup (rs.map D.int), .int c]), some (.int w), none, none, none] st _ tg
    unfold c_least_in
    have fw := fun st => q_fits_width (rs := rs) (c := c) (w := w) (st := st) hn h0 h1 h2 h3 w1 w2 f1 f2
    have em : (rs.map fun r => D.int (if r < c then r else half w + r - c)) = (leastI c (half w) rs).map D.int := by unfold leastI; rw [List.map_map]; rfl
    walk_at "0least_in"
    simp only [fw]
    try walk_at "0least_in"
    rw [comp_map rs D.int (fun r => D.int (if r < c then r else half w + r - c)) (st1 := st) (by walk_at "0least_in") (fun r hm => by
      obtain ⟨r0, r1⟩ := hr r hm
      clear hn fw em
      walk_at "0least_in"
      by_cases q : r < c <;> simp [q]), em]
    walk_at "0least_in"
    exact ⟨_, _, ret_same, rs, c, w, rfl, rfl, rfl⟩
  · simp only [List.cons.injEq, D.int.injEq, D.tup.injEq, and_true] at e
    obtain ⟨⟨e, rfl⟩, rfl⟩ := e
    rw [ints_inj e]
    exact ⟨h3, h4⟩
end Bo

set_option Elab.async false
set_option linter.all false
set_option maxRecDepth 100000
set_option maxHeartbeats 8000000
namespace Bo
open PySem PySem.Spec L2
def N_least_words : List Str := ["ranking", "width"]
def P_least_words : List Str := ["ranking", "width"]
def c_least_words : CS :=
      (.seq (.expr (.call 12 (.cons (.var 0) .nil)))
      (.seq (.expr (.call 1 (.cons (.var 1) .nil)))
      (.seq (.ret (.call 15 (.cons (.var 0) (.cons (.var 1) .nil))))
      .skip)))
theorem sc_least_words : FnScope N_least_words P_least_words (defScope (topS 26)) := ⟨rfl, rfl, rfl, by decide +kernel, rfl, by decide +kernel, by decide +kernel⟩
theorem ch_least_words : chkB T_least_in 16 N_least_words (defScope (topS 26)) c_least_words (defBody (topS 26)) = true := by decide +kernel
theorem l_least_words_1 : T_least_in.fns[1]? = some ⟨"check_width", [], F_check_width⟩ := rfl
theorem l_least_words_12 : T_least_in.fns[12]? = some ⟨"check_ranking", [], F_check_ranking⟩ := rfl
theorem l_least_words_15 : T_least_in.fns[15]? = some ⟨"least_in", [], F_least_in⟩ := rfl
local macro_rules | `(tactic| walk_at "least_words") => `(tactic| simp (discharger := first | assumption | omega | (simp only [List.all_cons, List.all_nil, isWord, decide_eq_true_eq, Bool.and_true, Bool.and_eq_true]; omega)) only [l_least_words_1, q_check_width, l_least_words_12, l_least_words_15, w_skip, w_seq, w_expr, w_asg, w_asgC, w_asg2, w_setix, w_setix2, two_eq, w_aug, w_if, w_for, w_ret, w_retN, w_raise, w_brk, w_cnt, e_var', e_non, e_bl, e_int, e_str, e_gl, e_ty, e_bin, e_neg, e_nt, e_and, e_or, e_cmp, e_chn, e_ife, e_tup, e_lst, e_lstO, e_ix, e_call, e_bi, e_mth, es_nil, es_cons, ei_rng1, ei_rng2, ei_enum, ei_val, evT_eq, asgT, asgTs, tru_non, tru_bl, tru_int, tru_tup, tru_lst, eqD_int, eqD_bl, eqD_str, cmp_eq, cmp_ne, cmp_lt, cmp_le, cmp_gt, cmp_ge, cmp_inn, cmp_nin, o_add, o_sub, o_mulS, o_fdivS, o_mod, o_pow18, o_pow3, o_pow5, o_shl1, o_xor, o_and, o_cat, it_tup, it_lst, it_obj, ix_tup, ix_lst, ix_obj, ix_tab, in_strT, in_strL, in_obj, in_tab, b_len, len_tup, len_lst, b_abs, b_max, b_min, b_int, b_intb, b_tuple, b_list, b_reprF, len_obj, List.getElem?_cons_zero, List.getElem?_cons_succ, List.set_cons_zero, List.set_cons_succ, if_true, if_false, decide_eq_true_eq, Bool.not_eq_true', decide_eq_false_iff_not, Bool.false_eq_true, Bool.true_eq_false, not_true_eq_false, not_false_eq_true, decide_true, decide_false, Bool.not_true, Bool.not_false, reduceIte, Option.map_some, if_pos, if_neg, Int.one_mul, atI_0, atI_1, atI_2, atI_3, atI_4, atI_5, atI_6, atI_7, atI_8, atI_9, List.getElem?_set_self, set_ixU, m_appendU, setAt_0, setAt_1, setAt_2, setAt_3, setAt_4, setAt_5, rng_ok1, step_none, step_some, wipe_nil, wipe_cons, b_isi, kd_tup, kd_lst, kd_str, kd_int, isi_same, e_sl, eo_none, eo_some, sl_tupD, sl_lstD, sl_objD, e_rev, e_lrng, e_dsp, ep_nil, ep_cons, ei_items, rev_lst, okm_app, okm_ext, okm_ixO, okm_ix, okm_get, okm_getO, m_extend, m_getT, m_getO, m_getT1, m_getO1, m_index, setL_int, okK_str, okK_int, okK_bl, okK_ss, b_sorted, o_addL, o_addOL, o_mulL, o_addS, last_get0, last_set0, and_self, and_true, true_and, is_non, is_str, is_int, isn_non, isn_str, isn_int, e_lset, lset_ints, b_max1, b_max1L, b_max1T2, cmp_leT, kv_int, kv_str, stepK_none, stepK_some, *])
local macro_rules | `(tactic| walk_at "0least_words") => `(tactic| simp (discharger := first | assumption | omega | (simp only [List.all_cons, List.all_nil, isWord, decide_eq_true_eq, Bool.and_true, Bool.and_eq_true]; omega)) only [l_least_words_1, q_check_width, l_least_words_12, l_least_words_15, w_skip, w_seq, w_expr, w_asg, w_asgC, w_asg2, w_setix, w_setix2, two_eq, w_aug, w_if, w_for, w_ret, w_retN, w_raise, w_brk, w_cnt, e_var', e_non, e_bl, e_int, e_str, e_gl, e_ty, e_bin, e_neg, e_nt, e_and, e_or, e_cmp, e_chn, e_ife, e_tup, e_lst, e_lstO, e_ix, e_call, e_bi, e_mth, es_nil, es_cons, ei_rng1, ei_rng2, ei_enum, ei_val, evT_eq, asgT, asgTs, tru_non, tru_bl, tru_int, tru_tup, tru_lst, eqD_int, eqD_bl, eqD_str, cmp_eq, cmp_ne, cmp_lt, cmp_le, cmp_gt, cmp_ge, cmp_inn, cmp_nin, o_add, o_sub, o_mulS, o_fdivS, o_mod, o_pow18, o_pow3, o_pow5, o_shl1, o_xor, o_and, o_cat, it_tup, it_lst, it_obj, ix_tup, ix_lst, ix_obj, ix_tab, in_strT, in_strL, in_obj, in_tab, b_len, len_tup, len_lst, b_abs, b_max, b_min, b_int, b_intb, b_tuple, b_list, b_reprF, len_obj, List.getElem?_cons_zero, List.getElem?_cons_succ, List.set_cons_zero, List.set_cons_succ, if_true, if_false, decide_eq_true_eq, Bool.not_eq_true', decide_eq_false_iff_not, Bool.false_eq_true, Bool.true_eq_false, not_true_eq_false, not_false_eq_true, decide_true, decide_false, Bool.not_true, Bool.not_false, reduceIte, Option.map_some, if_pos, if_neg, Int.one_mul, atI_0, atI_1, atI_2, atI_3, atI_4, atI_5, atI_6, atI_7, atI_8, atI_9, List.getElem?_set_self, set_ixU, m_appendU, setAt_0, setAt_1, setAt_2, setAt_3, setAt_4, setAt_5, rng_ok1, step_none, step_some, wipe_nil, wipe_cons, b_isi, kd_tup, kd_lst, kd_str, kd_int, isi_same, e_sl, eo_none, eo_some, sl_tupD, sl_lstD, sl_objD, e_rev, e_lrng, e_dsp, ep_nil, ep_cons, ei_items, rev_lst, okm_app, okm_ext, okm_ixO, okm_ix, okm_get, okm_getO, m_extend, m_getT, m_getO, m_getT1, m_getO1, m_index, setL_int, okK_str, okK_int, okK_bl, okK_ss, b_sorted, o_addL, o_addOL, o_mulL, o_addS, last_get0, last_set0, and_self, and_true, true_and, is_non, is_str, is_int, isn_non, isn_str, isn_int, e_lset, lset_ints, b_max1, b_max1L, b_max1T2, cmp_leT, kv_int, kv_str, stepK_none, stepK_some])
def S_least_words : Wd := fun ds st r s => ∃ (rs : List Int) (c w : Int), ds = [.tup [.tup (rs.map D.int), .int c], .int w] ∧ r = .tup ((leastI c (half w) rs).map D.int) ∧ s = st
noncomputable def F_least_words : List D → Store → Option (D × Store) := specF T_least_in 2 2 c_least_words S_least_words
noncomputable def T_least_words : Tab := T_least_in.push ⟨"least_words", [], F_least_words⟩
theorem q_least_words {rs : List Int} {c w : Int} {st : Store} (hq : ranksOf rs = rs) (hf : fineDs (rs.map D.int) = true) (hl : rs.length < 64) (hn : rs ≠ []) (h0 : 0 ≤ c) (hc : c ≤ maxI rs + 1) (h1 : c ≤ 1000) (h2 : maxI rs < 1000) (h3 : 0 ≤ maxI rs) (w1 : 1 ≤ w) (w2 : w ≤ 1000)
    (f1 : c ≤ half w) (f2 : maxI rs + 1 - c ≤ half w) (hr : ∀ r ∈ rs, 0 ≤ r ∧ r < 1000) : F_least_words [.tup [.tup (rs.map D.int), .int c], .int w] st = some (.tup ((leastI c (half w) rs).map D.int), st) := by
  refine specF_eq rfl ?_ (fun r s ⟨rs', c', w', e, h3, h4⟩ => ?_)
  · show W _ c_least_words [some (.tup [.tup (rs.map D.int), .int c]), some (.int w)] st _ tg
    unfold c_least_words
    have li := fun st => q_least_in (rs := rs) (c := c) (w := w) (st := st) hn h0 h1 h2 h3 w1 w2 f1 f2 hr
    have ck := fun st => q_check_ranking (rs := rs) (c := c) (st := st) hq hf hl hn h0 hc h2
    clear hq hf hl hn hr
    walk_at "least_words"
    exact ⟨_, _, ret_same, rs, c, w, rfl, rfl, rfl⟩
  · simp only [List.cons.injEq, D.int.injEq, D.tup.injEq, and_true] at e
    obtain ⟨⟨e, rfl⟩, rfl⟩ := e
    rw [ints_inj e]
    exact ⟨h3, h4⟩
end Bo

set_option Elab.async false
set_option linter.all false
set_option maxRecDepth 100000
set_option maxHeartbeats 8000000
namespace Bo
open PySem PySem.Spec L2
def N__law_value : List Str := ["wide", "one"]
def P__law_value : List Str := ["wide", "one"]
def c__law_value : CS :=
      (.seq (.ret (.ife (.cmp .ge (.var 1) (.call 9 (.cons (.bin .sub (.var 0) (.int 1)) .nil))) (.bin .sub (.var 1) (.call 9 (.cons (.var 0) .nil))) (.var 1)))
      .skip)
theorem sc__law_value : FnScope N__law_value P__law_value (defScope (topS 34)) := ⟨rfl, rfl, rfl, by decide +kernel, rfl, by decide +kernel, by decide +kernel⟩
theorem ch__law_value : chkB T_least_words 17 N__law_value (defScope (topS 34)) c__law_value (defBody (topS 34)) = true := by decide +kernel
theorem l__law_value_9 : T_least_words.fns[9]? = some ⟨"_law_power", [], F__law_power⟩ := rfl
local macro_rules | `(tactic| walk_at "_law_value") => `(tactic| simp (discharger := first | assumption | omega | (simp only [List.all_cons, List.all_nil, isWord, decide_eq_true_eq, Bool.and_true, Bool.and_eq_true]; omega)) only [l__law_value_9, q__law_power, w_skip, w_seq, w_expr, w_asg, w_asgC, w_asg2, w_setix, w_setix2, two_eq, w_aug, w_if, w_for, w_ret, w_retN, w_raise, w_brk, w_cnt, e_var', e_non, e_bl, e_int, e_str, e_gl, e_ty, e_bin, e_neg, e_nt, e_and, e_or, e_cmp, e_chn, e_ife, e_tup, e_lst, e_lstO, e_ix, e_call, e_bi, e_mth, es_nil, es_cons, ei_rng1, ei_rng2, ei_enum, ei_val, evT_eq, asgT, asgTs, tru_non, tru_bl, tru_int, tru_tup, tru_lst, eqD_int, eqD_bl, eqD_str, cmp_eq, cmp_ne, cmp_lt, cmp_le, cmp_gt, cmp_ge, cmp_inn, cmp_nin, o_add, o_sub, o_mulS, o_fdivS, o_mod, o_pow18, o_pow3, o_pow5, o_shl1, o_xor, o_and, o_cat, it_tup, it_lst, it_obj, ix_tup, ix_lst, ix_obj, ix_tab, in_strT, in_strL, in_obj, in_tab, b_len, len_tup, len_lst, b_abs, b_max, b_min, b_int, b_intb, b_tuple, b_list, b_reprF, len_obj, List.getElem?_cons_zero, List.getElem?_cons_succ, List.set_cons_zero, List.set_cons_succ, if_true, if_false, decide_eq_true_eq, Bool.not_eq_true', decide_eq_false_iff_not, Bool.false_eq_true, Bool.true_eq_false, not_true_eq_false, not_false_eq_true, decide_true, decide_false, Bool.not_true, Bool.not_false, reduceIte, Option.map_some, if_pos, if_neg, Int.one_mul, atI_0, atI_1, atI_2, atI_3, atI_4, atI_5, atI_6, atI_7, atI_8, atI_9, List.getElem?_set_self, set_ixU, m_appendU, setAt_0, setAt_1, setAt_2, setAt_3, setAt_4, setAt_5, rng_ok1, step_none, step_some, wipe_nil, wipe_cons, b_isi, kd_tup, kd_lst, kd_str, kd_int, isi_same, e_sl, eo_none, eo_some, sl_tupD, sl_lstD, sl_objD, e_rev, e_lrng, e_dsp, ep_nil, ep_cons, ei_items, rev_lst, okm_app, okm_ext, okm_ixO, okm_ix, okm_get, okm_getO, m_extend, m_getT, m_getO, m_getT1, m_getO1, m_index, setL_int, okK_str, okK_int, okK_bl, okK_ss, b_sorted, o_addL, o_addOL, o_mulL, o_addS, last_get0, last_set0, and_self, and_true, true_and, is_non, is_str, is_int, isn_non, isn_str, isn_int, e_lset, lset_ints, b_max1, b_max1L, b_max1T2, cmp_leT, kv_int, kv_str, stepK_none, stepK_some, *])
local macro_rules | `(tactic| walk_at "0_law_value") => `(tactic| simp (discharger := first | assumption | omega | (simp only [List.all_cons, List.all_nil, isWord, decide_eq_true_eq, Bool.and_true, Bool.and_eq_true]; omega)) only [l__law_value_9, q__law_power, w_skip, w_seq, w_expr, w_asg, w_asgC, w_asg2, w_setix, w_setix2, two_eq, w_aug, w_if, w_for, w_ret, w_retN, w_raise, w_brk, w_cnt, e_var', e_non, e_bl, e_int, e_str, e_gl, e_ty, e_bin, e_neg, e_nt, e_and, e_or, e_cmp, e_chn, e_ife, e_tup, e_lst, e_lstO, e_ix, e_call, e_bi, e_mth, es_nil, es_cons, ei_rng1, ei_rng2, ei_enum, ei_val, evT_eq, asgT, asgTs, tru_non, tru_bl, tru_int, tru_tup, tru_lst, eqD_int, eqD_bl, eqD_str, cmp_eq, cmp_ne, cmp_lt, cmp_le, cmp_gt, cmp_ge, cmp_inn, cmp_nin, o_add, o_sub, o_mulS, o_fdivS, o_mod, o_pow18, o_pow3, o_pow5, o_shl1, o_xor, o_and, o_cat, it_tup, it_lst, it_obj, ix_tup, ix_lst, ix_obj, ix_tab, in_strT, in_strL, in_obj, in_tab, b_len, len_tup, len_lst, b_abs, b_max, b_min, b_int, b_intb, b_tuple, b_list, b_reprF, len_obj, List.getElem?_cons_zero, List.getElem?_cons_succ, List.set_cons_zero, List.set_cons_succ, if_true, if_false, decide_eq_true_eq, Bool.not_eq_true', decide_eq_false_iff_not, Bool.false_eq_true, Bool.true_eq_false, not_true_eq_false, not_false_eq_true, decide_true, decide_false, Bool.not_true, Bool.not_false, reduceIte, Option.map_some, if_pos, if_neg, Int.one_mul, atI_0, atI_1, atI_2, atI_3, atI_4, atI_5, atI_6, atI_7, atI_8, atI_9, List.getElem?_set_self, set_ixU, m_appendU, setAt_0, setAt_1, setAt_2, setAt_3, setAt_4, setAt_5, rng_ok1, step_none, step_some, wipe_nil, wipe_cons, b_isi, kd_tup, kd_lst, kd_str, kd_int, isi_same, e_sl, eo_none, eo_some, sl_tupD, sl_lstD, sl_objD, e_rev, e_lrng, e_dsp, ep_nil, ep_cons, ei_items, rev_lst, okm_app, okm_ext, okm_ixO, okm_ix, okm_get, okm_getO, m_extend, m_getT, m_getO, m_getT1, m_getO1, m_index, setL_int, okK_str, okK_int, okK_bl, okK_ss, b_sorted, o_addL, o_addOL, o_mulL, o_addS, last_get0, last_set0, and_self, and_true, true_and, is_non, is_str, is_int, isn_non, isn_str, isn_int, e_lset, lset_ints, b_max1, b_max1L, b_max1T2, cmp_leT, kv_int, kv_str, stepK_none, stepK_some])
def S__law_value : Wd
  | [.int w, .int a], st, r, s => r = .int (sgn w a) ∧ s = st
  | _, _, _, _ => False
noncomputable def F__law_value : List D → Store → Option (D × Store) := specF T_least_words 2 2 c__law_value S__law_value
noncomputable def T__law_value : Tab := T_least_words.push ⟨"_law_value", [], F__law_value⟩
theorem q__law_value {w a : Int} {st : Store} (h1 : 1 ≤ w) (h2 : w ≤ 1000) : F__law_value [.int w, .int a] st = some (.int (sgn w a), st) := by
  refine specF_eq rfl ?_ (fun r s h => h)
  show W _ c__law_value [some (.int w), some (.int a)] st _ tg
  unfold c__law_value
  by_cases h : (2 : Int) ^ (w - 1).toNat ≤ a
  · walk_at "0_law_value"
    exact ⟨_, _, ret_same, by unfold sgn half; first | rw [if_pos h] | rw [if_neg h], rfl⟩
  · walk_at "0_law_value"
    exact ⟨_, _, ret_same, by unfold sgn half; first | rw [if_pos h] | rw [if_neg h], rfl⟩
end Bo

set_option Elab.async false
set_option linter.all false
set_option maxRecDepth 100000
set_option maxHeartbeats 8000000
namespace Bo
open PySem PySem.Spec L2
def N__law_seen : List Str := ["wide", "one", "two", "less", "below"]
def P__law_seen : List Str := ["wide", "one", "two"]
def c__law_seen : CS :=
      (.seq (.iff (.cmp .eq (.var 1) (.var 2))
      (.seq (.ret (.str "E"))
      .skip)
      .skip)
      (.seq (.asg2 3 4 (.cmp .lt (.call 17 (.cons (.var 0) (.cons (.var 1) .nil))) (.call 17 (.cons (.var 0) (.cons (.var 2) .nil)))) (.cmp .lt (.var 1) (.var 2)))
      (.seq (.ret (.ix (.lst (.cons (.str "GA") (.cons (.str "GB") (.cons (.str "LA") (.cons (.str "LB") .nil))))) (.bin .add (.bin .mul (.int 2) (.bi .int1 (.cons (.var 3) .nil))) (.bi .int1 (.cons (.var 4) .nil)))))
      .skip)))
theorem sc__law_seen : FnScope N__law_seen P__law_seen (defScope (topS 35)) := ⟨rfl, rfl, rfl, by decide +kernel, rfl, by decide +kernel, by decide +kernel⟩
theorem ch__law_seen : chkB T__law_value 18 N__law_seen (defScope (topS 35)) c__law_seen (defBody (topS 35)) = true := by decide +kernel
theorem l__law_seen_17 : T__law_value.fns[17]? = some ⟨"_law_value", [], F__law_value⟩ := rfl
local macro_rules | `(tactic| walk_at "_law_seen") => `(tactic| simp (discharger := first | assumption | omega | (simp only [List.all_cons, List.all_nil, isWord, decide_eq_true_eq, Bool.and_true, Bool.and_eq_true]; omega)) only [l__law_seen_17, q__law_value, w_skip, w_seq, w_expr, w_asg, w_asgC, w_asg2, w_setix, w_setix2, two_eq, w_aug, w_if, w_for, w_ret, w_retN, w_raise, w_brk, w_cnt, e_var', e_non, e_bl, e_int, e_str, e_gl, e_ty, e_bin, e_neg, e_nt, e_and, e_or, e_cmp, e_chn, e_ife, e_tup, e_lst, e_lstO, e_ix, e_call, e_bi, e_mth, es_nil, es_cons, ei_rng1, ei_rng2, ei_enum, ei_val, evT_eq, asgT, asgTs, tru_non, tru_bl, tru_int, tru_tup, tru_lst, eqD_int, eqD_bl, eqD_str, cmp_eq, cmp_ne, cmp_lt, cmp_le, cmp_gt, cmp_ge, cmp_inn, cmp_nin, o_add, o_sub, o_mulS, o_fdivS, o_mod, o_pow18, o_pow3, o_pow5, o_shl1, o_xor, o_and, o_cat, it_tup, it_lst, it_obj, ix_tup, ix_lst, ix_obj, ix_tab, in_strT, in_strL, in_obj, in_tab, b_len, len_tup, len_lst, b_abs, b_max, b_min, b_int, b_intb, b_tuple, b_list, b_reprF, len_obj, List.getElem?_cons_zero, List.getElem?_cons_succ, List.set_cons_zero, List.set_cons_succ, if_true, if_false, decide_eq_true_eq, Bool.not_eq_true', decide_eq_false_iff_not, Bool.false_eq_true, Bool.true_eq_false, not_true_eq_false, not_false_eq_true, decide_true, decide_false, Bool.not_true, Bool.not_false, reduceIte, Option.map_some, if_pos, if_neg, Int.one_mul, atI_0, atI_1, atI_2, atI_3, atI_4, atI_5, atI_6, atI_7, atI_8, atI_9, List.getElem?_set_self, set_ixU, m_appendU, setAt_0, setAt_1, setAt_2, setAt_3, setAt_4, setAt_5, rng_ok1, step_none, step_some, wipe_nil, wipe_cons, b_isi, kd_tup, kd_lst, kd_str, kd_int, isi_same, e_sl, eo_none, eo_some, sl_tupD, sl_lstD, sl_objD, e_rev, e_lrng, e_dsp, ep_nil, ep_cons, ei_items, rev_lst, okm_app, okm_ext, okm_ixO, okm_ix, okm_get, okm_getO, m_extend, m_getT, m_getO, m_getT1, m_getO1, m_index, setL_int, okK_str, okK_int, okK_bl, okK_ss, b_sorted, o_addL, o_addOL, o_mulL, o_addS, last_get0, last_set0, and_self, and_true, true_and, is_non, is_str, is_int, isn_non, isn_str, isn_int, e_lset, lset_ints, b_max1, b_max1L, b_max1T2, cmp_leT, kv_int, kv_str, stepK_none, stepK_some, *])
local macro_rules | `(tactic| walk_at "0_law_seen") => `(tactic| simp (discharger := first | assumption | omega | (simp only [List.all_cons, List.all_nil, isWord, decide_eq_true_eq, Bool.and_true, Bool.and_eq_true]; omega)) only [l__law_seen_17, q__law_value, w_skip, w_seq, w_expr, w_asg, w_asgC, w_asg2, w_setix, w_setix2, two_eq, w_aug, w_if, w_for, w_ret, w_retN, w_raise, w_brk, w_cnt, e_var', e_non, e_bl, e_int, e_str, e_gl, e_ty, e_bin, e_neg, e_nt, e_and, e_or, e_cmp, e_chn, e_ife, e_tup, e_lst, e_lstO, e_ix, e_call, e_bi, e_mth, es_nil, es_cons, ei_rng1, ei_rng2, ei_enum, ei_val, evT_eq, asgT, asgTs, tru_non, tru_bl, tru_int, tru_tup, tru_lst, eqD_int, eqD_bl, eqD_str, cmp_eq, cmp_ne, cmp_lt, cmp_le, cmp_gt, cmp_ge, cmp_inn, cmp_nin, o_add, o_sub, o_mulS, o_fdivS, o_mod, o_pow18, o_pow3, o_pow5, o_shl1, o_xor, o_and, o_cat, it_tup, it_lst, it_obj, ix_tup, ix_lst, ix_obj, ix_tab, in_strT, in_strL, in_obj, in_tab, b_len, len_tup, len_lst, b_abs, b_max, b_min, b_int, b_intb, b_tuple, b_list, b_reprF, len_obj, List.getElem?_cons_zero, List.getElem?_cons_succ, List.set_cons_zero, List.set_cons_succ, if_true, if_false, decide_eq_true_eq, Bool.not_eq_true', decide_eq_false_iff_not, Bool.false_eq_true, Bool.true_eq_false, not_true_eq_false, not_false_eq_true, decide_true, decide_false, Bool.not_true, Bool.not_false, reduceIte, Option.map_some, if_pos, if_neg, Int.one_mul, atI_0, atI_1, atI_2, atI_3, atI_4, atI_5, atI_6, atI_7, atI_8, atI_9, List.getElem?_set_self, set_ixU, m_appendU, setAt_0, setAt_1, setAt_2, setAt_3, setAt_4, setAt_5, rng_ok1, step_none, step_some, wipe_nil, wipe_cons, b_isi, kd_tup, kd_lst, kd_str, kd_int, isi_same, e_sl, eo_none, eo_some, sl_tupD, sl_lstD, sl_objD, e_rev, e_lrng, e_dsp, ep_nil, ep_cons, ei_items, rev_lst, okm_app, okm_ext, okm_ixO, okm_ix, okm_get, okm_getO, m_extend, m_getT, m_getO, m_getT1, m_getO1, m_index, setL_int, okK_str, okK_int, okK_bl, okK_ss, b_sorted, o_addL, o_addOL, o_mulL, o_addS, last_get0, last_set0, and_self, and_true, true_and, is_non, is_str, is_int, isn_non, isn_str, isn_int, e_lset, lset_ints, b_max1, b_max1L, b_max1T2, cmp_leT, kv_int, kv_str, stepK_none, stepK_some])
def S__law_seen : Wd
  | [.int w, .int a, .int b], st, r, s => r = .str (oc (half w) a b) ∧ s = st
  | _, _, _, _ => False
noncomputable def F__law_seen : List D → Store → Option (D × Store) := specF T__law_value 5 3 c__law_seen S__law_seen
noncomputable def T__law_seen : Tab := T__law_value.push ⟨"_law_seen", [], F__law_seen⟩
theorem q__law_seen {w a b : Int} {st : Store} (h1 : 1 ≤ w) (h2 : w ≤ 1000) (a0 : 0 ≤ a) (a1 : a < 2 ^ w.toNat) (b0 : 0 ≤ b) (b1 : b < 2 ^ w.toNat) : F__law_seen [.int w, .int a, .int b] st = some (.str (oc (half w) a b), st) := by
  refine specF_eq rfl ?_ (fun r s h => h)
  show W _ c__law_seen [some (.int w), some (.int a), some (.int b), none, none] st _ tg
  unfold c__law_seen
  have fin : ∀ x : Str, oc (half w) a b = x → ∃ r st', RetOk st (.str x) st r st' ∧ S__law_seen [.int w, .int a, .int b] st r st' := fun x h => ⟨_, _, ret_same, by rw [h], rfl⟩
  have h2t := half_twice h1
  have hh : 0 < half w := pow_pos2
  by_cases e : a = b
  · walk_at "0_law_seen"
    exact fin _ (by simp [oc, e])
  · by_cases c1 : half w ≤ a
    · have sa : sgn w a = a - 2 * half w := by unfold sgn; rw [if_pos c1, h2t]
      by_cases c2 : half w ≤ b
      · have sb : sgn w b = b - 2 * half w := by unfold sgn; rw [if_pos c2, h2t]
        by_cases c3 : a < b
        · have l : sgn w a < sgn w b := by omega
          have o := fin "LB" (by simp [oc, e, c1, c2, c3])
          clear fin sa sb h2t
          walk_at "_law_seen"
          exact o
        · have l : ¬sgn w a < sgn w b := by omega
          have o := fin "GA" (by simp [oc, e, c1, c2, c3])
          clear fin sa sb h2t
          walk_at "_law_seen"
          exact o
      · have sb : sgn w b = b := by unfold sgn; rw [if_neg c2]
        have c3 : ¬ a < half w := by omega
        have c4 : ¬ a < b := by omega
        have l : sgn w a < sgn w b := by omega
        have o := fin "LA" (by simp [oc, e, c1, c2, c3])
        clear fin sa sb h2t
        walk_at "_law_seen"
        exact o
    · have sa : sgn w a = a := by unfold sgn; rw [if_neg c1]
      by_cases c2 : half w ≤ b
      · have sb : sgn w b = b - 2 * half w := by unfold sgn; rw [if_pos c2, h2t]
        have c3 : a < half w := by omega
        have c4 : a < b := by omega
        have l : ¬sgn w a < sgn w b := by omega
        have o := fin "GB" (by simp [oc, e, c1, c2, c3])
        clear fin sa sb h2t
        walk_at "_law_seen"
        exact o
      · have sb : sgn w b = b := by unfold sgn; rw [if_neg c2]
        by_cases c3 : a < b
        · have l : sgn w a < sgn w b := by omega
          have o := fin "LB" (by simp [oc, e, c1, c2, c3])
          clear fin sa sb h2t
          walk_at "_law_seen"
          exact o
        · have l : ¬sgn w a < sgn w b := by omega
          have o := fin "GA" (by simp [oc, e, c1, c2, c3])
          clear fin sa sb h2t
          walk_at "_law_seen"
          exact o
end Bo

set_option Elab.async false
set_option linter.all false
set_option maxRecDepth 100000
set_option maxHeartbeats 8000000
namespace Bo
open PySem PySem.Spec L2
def N_outcome_by : List Str := ["cut", "first", "second"]
def P_outcome_by : List Str := ["cut", "first", "second"]
def c_outcome_by : CS :=
      (.seq (.iff (.cmp .eq (.var 1) (.var 2))
      (.seq (.ret (.gl 0))
      .skip)
      .skip)
      (.seq (.iff (.cmp .eq (.cmp .ge (.var 1) (.var 0)) (.cmp .ge (.var 2) (.var 0)))
      (.seq (.ret (.ife (.cmp .lt (.var 1) (.var 2)) (.gl 1) (.gl 2)))
      .skip)
      .skip)
      (.seq (.ret (.ife (.cmp .lt (.var 1) (.var 0)) (.gl 3) (.gl 4)))
      .skip)))
theorem sc_outcome_by : FnScope N_outcome_by P_outcome_by (defScope (topS 15)) := ⟨rfl, rfl, rfl, by decide +kernel, rfl, by decide +kernel, by decide +kernel⟩
theorem ch_outcome_by : chkB T__law_seen 19 N_outcome_by (defScope (topS 15)) c_outcome_by (defBody (topS 15)) = true := by decide +kernel
theorem lg_outcome_by_0 : T__law_seen.gls[0]? = some (("EQUAL" : Str), (.str "E" : D)) := rfl
theorem lg_outcome_by_1 : T__law_seen.gls[1]? = some (("LESS" : Str), (.str "LB" : D)) := rfl
theorem lg_outcome_by_2 : T__law_seen.gls[2]? = some (("GREATER" : Str), (.str "GA" : D)) := rfl
theorem lg_outcome_by_3 : T__law_seen.gls[3]? = some (("MIXED" : Str), (.str "GB" : D)) := rfl
theorem lg_outcome_by_4 : T__law_seen.gls[4]? = some (("MIXED_BACK" : Str), (.str "LA" : D)) := rfl
local macro_rules | `(tactic| walk_at "outcome_by") => `(tactic| simp (discharger := first | assumption | omega | (simp only [List.all_cons, List.all_nil, isWord, decide_eq_true_eq, Bool.and_true, Bool.and_eq_true]; omega)) only [lg_outcome_by_0, lg_outcome_by_1, lg_outcome_by_2, lg_outcome_by_3, lg_outcome_by_4, w_skip, w_seq, w_expr, w_asg, w_asgC, w_asg2, w_setix, w_setix2, two_eq, w_aug, w_if, w_for, w_ret, w_retN, w_raise, w_brk, w_cnt, e_var', e_non, e_bl, e_int, e_str, e_gl, e_ty, e_bin, e_neg, e_nt, e_and, e_or, e_cmp, e_chn, e_ife, e_tup, e_lst, e_lstO, e_ix, e_call, e_bi, e_mth, es_nil, es_cons, ei_rng1, ei_rng2, ei_enum, ei_val, evT_eq, asgT, asgTs, tru_non, tru_bl, tru_int, tru_tup, tru_lst, eqD_int, eqD_bl, eqD_str, cmp_eq, cmp_ne, cmp_lt, cmp_le, cmp_gt, cmp_ge, cmp_inn, cmp_nin, o_add, o_sub, o_mulS, o_fdivS, o_mod, o_pow18, o_pow3, o_pow5, o_shl1, o_xor, o_and, o_cat, it_tup, it_lst, it_obj, ix_tup, ix_lst, ix_obj, ix_tab, in_strT, in_strL, in_obj, in_tab, b_len, len_tup, len_lst, b_abs, b_max, b_min, b_int, b_intb, b_tuple, b_list, b_reprF, len_obj, List.getElem?_cons_zero, List.getElem?_cons_succ, List.set_cons_zero, List.set_cons_succ, if_true, if_false, decide_eq_true_eq, Bool.not_eq_true', decide_eq_false_iff_not, Bool.false_eq_true, Bool.true_eq_false, not_true_eq_false, not_false_eq_true, decide_true, decide_false, Bool.not_true, Bool.not_false, reduceIte, Option.map_some, if_pos, if_neg, Int.one_mul, atI_0, atI_1, atI_2, atI_3, atI_4, atI_5, atI_6, atI_7, atI_8, atI_9, List.getElem?_set_self, set_ixU, m_appendU, setAt_0, setAt_1, setAt_2, setAt_3, setAt_4, setAt_5, rng_ok1, step_none, step_some, wipe_nil, wipe_cons, b_isi, kd_tup, kd_lst, kd_str, kd_int, isi_same, e_sl, eo_none, eo_some, sl_tupD, sl_lstD, sl_objD, e_rev, e_lrng, e_dsp, ep_nil, ep_cons, ei_items, rev_lst, okm_app, okm_ext, okm_ixO, okm_ix, okm_get, okm_getO, m_extend, m_getT, m_getO, m_getT1, m_getO1, m_index, setL_int, okK_str, okK_int, okK_bl, okK_ss, b_sorted, o_addL, o_addOL, o_mulL, o_addS, last_get0, last_set0, and_self, and_true, true_and, is_non, is_str, is_int, isn_non, isn_str, isn_int, e_lset, lset_ints, b_max1, b_max1L, b_max1T2, cmp_leT, kv_int, kv_str, stepK_none, stepK_some, *])
local macro_rules | `(tactic| walk_at "0outcome_by") => `(tactic| simp (discharger := first | assumption | omega | (simp only [List.all_cons, List.all_nil, isWord, decide_eq_true_eq, Bool.and_true, Bool.and_eq_true]; omega)) only [lg_outcome_by_0, lg_outcome_by_1, lg_outcome_by_2, lg_outcome_by_3, lg_outcome_by_4, w_skip, w_seq, w_expr, w_asg, w_asgC, w_asg2, w_setix, w_setix2, two_eq, w_aug, w_if, w_for, w_ret, w_retN, w_raise, w_brk, w_cnt, e_var', e_non, e_bl, e_int, e_str, e_gl, e_ty, e_bin, e_neg, e_nt, e_and, e_or, e_cmp, e_chn, e_ife, e_tup, e_lst, e_lstO, e_ix, e_call, e_bi, e_mth, es_nil, es_cons, ei_rng1, ei_rng2, ei_enum, ei_val, evT_eq, asgT, asgTs, tru_non, tru_bl, tru_int, tru_tup, tru_lst, eqD_int, eqD_bl, eqD_str, cmp_eq, cmp_ne, cmp_lt, cmp_le, cmp_gt, cmp_ge, cmp_inn, cmp_nin, o_add, o_sub, o_mulS, o_fdivS, o_mod, o_pow18, o_pow3, o_pow5, o_shl1, o_xor, o_and, o_cat, it_tup, it_lst, it_obj, ix_tup, ix_lst, ix_obj, ix_tab, in_strT, in_strL, in_obj, in_tab, b_len, len_tup, len_lst, b_abs, b_max, b_min, b_int, b_intb, b_tuple, b_list, b_reprF, len_obj, List.getElem?_cons_zero, List.getElem?_cons_succ, List.set_cons_zero, List.set_cons_succ, if_true, if_false, decide_eq_true_eq, Bool.not_eq_true', decide_eq_false_iff_not, Bool.false_eq_true, Bool.true_eq_false, not_true_eq_false, not_false_eq_true, decide_true, decide_false, Bool.not_true, Bool.not_false, reduceIte, Option.map_some, if_pos, if_neg, Int.one_mul, atI_0, atI_1, atI_2, atI_3, atI_4, atI_5, atI_6, atI_7, atI_8, atI_9, List.getElem?_set_self, set_ixU, m_appendU, setAt_0, setAt_1, setAt_2, setAt_3, setAt_4, setAt_5, rng_ok1, step_none, step_some, wipe_nil, wipe_cons, b_isi, kd_tup, kd_lst, kd_str, kd_int, isi_same, e_sl, eo_none, eo_some, sl_tupD, sl_lstD, sl_objD, e_rev, e_lrng, e_dsp, ep_nil, ep_cons, ei_items, rev_lst, okm_app, okm_ext, okm_ixO, okm_ix, okm_get, okm_getO, m_extend, m_getT, m_getO, m_getT1, m_getO1, m_index, setL_int, okK_str, okK_int, okK_bl, okK_ss, b_sorted, o_addL, o_addOL, o_mulL, o_addS, last_get0, last_set0, and_self, and_true, true_and, is_non, is_str, is_int, isn_non, isn_str, isn_int, e_lset, lset_ints, b_max1, b_max1L, b_max1T2, cmp_leT, kv_int, kv_str, stepK_none, stepK_some])
def S_outcome_by : Wd
  | [.int c, .int a, .int b], st, r, s => r = .str (oc c a b) ∧ s = st
  | _, _, _, _ => False
noncomputable def F_outcome_by : List D → Store → Option (D × Store) := specF T__law_seen 3 3 c_outcome_by S_outcome_by
noncomputable def T_outcome_by : Tab := T__law_seen.push ⟨"outcome_by", [], F_outcome_by⟩
theorem q_outcome_by {c a b : Int} {st : Store} : F_outcome_by [.int c, .int a, .int b] st = some (.str (oc c a b), st) := by
  refine specF_eq rfl ?_ (fun r s h => h)
  show W _ c_outcome_by [some (.int c), some (.int a), some (.int b)] st _ tg
  unfold c_outcome_by
  have fin : ∀ x : Str, oc c a b = x → ∃ r st', RetOk st (.str x) st r st' ∧ S_outcome_by [.int c, .int a, .int b] st r st' := fun x h => ⟨_, _, ret_same, by rw [h], rfl⟩
  by_cases h1 : a = b
  · walk_at "0outcome_by"
    exact fin _ (by simp [oc, h1])
  · by_cases h2 : decide (c ≤ a) = decide (c ≤ b)
    · by_cases h3 : a < b
      · walk_at "0outcome_by"
        exact fin _ (by simp only [oc, h1, h2, h3, if_false, if_true])
      · walk_at "0outcome_by"
        exact fin _ (by simp only [oc, h1, h2, h3, if_false, if_true])
    · by_cases h3 : a < c
      · walk_at "0outcome_by"
        exact fin _ (by simp only [oc, h1, h2, h3, if_false, if_true])
      · walk_at "0outcome_by"
        exact fin _ (by simp only [oc, h1, h2, h3, if_false, if_true])
end Bo

set_option Elab.async false
set_option linter.all false
set_option maxRecDepth 100000
set_option maxHeartbeats 8000000
namespace Bo
open PySem PySem.Spec L2
def N_outcome_between : List Str := ["ranking", "first", "second", "ranks", "cut"]
def P_outcome_between : List Str := ["ranking", "first", "second"]
def c_outcome_between : CS :=
      (.seq (.asg (.tp (.cons (.nm 3) (.cons (.nm 4) .nil))) (.var 0))
      (.seq (.ret (.call 19 (.cons (.var 4) (.cons (.ix (.var 3) (.var 1)) (.cons (.ix (.var 3) (.var 2)) .nil)))))
      .skip))
theorem sc_outcome_between : FnScope N_outcome_between P_outcome_between (defScope (topS 20)) := ⟨rfl, rfl, rfl, by decide +kernel, rfl, by decide +kernel, by decide +kernel⟩
theorem ch_outcome_between : chkB T_outcome_by 20 N_outcome_between (defScope (topS 20)) c_outcome_between (defBody (topS 20)) = true := by decide +kernel
theorem l_outcome_between_19 : T_outcome_by.fns[19]? = some ⟨"outcome_by", [], F_outcome_by⟩ := rfl
local macro_rules | `(tactic| walk_at "outcome_between") => `(tactic| simp (discharger := first | assumption | omega | (simp only [List.all_cons, List.all_nil, isWord, decide_eq_true_eq, Bool.and_true, Bool.and_eq_true]; omega)) only [l_outcome_between_19, q_outcome_by, w_skip, w_seq, w_expr, w_asg, w_asgC, w_asg2, w_setix, w_setix2, two_eq, w_aug, w_if, w_for, w_ret, w_retN, w_raise, w_brk, w_cnt, e_var', e_non, e_bl, e_int, e_str, e_gl, e_ty, e_bin, e_neg, e_nt, e_and, e_or, e_cmp, e_chn, e_ife, e_tup, e_lst, e_lstO, e_ix, e_call, e_bi, e_mth, es_nil, es_cons, ei_rng1, ei_rng2, ei_enum, ei_val, evT_eq, asgT, asgTs, tru_non, tru_bl, tru_int, tru_tup, tru_lst, eqD_int, eqD_bl, eqD_str, cmp_eq, cmp_ne, cmp_lt, cmp_le, cmp_gt, cmp_ge, cmp_inn, cmp_nin, o_add, o_sub, o_mulS, o_fdivS, o_mod, o_pow18, o_pow3, o_pow5, o_shl1, o_xor, o_and, o_cat, it_tup, it_lst, it_obj, ix_tup, ix_lst, ix_obj, ix_tab, in_strT, in_strL, in_obj, in_tab, b_len, len_tup, len_lst, b_abs, b_max, b_min, b_int, b_intb, b_tuple, b_list, b_reprF, len_obj, List.getElem?_cons_zero, List.getElem?_cons_succ, List.set_cons_zero, List.set_cons_succ, if_true, if_false, decide_eq_true_eq, Bool.not_eq_true', decide_eq_false_iff_not, Bool.false_eq_true, Bool.true_eq_false, not_true_eq_false, not_false_eq_true, decide_true, decide_false, Bool.not_true, Bool.not_false, reduceIte, Option.map_some, if_pos, if_neg, Int.one_mul, atI_0, atI_1, atI_2, atI_3, atI_4, atI_5, atI_6, atI_7, atI_8, atI_9, List.getElem?_set_self, set_ixU, m_appendU, setAt_0, setAt_1, setAt_2, setAt_3, setAt_4, setAt_5, rng_ok1, step_none, step_some, wipe_nil, wipe_cons, b_isi, kd_tup, kd_lst, kd_str, kd_int, isi_same, e_sl, eo_none, eo_some, sl_tupD, sl_lstD, sl_objD, e_rev, e_lrng, e_dsp, ep_nil, ep_cons, ei_items, rev_lst, okm_app, okm_ext, okm_ixO, okm_ix, okm_get, okm_getO, m_extend, m_getT, m_getO, m_getT1, m_getO1, m_index, setL_int, okK_str, okK_int, okK_bl, okK_ss, b_sorted, o_addL, o_addOL, o_mulL, o_addS, last_get0, last_set0, and_self, and_true, true_and, is_non, is_str, is_int, isn_non, isn_str, isn_int, e_lset, lset_ints, b_max1, b_max1L, b_max1T2, cmp_leT, kv_int, kv_str, stepK_none, stepK_some, *])
local macro_rules | `(tactic| walk_at "0outcome_between") => `(tactic| simp (discharger := first | assumption | omega | (simp only [List.all_cons, List.all_nil, isWord, decide_eq_true_eq, Bool.and_true, Bool.and_eq_true]; omega)) only [l_outcome_between_19, q_outcome_by, w_skip, w_seq, w_expr, w_asg, w_asgC, w_asg2, w_setix, w_setix2, two_eq, w_aug, w_if, w_for, w_ret, w_retN, w_raise, w_brk, w_cnt, e_var', e_non, e_bl, e_int, e_str, e_gl, e_ty, e_bin, e_neg, e_nt, e_and, e_or, e_cmp, e_chn, e_ife, e_tup, e_lst, e_lstO, e_ix, e_call, e_bi, e_mth, es_nil, es_cons, ei_rng1, ei_rng2, ei_enum, ei_val, evT_eq, asgT, asgTs, tru_non, tru_bl, tru_int, tru_tup, tru_lst, eqD_int, eqD_bl, eqD_str, cmp_eq, cmp_ne, cmp_lt, cmp_le, cmp_gt, cmp_ge, cmp_inn, cmp_nin, o_add, o_sub, o_mulS, o_fdivS, o_mod, o_pow18, o_pow3, o_pow5, o_shl1, o_xor, o_and, o_cat, it_tup, it_lst, it_obj, ix_tup, ix_lst, ix_obj, ix_tab, in_strT, in_strL, in_obj, in_tab, b_len, len_tup, len_lst, b_abs, b_max, b_min, b_int, b_intb, b_tuple, b_list, b_reprF, len_obj, List.getElem?_cons_zero, List.getElem?_cons_succ, List.set_cons_zero, List.set_cons_succ, if_true, if_false, decide_eq_true_eq, Bool.not_eq_true', decide_eq_false_iff_not, Bool.false_eq_true, Bool.true_eq_false, not_true_eq_false, not_false_eq_true, decide_true, decide_false, Bool.not_true, Bool.not_false, reduceIte, Option.map_some, if_pos, if_neg, Int.one_mul, atI_0, atI_1, atI_2, atI_3, atI_4, atI_5, atI_6, atI_7, atI_8, atI_9, List.getElem?_set_self, set_ixU, m_appendU, setAt_0, setAt_1, setAt_2, setAt_3, setAt_4, setAt_5, rng_ok1, step_none, step_some, wipe_nil, wipe_cons, b_isi, kd_tup, kd_lst, kd_str, kd_int, isi_same, e_sl, eo_none, eo_some, sl_tupD, sl_lstD, sl_objD, e_rev, e_lrng, e_dsp, ep_nil, ep_cons, ei_items, rev_lst, okm_app, okm_ext, okm_ixO, okm_ix, okm_get, okm_getO, m_extend, m_getT, m_getO, m_getT1, m_getO1, m_index, setL_int, okK_str, okK_int, okK_bl, okK_ss, b_sorted, o_addL, o_addOL, o_mulL, o_addS, last_get0, last_set0, and_self, and_true, true_and, is_non, is_str, is_int, isn_non, isn_str, isn_int, e_lset, lset_ints, b_max1, b_max1L, b_max1T2, cmp_leT, kv_int, kv_str, stepK_none, stepK_some])
def S_outcome_between : Wd := fun ds st r s => ∃ (rs : List Int) (c i j a b : Int), ds = [.tup [.tup (rs.map D.int), .int c], .int i, .int j] ∧ atI rs i = some a ∧ atI rs j = some b ∧ r = .str (oc c a b) ∧ s = st
noncomputable def F_outcome_between : List D → Store → Option (D × Store) := specF T_outcome_by 5 3 c_outcome_between S_outcome_between
noncomputable def T_outcome_between : Tab := T_outcome_by.push ⟨"outcome_between", [], F_outcome_between⟩
theorem q_outcome_between {rs : List Int} {c i j a b : Int} {st : Store} (hi : atI rs i = some a) (hj : atI rs j = some b) : F_outcome_between [.tup [.tup (rs.map D.int), .int c], .int i, .int j] st = some (.str (oc c a b), st) := by
  refine specF_eq rfl ?_ (fun r s ⟨rs', c', i', j', a', b', e, g1, g2, h3, h4⟩ => ?_)
  · show W _ c_outcome_between [some (.tup [.tup (rs.map D.int), .int c]), some (.int i), some (.int j), none, none] st _ tg
    unfold c_outcome_between
    have e1 : atI (rs.map D.int) i = some (.int a) := atI_map hi
    have e2 : atI (rs.map D.int) j = some (.int b) := atI_map hj
    walk_at "outcome_between"
    exact ⟨_, _, ret_same, rs, c, i, j, a, b, rfl, hi, hj, rfl, rfl⟩
  · simp only [List.cons.injEq, D.int.injEq, D.tup.injEq, and_true] at e
    obtain ⟨⟨e, rfl⟩, rfl, rfl⟩ := e
    rw [← ints_inj e] at g1 g2
    rw [hi] at g1
    rw [hj] at g2
    cases g1
    cases g2
    exact ⟨h3, h4⟩
end Bo

set_option Elab.async false
set_option linter.all false
set_option maxRecDepth 100000
set_option maxHeartbeats 8000000
namespace Bo
open PySem PySem.Spec L2
def N_outcome_in : List Str := ["ranking", "first", "second", "number"]
def P_outcome_in : List Str := ["ranking", "first", "second"]
def c_outcome_in : CS :=
      (.seq (.expr (.call 12 (.cons (.var 0) .nil)))
      (.seq (.for_ (.nm 3) (.val (.tup (.cons (.var 1) (.cons (.var 2) .nil))))
      (.seq (.iff (.nt (.chn .le .lt (.int 0) (.var 3) (.bi .len (.cons (.ix (.var 0) (.int 0)) .nil))))
      (.seq .raise_
      .skip)
      .skip)
      .skip))
      (.seq (.ret (.call 20 (.cons (.var 0) (.cons (.var 1) (.cons (.var 2) .nil)))))
      .skip)))
theorem sc_outcome_in : FnScope N_outcome_in P_outcome_in (defScope (topS 25)) := ⟨rfl, rfl, rfl, by decide +kernel, rfl, by decide +kernel, by decide +kernel⟩
theorem ch_outcome_in : chkB T_outcome_between 21 N_outcome_in (defScope (topS 25)) c_outcome_in (defBody (topS 25)) = true := by decide +kernel
theorem l_outcome_in_12 : T_outcome_between.fns[12]? = some ⟨"check_ranking", [], F_check_ranking⟩ := rfl
theorem l_outcome_in_20 : T_outcome_between.fns[20]? = some ⟨"outcome_between", [], F_outcome_between⟩ := rfl
local macro_rules | `(tactic| walk_at "outcome_in") => `(tactic| simp (discharger := first | assumption | omega | (simp only [List.all_cons, List.all_nil, isWord, decide_eq_true_eq, Bool.and_true, Bool.and_eq_true]; omega)) only [l_outcome_in_12, l_outcome_in_20, q_outcome_between, w_skip, w_seq, w_expr, w_asg, w_asgC, w_asg2, w_setix, w_setix2, two_eq, w_aug, w_if, w_for, w_ret, w_retN, w_raise, w_brk, w_cnt, e_var', e_non, e_bl, e_int, e_str, e_gl, e_ty, e_bin, e_neg, e_nt, e_and, e_or, e_cmp, e_chn, e_ife, e_tup, e_lst, e_lstO, e_ix, e_call, e_bi, e_mth, es_nil, es_cons, ei_rng1, ei_rng2, ei_enum, ei_val, evT_eq, asgT, asgTs, tru_non, tru_bl, tru_int, tru_tup, tru_lst, eqD_int, eqD_bl, eqD_str, cmp_eq, cmp_ne, cmp_lt, cmp_le, cmp_gt, cmp_ge, cmp_inn, cmp_nin, o_add, o_sub, o_mulS, o_fdivS, o_mod, o_pow18, o_pow3, o_pow5, o_shl1, o_xor, o_and, o_cat, it_tup, it_lst, it_obj, ix_tup, ix_lst, ix_obj, ix_tab, in_strT, in_strL, in_obj, in_tab, b_len, len_tup, len_lst, b_abs, b_max, b_min, b_int, b_intb, b_tuple, b_list, b_reprF, len_obj, List.getElem?_cons_zero, List.getElem?_cons_succ, List.set_cons_zero, List.set_cons_succ, if_true, if_false, decide_eq_true_eq, Bool.not_eq_true', decide_eq_false_iff_not, Bool.false_eq_true, Bool.true_eq_false, not_true_eq_false, not_false_eq_true, decide_true, decide_false, Bool.not_true, Bool.not_false, reduceIte, Option.map_some, if_pos, if_neg, Int.one_mul, atI_0, atI_1, atI_2, atI_3, atI_4, atI_5, atI_6, atI_7, atI_8, atI_9, List.getElem?_set_self, set_ixU, m_appendU, setAt_0, setAt_1, setAt_2, setAt_3, setAt_4, setAt_5, rng_ok1, step_none, step_some, wipe_nil, wipe_cons, b_isi, kd_tup, kd_lst, kd_str, kd_int, isi_same, e_sl, eo_none, eo_some, sl_tupD, sl_lstD, sl_objD, e_rev, e_lrng, e_dsp, ep_nil, ep_cons, ei_items, rev_lst, okm_app, okm_ext, okm_ixO, okm_ix, okm_get, okm_getO, m_extend, m_getT, m_getO, m_getT1, m_getO1, m_index, setL_int, okK_str, okK_int, okK_bl, okK_ss, b_sorted, o_addL, o_addOL, o_mulL, o_addS, last_get0, last_set0, and_self, and_true, true_and, is_non, is_str, is_int, isn_non, isn_str, isn_int, e_lset, lset_ints, b_max1, b_max1L, b_max1T2, cmp_leT, kv_int, kv_str, stepK_none, stepK_some, *])
local macro_rules | `(tactic| walk_at "0outcome_in") => `(tactic| simp (discharger := first | assumption | omega | (simp only [List.all_cons, List.all_nil, isWord, decide_eq_true_eq, Bool.and_true, Bool.and_eq_true]; omega)) only [l_outcome_in_12, l_outcome_in_20, q_outcome_between, w_skip, w_seq, w_expr, w_asg, w_asgC, w_asg2, w_setix, w_setix2, two_eq, w_aug, w_if, w_for, w_ret, w_retN, w_raise, w_brk, w_cnt, e_var', e_non, e_bl, e_int, e_str, e_gl, e_ty, e_bin, e_neg, e_nt, e_and, e_or, e_cmp, e_chn, e_ife, e_tup, e_lst, e_lstO, e_ix, e_call, e_bi, e_mth, es_nil, es_cons, ei_rng1, ei_rng2, ei_enum, ei_val, evT_eq, asgT, asgTs, tru_non, tru_bl, tru_int, tru_tup, tru_lst, eqD_int, eqD_bl, eqD_str, cmp_eq, cmp_ne, cmp_lt, cmp_le, cmp_gt, cmp_ge, cmp_inn, cmp_nin, o_add, o_sub, o_mulS, o_fdivS, o_mod, o_pow18, o_pow3, o_pow5, o_shl1, o_xor, o_and, o_cat, it_tup, it_lst, it_obj, ix_tup, ix_lst, ix_obj, ix_tab, in_strT, in_strL, in_obj, in_tab, b_len, len_tup, len_lst, b_abs, b_max, b_min, b_int, b_intb, b_tuple, b_list, b_reprF, len_obj, List.getElem?_cons_zero, List.getElem?_cons_succ, List.set_cons_zero, List.set_cons_succ, if_true, if_false, decide_eq_true_eq, Bool.not_eq_true', decide_eq_false_iff_not, Bool.false_eq_true, Bool.true_eq_false, not_true_eq_false, not_false_eq_true, decide_true, decide_false, Bool.not_true, Bool.not_false, reduceIte, Option.map_some, if_pos, if_neg, Int.one_mul, atI_0, atI_1, atI_2, atI_3, atI_4, atI_5, atI_6, atI_7, atI_8, atI_9, List.getElem?_set_self, set_ixU, m_appendU, setAt_0, setAt_1, setAt_2, setAt_3, setAt_4, setAt_5, rng_ok1, step_none, step_some, wipe_nil, wipe_cons, b_isi, kd_tup, kd_lst, kd_str, kd_int, isi_same, e_sl, eo_none, eo_some, sl_tupD, sl_lstD, sl_objD, e_rev, e_lrng, e_dsp, ep_nil, ep_cons, ei_items, rev_lst, okm_app, okm_ext, okm_ixO, okm_ix, okm_get, okm_getO, m_extend, m_getT, m_getO, m_getT1, m_getO1, m_index, setL_int, okK_str, okK_int, okK_bl, okK_ss, b_sorted, o_addL, o_addOL, o_mulL, o_addS, last_get0, last_set0, and_self, and_true, true_and, is_non, is_str, is_int, isn_non, isn_str, isn_int, e_lset, lset_ints, b_max1, b_max1L, b_max1T2, cmp_leT, kv_int, kv_str, stepK_none, stepK_some])
def S_outcome_in : Wd := fun ds st r s => ∃ (rs : List Int) (c i j a b : Int), ds = [.tup [.tup (rs.map D.int), .int c], .int i, .int j] ∧ atI rs i = some a ∧ atI rs j = some b ∧ r = .str (oc c a b) ∧ s = st
noncomputable def F_outcome_in : List D → Store → Option (D × Store) := specF T_outcome_between 4 3 c_outcome_in S_outcome_in
noncomputable def T_outcome_in : Tab := T_outcome_between.push ⟨"outcome_in", [], F_outcome_in⟩
noncomputable def T_outcome_in_22 : Tab := T_outcome_in.push ⟨"outcome_in", ["second", "first", "ranking"], viaF 3 [2, 1, 0] F_outcome_in⟩
theorem q_outcome_in {rs : List Int} {c i j a b : Int} {st : Store} (hq : ranksOf rs = rs) (hf : fineDs (rs.map D.int) = true) (hl : rs.length < 64) (hn : rs ≠ []) (h0 : 0 ≤ c) (hc : c ≤ maxI rs + 1) (h2 : maxI rs < 1000)
    (i0 : 0 ≤ i) (i1 : i < rs.length) (j0 : 0 ≤ j) (j1 : j < rs.length) (hi : atI rs i = some a) (hj : atI rs j = some b) : F_outcome_in [.tup [.tup (rs.map D.int), .int c], .int i, .int j] st = some (.str (oc c a b), st) := by
  refine specF_eq rfl ?_ (fun r s ⟨rs', c', i', j', a', b', e, g1, g2, h3, h4⟩ => ?_)
  · show W _ c_outcome_in [some (.tup [.tup (rs.map D.int), .int c]), some (.int i), some (.int j), none] st _ tg
    unfold c_outcome_in
    have ck := fun st => q_check_ranking (rs := rs) (c := c) (st := st) hq hf hl hn h0 hc h2
    have ob := fun st => q_outcome_between (rs := rs) (c := c) (i := i) (j := j) (st := st) hi hj
    have lm : (rs.map D.int).length = rs.length := List.length_map ..
    clear hq hf hn
    walk_at "0outcome_in"
    simp only [ck]
    try walk_at "0outcome_in"
    refine w_inv [.int i, .int j] (fun k e s => s = st ∧ ∃ x, e = [some (.tup [.tup (rs.map D.int), .int c]), some (.int i), some (.int j), x]) ⟨rfl, _, rfl⟩ (fun k d e s hd ⟨hs, x, he⟩ => ?_) (fun e s ⟨hs, x, he⟩ => ?_)
    · rename_i q0; clear q0
      subst hs he
      have dd : ∃ v : Int, d = .int v ∧ 0 ≤ v ∧ v < rs.length := by
        have m := List.mem_of_getElem? hd
        simp only [List.mem_cons, List.not_mem_nil, or_false] at m
        rcases m with rfl | rfl
        · exact ⟨i, rfl, i0, i1⟩
        · exact ⟨j, rfl, j0, j1⟩
      obtain ⟨v, rfl, v0, v1⟩ := dd
      clear hd ck ob hi hj
      walk_at "outcome_in"
      first | exact ⟨trivial, fun _ => ⟨rfl, _, rfl⟩⟩ | exact ⟨trivial, fun _ => ⟨_, rfl⟩⟩ | exact ⟨trivial, fun _ => ⟨trivial, _, rfl⟩⟩
    · rename_i q0; clear q0
      subst hs he
      clear ck
      walk_at "0outcome_in"
      try simp only [ob]
      try walk_at "0outcome_in"
      exact ⟨_, _, ret_same, rs, c, i, j, a, b, rfl, by assumption, by assumption, rfl, rfl⟩
  · simp only [List.cons.injEq, D.int.injEq, D.tup.injEq, and_true] at e
    obtain ⟨⟨e, rfl⟩, rfl, rfl⟩ := e
    rw [← ints_inj e] at g1 g2
    rw [hi] at g1
    rw [hj] at g2
    cases g1
    cases g2
    exact ⟨h3, h4⟩
end Bo

set_option Elab.async false
set_option linter.all false
set_option maxRecDepth 100000
set_option maxHeartbeats 8000000
namespace Bo
open PySem PySem.Spec L2
def N__law_right : List Str := ["wide", "some", "due", "told", "one", "two", "seen", "least"]
def P__law_right : List Str := ["wide", "some"]
def c__law_right : CS :=
      (.seq (.asg (.nm 2) (.call 10 (.cons (.var 0) (.cons (.var 1) .nil))))
      (.seq (.asg (.nm 3) (.lst (.cons (.call 5 (.cons (.var 0) (.cons (.var 1) .nil))) (.cons (.call 6 (.cons (.var 1) (.cons (.var 0) .nil))) .nil))))
      (.seq (.iff (.cmp .ne (.bi .repr (.cons (.var 3) .nil)) (.bi .repr (.cons (.lst (.cons (.var 2) (.cons (.var 2) .nil))) .nil)))
      (.seq (.ret (.bl false))
      .skip)
      .skip)
      (.seq (.for_ (.nm 4) (.rng1 (.bi .len (.cons (.var 1) .nil)))
      (.seq (.for_ (.nm 5) (.rng1 (.bi .len (.cons (.var 1) .nil)))
      (.seq (.asg (.nm 6) (.call 18 (.cons (.var 0) (.cons (.ix (.var 1) (.var 4)) (.cons (.ix (.var 1) (.var 5)) .nil)))))
      (.seq (.iff (.or (.cmp .ne (.call 21 (.cons (.var 2) (.cons (.var 4) (.cons (.var 5) .nil)))) (.var 6)) (.cmp .ne (.call 22 (.cons (.var 5) (.cons (.var 4) (.cons (.var 2) .nil)))) (.var 6)))
      (.seq (.ret (.bl false))
      .skip)
      .skip)
      .skip)))
      .skip))
      (.seq (.asg (.nm 7) (.call 16 (.cons (.var 2) (.cons (.var 0) .nil))))
      (.seq (.ret (.and (.bi .isi (.cons (.var 7) (.cons (.ty "tuple") .nil))) (.and (.cmp .eq (.call 5 (.cons (.var 0) (.cons (.var 7) .nil))) (.var 2)) (.cmp .le (.var 7) (.var 1)))))
      .skip))))))
theorem sc__law_right : FnScope N__law_right P__law_right (defScope (topS 37)) := ⟨rfl, rfl, rfl, by decide +kernel, rfl, by decide +kernel, by decide +kernel⟩
theorem ch__law_right : chkB T_outcome_in_22 23 N__law_right (defScope (topS 37)) c__law_right (defBody (topS 37)) = true := by decide +kernel
theorem l__law_right_5 : T_outcome_in_22.fns[5]? = some ⟨"ranking_of", [], F_ranking_of⟩ := rfl
theorem l__law_right_6 : T_outcome_in_22.fns[6]? = some ⟨"ranking_of", ["words", "width"], (viaF 2 [1, 0] F_ranking_of)⟩ := rfl
theorem lv__law_right_6 {st : Store} {x0 x1 : D} : (viaF 2 [1, 0] F_ranking_of) [x0, x1] st = F_ranking_of [x1, x0] st := rfl
theorem l__law_right_10 : T_outcome_in_22.fns[10]? = some ⟨"_law_rank", [], F__law_rank⟩ := rfl
theorem l__law_right_16 : T_outcome_in_22.fns[16]? = some ⟨"least_words", [], F_least_words⟩ := rfl
theorem l__law_right_18 : T_outcome_in_22.fns[18]? = some ⟨"_law_seen", [], F__law_seen⟩ := rfl
theorem l__law_right_21 : T_outcome_in_22.fns[21]? = some ⟨"outcome_in", [], F_outcome_in⟩ := rfl
theorem l__law_right_22 : T_outcome_in_22.fns[22]? = some ⟨"outcome_in", ["second", "first", "ranking"], (viaF 3 [2, 1, 0] F_outcome_in)⟩ := rfl
theorem lv__law_right_22 {st : Store} {x0 x1 x2 : D} : (viaF 3 [2, 1, 0] F_outcome_in) [x0, x1, x2] st = F_outcome_in [x2, x1, x0] st := rfl
local macro_rules | `(tactic| walk_at "_law_right") => `(tactic| simp (discharger := first | assumption | omega | (simp only [List.all_cons, List.all_nil, isWord, decide_eq_true_eq, Bool.and_true, Bool.and_eq_true]; omega)) only [l__law_right_5, q_ranking_of, l__law_right_6, lv__law_right_6, l__law_right_10, q__law_rank, l__law_right_16, q_least_words, l__law_right_18, q__law_seen, l__law_right_21, q_outcome_in, l__law_right_22, lv__law_right_22, w_skip, w_seq, w_expr, w_asg, w_asgC, w_asg2, w_setix, w_setix2, two_eq, w_aug, w_if, w_for, w_ret, w_retN, w_raise, w_brk, w_cnt, e_var', e_non, e_bl, e_int, e_str, e_gl, e_ty, e_bin, e_neg, e_nt, e_and, e_or, e_cmp, e_chn, e_ife, e_tup, e_lst, e_lstO, e_ix, e_call, e_bi, e_mth, es_nil, es_cons, ei_rng1, ei_rng2, ei_enum, ei_val, evT_eq, asgT, asgTs, tru_non, tru_bl, tru_int, tru_tup, tru_lst, eqD_int, eqD_bl, eqD_str, cmp_eq, cmp_ne, cmp_lt, cmp_le, cmp_gt, cmp_ge, cmp_inn, cmp_nin, o_add, o_sub, o_mulS, o_fdivS, o_mod, o_pow18, o_pow3, o_pow5, o_shl1, o_xor, o_and, o_cat, it_tup, it_lst, it_obj, ix_tup, ix_lst, ix_obj, ix_tab, in_strT, in_strL, in_obj, in_tab, b_len, len_tup, len_lst, b_abs, b_max, b_min, b_int, b_intb, b_tuple, b_list, b_reprF, len_obj, List.getElem?_cons_zero, List.getElem?_cons_succ, List.set_cons_zero, List.set_cons_succ, if_true, if_false, decide_eq_true_eq, Bool.not_eq_true', decide_eq_false_iff_not, Bool.false_eq_true, Bool.true_eq_false, not_true_eq_false, not_false_eq_true, decide_true, decide_false, Bool.not_true, Bool.not_false, reduceIte, Option.map_some, if_pos, if_neg, Int.one_mul, atI_0, atI_1, atI_2, atI_3, atI_4, atI_5, atI_6, atI_7, atI_8, atI_9, List.getElem?_set_self, set_ixU, m_appendU, setAt_0, setAt_1, setAt_2, setAt_3, setAt_4, setAt_5, rng_ok1, step_none, step_some, wipe_nil, wipe_cons, b_isi, kd_tup, kd_lst, kd_str, kd_int, isi_same, e_sl, eo_none, eo_some, sl_tupD, sl_lstD, sl_objD, e_rev, e_lrng, e_dsp, ep_nil, ep_cons, ei_items, rev_lst, okm_app, okm_ext, okm_ixO, okm_ix, okm_get, okm_getO, m_extend, m_getT, m_getO, m_getT1, m_getO1, m_index, setL_int, okK_str, okK_int, okK_bl, okK_ss, b_sorted, o_addL, o_addOL, o_mulL, o_addS, last_get0, last_set0, and_self, and_true, true_and, is_non, is_str, is_int, isn_non, isn_str, isn_int, e_lset, lset_ints, b_max1, b_max1L, b_max1T2, cmp_leT, kv_int, kv_str, stepK_none, stepK_some, *])
local macro_rules | `(tactic| walk_at "0_law_right") => `(tactic| simp (discharger := first | assumption | omega | (simp only [List.all_cons, List.all_nil, isWord, decide_eq_true_eq, Bool.and_true, Bool.and_eq_true]; omega)) only [l__law_right_5, q_ranking_of, l__law_right_6, lv__law_right_6, l__law_right_10, q__law_rank, l__law_right_16, q_least_words, l__law_right_18, q__law_seen, l__law_right_21, q_outcome_in, l__law_right_22, lv__law_right_22, w_skip, w_seq, w_expr, w_asg, w_asgC, w_asg2, w_setix, w_setix2, two_eq, w_aug, w_if, w_for, w_ret, w_retN, w_raise, w_brk, w_cnt, e_var', e_non, e_bl, e_int, e_str, e_gl, e_ty, e_bin, e_neg, e_nt, e_and, e_or, e_cmp, e_chn, e_ife, e_tup, e_lst, e_lstO, e_ix, e_call, e_bi, e_mth, es_nil, es_cons, ei_rng1, ei_rng2, ei_enum, ei_val, evT_eq, asgT, asgTs, tru_non, tru_bl, tru_int, tru_tup, tru_lst, eqD_int, eqD_bl, eqD_str, cmp_eq, cmp_ne, cmp_lt, cmp_le, cmp_gt, cmp_ge, cmp_inn, cmp_nin, o_add, o_sub, o_mulS, o_fdivS, o_mod, o_pow18, o_pow3, o_pow5, o_shl1, o_xor, o_and, o_cat, it_tup, it_lst, it_obj, ix_tup, ix_lst, ix_obj, ix_tab, in_strT, in_strL, in_obj, in_tab, b_len, len_tup, len_lst, b_abs, b_max, b_min, b_int, b_intb, b_tuple, b_list, b_reprF, len_obj, List.getElem?_cons_zero, List.getElem?_cons_succ, List.set_cons_zero, List.set_cons_succ, if_true, if_false, decide_eq_true_eq, Bool.not_eq_true', decide_eq_false_iff_not, Bool.false_eq_true, Bool.true_eq_false, not_true_eq_false, not_false_eq_true, decide_true, decide_false, Bool.not_true, Bool.not_false, reduceIte, Option.map_some, if_pos, if_neg, Int.one_mul, atI_0, atI_1, atI_2, atI_3, atI_4, atI_5, atI_6, atI_7, atI_8, atI_9, List.getElem?_set_self, set_ixU, m_appendU, setAt_0, setAt_1, setAt_2, setAt_3, setAt_4, setAt_5, rng_ok1, step_none, step_some, wipe_nil, wipe_cons, b_isi, kd_tup, kd_lst, kd_str, kd_int, isi_same, e_sl, eo_none, eo_some, sl_tupD, sl_lstD, sl_objD, e_rev, e_lrng, e_dsp, ep_nil, ep_cons, ei_items, rev_lst, okm_app, okm_ext, okm_ixO, okm_ix, okm_get, okm_getO, m_extend, m_getT, m_getO, m_getT1, m_getO1, m_index, setL_int, okK_str, okK_int, okK_bl, okK_ss, b_sorted, o_addL, o_addOL, o_mulL, o_addS, last_get0, last_set0, and_self, and_true, true_and, is_non, is_str, is_int, isn_non, isn_str, isn_int, e_lset, lset_ints, b_max1, b_max1L, b_max1T2, cmp_leT, kv_int, kv_str, stepK_none, stepK_some])
def S__law_right : Wd := fun _ st r s => r = .bl true ∧ s = st
noncomputable def F__law_right : List D → Store → Option (D × Store) := specF T_outcome_in_22 8 2 c__law_right S__law_right
noncomputable def T__law_right : Tab := T_outcome_in_22.push ⟨"_law_right", [], F__law_right⟩
theorem q__law_right {w : Int} {ns : List Int} {st : Store} (h1 : 1 ≤ w) (h2 : w ≤ 1000) (hx : Words w.toNat ns) (hn : ns ≠ []) (hl : ns.length ≤ 40) : F__law_right [.int w, .tup (ns.map D.int)] st = some (.bl true, st) := by
  refine specF_eq rfl ?_ (fun r s h => h)
  show W _ c__law_right [some (.int w), some (.tup (ns.map D.int)), none, none, none, none, none, none] st _ tg
  unfold c__law_right
  have tw := half_twice h1
  have hp := half_pos (w := w)
  have x0 : ∀ x ∈ ns, 0 ≤ x := fun x hm => (hx x hm).1
  have x2 : ∀ x ∈ ns, x < 2 * half w := fun x hm => by have := (hx x hm).2; rw [tw] at this; exact this
  have rl := ranks_len ns
  have rn : ranksOf ns ≠ [] := fun z => hn (by rw [z] at rl; exact List.length_eq_zero_iff.mp rl.symm)
  have rt : ∀ r ∈ ranksOf ns, 0 ≤ r ∧ r < 1000 := fun r hr => by
    have := rank_top hr
    have := nub_len ns
    omega
  have rf : fineDs ((ranksOf ns).map D.int) = true := fine_ints fun r hr => fine_small (rt r hr).1 (by have := (rt r hr).2; omega)
  have mx := ranks_max hn
  have mi := maxI_is rn
  have m0 := (rt _ mi.1).1
  have m1 := (rt _ mi.1).2
  have cut0 := cut_half x0 (Int.le_of_lt hp)
  have rest := rest_half x2 (Int.le_of_lt hp)
  have cutn := below_le ns (half w)
  have nl := nub_len ns
  have lr := least_ranks (ns := ns) (half := half w) cut0
  have lc := least_cut (ns := ns) (half := half w) cut0
  have lw : Words w.toNat (leastI (below ns (half w)) (half w) (ranksOf ns)) := fun y hy => by
    have := least_words_in x0 x2 (Int.le_of_lt hp) y hy
    rw [tw]; exact this
  have ll : (leastI (below ns (half w)) (half w) (ranksOf ns)).length = ns.length := by unfold leastI; rw [List.length_map, rl]
  have lle : leT (leastI (below ns (half w)) (half w) (ranksOf ns)) ns = true := by
    rw [least_le x0 (Int.le_of_lt hp)]
    exact leT_pt fun a ha => least_pt x0 (Int.le_of_lt hp) ha
  have k1 := fun st => q__law_rank (w := w) (ns := ns) (st := st) h1 h2 (by omega)
  have k2 := fun st => q_ranking_of (w := w) (ns := ns) (st := st) h1 h2 hx (by omega)
  have k3 := fun st => q_ranking_of (w := w) (ns := leastI (below ns (half w)) (half w) (ranksOf ns)) (st := st) h1 h2 lw (by omega)
  rw [lr, lc] at k3
  have k4 := fun st => q_least_words (rs := ranksOf ns) (c := (below ns (half w) : Nat)) (w := w) (st := st) (ranks_ranks ns) rf (by omega) rn (by omega) (by omega) (by omega) (by omega) m0 h1 h2 cut0 (by omega) rt
  have sf : fineD (.tup [.tup ((ranksOf ns).map D.int), .int (below ns (half w) : Nat)]) = true := by
    have := fine_small (x := (below ns (half w) : Nat)) (by omega) (by omega)
    simp only [fineD, fineDs, rf, Bool.true_and, Bool.and_true] at this ⊢
    exact this
  have sd : dpt (.tup [.tup ((ranksOf ns).map D.int), .int (below ns (half w) : Nat)]) ≤ 3 := by simp only [dpt, dpts, dpts_ints]; omega
  have rp : repOk (.lst [.tup [.tup ((ranksOf ns).map D.int), .int (below ns (half w) : Nat)], .tup [.tup ((ranksOf ns).map D.int), .int (below ns (half w) : Nat)]]) := by
    refine ⟨?_, ?_, ?_, rfl⟩
    · show fineDs _ = true
      simp only [fineDs, sf, Bool.and_self]
    · have e : dpt (.lst [.tup [.tup ((ranksOf ns).map D.int), .int (below ns (half w) : Nat)], .tup [.tup ((ranksOf ns).map D.int), .int (below ns (half w) : Nat)]]) ≤ 4 := by simp only [dpt, dpts, dpts_ints]; omega
      omega
    · simp only [blk, blks, blks_ints, ranks_len]; omega
  have eq : ∀ st, eqD st (.tup [.tup ((ranksOf ns).map D.int), .int (below ns (half w) : Nat)]) (.tup [.tup ((ranksOf ns).map D.int), .int (below ns (half w) : Nat)]) = some true := fun st => by
    have f2 : fineDs [.tup ((ranksOf ns).map D.int), .int (below ns (half w) : Nat)] = true := by simpa only [fineD] using sf
    rw [eqD_tt f2 f2 (by simp only [dpt, dpts, dpts_ints]; omega) (by simp only [dpt, dpts, dpts_ints]; omega) (by simp only [nobls, nobl, nobls_ints]; rfl) (by simp only [nobls, nobl, nobls_ints]; rfl)]
    simp
  have nlen : (ns.map D.int).length = ns.length := List.length_map ..
  have seen : ∀ (st : Store) (a b : Int), a ∈ ns → b ∈ ns → F__law_seen [.int w, .int a, .int b] st = some (.str (oc (half w) a b), st) := fun st a b ha hb => q__law_seen h1 h2 (hx a ha).1 (hx a ha).2 (hx b hb).1 (hx b hb).2
  have oin : ∀ (st : Store) (i j : Nat) (a b : Int), ns[i]? = some a → ns[j]? = some b → F_outcome_in [.tup [.tup ((ranksOf ns).map D.int), .int (below ns (half w) : Nat)], .int (i : Nat), .int (j : Nat)] st = some (.str (oc (half w) a b), st) := fun st i j a b hi hj => by
    have ai : atI (ranksOf ns) (i : Nat) = some (below ns a : Int) := atI_nat (by unfold ranksOf; rw [List.getElem?_map, hi]; rfl)
    have aj : atI (ranksOf ns) (j : Nat) = some (below ns b : Int) := atI_nat (by unfold ranksOf; rw [List.getElem?_map, hj]; rfl)
    have hi2 := (List.getElem?_eq_some_iff.mp hi).1
    have hj2 := (List.getElem?_eq_some_iff.mp hj).1
    rw [← oc_ranks (List.mem_of_getElem? hi) (List.mem_of_getElem? hj)]
    exact q_outcome_in (ranks_ranks ns) rf (by omega) rn (by omega) (by omega) (by omega) (by omega) (by omega) (by omega) (by omega) ai aj
  clear hx tw hp x0 x2 rn rt rf mx mi m0 m1 cut0 rest cutn nl lr lc lw sf sd
  walk_at "0_law_right"
  simp only [k1, k2]
  try walk_at "0_law_right"
  refine w_inv _ (fun i e s => s = st ∧ ∃ x y z, e = [some (.int w), some (.tup (ns.map D.int)), some (.tup [.tup ((ranksOf ns).map D.int), .int (below ns (half w) : Nat)]), some (.lst [.tup [.tup ((ranksOf ns).map D.int), .int (below ns (half w) : Nat)], .tup [.tup ((ranksOf ns).map D.int), .int (below ns (half w) : Nat)]]), x, y, z, none]) ⟨rfl, _, _, _, rfl⟩ (fun i d e s hd ⟨hs, x, y, z, he⟩ => ?_) (fun e s ⟨hs, x, y, z, he⟩ => ?_)
  · rename_i q0; clear q0
    clear k1 k2 k3 k4 rp eq lle
    subst hs he
    have hg := rng_get hd
    have ed := hg.1
    have hi := hg.2
    subst ed
    have z1 : (0 : Int) + (i : Int) = (i : Nat) := by omega
    rw [z1]
    have hi2 : i < ns.length := by omega
    have ha : ns[i]? = some ns[i] := List.getElem?_eq_getElem hi2
    have ia : atI (ns.map D.int) (i : Nat) = some (.int ns[i]) := atI_nat (by rw [List.getElem?_map, ha]; rfl)
    clear hd hi z1
    walk_at "0_law_right"
    refine w_inv _ (fun j e s' => s' = s ∧ ∃ y z, e = [some (.int w), some (.tup (ns.map D.int)), some (.tup [.tup ((ranksOf ns).map D.int), .int (below ns (half w) : Nat)]), some (.lst [.tup [.tup ((ranksOf ns).map D.int), .int (below ns (half w) : Nat)], .tup [.tup ((ranksOf ns).map D.int), .int (below ns (half w) : Nat)]]), some (.int (i : Nat)), y, z, none]) ⟨rfl, _, _, rfl⟩ (fun j d e s' hd ⟨hs, y, z, he⟩ => ?_) (fun e s' ⟨hs, y, z, he⟩ => ?_)
    · rename_i q0; clear q0
      subst hs he
      have hg := rng_get hd
      have ed := hg.1
      have hj := hg.2
      subst ed
      have z1 : (0 : Int) + (j : Int) = (j : Nat) := by omega
      rw [z1]
      have hj2 : j < ns.length := by omega
      have hb : ns[j]? = some ns[j] := List.getElem?_eq_getElem hj2
      have ib : atI (ns.map D.int) (j : Nat) = some (.int ns[j]) := atI_nat (by rw [List.getElem?_map, hb]; rfl)
      have sn := fun st => seen st ns[i] ns[j] (List.mem_of_getElem? ha) (List.mem_of_getElem? hb)
      have oi := fun st => oin st i j ns[i] ns[j] ha hb
      clear hd hj z1 ha hb seen oin
      walk_at "_law_right"
      first | exact ⟨trivial, fun _ => ⟨rfl, _, _, rfl⟩⟩ | exact ⟨trivial, fun _ => ⟨_, _, rfl⟩⟩ | exact ⟨trivial, fun _ => ⟨trivial, _, _, rfl⟩⟩
    · rename_i q0; clear q0
      subst hs he
      walk_at "0_law_right"
      first | exact ⟨trivial, fun _ => ⟨rfl, _, _, _, rfl⟩⟩ | exact ⟨trivial, fun _ => ⟨_, _, _, rfl⟩⟩ | exact ⟨trivial, fun _ => ⟨trivial, _, _, _, rfl⟩⟩
  · rename_i q0; clear q0
    subst hs he
    clear seen oin rp k1 k2
    walk_at "_law_right"
    exact ⟨_, _, ret_same, rfl, rfl⟩
end Bo

set_option Elab.async false
set_option linter.all false
set_option maxRecDepth 100000
set_option maxHeartbeats 8000000
namespace Bo
open PySem PySem.Spec L2
def N__law_word : List Str := ["pool", "wide", "top", "half", "some"]
def P__law_word : List Str := ["pool", "wide"]
def c__law_word : CS :=
      (.seq (.asg2 2 3 (.call 9 (.cons (.var 1) .nil)) (.call 9 (.cons (.bin .sub (.var 1) (.int 1)) .nil)))
      (.seq (.asg (.nm 4) (.lst (.cons (.int 0) (.cons (.int 1) (.cons (.bin .sub (.var 3) (.int 1)) (.cons (.var 3) (.cons (.bin .add (.var 3) (.int 1)) (.cons (.bin .sub (.var 2) (.int 1)) (.cons (.call 7 (.cons (.var 0) (.cons (.var 2) .nil))) (.cons (.call 7 (.cons (.var 0) (.cons (.var 2) .nil))) .nil))))))))))
      (.seq (.ret (.bin .mod (.ix (.var 4) (.call 7 (.cons (.var 0) (.cons (.int 8) .nil)))) (.var 2)))
      .skip)))
theorem sc__law_word : FnScope N__law_word P__law_word (defScope (topS 32)) := ⟨rfl, rfl, rfl, by decide +kernel, rfl, by decide +kernel, by decide +kernel⟩
theorem ch__law_word : chkB T__law_right 24 N__law_word (defScope (topS 32)) c__law_word (defBody (topS 32)) = true := by decide +kernel
theorem l__law_word_7 : T__law_right.fns[7]? = some ⟨"_law_draw", [], F__law_draw⟩ := rfl
theorem l__law_word_9 : T__law_right.fns[9]? = some ⟨"_law_power", [], F__law_power⟩ := rfl
local macro_rules | `(tactic| walk_at "_law_word") => `(tactic| simp (discharger := first | assumption | omega | (simp only [List.all_cons, List.all_nil, isWord, decide_eq_true_eq, Bool.and_true, Bool.and_eq_true]; omega)) only [l__law_word_7, l__law_word_9, q__law_power, w_skip, w_seq, w_expr, w_asg, w_asgC, w_asg2, w_setix, w_setix2, two_eq, w_aug, w_if, w_for, w_ret, w_retN, w_raise, w_brk, w_cnt, e_var', e_non, e_bl, e_int, e_str, e_gl, e_ty, e_bin, e_neg, e_nt, e_and, e_or, e_cmp, e_chn, e_ife, e_tup, e_lst, e_lstO, e_ix, e_call, e_bi, e_mth, es_nil, es_cons, ei_rng1, ei_rng2, ei_enum, ei_val, evT_eq, asgT, asgTs, tru_non, tru_bl, tru_int, tru_tup, tru_lst, eqD_int, eqD_bl, eqD_str, cmp_eq, cmp_ne, cmp_lt, cmp_le, cmp_gt, cmp_ge, cmp_inn, cmp_nin, o_add, o_sub, o_mulS, o_fdivS, o_mod, o_pow18, o_pow3, o_pow5, o_shl1, o_xor, o_and, o_cat, it_tup, it_lst, it_obj, ix_tup, ix_lst, ix_obj, ix_tab, in_strT, in_strL, in_obj, in_tab, b_len, len_tup, len_lst, b_abs, b_max, b_min, b_int, b_intb, b_tuple, b_list, b_reprF, len_obj, List.getElem?_cons_zero, List.getElem?_cons_succ, List.set_cons_zero, List.set_cons_succ, if_true, if_false, decide_eq_true_eq, Bool.not_eq_true', decide_eq_false_iff_not, Bool.false_eq_true, Bool.true_eq_false, not_true_eq_false, not_false_eq_true, decide_true, decide_false, Bool.not_true, Bool.not_false, reduceIte, Option.map_some, if_pos, if_neg, Int.one_mul, atI_0, atI_1, atI_2, atI_3, atI_4, atI_5, atI_6, atI_7, atI_8, atI_9, List.getElem?_set_self, set_ixU, m_appendU, setAt_0, setAt_1, setAt_2, setAt_3, setAt_4, setAt_5, rng_ok1, step_none, step_some, wipe_nil, wipe_cons, b_isi, kd_tup, kd_lst, kd_str, kd_int, isi_same, e_sl, eo_none, eo_some, sl_tupD, sl_lstD, sl_objD, e_rev, e_lrng, e_dsp, ep_nil, ep_cons, ei_items, rev_lst, okm_app, okm_ext, okm_ixO, okm_ix, okm_get, okm_getO, m_extend, m_getT, m_getO, m_getT1, m_getO1, m_index, setL_int, okK_str, okK_int, okK_bl, okK_ss, b_sorted, o_addL, o_addOL, o_mulL, o_addS, last_get0, last_set0, and_self, and_true, true_and, is_non, is_str, is_int, isn_non, isn_str, isn_int, e_lset, lset_ints, b_max1, b_max1L, b_max1T2, cmp_leT, kv_int, kv_str, stepK_none, stepK_some, *])
local macro_rules | `(tactic| walk_at "0_law_word") => `(tactic| simp (discharger := first | assumption | omega | (simp only [List.all_cons, List.all_nil, isWord, decide_eq_true_eq, Bool.and_true, Bool.and_eq_true]; omega)) only [l__law_word_7, l__law_word_9, q__law_power, w_skip, w_seq, w_expr, w_asg, w_asgC, w_asg2, w_setix, w_setix2, two_eq, w_aug, w_if, w_for, w_ret, w_retN, w_raise, w_brk, w_cnt, e_var', e_non, e_bl, e_int, e_str, e_gl, e_ty, e_bin, e_neg, e_nt, e_and, e_or, e_cmp, e_chn, e_ife, e_tup, e_lst, e_lstO, e_ix, e_call, e_bi, e_mth, es_nil, es_cons, ei_rng1, ei_rng2, ei_enum, ei_val, evT_eq, asgT, asgTs, tru_non, tru_bl, tru_int, tru_tup, tru_lst, eqD_int, eqD_bl, eqD_str, cmp_eq, cmp_ne, cmp_lt, cmp_le, cmp_gt, cmp_ge, cmp_inn, cmp_nin, o_add, o_sub, o_mulS, o_fdivS, o_mod, o_pow18, o_pow3, o_pow5, o_shl1, o_xor, o_and, o_cat, it_tup, it_lst, it_obj, ix_tup, ix_lst, ix_obj, ix_tab, in_strT, in_strL, in_obj, in_tab, b_len, len_tup, len_lst, b_abs, b_max, b_min, b_int, b_intb, b_tuple, b_list, b_reprF, len_obj, List.getElem?_cons_zero, List.getElem?_cons_succ, List.set_cons_zero, List.set_cons_succ, if_true, if_false, decide_eq_true_eq, Bool.not_eq_true', decide_eq_false_iff_not, Bool.false_eq_true, Bool.true_eq_false, not_true_eq_false, not_false_eq_true, decide_true, decide_false, Bool.not_true, Bool.not_false, reduceIte, Option.map_some, if_pos, if_neg, Int.one_mul, atI_0, atI_1, atI_2, atI_3, atI_4, atI_5, atI_6, atI_7, atI_8, atI_9, List.getElem?_set_self, set_ixU, m_appendU, setAt_0, setAt_1, setAt_2, setAt_3, setAt_4, setAt_5, rng_ok1, step_none, step_some, wipe_nil, wipe_cons, b_isi, kd_tup, kd_lst, kd_str, kd_int, isi_same, e_sl, eo_none, eo_some, sl_tupD, sl_lstD, sl_objD, e_rev, e_lrng, e_dsp, ep_nil, ep_cons, ei_items, rev_lst, okm_app, okm_ext, okm_ixO, okm_ix, okm_get, okm_getO, m_extend, m_getT, m_getO, m_getT1, m_getO1, m_index, setL_int, okK_str, okK_int, okK_bl, okK_ss, b_sorted, o_addL, o_addOL, o_mulL, o_addS, last_get0, last_set0, and_self, and_true, true_and, is_non, is_str, is_int, isn_non, isn_str, isn_int, e_lset, lset_ints, b_max1, b_max1L, b_max1T2, cmp_leT, kv_int, kv_str, stepK_none, stepK_some])
def S__law_word : Wd := fun ds st r s => ∃ k w v, ds = [.obj k, .int w] ∧ r = .int v ∧ 0 ≤ v ∧ v < 2 ^ w.toNat ∧ Dr st k s 3
noncomputable def F__law_word : List D → Store → Option (D × Store) := specF T__law_right 5 2 c__law_word S__law_word
noncomputable def T__law_word : Tab := T__law_right.push ⟨"_law_word", [], F__law_word⟩
theorem q__law_word {st : Store} {k n : Nat} {w : Int} (h : Pl st k n) (hn : n ≤ 100000000) (hw1 : 1 ≤ w) (hw2 : w ≤ 1000) : ∃ v s, F__law_word [.obj k, .int w] st = some (.int v, s) ∧ 0 ≤ v ∧ v < 2 ^ w.toNat ∧ Dr st k s 3 := by
  have key : ∃ r s, F__law_word [.obj k, .int w] st = some (r, s) ∧ S__law_word [.obj k, .int w] st r s := by
    refine specF_of rfl ?_
    show W _ c__law_word [some (.obj k), some (.int w), none, none, none] st _ tg
    unfold c__law_word
    have hp : (0 : Int) < 2 ^ w.toNat := pow_pos2
    have hM := many_pow (w := w.toNat) (by omega)
    obtain ⟨v1, s1, e1, a1, b1, d1⟩ := q__law_draw h (by omega) hM
    have h1 := d1.pl h
    obtain ⟨v2, s2, e2, a2, b2, d2⟩ := q__law_draw h1 (by omega) hM
    have h2 := d2.pl h1
    obtain ⟨v3, s3, e3, a3, b3, d3⟩ := q__law_draw h2 (by omega) (many_small (m := 8) (by decide) (by decide))
    obtain ⟨x, hx, mx⟩ := atI_in (ds := [.int 0, .int 1, .int (2 ^ (w - 1).toNat - 1), .int (2 ^ (w - 1).toNat), .int (2 ^ (w - 1).toNat + 1), .int (2 ^ w.toNat - 1), .int v1, .int v2]) a3 b3
    obtain ⟨y, rfl⟩ : ∃ y : Int, x = .int y := by
      simp only [List.mem_cons, List.not_mem_nil, or_false] at mx
      rcases mx with rfl | rfl | rfl | rfl | rfl | rfl | rfl | rfl <;> exact ⟨_, rfl⟩
    walk_at "_law_word"
    exact ⟨_, _, ret_same, k, w, _, rfl, rfl, Int.emod_nonneg _ (by omega), Int.emod_lt_of_pos _ hp, (d1.trans d2).trans d3⟩
  obtain ⟨r, s, e, k', w', v, e1, rfl, h1, h2, h3⟩ := key
  cases e1
  exact ⟨v, s, e, h1, h2, h3⟩
end Bo

set_option Elab.async false
set_option linter.all false
set_option maxRecDepth 100000
set_option maxHeartbeats 8000000
namespace Bo
open PySem PySem.Spec L2
def N__law_some : List Str := ["pool", "wide", "many", "found", "turn", "fresh"]
def P__law_some : List Str := ["pool", "wide", "many"]
def c__law_some : CS :=
      (.seq (.asg (.nm 3) (.lstO .nil))
      (.seq (.for_ (.nm 4) (.rng1 (.var 2))
      (.seq (.asg (.nm 5) (.call 24 (.cons (.var 0) (.cons (.var 1) .nil))))
      (.seq (.iff (.and (.cmp .ne (.var 3) (.lst .nil)) (.cmp .eq (.call 7 (.cons (.var 0) (.cons (.int 3) .nil))) (.int 0)))
      (.seq (.asg (.nm 5) (.bin .mod (.bin .add (.ix (.var 3) (.call 7 (.cons (.var 0) (.cons (.bi .len (.cons (.var 3) .nil)) .nil)))) (.call 7 (.cons (.var 0) (.cons (.int 2) .nil)))) (.call 9 (.cons (.var 1) .nil))))
      .skip)
      .skip)
      (.seq (.expr (.mth .append (.var 3) (.cons (.var 5) .nil)))
      .skip))))
      (.seq (.ret (.bi .tuple1 (.cons (.var 3) .nil)))
      .skip)))
theorem sc__law_some : FnScope N__law_some P__law_some (defScope (topS 33)) := ⟨rfl, rfl, rfl, by decide +kernel, rfl, by decide +kernel, by decide +kernel⟩
theorem ch__law_some : chkB T__law_word 25 N__law_some (defScope (topS 33)) c__law_some (defBody (topS 33)) = true := by decide +kernel
theorem l__law_some_7 : T__law_word.fns[7]? = some ⟨"_law_draw", [], F__law_draw⟩ := rfl
theorem l__law_some_9 : T__law_word.fns[9]? = some ⟨"_law_power", [], F__law_power⟩ := rfl
theorem l__law_some_24 : T__law_word.fns[24]? = some ⟨"_law_word", [], F__law_word⟩ := rfl
local macro_rules | `(tactic| walk_at "_law_some") => `(tactic| simp (discharger := first | assumption | omega | (simp only [List.all_cons, List.all_nil, isWord, decide_eq_true_eq, Bool.and_true, Bool.and_eq_true]; omega)) only [l__law_some_7, l__law_some_9, q__law_power, l__law_some_24, w_skip, w_seq, w_expr, w_asg, w_asgC, w_asg2, w_setix, w_setix2, two_eq, w_aug, w_if, w_for, w_ret, w_retN, w_raise, w_brk, w_cnt, e_var', e_non, e_bl, e_int, e_str, e_gl, e_ty, e_bin, e_neg, e_nt, e_and, e_or, e_cmp, e_chn, e_ife, e_tup, e_lst, e_lstO, e_ix, e_call, e_bi, e_mth, es_nil, es_cons, ei_rng1, ei_rng2, ei_enum, ei_val, evT_eq, asgT, asgTs, tru_non, tru_bl, tru_int, tru_tup, tru_lst, eqD_int, eqD_bl, eqD_str, cmp_eq, cmp_ne, cmp_lt, cmp_le, cmp_gt, cmp_ge, cmp_inn, cmp_nin, o_add, o_sub, o_mulS, o_fdivS, o_mod, o_pow18, o_pow3, o_pow5, o_shl1, o_xor, o_and, o_cat, it_tup, it_lst, it_obj, ix_tup, ix_lst, ix_obj, ix_tab, in_strT, in_strL, in_obj, in_tab, b_len, len_tup, len_lst, b_abs, b_max, b_min, b_int, b_intb, b_tuple, b_list, b_reprF, len_obj, List.getElem?_cons_zero, List.getElem?_cons_succ, List.set_cons_zero, List.set_cons_succ, if_true, if_false, decide_eq_true_eq, Bool.not_eq_true', decide_eq_false_iff_not, Bool.false_eq_true, Bool.true_eq_false, not_true_eq_false, not_false_eq_true, decide_true, decide_false, Bool.not_true, Bool.not_false, reduceIte, Option.map_some, if_pos, if_neg, Int.one_mul, atI_0, atI_1, atI_2, atI_3, atI_4, atI_5, atI_6, atI_7, atI_8, atI_9, List.getElem?_set_self, set_ixU, m_appendU, setAt_0, setAt_1, setAt_2, setAt_3, setAt_4, setAt_5, rng_ok1, step_none, step_some, wipe_nil, wipe_cons, b_isi, kd_tup, kd_lst, kd_str, kd_int, isi_same, e_sl, eo_none, eo_some, sl_tupD, sl_lstD, sl_objD, e_rev, e_lrng, e_dsp, ep_nil, ep_cons, ei_items, rev_lst, okm_app, okm_ext, okm_ixO, okm_ix, okm_get, okm_getO, m_extend, m_getT, m_getO, m_getT1, m_getO1, m_index, setL_int, okK_str, okK_int, okK_bl, okK_ss, b_sorted, o_addL, o_addOL, o_mulL, o_addS, last_get0, last_set0, and_self, and_true, true_and, is_non, is_str, is_int, isn_non, isn_str, isn_int, e_lset, lset_ints, b_max1, b_max1L, b_max1T2, cmp_leT, kv_int, kv_str, stepK_none, stepK_some, *])
local macro_rules | `(tactic| walk_at "0_law_some") => `(tactic| simp (discharger := first | assumption | omega | (simp only [List.all_cons, List.all_nil, isWord, decide_eq_true_eq, Bool.and_true, Bool.and_eq_true]; omega)) only [l__law_some_7, l__law_some_9, q__law_power, l__law_some_24, w_skip, w_seq, w_expr, w_asg, w_asgC, w_asg2, w_setix, w_setix2, two_eq, w_aug, w_if, w_for, w_ret, w_retN, w_raise, w_brk, w_cnt, e_var', e_non, e_bl, e_int, e_str, e_gl, e_ty, e_bin, e_neg, e_nt, e_and, e_or, e_cmp, e_chn, e_ife, e_tup, e_lst, e_lstO, e_ix, e_call, e_bi, e_mth, es_nil, es_cons, ei_rng1, ei_rng2, ei_enum, ei_val, evT_eq, asgT, asgTs, tru_non, tru_bl, tru_int, tru_tup, tru_lst, eqD_int, eqD_bl, eqD_str, cmp_eq, cmp_ne, cmp_lt, cmp_le, cmp_gt, cmp_ge, cmp_inn, cmp_nin, o_add, o_sub, o_mulS, o_fdivS, o_mod, o_pow18, o_pow3, o_pow5, o_shl1, o_xor, o_and, o_cat, it_tup, it_lst, it_obj, ix_tup, ix_lst, ix_obj, ix_tab, in_strT, in_strL, in_obj, in_tab, b_len, len_tup, len_lst, b_abs, b_max, b_min, b_int, b_intb, b_tuple, b_list, b_reprF, len_obj, List.getElem?_cons_zero, List.getElem?_cons_succ, List.set_cons_zero, List.set_cons_succ, if_true, if_false, decide_eq_true_eq, Bool.not_eq_true', decide_eq_false_iff_not, Bool.false_eq_true, Bool.true_eq_false, not_true_eq_false, not_false_eq_true, decide_true, decide_false, Bool.not_true, Bool.not_false, reduceIte, Option.map_some, if_pos, if_neg, Int.one_mul, atI_0, atI_1, atI_2, atI_3, atI_4, atI_5, atI_6, atI_7, atI_8, atI_9, List.getElem?_set_self, set_ixU, m_appendU, setAt_0, setAt_1, setAt_2, setAt_3, setAt_4, setAt_5, rng_ok1, step_none, step_some, wipe_nil, wipe_cons, b_isi, kd_tup, kd_lst, kd_str, kd_int, isi_same, e_sl, eo_none, eo_some, sl_tupD, sl_lstD, sl_objD, e_rev, e_lrng, e_dsp, ep_nil, ep_cons, ei_items, rev_lst, okm_app, okm_ext, okm_ixO, okm_ix, okm_get, okm_getO, m_extend, m_getT, m_getO, m_getT1, m_getO1, m_index, setL_int, okK_str, okK_int, okK_bl, okK_ss, b_sorted, o_addL, o_addOL, o_mulL, o_addS, last_get0, last_set0, and_self, and_true, true_and, is_non, is_str, is_int, isn_non, isn_str, isn_int, e_lset, lset_ints, b_max1, b_max1L, b_max1T2, cmp_leT, kv_int, kv_str, stepK_none, stepK_some])
def S__law_some : Wd := fun ds st r s => ∃ k w m, ∃ xs : List Int, ds = [.obj k, .int w, .int m] ∧ r = .tup (xs.map D.int) ∧ xs.length = m.toNat ∧ Words w.toNat xs ∧ Dr st k s (6 * m.toNat)
noncomputable def F__law_some : List D → Store → Option (D × Store) := specF T__law_word 6 3 c__law_some S__law_some
noncomputable def T__law_some : Tab := T__law_word.push ⟨"_law_some", [], F__law_some⟩
theorem q__law_some {st : Store} {k n : Nat} {w m : Int} (h : Pl st k n) (hn : n ≤ 10000000) (hw1 : 1 ≤ w) (hw2 : w ≤ 1000) (hm0 : 0 ≤ m) (hm1 : m ≤ 100000) :
    ∃ (xs : List Int) (s : Store), F__law_some [.obj k, .int w, .int m] st = some (.tup (xs.map D.int), s) ∧ xs.length = m.toNat ∧ Words w.toNat xs ∧ Dr st k s (6 * m.toNat) := by
  have key : ∃ r s, F__law_some [.obj k, .int w, .int m] st = some (r, s) ∧ S__law_some [.obj k, .int w, .int m] st r s := by
    refine specF_of rfl ?_
    show W _ c__law_some [some (.obj k), some (.int w), some (.int m), none, none, none] st _ tg
    unfold c__law_some
    have hp : (0 : Int) < 2 ^ w.toNat := pow_pos2
    walk_at "0_law_some"
    refine w_inv (rngD 0 m) (fun i e s => ∃ (xs : List Int) (s' : Store) (a b : Option D), s = s' ++ [.lst (xs.map D.int)] ∧ xs.length = i ∧ Words w.toNat xs ∧ Dr st k s' (6 * i) ∧ e = [some (.obj k), some (.int w), some (.int m), some (.obj st.length), a, b])
      ⟨[], st, _, _, rfl, rfl, Words.nil, Dr.refl h, rfl⟩ (fun i d e s hd ⟨xs, s', a, b, es, hl, hx, hD, he⟩ => ?_) (fun e s ⟨xs, s', a, b, es, hl, hx, hD, he⟩ => ?_)
    · subst es he
      obtain ⟨rfl, hi⟩ := rng_get hd
      have hP := hD.pl h
      have hS : s'.length = st.length := hD.len
      obtain ⟨f, s1, e1, f0, f1, d1⟩ := q__law_word (w := w) (hP.app (g := [.lst (xs.map D.int)])) (by omega) hw1 hw2
      obtain ⟨s1', rfl, d1'⟩ := d1.app hP
      have hP1 := d1'.pl hP
      have g1 : (s1' ++ [O.lst (xs.map D.int)])[st.length]? = some (.lst (xs.map D.int)) := last_get (by rw [d1'.len, hS])
      have fin : ∀ (y : Int) (s2 : Store) (c : Nat), c ≤ 6 → 0 ≤ y → y < 2 ^ w.toNat → Dr s' k s2 c → ∃ (xs1 : List Int) (s'1 : Store) (a b : Option D), (s2 ++ [O.lst (xs.map D.int)]).set st.length (.lst (xs.map D.int ++ [.int y])) = s'1 ++ [.lst (xs1.map D.int)] ∧ xs1.length = i + 1 ∧ Words w.toNat xs1 ∧ Dr st k s'1 (6 * (i + 1)) ∧
          [some (.obj k), some (.int w), some (.int m), some (.obj st.length), some (.int (0 + (i : Int))), some (.int y)] = [some (.obj k), some (.int w), some (.int m), some (.obj st.length), a, b] := fun y s2 c hc hy0 hy1 hd2 => by
        refine ⟨xs ++ [y], s2, _, _, ?_, by rw [List.length_append, hl]; rfl, hx.snoc hy0 hy1, (hD.trans hd2).mono (by omega), rfl⟩
        rw [last_set (by rw [hd2.len, hS]), List.map_append]
        rfl
      have small : xs.length < 16777216 := by omega
      have look : ∀ s2 : Store, s2.length = st.length → (s2 ++ [O.lst (xs.map D.int)])[st.length]? = some (.lst (xs.map D.int)) := fun s2 h => last_get h
      have small2 : (xs.map D.int).length < 16777216 := by rw [List.length_map]; exact small
      have nil : ∀ s2 : Store, s2.length = st.length → eqD (s2 ++ [O.lst (xs.map D.int)]) (.obj st.length) (.lst []) = some (xs.map D.int).isEmpty := fun s2 h => eqD_nil (look s2 h) (Words.fine (by omega) hx) (by rw [dpts_ints]; omega)
      have hl1 : s1'.length = st.length := by rw [d1'.len, hS]
      have hne := nil s1' hl1
      by_cases x0 : xs = []
      · have g1 := look s1' hl1
        have em : (xs.map D.int).isEmpty = true := by rw [x0]; rfl
        rw [em] at hne
        clear em
        clear look nil x0
        have fin1 := fin f s1' 3 (by omega) f0 f1 d1'
        clear fin
        walk_at "_law_some"
        first | exact ⟨trivial, fun _ => trivial⟩ | exact ⟨trivial, fun _ => fin1⟩
      · have em : (xs.map D.int).isEmpty = false := by cases xs with | nil => exact absurd rfl x0 | cons _ _ => rfl
        have hpos : 0 < xs.length := by cases xs with | nil => exact absurd rfl x0 | cons _ _ => exact Nat.succ_pos _
        rw [em] at hne
        clear em
        obtain ⟨v2, s2, e2, a2, b2, d2⟩ := q__law_draw (hP1.app (g := [.lst (xs.map D.int)])) (by omega) (many_small (m := 3) (by decide) (by decide))
        obtain ⟨s2', rfl, d2'⟩ := d2.app hP1
        have hP2 := d2'.pl hP1
        have hl2 : s2'.length = st.length := by rw [d2'.len, hl1]
        have g2 := look s2' hl2
        by_cases v0 : v2 = 0
        · subst v0
          obtain ⟨v3, s3, e3, a3, b3, d3⟩ := q__law_draw (m := ((xs.map D.int).length : Int)) (hP2.app (g := [.lst (xs.map D.int)])) (by omega) (many_small (by rw [List.length_map]; omega) (by rw [List.length_map]; omega))
          obtain ⟨s3', rfl, d3'⟩ := d3.app hP2
          have hP3 := d3'.pl hP2
          have hl3 : s3'.length = st.length := by rw [d3'.len, hl2]
          have g3 := look s3' hl3
          obtain ⟨x, hix, mx⟩ := atI_in a3 b3
          obtain ⟨y, my, rfl⟩ := List.mem_map.mp mx
          obtain ⟨v4, s4, e4, a4, b4, d4⟩ := q__law_draw (hP3.app (g := [.lst (xs.map D.int)])) (by omega) (many_small (m := 2) (by decide) (by decide))
          obtain ⟨s4', rfl, d4'⟩ := d4.app hP3
          have hl4 : s4'.length = st.length := by rw [d4'.len, hl3]
          have g4 := look s4' hl4
          have fin1 := fin ((y + v4) % 2 ^ w.toNat) s4' 6 (by omega) (Int.emod_nonneg _ (by omega)) (Int.emod_lt_of_pos _ hp) (((d1'.trans d2').trans d3').trans d4')
          clear fin look nil
          walk_at "_law_some"
          first | exact ⟨trivial, fun _ => trivial⟩ | exact ⟨trivial, fun _ => fin1⟩
        · have fin1 := fin f s2' 4 (by omega) f0 f1 (d1'.trans d2')
          clear fin look nil
          walk_at "_law_some"
          first | exact ⟨trivial, fun _ => trivial⟩ | exact ⟨trivial, fun _ => fin1⟩
    · subst es he
      have g1 : (s' ++ [O.lst (xs.map D.int)])[st.length]? = some (.lst (xs.map D.int)) := last_get hD.len
      have hlen : xs.length = m.toNat := by rw [hl, rng_len]; congr 1; omega
      have hD1 : Dr st k s' (6 * m.toNat) := hD.mono (by omega)
      walk_at "_law_some"
      exact ⟨_, _, ret_drawn hD1 (by simp only [pureD, closedD, closed_ints]), k, w, m, xs, rfl, rfl, hlen, hx, hD1⟩
  obtain ⟨r, s, e, k', w', m', xs, e1, rfl, h1, h2, h3⟩ := key
  cases e1
  exact ⟨xs, s, e, h1, h2, h3⟩
end Bo

set_option Elab.async false
set_option linter.all false
set_option maxRecDepth 100000
set_option maxHeartbeats 8000000
namespace Bo
open PySem PySem.Spec L2
def N_law : List Str := ["script", "at", "pool", "turn", "wide", "one", "two", "last"]
def P_law : List Str := ["script"]
def c_law : CS :=
      (.seq (.for_ (.nm 1) (.rng1 (.bi .max2 (.cons (.int 1) (.cons (.bi .min2 (.cons (.int 10) (.cons (.bi .len (.cons (.var 0) .nil)) .nil))) .nil))))
      (.seq (.asg (.nm 2) (.call 0 (.cons (.var 0) (.cons (.var 1) .nil))))
      (.seq (.for_ (.nm 3) (.rng1 (.int 8))
      (.seq (.asg (.nm 4) (.call 8 (.cons (.var 2) .nil)))
      (.seq (.iff (.nt (.call 23 (.cons (.var 4) (.cons (.call 25 (.cons (.var 2) (.cons (.var 4) (.cons (.bin .add (.int 1) (.call 7 (.cons (.var 2) (.cons (.int 5) .nil)))) .nil)))) .nil))))
      (.seq (.ret (.bl false))
      .skip)
      .skip)
      .skip)))
      .skip)))
      (.seq (.for_ (.nm 5) (.rng1 (.int 4))
      (.seq (.for_ (.nm 6) (.rng1 (.int 4))
      (.seq (.for_ (.nm 7) (.rng1 (.int 4))
      (.seq (.iff (.or (.nt (.call 23 (.cons (.int 2) (.cons (.tup (.cons (.var 5) (.cons (.var 6) (.cons (.var 7) .nil)))) .nil)))) (.or (.nt (.call 23 (.cons (.int 2) (.cons (.tup (.cons (.var 5) (.cons (.var 6) .nil))) .nil)))) (.nt (.call 23 (.cons (.int 2) (.cons (.tup (.cons (.var 5) .nil)) .nil))))))
      (.seq (.ret (.bl false))
      .skip)
      .skip)
      .skip))
      .skip))
      .skip))
      (.seq (.ret (.cmp .eq (.call 5 (.cons (.int 4) (.cons (.tup (.cons (.int 9) (.cons (.int 2) (.cons (.int 9) .nil)))) .nil))) (.tup (.cons (.tup (.cons (.int 1) (.cons (.int 0) (.cons (.int 1) .nil)))) (.cons (.int 1) .nil)))))
      .skip)))
theorem sc_law : FnScope N_law P_law (defScope (topS 38)) := ⟨rfl, rfl, rfl, by decide +kernel, rfl, by decide +kernel, by decide +kernel⟩
theorem ch_law : chkB T__law_some 26 N_law (defScope (topS 38)) c_law (defBody (topS 38)) = true := by decide +kernel
theorem l_law_0 : T__law_some.fns[0]? = some ⟨"_law_pool", [], F__law_pool⟩ := rfl
theorem l_law_5 : T__law_some.fns[5]? = some ⟨"ranking_of", [], F_ranking_of⟩ := rfl
theorem l_law_7 : T__law_some.fns[7]? = some ⟨"_law_draw", [], F__law_draw⟩ := rfl
theorem l_law_8 : T__law_some.fns[8]? = some ⟨"_law_wide", [], F__law_wide⟩ := rfl
theorem l_law_23 : T__law_some.fns[23]? = some ⟨"_law_right", [], F__law_right⟩ := rfl
theorem l_law_25 : T__law_some.fns[25]? = some ⟨"_law_some", [], F__law_some⟩ := rfl
local macro_rules | `(tactic| walk_at "law") => `(tactic| simp (discharger := first | assumption | omega | (simp only [List.all_cons, List.all_nil, isWord, decide_eq_true_eq, Bool.and_true, Bool.and_eq_true]; omega)) only [l_law_0, l_law_5, q_ranking_of, l_law_7, l_law_8, l_law_23, q__law_right, l_law_25, w_skip, w_seq, w_expr, w_asg, w_asgC, w_asg2, w_setix, w_setix2, two_eq, w_aug, w_if, w_for, w_ret, w_retN, w_raise, w_brk, w_cnt, e_var', e_non, e_bl, e_int, e_str, e_gl, e_ty, e_bin, e_neg, e_nt, e_and, e_or, e_cmp, e_chn, e_ife, e_tup, e_lst, e_lstO, e_ix, e_call, e_bi, e_mth, es_nil, es_cons, ei_rng1, ei_rng2, ei_enum, ei_val, evT_eq, asgT, asgTs, tru_non, tru_bl, tru_int, tru_tup, tru_lst, eqD_int, eqD_bl, eqD_str, cmp_eq, cmp_ne, cmp_lt, cmp_le, cmp_gt, cmp_ge, cmp_inn, cmp_nin, o_add, o_sub, o_mulS, o_fdivS, o_mod, o_pow18, o_pow3, o_pow5, o_shl1, o_xor, o_and, o_cat, it_tup, it_lst, it_obj, ix_tup, ix_lst, ix_obj, ix_tab, in_strT, in_strL, in_obj, in_tab, b_len, len_tup, len_lst, b_abs, b_max, b_min, b_int, b_intb, b_tuple, b_list, b_reprF, len_obj, List.getElem?_cons_zero, List.getElem?_cons_succ, List.set_cons_zero, List.set_cons_succ, if_true, if_false, decide_eq_true_eq, Bool.not_eq_true', decide_eq_false_iff_not, Bool.false_eq_true, Bool.true_eq_false, not_true_eq_false, not_false_eq_true, decide_true, decide_false, Bool.not_true, Bool.not_false, reduceIte, Option.map_some, if_pos, if_neg, Int.one_mul, atI_0, atI_1, atI_2, atI_3, atI_4, atI_5, atI_6, atI_7, atI_8, atI_9, List.getElem?_set_self, set_ixU, m_appendU, setAt_0, setAt_1, setAt_2, setAt_3, setAt_4, setAt_5, rng_ok1, step_none, step_some, wipe_nil, wipe_cons, b_isi, kd_tup, kd_lst, kd_str, kd_int, isi_same, e_sl, eo_none, eo_some, sl_tupD, sl_lstD, sl_objD, e_rev, e_lrng, e_dsp, ep_nil, ep_cons, ei_items, rev_lst, okm_app, okm_ext, okm_ixO, okm_ix, okm_get, okm_getO, m_extend, m_getT, m_getO, m_getT1, m_getO1, m_index, setL_int, okK_str, okK_int, okK_bl, okK_ss, b_sorted, o_addL, o_addOL, o_mulL, o_addS, last_get0, last_set0, and_self, and_true, true_and, is_non, is_str, is_int, isn_non, isn_str, isn_int, e_lset, lset_ints, b_max1, b_max1L, b_max1T2, cmp_leT, kv_int, kv_str, stepK_none, stepK_some, *])
local macro_rules | `(tactic| walk_at "0law") => `(tactic| simp (discharger := first | assumption | omega | (simp only [List.all_cons, List.all_nil, isWord, decide_eq_true_eq, Bool.and_true, Bool.and_eq_true]; omega)) only [l_law_0, l_law_5, q_ranking_of, l_law_7, l_law_8, l_law_23, q__law_right, l_law_25, w_skip, w_seq, w_expr, w_asg, w_asgC, w_asg2, w_setix, w_setix2, two_eq, w_aug, w_if, w_for, w_ret, w_retN, w_raise, w_brk, w_cnt, e_var', e_non, e_bl, e_int, e_str, e_gl, e_ty, e_bin, e_neg, e_nt, e_and, e_or, e_cmp, e_chn, e_ife, e_tup, e_lst, e_lstO, e_ix, e_call, e_bi, e_mth, es_nil, es_cons, ei_rng1, ei_rng2, ei_enum, ei_val, evT_eq, asgT, asgTs, tru_non, tru_bl, tru_int, tru_tup, tru_lst, eqD_int, eqD_bl, eqD_str, cmp_eq, cmp_ne, cmp_lt, cmp_le, cmp_gt, cmp_ge, cmp_inn, cmp_nin, o_add, o_sub, o_mulS, o_fdivS, o_mod, o_pow18, o_pow3, o_pow5, o_shl1, o_xor, o_and, o_cat, it_tup, it_lst, it_obj, ix_tup, ix_lst, ix_obj, ix_tab, in_strT, in_strL, in_obj, in_tab, b_len, len_tup, len_lst, b_abs, b_max, b_min, b_int, b_intb, b_tuple, b_list, b_reprF, len_obj, List.getElem?_cons_zero, List.getElem?_cons_succ, List.set_cons_zero, List.set_cons_succ, if_true, if_false, decide_eq_true_eq, Bool.not_eq_true', decide_eq_false_iff_not, Bool.false_eq_true, Bool.true_eq_false, not_true_eq_false, not_false_eq_true, decide_true, decide_false, Bool.not_true, Bool.not_false, reduceIte, Option.map_some, if_pos, if_neg, Int.one_mul, atI_0, atI_1, atI_2, atI_3, atI_4, atI_5, atI_6, atI_7, atI_8, atI_9, List.getElem?_set_self, set_ixU, m_appendU, setAt_0, setAt_1, setAt_2, setAt_3, setAt_4, setAt_5, rng_ok1, step_none, step_some, wipe_nil, wipe_cons, b_isi, kd_tup, kd_lst, kd_str, kd_int, isi_same, e_sl, eo_none, eo_some, sl_tupD, sl_lstD, sl_objD, e_rev, e_lrng, e_dsp, ep_nil, ep_cons, ei_items, rev_lst, okm_app, okm_ext, okm_ixO, okm_ix, okm_get, okm_getO, m_extend, m_getT, m_getO, m_getT1, m_getO1, m_index, setL_int, okK_str, okK_int, okK_bl, okK_ss, b_sorted, o_addL, o_addOL, o_mulL, o_addS, last_get0, last_set0, and_self, and_true, true_and, is_non, is_str, is_int, isn_non, isn_str, isn_int, e_lset, lset_ints, b_max1, b_max1L, b_max1T2, cmp_leT, kv_int, kv_str, stepK_none, stepK_some])
def S_law : Wd := fun _ _ r _ => r = .bl true
noncomputable def F_law : List D → Store → Option (D × Store) := specF T__law_some 8 1 c_law S_law
noncomputable def T_law : Tab := T__law_some.push ⟨"law", [], F_law⟩
theorem law_true (ns : List Int) (hl : ns.length ≤ 63) : ∃ st', F_law [.lst (ns.map D.int)] [] = some (.bl true, st') := by
  have key : ∃ r s, F_law [.lst (ns.map D.int)] [] = some (r, s) ∧ S_law [.lst (ns.map D.int)] [] r s := by
    refine specF_of rfl ?_
    show W _ c_law [some (.lst (ns.map D.int)), none, none, none, none, none, none, none] [] _ tg
    unfold c_law
    have hl2 : (ns.map D.int).length = ns.length := List.length_map ..
    walk_at "0law"
    refine w_inv _ (fun i e s => ∃ a b c d, e = [some (.lst (ns.map D.int)), a, b, c, d, none, none, none]) ⟨_, _, _, _, rfl⟩ (fun i d e s hd ⟨a, b, c, f, he⟩ => ?_) (fun e s ⟨a, b, c, f, he⟩ => ?_)
    · subst he
      obtain ⟨rfl, hi⟩ := rng_get hd
      have hi2 : (i : Int) < 64 := by
        refine Int.lt_of_lt_of_le hi ?_
        split <;> (try split) <;> omega
      clear hi hd
      obtain ⟨s1, e1, p, rfl, hp⟩ := q__law_pool (ns := ns) (at_ := 0 + (i : Int)) (st := s) (by omega) (by omega) (by omega)
      have hP : Pl (s ++ [p.o]) s.length 0 := ⟨p, last_get rfl, hp⟩
      walk_at "0law"
      simp only [e1]
      refine w_inv _ (fun i' e s' => Pl s' s.length (100 * i') ∧ ∃ c d, e = [some (.lst (ns.map D.int)), some (.int (0 + (i : Int))), some (.obj s.length), c, d, none, none, none]) ⟨hP, _, _, rfl⟩ (fun i' d e s' hd ⟨hP', c, f, he⟩ => ?_) (fun e s' ⟨hP', c, f, he⟩ => ?_)
      · subst he
        obtain ⟨rfl, hi'⟩ := rng_get hd
        clear hd
        obtain ⟨w, s1, e1, w1, w2, d1⟩ := q__law_wide hP' (by omega)
        have hP1 := d1.pl hP'
        obtain ⟨m, s2, e2, m1, m2, d2⟩ := q__law_draw hP1 (by omega) (many_small (m := 5) (by decide) (by decide))
        have hP2 := d2.pl hP1
        obtain ⟨xs, s3, e3, xl, xw, d3⟩ := q__law_some (w := w) (m := 1 + m) hP2 (by omega) w1 (by omega) (by omega) (by omega)
        have hP3 : Pl s3 s.length (100 * (i' + 1)) := (d3.pl hP2).mono (by omega)
        have r1 := fun st => q__law_right (w := w) (ns := xs) (st := st) w1 (by omega) xw (fun z => by rw [z] at xl; simp at xl; omega) (by omega)
        clear hP' d1 hP1 d2 hP2 d3 hl hl2 xw xl
        walk_at "law"
        first | exact ⟨trivial, fun _ => ⟨_, _, rfl⟩⟩ | exact ⟨trivial, fun _ => ⟨trivial, _, _, rfl⟩⟩ | exact ⟨trivial, fun _ => ⟨hP3, _, _, rfl⟩⟩
      · subst he
        walk_at "0law"
        exact ⟨trivial, fun _ => ⟨_, _, _, _, rfl⟩⟩
    · subst he
      have k4 : (rngOk 4 && lineOk (4 : Int).toNat) = true := by decide +kernel
      have ww : ∀ (xs : List Int), (∀ x ∈ xs, 0 ≤ x ∧ x < 4) → Words (2 : Int).toNat xs := fun xs h x hx => h x hx
      have rr : ∀ (xs : List Int) (st : Store), (∀ x ∈ xs, 0 ≤ x ∧ x < 4) → xs ≠ [] → xs.length ≤ 40 → F__law_right [.int 2, .tup (xs.map D.int)] st = some (.bl true, st) := fun xs st h hn hl => q__law_right (by decide) (by decide) (ww xs h) hn hl
      walk_at "0law"
      refine w_inv (rngD 0 4) (fun i e s' => s' = s ∧ ∃ x y z, e = [some (.lst (ns.map D.int)), a, b, c, f, x, y, z]) ⟨rfl, _, _, _, rfl⟩ (fun i d e s' hd ⟨hs, x, y, z, he⟩ => ?_) (fun e s' ⟨hs, x, y, z, he⟩ => ?_)
      · rename_i q0; clear q0
        subst hs he
        obtain ⟨rfl, hi⟩ := rng_get hd
        have i0 : 0 ≤ (0 : Int) + (i : Int) ∧ (0 : Int) + (i : Int) < 4 := by omega
        generalize (0 : Int) + (i : Int) = u at i0
        clear hd hi
        walk_at "0law"
        refine w_inv (rngD 0 4) (fun i e s'' => s'' = s' ∧ ∃ y z, e = [some (.lst (ns.map D.int)), a, b, c, f, some (.int u), y, z]) ⟨rfl, _, _, rfl⟩ (fun i d e s'' hd ⟨hs, y, z, he⟩ => ?_) (fun e s'' ⟨hs, y, z, he⟩ => ?_)
        · rename_i q0; clear q0
          subst hs he
          obtain ⟨rfl, hi⟩ := rng_get hd
          have j0 : 0 ≤ (0 : Int) + (i : Int) ∧ (0 : Int) + (i : Int) < 4 := by omega
          generalize (0 : Int) + (i : Int) = v at j0
          clear hd hi
          walk_at "0law"
          refine w_inv (rngD 0 4) (fun i e s3 => s3 = s'' ∧ ∃ z, e = [some (.lst (ns.map D.int)), a, b, c, f, some (.int u), some (.int v), z]) ⟨rfl, _, rfl⟩ (fun i d e s3 hd ⟨hs, z, he⟩ => ?_) (fun e s3 ⟨hs, z, he⟩ => ?_)
          · rename_i q0; clear q0
            subst hs he
            obtain ⟨rfl, hi⟩ := rng_get hd
            have l0 : 0 ≤ (0 : Int) + (i : Int) ∧ (0 : Int) + (i : Int) < 4 := by omega
            generalize (0 : Int) + (i : Int) = t at l0
            clear hd hi
            have r1 : ∀ st, F__law_right [.int 2, .tup [.int u, .int v, .int t]] st = some (.bl true, st) := fun st => rr [u, v, t] st (fun x hx => by
              simp only [List.mem_cons, List.not_mem_nil, or_false] at hx
              rcases hx with rfl | rfl | rfl <;> assumption) (by simp) (by simp)
            have r2 : ∀ st, F__law_right [.int 2, .tup [.int u, .int v]] st = some (.bl true, st) := fun st => rr [u, v] st (fun x hx => by
              simp only [List.mem_cons, List.not_mem_nil, or_false] at hx
              rcases hx with rfl | rfl <;> assumption) (by simp) (by simp)
            have r3 : ∀ st, F__law_right [.int 2, .tup [.int u]] st = some (.bl true, st) := fun st => rr [u] st (fun x hx => by
              simp only [List.mem_cons, List.not_mem_nil, or_false] at hx
              subst hx; assumption) (by simp) (by simp)
            clear rr ww k4 hl hl2
            walk_at "law"
            first | exact ⟨trivial, fun _ => ⟨rfl, _, rfl⟩⟩ | exact ⟨trivial, fun _ => ⟨_, rfl⟩⟩ | exact ⟨trivial, fun _ => ⟨trivial, _, rfl⟩⟩
          · rename_i q0; clear q0
            subst hs he
            walk_at "0law"
            first | exact ⟨trivial, fun _ => ⟨rfl, _, _, rfl⟩⟩ | exact ⟨trivial, fun _ => ⟨_, _, rfl⟩⟩ | exact ⟨trivial, fun _ => ⟨trivial, _, _, rfl⟩⟩
        · rename_i q0; clear q0
          subst hs he
          walk_at "0law"
          first | exact ⟨trivial, fun _ => ⟨rfl, _, _, _, rfl⟩⟩ | exact ⟨trivial, fun _ => ⟨_, _, _, rfl⟩⟩ | exact ⟨trivial, fun _ => ⟨trivial, _, _, _, rfl⟩⟩
      · rename_i q0; clear q0
        subst hs he
        have rk : ∀ st, F_ranking_of [.int 4, .tup [.int 9, .int 2, .int 9]] st = some (.tup [.tup [.int 1, .int 0, .int 1], .int 1], st) := fun st => by
          have := q_ranking_of (w := 4) (ns := [9, 2, 9]) (st := st) (by decide) (by decide) (fun x hx => by
            simp only [List.mem_cons, List.not_mem_nil, or_false] at hx
            rcases hx with rfl | rfl | rfl <;> decide) (by decide)
          have e1 : ranksOf [9, 2, 9] = [1, 0, 1] := by decide +kernel
          have e2 : below [9, 2, 9] (half 4) = 1 := by decide +kernel
          rw [e1, e2] at this
          exact this
        have eq : ∀ st, eqD st (.tup [.tup [.int 1, .int 0, .int 1], .int 1]) (.tup [.tup [.int 1, .int 0, .int 1], .int 1]) = some true := fun st => by
          rw [eqD_tt (by decide +kernel) (by decide +kernel) (by decide +kernel) (by decide +kernel) rfl rfl]
          simp
        clear rr ww k4 hl hl2
        walk_at "law"
        exact ⟨_, s', ret_same, rfl⟩
  obtain ⟨r, s, e, rfl⟩ := key
  exact ⟨s, e⟩
end Bo

set_option Elab.async false
set_option linter.all false
set_option maxRecDepth 100000
set_option maxHeartbeats 8000000
set_option pp.maxSteps 300
set_option pp.deepTerms false
namespace Bo
open PySem PySem.Spec L2
theorem all_fn {P : Program} {w : World} {K : PySem.W.Frag} {mg : Str → Option Value} {h : Heap} {fa : Addr} (KX : K.In h) (G : h.Ns mainGlobals mg) (hmg : mg "law" = some (.ref fa))
    (f__law_pool : Got K "_law_pool" (topS 28))
    (f_check_width : Got K "check_width" (topS 12))
    (f_check_words : Got K "check_words" (topS 13))
    (f_ranks_of : Got K "ranks_of" (topS 17))
    (f_half_of : Got K "half_of" (topS 14))
    (f_ranking_of : Got K "ranking_of" (topS 24))
    (f__law_draw : Got K "_law_draw" (topS 29))
    (f__law_wide : Got K "_law_wide" (topS 30))
    (f__law_power : Got K "_law_power" (topS 31))
    (f__law_rank : Got K "_law_rank" (topS 36))
    (f_is_row_of_ranks : Got K "is_row_of_ranks" (topS 18))
    (f_check_ranking : Got K "check_ranking" (topS 19))
    (f_halves : Got K "halves" (topS 21))
    (f_fits_width : Got K "fits_width" (topS 22))
    (f_least_in : Got K "least_in" (topS 23))
    (f_least_words : Got K "least_words" (topS 26))
    (f__law_value : Got K "_law_value" (topS 34))
    (f__law_seen : Got K "_law_seen" (topS 35))
    (f_outcome_by : Got K "outcome_by" (topS 15))
    (f_outcome_between : Got K "outcome_between" (topS 20))
    (f_outcome_in : Got K "outcome_in" (topS 25))
    (f__law_right : Got K "_law_right" (topS 37))
    (f__law_word : Got K "_law_word" (topS 32))
    (f__law_some : Got K "_law_some" (topS 33))
    (f_law : Got K "law" (topS 38))
    (v_EQUAL : GotV P w K mg "EQUAL" (.str "E"))
    (v_LESS : GotV P w K mg "LESS" (.str "LB"))
    (v_GREATER : GotV P w K mg "GREATER" (.str "GA"))
    (v_MIXED : GotV P w K mg "MIXED" (.str "GB"))
    (v_MIXED_BACK : GotV P w K mg "MIXED_BACK" (.str "LA"))
    (b_len : PySem.W.nsIn K mainGlobals "len" = some none)
    (b_abs : PySem.W.nsIn K mainGlobals "abs" = some none)
    (b_max : PySem.W.nsIn K mainGlobals "max" = some none)
    (b_min : PySem.W.nsIn K mainGlobals "min" = some none)
    (b_int : PySem.W.nsIn K mainGlobals "int" = some none)
    (b_tuple : PySem.W.nsIn K mainGlobals "tuple" = some none)
    (b_list : PySem.W.nsIn K mainGlobals "list" = some none)
    (b_repr : PySem.W.nsIn K mainGlobals "repr" = some none)
    (b_range : PySem.W.nsIn K mainGlobals "range" = some none)
    (b_enumerate : PySem.W.nsIn K mainGlobals "enumerate" = some none)
    (b_zip : PySem.W.nsIn K mainGlobals "zip" = some none)
    (b_isinstance : PySem.W.nsIn K mainGlobals "isinstance" = some none)
    (b_str : PySem.W.nsIn K mainGlobals "str" = some none)
    (b_bool : PySem.W.nsIn K mainGlobals "bool" = some none)
    (b_dict : PySem.W.nsIn K mainGlobals "dict" = some none)
    (b_sum : PySem.W.nsIn K mainGlobals "sum" = some none)
    (b_sorted : PySem.W.nsIn K mainGlobals "sorted" = some none)
    (b_set : PySem.W.nsIn K mainGlobals "set" = some none)
    (b_all : PySem.W.nsIn K mainGlobals "all" = some none)
    (b_any : PySem.W.nsIn K mainGlobals "any" = some none)
    (b_super : PySem.W.nsIn K mainGlobals "super" = some none)
    (b_ValueError : PySem.W.nsIn K mainGlobals "ValueError" = some none) :
    ∃ fd : FuncData, (∀ (s : Shared) (u : Value), BindsTo s fd ⟨[u], []⟩ [("script", u)]) ∧ ∀ base : Heap, K.In base → base.Ns mainGlobals mg → FnG P w K mg base 25 fa fd ["script"] (spD (KW.mk P w K) F_law) := by
  obtain ⟨a__law_pool, d__law_pool, n__law_pool, U__law_pool⟩ := f__law_pool
  obtain ⟨a_check_width, d_check_width, n_check_width, U_check_width⟩ := f_check_width
  obtain ⟨a_check_words, d_check_words, n_check_words, U_check_words⟩ := f_check_words
  obtain ⟨a_ranks_of, d_ranks_of, n_ranks_of, U_ranks_of⟩ := f_ranks_of
  obtain ⟨a_half_of, d_half_of, n_half_of, U_half_of⟩ := f_half_of
  obtain ⟨a_ranking_of, d_ranking_of, n_ranking_of, U_ranking_of⟩ := f_ranking_of
  obtain ⟨a__law_draw, d__law_draw, n__law_draw, U__law_draw⟩ := f__law_draw
  obtain ⟨a__law_wide, d__law_wide, n__law_wide, U__law_wide⟩ := f__law_wide
  obtain ⟨a__law_power, d__law_power, n__law_power, U__law_power⟩ := f__law_power
  obtain ⟨a__law_rank, d__law_rank, n__law_rank, U__law_rank⟩ := f__law_rank
  obtain ⟨a_is_row_of_ranks, d_is_row_of_ranks, n_is_row_of_ranks, U_is_row_of_ranks⟩ := f_is_row_of_ranks
  obtain ⟨a_check_ranking, d_check_ranking, n_check_ranking, U_check_ranking⟩ := f_check_ranking
  obtain ⟨a_halves, d_halves, n_halves, U_halves⟩ := f_halves
  obtain ⟨a_fits_width, d_fits_width, n_fits_width, U_fits_width⟩ := f_fits_width
  obtain ⟨a_least_in, d_least_in, n_least_in, U_least_in⟩ := f_least_in
  obtain ⟨a_least_words, d_least_words, n_least_words, U_least_words⟩ := f_least_words
  obtain ⟨a__law_value, d__law_value, n__law_value, U__law_value⟩ := f__law_value
  obtain ⟨a__law_seen, d__law_seen, n__law_seen, U__law_seen⟩ := f__law_seen
  obtain ⟨a_outcome_by, d_outcome_by, n_outcome_by, U_outcome_by⟩ := f_outcome_by
  obtain ⟨a_outcome_between, d_outcome_between, n_outcome_between, U_outcome_between⟩ := f_outcome_between
  obtain ⟨a_outcome_in, d_outcome_in, n_outcome_in, U_outcome_in⟩ := f_outcome_in
  obtain ⟨a__law_right, d__law_right, n__law_right, U__law_right⟩ := f__law_right
  obtain ⟨a__law_word, d__law_word, n__law_word, U__law_word⟩ := f__law_word
  obtain ⟨a__law_some, d__law_some, n__law_some, U__law_some⟩ := f__law_some
  obtain ⟨a_law, d_law, n_law, U_law⟩ := f_law
  have m__law_pool := PySem.W.mg_of KX G n__law_pool
  have m_check_width := PySem.W.mg_of KX G n_check_width
  have m_check_words := PySem.W.mg_of KX G n_check_words
  have m_ranks_of := PySem.W.mg_of KX G n_ranks_of
  have m_half_of := PySem.W.mg_of KX G n_half_of
  have m_ranking_of := PySem.W.mg_of KX G n_ranking_of
  have m__law_draw := PySem.W.mg_of KX G n__law_draw
  have m__law_wide := PySem.W.mg_of KX G n__law_wide
  have m__law_power := PySem.W.mg_of KX G n__law_power
  have m__law_rank := PySem.W.mg_of KX G n__law_rank
  have m_is_row_of_ranks := PySem.W.mg_of KX G n_is_row_of_ranks
  have m_check_ranking := PySem.W.mg_of KX G n_check_ranking
  have m_halves := PySem.W.mg_of KX G n_halves
  have m_fits_width := PySem.W.mg_of KX G n_fits_width
  have m_least_in := PySem.W.mg_of KX G n_least_in
  have m_least_words := PySem.W.mg_of KX G n_least_words
  have m__law_value := PySem.W.mg_of KX G n__law_value
  have m__law_seen := PySem.W.mg_of KX G n__law_seen
  have m_outcome_by := PySem.W.mg_of KX G n_outcome_by
  have m_outcome_between := PySem.W.mg_of KX G n_outcome_between
  have m_outcome_in := PySem.W.mg_of KX G n_outcome_in
  have m__law_right := PySem.W.mg_of KX G n__law_right
  have m__law_word := PySem.W.mg_of KX G n__law_word
  have m__law_some := PySem.W.mg_of KX G n__law_some
  have m_law := PySem.W.mg_of KX G n_law
  have eq := hmg.symm.trans m_law
  cases eq
  refine ⟨d_law, fun s u => ?_, fun base _ _ => ?_⟩
  · exact bindsK (ks := []) (n := 1) (perm := [0]) (ps := ["script"]) U_law (fun _ _ _ _ _ _ us ws h1 h2 => match ws, h1, us, h2 with | [], _, [_], _ => rfl) s [u] [] rfl rfl
  have e_0 : GEnv P w K mg base T_0 0 0 := GEnv.zero (fun i x d e => gl_all (l := gls0) (by rw [gls0]; exact ⟨v_EQUAL, v_LESS, v_GREATER, v_MIXED, v_MIXED_BACK, trivial⟩) e) (nones KX G (l := bnames) ⟨b_len, b_abs, b_max, b_min, b_int, b_tuple, b_list, b_repr, b_range, b_enumerate, b_zip, b_isinstance, b_str, b_bool, b_dict, b_sum, b_sorted, b_set, b_all, b_any, b_super, b_ValueError, trivial⟩)
  obtain ⟨g__law_pool, e_1⟩ := GEnv.def_ (Sp := S__law_pool) e_0 rfl U__law_pool m__law_pool sc__law_pool ch__law_pool (U__law_pool.binds fun _ _ _ _ _ _ us hl => match us, hl with | [_, _], _ => rfl)
  obtain ⟨g_check_width, e_2⟩ := GEnv.def_ (Sp := S_check_width) e_1 rfl U_check_width m_check_width sc_check_width ch_check_width (U_check_width.binds fun _ _ _ _ _ _ us hl => match us, hl with | [_], _ => rfl)
  obtain ⟨g_check_words, e_3⟩ := GEnv.def_ (Sp := S_check_words) e_2 rfl U_check_words m_check_words sc_check_words ch_check_words (U_check_words.binds fun _ _ _ _ _ _ us hl => match us, hl with | [_, _], _ => rfl)
  obtain ⟨g_ranks_of, e_4⟩ := GEnv.def_ (Sp := S_ranks_of) e_3 rfl U_ranks_of m_ranks_of sc_ranks_of ch_ranks_of (U_ranks_of.binds fun _ _ _ _ _ _ us hl => match us, hl with | [_], _ => rfl)
  obtain ⟨g_half_of, e_5⟩ := GEnv.def_ (Sp := S_half_of) e_4 rfl U_half_of m_half_of sc_half_of ch_half_of (U_half_of.binds fun _ _ _ _ _ _ us hl => match us, hl with | [_], _ => rfl)
  obtain ⟨g_ranking_of, e_6⟩ := GEnv.def_ (Sp := S_ranking_of) e_5 rfl U_ranking_of m_ranking_of sc_ranking_of ch_ranking_of (U_ranking_of.binds fun _ _ _ _ _ _ us hl => match us, hl with | [_, _], _ => rfl)
  have e_7 := GEnv.via_ (ks := ["words", "width"]) e_6 rfl 2 [1, 0] g_ranking_of m_ranking_of U_ranking_of.kp (by decide) (fun s us ws _ => bindsK (n := 2) (perm := [1, 0]) (ps := P_ranking_of) U_ranking_of (fun _ _ _ _ _ _ us ws h1 h2 => match ws, h1, us, h2 with | [_, _], _, [], _ => rfl) s us ws)
  obtain ⟨g__law_draw, e_8⟩ := GEnv.def_ (Sp := S__law_draw) e_7 rfl U__law_draw m__law_draw sc__law_draw ch__law_draw (U__law_draw.binds fun _ _ _ _ _ _ us hl => match us, hl with | [_, _], _ => rfl)
  obtain ⟨g__law_wide, e_9⟩ := GEnv.def_ (Sp := S__law_wide) e_8 rfl U__law_wide m__law_wide sc__law_wide ch__law_wide (U__law_wide.binds fun _ _ _ _ _ _ us hl => match us, hl with | [_], _ => rfl)
  obtain ⟨g__law_power, e_10⟩ := GEnv.def_ (Sp := S__law_power) e_9 rfl U__law_power m__law_power sc__law_power ch__law_power (U__law_power.binds fun _ _ _ _ _ _ us hl => match us, hl with | [_], _ => rfl)
  obtain ⟨g__law_rank, e_11⟩ := GEnv.def_ (Sp := S__law_rank) e_10 rfl U__law_rank m__law_rank sc__law_rank ch__law_rank (U__law_rank.binds fun _ _ _ _ _ _ us hl => match us, hl with | [_, _], _ => rfl)
  obtain ⟨g_is_row_of_ranks, e_12⟩ := GEnv.def_ (Sp := S_is_row_of_ranks) e_11 rfl U_is_row_of_ranks m_is_row_of_ranks sc_is_row_of_ranks ch_is_row_of_ranks (U_is_row_of_ranks.binds fun _ _ _ _ _ _ us hl => match us, hl with | [_], _ => rfl)
  obtain ⟨g_check_ranking, e_13⟩ := GEnv.def_ (Sp := S_check_ranking) e_12 rfl U_check_ranking m_check_ranking sc_check_ranking ch_check_ranking (U_check_ranking.binds fun _ _ _ _ _ _ us hl => match us, hl with | [_], _ => rfl)
  obtain ⟨g_halves, e_14⟩ := GEnv.def_ (Sp := S_halves) e_13 rfl U_halves m_halves sc_halves ch_halves (U_halves.binds fun _ _ _ _ _ _ us hl => match us, hl with | [_], _ => rfl)
  obtain ⟨g_fits_width, e_15⟩ := GEnv.def_ (Sp := S_fits_width) e_14 rfl U_fits_width m_fits_width sc_fits_width ch_fits_width (U_fits_width.binds fun _ _ _ _ _ _ us hl => match us, hl with | [_, _], _ => rfl)
  obtain ⟨g_least_in, e_16⟩ := GEnv.def_ (Sp := S_least_in) e_15 rfl U_least_in m_least_in sc_least_in ch_least_in (U_least_in.binds fun _ _ _ _ _ _ us hl => match us, hl with | [_, _], _ => rfl)
  obtain ⟨g_least_words, e_17⟩ := GEnv.def_ (Sp := S_least_words) e_16 rfl U_least_words m_least_words sc_least_words ch_least_words (U_least_words.binds fun _ _ _ _ _ _ us hl => match us, hl with | [_, _], _ => rfl)
  obtain ⟨g__law_value, e_18⟩ := GEnv.def_ (Sp := S__law_value) e_17 rfl U__law_value m__law_value sc__law_value ch__law_value (U__law_value.binds fun _ _ _ _ _ _ us hl => match us, hl with | [_, _], _ => rfl)
  obtain ⟨g__law_seen, e_19⟩ := GEnv.def_ (Sp := S__law_seen) e_18 rfl U__law_seen m__law_seen sc__law_seen ch__law_seen (U__law_seen.binds fun _ _ _ _ _ _ us hl => match us, hl with | [_, _, _], _ => rfl)
  obtain ⟨g_outcome_by, e_20⟩ := GEnv.def_ (Sp := S_outcome_by) e_19 rfl U_outcome_by m_outcome_by sc_outcome_by ch_outcome_by (U_outcome_by.binds fun _ _ _ _ _ _ us hl => match us, hl with | [_, _, _], _ => rfl)
  obtain ⟨g_outcome_between, e_21⟩ := GEnv.def_ (Sp := S_outcome_between) e_20 rfl U_outcome_between m_outcome_between sc_outcome_between ch_outcome_between (U_outcome_between.binds fun _ _ _ _ _ _ us hl => match us, hl with | [_, _, _], _ => rfl)
  obtain ⟨g_outcome_in, e_22⟩ := GEnv.def_ (Sp := S_outcome_in) e_21 rfl U_outcome_in m_outcome_in sc_outcome_in ch_outcome_in (U_outcome_in.binds fun _ _ _ _ _ _ us hl => match us, hl with | [_, _, _], _ => rfl)
  have e_23 := GEnv.via_ (ks := ["second", "first", "ranking"]) e_22 rfl 3 [2, 1, 0] g_outcome_in m_outcome_in U_outcome_in.kp (by decide) (fun s us ws _ => bindsK (n := 3) (perm := [2, 1, 0]) (ps := P_outcome_in) U_outcome_in (fun _ _ _ _ _ _ us ws h1 h2 => match ws, h1, us, h2 with | [_, _, _], _, [], _ => rfl) s us ws)
  obtain ⟨g__law_right, e_24⟩ := GEnv.def_ (Sp := S__law_right) e_23 rfl U__law_right m__law_right sc__law_right ch__law_right (U__law_right.binds fun _ _ _ _ _ _ us hl => match us, hl with | [_, _], _ => rfl)
  obtain ⟨g__law_word, e_25⟩ := GEnv.def_ (Sp := S__law_word) e_24 rfl U__law_word m__law_word sc__law_word ch__law_word (U__law_word.binds fun _ _ _ _ _ _ us hl => match us, hl with | [_, _], _ => rfl)
  obtain ⟨g__law_some, e_26⟩ := GEnv.def_ (Sp := S__law_some) e_25 rfl U__law_some m__law_some sc__law_some ch__law_some (U__law_some.binds fun _ _ _ _ _ _ us hl => match us, hl with | [_, _, _], _ => rfl)
  obtain ⟨g_law, e_27⟩ := GEnv.def_ (Sp := S_law) e_26 rfl U_law m_law sc_law ch_law (U_law.binds fun _ _ _ _ _ _ us hl => match us, hl with | [_], _ => rfl)
  exact g_law
end Bo

set_option Elab.async false
set_option linter.all false
set_option maxRecDepth 100000
set_option maxHeartbeats 8000000
set_option pp.maxSteps 300
set_option pp.deepTerms false
open PySem PySem.W PyProof.Rows
local macro_rules | `(tactic| walk_at "krel") => `(tactic| first | exact Bo.krel_str | exact Bo.krel_int | exact Bo.krel_non | exact Bo.krel_bl | (refine' Bo.krel_tup ?l ?z ?h; (case l => k_is); (case z => decide); (case h => walk_at "krels")) | (refine' Bo.krel_tab ?l ?s ?n ?z ?h; (case l => k_is); (case s => decide); (case n => decide); (case z => decide); (case h => walk_at "krels")))
local macro_rules | `(tactic| walk_at "krels") => `(tactic| first | exact True.intro | (refine' And.intro ?x ?y; (case x => walk_at "krel"); (case y => walk_at "krels")) | (refine' And.intro (Exists.intro _ rfl) (And.intro rfl (And.intro ?x ?y)); (case x => walk_at "krel"); (case y => walk_at "krels")))
set_option maxHeartbeats 0 in
theorem PySem.Challenge.cw_branchorders_k07_rankings_of_words_holds : PySem.Challenge.rw_branchorders_k07_rankings_of_words.Holds := by
  w_on; o_law; k_head; (case hw => w_witness2)
  k_fill
  refine Bo.walk_bo (l := PySem.Challenge.rw_branchorders_k07_rankings_of_words) (n := 63) (k := 25) (x := "script") (F := Bo.F_law) rfl (by decide) rfl ⟨⟨rfl, by decide, by decide⟩, rfl⟩ (fun w h Y => PySem.W.kIn_of Y) ?F (fun ns hl => Bo.law_true ns hl)
  case F =>
    intro w mg fa h KX G hmg
    refine' Bo.all_fn KX G hmg ?f__law_pool ?f_check_width ?f_check_words ?f_ranks_of ?f_half_of ?f_ranking_of ?f__law_draw ?f__law_wide ?f__law_power ?f__law_rank ?f_is_row_of_ranks ?f_check_ranking ?f_halves ?f_fits_width ?f_least_in ?f_least_words ?f__law_value ?f__law_seen ?f_outcome_by ?f_outcome_between ?f_outcome_in ?f__law_right ?f__law_word ?f__law_some ?f_law ?v_EQUAL ?v_LESS ?v_GREATER ?v_MIXED ?v_MIXED_BACK ?b_len ?b_abs ?b_max ?b_min ?b_int ?b_tuple ?b_list ?b_repr ?b_range ?b_enumerate ?b_zip ?b_isinstance ?b_str ?b_bool ?b_dict ?b_sum ?b_sorted ?b_set ?b_all ?b_any ?b_super ?b_ValueError
    (case f__law_pool => refine' Bo.got_mk ?a ?l ?c ?k; (case a => k_is); (case l => k_is); (case c => k_is); (case k => k_is))
    (case f_check_width => refine' Bo.got_mk ?a ?l ?c ?k; (case a => k_is); (case l => k_is); (case c => k_is); (case k => k_is))
    (case f_check_words => refine' Bo.got_mk ?a ?l ?c ?k; (case a => k_is); (case l => k_is); (case c => k_is); (case k => k_is))
    (case f_ranks_of => refine' Bo.got_mk ?a ?l ?c ?k; (case a => k_is); (case l => k_is); (case c => k_is); (case k => k_is))
    (case f_half_of => refine' Bo.got_mk ?a ?l ?c ?k; (case a => k_is); (case l => k_is); (case c => k_is); (case k => k_is))
    (case f_ranking_of => refine' Bo.got_mk ?a ?l ?c ?k; (case a => k_is); (case l => k_is); (case c => k_is); (case k => k_is))
    (case f__law_draw => refine' Bo.got_mk ?a ?l ?c ?k; (case a => k_is); (case l => k_is); (case c => k_is); (case k => k_is))
    (case f__law_wide => refine' Bo.got_mk ?a ?l ?c ?k; (case a => k_is); (case l => k_is); (case c => k_is); (case k => k_is))
    (case f__law_power => refine' Bo.got_mk ?a ?l ?c ?k; (case a => k_is); (case l => k_is); (case c => k_is); (case k => k_is))
    (case f__law_rank => refine' Bo.got_mk ?a ?l ?c ?k; (case a => k_is); (case l => k_is); (case c => k_is); (case k => k_is))
    (case f_is_row_of_ranks => refine' Bo.got_mk ?a ?l ?c ?k; (case a => k_is); (case l => k_is); (case c => k_is); (case k => k_is))
    (case f_check_ranking => refine' Bo.got_mk ?a ?l ?c ?k; (case a => k_is); (case l => k_is); (case c => k_is); (case k => k_is))
    (case f_halves => refine' Bo.got_mk ?a ?l ?c ?k; (case a => k_is); (case l => k_is); (case c => k_is); (case k => k_is))
    (case f_fits_width => refine' Bo.got_mk ?a ?l ?c ?k; (case a => k_is); (case l => k_is); (case c => k_is); (case k => k_is))
    (case f_least_in => refine' Bo.got_mk ?a ?l ?c ?k; (case a => k_is); (case l => k_is); (case c => k_is); (case k => k_is))
    (case f_least_words => refine' Bo.got_mk ?a ?l ?c ?k; (case a => k_is); (case l => k_is); (case c => k_is); (case k => k_is))
    (case f__law_value => refine' Bo.got_mk ?a ?l ?c ?k; (case a => k_is); (case l => k_is); (case c => k_is); (case k => k_is))
    (case f__law_seen => refine' Bo.got_mk ?a ?l ?c ?k; (case a => k_is); (case l => k_is); (case c => k_is); (case k => k_is))
    (case f_outcome_by => refine' Bo.got_mk ?a ?l ?c ?k; (case a => k_is); (case l => k_is); (case c => k_is); (case k => k_is))
    (case f_outcome_between => refine' Bo.got_mk ?a ?l ?c ?k; (case a => k_is); (case l => k_is); (case c => k_is); (case k => k_is))
    (case f_outcome_in => refine' Bo.got_mk ?a ?l ?c ?k; (case a => k_is); (case l => k_is); (case c => k_is); (case k => k_is))
    (case f__law_right => refine' Bo.got_mk ?a ?l ?c ?k; (case a => k_is); (case l => k_is); (case c => k_is); (case k => k_is))
    (case f__law_word => refine' Bo.got_mk ?a ?l ?c ?k; (case a => k_is); (case l => k_is); (case c => k_is); (case k => k_is))
    (case f__law_some => refine' Bo.got_mk ?a ?l ?c ?k; (case a => k_is); (case l => k_is); (case c => k_is); (case k => k_is))
    (case f_law => refine' Bo.got_mk ?a ?l ?c ?k; (case a => k_is); (case l => k_is); (case c => k_is); (case k => k_is))
    (case v_EQUAL => refine' Bo.got_str KX G ?a; (case a => k_is))
    (case v_LESS => refine' Bo.got_str KX G ?a; (case a => k_is))
    (case v_GREATER => refine' Bo.got_str KX G ?a; (case a => k_is))
    (case v_MIXED => refine' Bo.got_str KX G ?a; (case a => k_is))
    (case v_MIXED_BACK => refine' Bo.got_str KX G ?a; (case a => k_is))
    (case b_len => k_is)
    (case b_abs => k_is)
    (case b_max => k_is)
    (case b_min => k_is)
    (case b_int => k_is)
    (case b_tuple => k_is)
    (case b_list => k_is)
    (case b_repr => k_is)
    (case b_range => k_is)
    (case b_enumerate => k_is)
    (case b_zip => k_is)
    (case b_isinstance => k_is)
    (case b_str => k_is)
    (case b_bool => k_is)
    (case b_dict => k_is)
    (case b_sum => k_is)
    (case b_sorted => k_is)
    (case b_set => k_is)
    (case b_all => k_is)
    (case b_any => k_is)
    (case b_super => k_is)
    (case b_ValueError => k_is)
