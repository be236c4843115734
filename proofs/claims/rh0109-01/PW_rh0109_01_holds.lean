import PyProof.Rows.All
import Wide.All
import OpenK.AllK
import Wide.FinOn
import Lean
import PySem.Challenge.RW_rh0109_01
section
set_option maxHeartbeats 2000000
set_option linter.unusedVariables false
set_option Elab.async false
set_option maxRecDepth 100000
set_option tactic.hygienic false
open PySem PySem.W PySem.Calls PyProof.Rows
namespace Mine
theorem shut {g : Prop} (h : ∀ P : Prop, (g → P) → P) : g := h g id
inductive V where
  | none
  | bool (b : Bool)
  | int (i : Int)
  | str (s : Str)
  | tup (l : List V)
  | ref (i : Nat)
  | ty (T : String)
  | ext (a : Addr)
  deriving Inhabited
set_option genInjectivity false in
inductive AO where
  | list (l : List V)
  | dI (l : List (Int × V))
  | dF (l : List (Int × V)) (ep : Nat)
  | dS (l : List (Str × V))
  | dT (l : List (List Int × V))
  | set (S : Int → Bool) (n : Nat)
  | inst (C : Addr) (fs : List (Str × V))
  | exc (ball : V)
  | excN (ball : V)
set_option genInjectivity false in
structure Bs where
  prog : Program
  w : World
  h₀ : Heap
  K : Frag
  mg : Str → Option Value
  mb : Str → Option Value
  X : K.In h₀
  g : h₀.Ns mainGlobals mg
  b : h₀.Ns builtinsNs mb
  bi : ∀ x : Str, x ≠ "__name__" → mb x = bootBuiltins x
  nolim : h₀.NoLimit
  nodig : ∃ mc, h₀.Ns cStatics mc ∧ mc "sys.int_max_str_digits" = none
  excC : Addr
set_option genInjectivity false in
structure Mp where
  a : Nat → Addr
  d : Nat → Addr
noncomputable def Mp.ext (μ : Mp) (n : Nat) (x y : Addr) : Mp := ⟨fun i => if i = n then x else μ.a i, fun i => if i = n then y else μ.d i⟩
mutual
noncomputable def VR (μ : Mp) (n : Nat) (h : Heap) : V → Value → Prop
  | .none, v => v = .none
  | .bool b, v => v = .bool b
  | .int i, v => ∃ t, v = .int i t
  | .str s, v => ∃ t, v = .str s t
  | .tup l, v => ∃ a items, v = .ref a ∧ h.IsTuple a (List.toArray items) ∧ VRs μ n h l items
  | .ref i, v => i < n ∧ v = .ref (μ.a i)
  | .ty T, v => v = .type T
  | .ext a, v => v = .ref a
noncomputable def VRs (μ : Mp) (n : Nat) (h : Heap) : List V → List Value → Prop
  | [], vs => vs = []
  | x :: l, vs => ∃ v r, vs = v :: r ∧ VR μ n h x v ∧ VRs μ n h l r
end
theorem VRs_nilO {μ n h vs} (e : VRs μ n h [] vs) : vs = [] := e
theorem VRs_consO {μ n h x l vs} (e : VRs μ n h (x :: l) vs) : ∃ v r, vs = v :: r ∧ VR μ n h x v ∧ VRs μ n h l r := e
theorem VRs_nil {μ n h} : VRs μ n h [] [] := Eq.refl []
theorem VRs_cons {μ n h x v l vs} (q : VR μ n h x v) (r : VRs μ n h l vs) : VRs μ n h (x :: l) (v :: vs) := Exists.intro v (Exists.intro vs ⟨rfl, q, r⟩)
theorem VRs_one {μ n h x v} (q : VR μ n h x v) : VRs μ n h [x] [v] := VRs_cons q VRs_nil
theorem VR_int {μ k h i t} : VR μ k h (.int i) (.int i t) := Exists.intro t rfl
theorem VR_str {μ k h i t} : VR μ k h (.str i) (.str i t) := Exists.intro t rfl
theorem VR_bool {μ k h b} : VR μ k h (.bool b) (.bool b) := Eq.refl (Value.bool b)
theorem VR_none {μ k h} : VR μ k h .none .none := Eq.refl Value.none
theorem VR_ty {μ k h T} : VR μ k h (.ty T) (.type T) := Eq.refl (Value.type T)
theorem VR_ref {μ k h i a} (hi : i < k) (e : a = μ.a i) : VR μ k h (.ref i) (.ref a) := And.intro hi (congrArg Value.ref e)
theorem VR_tup {μ k h l a items} (t : h.IsTuple a (List.toArray items)) (hv : VRs μ k h l items) : VR μ k h (.tup l) (.ref a) := Exists.intro a (Exists.intro items ⟨rfl, t, hv⟩)
theorem VR_int_of {μ k h i v} (q : VR μ k h (.int i) v) : ∃ t, v = .int i t := q
theorem VR_str_of {μ k h i v} (q : VR μ k h (.str i) v) : ∃ t, v = .str i t := q
theorem VR_bool_of {μ k h i v} (q : VR μ k h (.bool i) v) : v = .bool i := q
theorem VR_none_of {μ k h v} (q : VR μ k h .none v) : v = .none := q
theorem VR_ty_of {μ k h T v} (q : VR μ k h (.ty T) v) : v = .type T := q
theorem VR_ext_of {μ k h a v} (q : VR μ k h (.ext a) v) : v = .ref a := q
theorem VR_ref_of {μ k h i v} (q : VR μ k h (.ref i) v) : i < k ∧ v = .ref (μ.a i) := q
theorem VR_tup_of {μ k h l v} (q : VR μ k h (.tup l) v) : ∃ a items, v = .ref a ∧ h.IsTuple a (List.toArray items) ∧ VRs μ k h l items := q
theorem VRs_length {μ n h} {l : List V} : ∀ {vs : List Value}, VRs μ n h l vs → vs.length = l.length := by
  induction l with
  | nil => exact fun e => congrArg List.length (VRs_nilO e)
  | cons _ l ih =>
    intro vs e
    obtain ⟨v, r, e1, -, h⟩ := VRs_consO e
    rw [e1]; exact congrArg (· + 1) (ih h)
theorem VRs_get {μ n h} {l : List V} : ∀ {vs : List Value}, VRs μ n h l vs → ∀ {i : Nat} {x : V}, l[i]? = some x → ∃ v, vs[i]? = some v ∧ VR μ n h x v := by
  induction l with
  | nil => intro _ _ _ _ q; exact absurd (q.symm.trans List.getElem?_nil) (Option.some_ne_none _)
  | cons y l ih =>
    intro vs e i x q
    obtain ⟨v, r, e1, hv, h⟩ := VRs_consO e
    rw [e1]
    cases i with
    | zero => exact ⟨v, rfl, Option.some.inj q ▸ hv⟩
    | succ i => exact ih h q
theorem VRs_none {μ n h} {l : List V} {vs : List Value} (e : VRs μ n h l vs) {i : Nat} (q : l[i]? = none) : vs[i]? = none := by
  rw [List.getElem?_eq_none_iff] at q ⊢
  rw [VRs_length e]; exact q
theorem VRs_append {μ n h} {l l' : List V} {vs vs' : List Value} (e : VRs μ n h l vs) (e' : VRs μ n h l' vs') : VRs μ n h (l ++ l') (vs ++ vs') := by
  induction l generalizing vs with
  | nil => rw [VRs_nilO e]; exact e'
  | cons _ l ih =>
    obtain ⟨v, r, e1, hv, h⟩ := VRs_consO e
    rw [e1]; exact VRs_cons hv (ih h)
theorem VRs_set {μ n h} {l : List V} {vs : List Value} (e : VRs μ n h l vs) {i : Nat} {x : V} {v : Value} (q : VR μ n h x v) : VRs μ n h (l.set i x) (vs.set i v) := by
  induction l generalizing vs i with
  | nil => rw [VRs_nilO e]; exact VRs_nil
  | cons _ l ih =>
    obtain ⟨v', r, e1, hv, h⟩ := VRs_consO e
    rw [e1]
    cases i with
    | zero => exact VRs_cons q h
    | succ i => exact VRs_cons hv (ih h)
theorem VRs_take {μ n h} {l : List V} : ∀ {vs : List Value}, VRs μ n h l vs → ∀ k, VRs μ n h (l.take k) (vs.take k) := by
  induction l with
  | nil => intro vs e k; rw [VRs_nilO e, List.take_nil, List.take_nil]; exact VRs_nil
  | cons _ l ih =>
    intro vs e k
    obtain ⟨v', r, e1, hv, h⟩ := VRs_consO e
    rw [e1]
    cases k with
    | zero => exact VRs_nil
    | succ k => exact VRs_cons hv (ih h k)
theorem VRs_drop {μ n h} {l : List V} : ∀ {vs : List Value}, VRs μ n h l vs → ∀ k, VRs μ n h (l.drop k) (vs.drop k) := by
  induction l with
  | nil => intro vs e k; rw [VRs_nilO e, List.drop_nil, List.drop_nil]; exact VRs_nil
  | cons _ l ih =>
    intro vs e k
    cases k with
    | zero => exact e
    | succ k =>
      obtain ⟨v', r, e1, hv, h⟩ := VRs_consO e
      rw [e1]; exact ih h k
theorem VRs_reverse {μ n h} {l : List V} : ∀ {vs : List Value}, VRs μ n h l vs → VRs μ n h l.reverse vs.reverse := by
  induction l with
  | nil => intro vs e; rw [VRs_nilO e]; exact VRs_nil
  | cons _ l ih =>
    intro vs e
    obtain ⟨v', r, e1, hv, h⟩ := VRs_consO e
    rw [e1, List.reverse_cons, List.reverse_cons]
    exact VRs_append (ih h) (VRs_one hv)
noncomputable def ER (μ : Mp) (n : Nat) (h : Heap) : List (Str × V) → List DictEntry → Prop
  | [], es => es = []
  | (x, a) :: fs, es => ∃ (e : DictEntry) (r : List DictEntry) (t : Tok), es = e :: r ∧ e.key = .str x t ∧ VR μ n h a e.val ∧ ER μ n h fs r
theorem ER_nilO {μ n h es} (e : ER μ n h [] es) : es = [] := e
theorem ER_consO {μ n h x a fs es} (e : ER μ n h ((x, a) :: fs) es) : ∃ (e : DictEntry) (r : List DictEntry) (t : Tok), es = e :: r ∧ e.key = .str x t ∧ VR μ n h a e.val ∧ ER μ n h fs r := e
theorem ER_nil {μ n h} : ER μ n h [] [] := Eq.refl []
theorem ER_cons {μ n h x a fs e r t} (k : DictEntry.key e = .str x t) (v : VR μ n h a e.val) (q : ER μ n h fs r) : ER μ n h ((x, a) :: fs) (e :: r) := Exists.intro e (Exists.intro r (Exists.intro t ⟨rfl, k, v, q⟩))
noncomputable def OD (μ : Mp) (i : Nat) : AO → Prop
  | .inst .. => True
  | .exc .. => True
  | .excN .. => True
  | _ => μ.d i = μ.a i
theorem OD.of {μ μ' : Mp} {i : Nat} (h1 : μ'.a i = μ.a i) (h2 : μ'.d i = μ.d i) {o : AO} (q : OD μ i o) : OD μ' i o := by
  cases o <;> first | exact q | exact h2.trans (Eq.trans q h1.symm)
noncomputable def OR (B : Bs) (μ : Mp) (n : Nat) (h : Heap) (i : Nat) : AO → Prop
  | .list l => ∃ vs, h.PlainList (μ.a i) (List.toArray vs) ∧ VRs μ n h l vs
  | .dI l => ∃ kvs : List (Int × Value), h.DictOf (intKind B.prog B.w) (μ.a i) kvs ∧ kvs.map (·.1) = l.map (·.1) ∧ VRs μ n h (l.map (·.2)) (kvs.map (·.2))
  | .dF l ep => ∃ kvs : List (Int × Value), h.DictAt (intKind B.prog B.w) (μ.a i) kvs ep ∧ kvs.map (·.1) = l.map (·.1) ∧ VRs μ n h (l.map (·.2)) (kvs.map (·.2))
  | .dS l => ∃ kvs : List (Str × Value), h.DictOf (strKind B.prog B.w) (μ.a i) kvs ∧ kvs.map (·.1) = l.map (·.1) ∧ VRs μ n h (l.map (·.2)) (kvs.map (·.2))
  | .dT l => ∃ kvs : List (List Int × Addr × Value), h.DictOfH (tupleKind (intKind B.prog B.w)) (μ.a i) kvs ∧ kvs.map (·.1) = l.map (·.1) ∧ VRs μ n h (l.map (·.2)) (kvs.map (·.2.2))
  | .set S k => h.SetOf (intKind B.prog B.w) (μ.a i) S k
  | .inst C fs => h.get? (μ.a i) = some (instObj C (μ.d i)) ∧ ∃ es ep, h.get? (μ.d i) = some { cls := .type "dict", data := .dict (List.toArray es) ep } ∧ es.length ≤ 100 ∧ (fs.map (·.1)).Nodup ∧ ER μ n h fs es
  | .exc ball => ∃ o, h.get? (μ.a i) = some o ∧ o.cls = .ref B.excC ∧ o.dict = some (μ.d i) ∧ (∃ vs, o.data = .fields vs) ∧ ∃ t b hs ep, h.get? (μ.d i) = some { cls := .type "dict", data := .dict #[⟨hs, .str "ball" t, b⟩] ep } ∧ VR μ n h ball b
  | .excN ball => ∃ o, h.get? (μ.a i) = some o ∧ o.cls = .ref B.excC ∧ o.dict = some (μ.d i) ∧ (∃ vs, o.data = .fields vs ∧ 2 ≤ vs.size ∧ vs[1]? = some .none) ∧ ∃ t b hs ep, h.get? (μ.d i) = some { cls := .type "dict", data := .dict #[⟨hs, .str "ball" t, b⟩] ep } ∧ VR μ n h ball b
noncomputable def Own (μ : Mp) (n : Nat) (a : Addr) : Prop := ∃ i, i < n ∧ (a = μ.a i ∨ a = μ.d i)
structure Rel (B : Bs) (μ : Mp) (σ : List AO) (h : Heap) : Prop where
  base : ∀ b o, B.h₀.get? b = some o → h.get? b = some o
  above : ∀ i, i < σ.length → B.h₀.get? (μ.a i) = none ∧ B.h₀.get? (μ.d i) = none ∧ sysModules < μ.a i
  inj : ∀ i j, i < σ.length → j < σ.length → i ≠ j → μ.a i ≠ μ.a j ∧ μ.a i ≠ μ.d j ∧ μ.d i ≠ μ.d j
  obj : ∀ i o, σ[i]? = some o → OR B μ σ.length h i o
  one : ∀ i o, σ[i]? = some o → OD μ i o
structure Post (B : Bs) (fr fx : List Addr) (μ : Mp) (σ : List AO) (s : Shared) (μ' : Mp) (σ' : List AO) (s' : Shared) : Prop where
  rel : Rel B μ' σ' s'.heap
  len : σ.length ≤ σ'.length
  agree : ∀ i, i < σ.length → μ'.a i = μ.a i ∧ μ'.d i = μ.d i
  fresh : ∀ i, σ.length ≤ i → i < σ'.length → s.heap.get? (μ'.a i) = none ∧ s.heap.get? (μ'.d i) = none
  ex : ∀ a o, s.heap.get? a = some o → ∃ o', s'.heap.get? a = some o'
  keep : ∀ a o, s.heap.get? a = some o → ¬ Own μ σ.length a → a ∉ fx → (a ∉ fr → s'.heap.get? a = some o) ∧ ∃ sl, s'.heap.get? a = some { o with slots := sl }
  gens : s'.gens = s.gens
  os : s'.os = s.os
  nrec : ∀ a o, s.heap.get? a = some o → ¬ Own μ σ.length a → (∀ vs, o.data ≠ .fields vs) → ∃ o', s'.heap.get? a = some o' ∧ ∀ vs, o'.data ≠ .fields vs
section
variable {B : Bs} {fr fx : List Addr} {μ μ' μ'' : Mp} {σ σ' σ'' : List AO} {s s' s'' : Shared}
theorem Post.refl (R : Rel B μ σ s.heap) : Post B fr fx μ σ s μ σ s :=
  ⟨R, Nat.le_refl _, fun z_ z_ => ⟨rfl, rfl⟩, fun i h1 h2 => absurd h2 (Nat.not_lt.mpr h1), fun a o e => ⟨o, e⟩, fun a o e z_ z_ => ⟨fun z_ => e, o.slots, e⟩, rfl, rfl, fun a o e z_ h => ⟨o, e, h⟩⟩
theorem Post.own_old (P : Post B fr fx μ σ s μ' σ' s') {a : Addr} {o : Obj} (ha : s.heap.get? a = some o) (h : ¬ Own μ σ.length a) : ¬ Own μ' σ'.length a := by
  rintro ⟨i, hi, q⟩
  by_cases hl : i < σ.length
  · obtain ⟨e1, e2⟩ := P.agree i hl
    rw [e1, e2] at q
    exact h ⟨i, hl, q⟩
  · obtain ⟨e1, e2⟩ := P.fresh i (Nat.le_of_not_lt hl) hi
    rcases q with q | q <;> subst q
    · rw [e1] at ha; cases ha
    · rw [e2] at ha; cases ha
theorem Post.trans (P : Post B fr fx μ σ s μ' σ' s') (P' : Post B fr fx μ' σ' s' μ'' σ'' s'') : Post B fr fx μ σ s μ'' σ'' s'' := by
  refine ⟨P'.rel, Nat.le_trans P.len P'.len, fun i hi => ?_, fun i h1 h2 => ?_, fun a o e => ?_, fun a o e hn hx => ?_, P'.gens.trans P.gens, P'.os.trans P.os, fun a o e hn h => let ⟨o', e', h'⟩ := P.nrec a o e hn h; P'.nrec a o' e' (P.own_old e hn) h'⟩
  · obtain ⟨a1, a2⟩ := P.agree i hi
    obtain ⟨b1, b2⟩ := P'.agree i (Nat.lt_of_lt_of_le hi P.len)
    exact ⟨b1.trans a1, b2.trans a2⟩
  · by_cases hl : i < σ'.length
    · obtain ⟨b1, b2⟩ := P'.agree i hl
      rw [b1, b2]
      exact P.fresh i h1 hl
    · obtain ⟨b1, b2⟩ := P'.fresh i (Nat.le_of_not_lt hl) h2
      have no : ∀ a, s'.heap.get? a = none → s.heap.get? a = none := fun a e => by
        cases q : s.heap.get? a with
        | none => rfl
        | some o => obtain ⟨o', e'⟩ := P.ex a o q; rw [e] at e'; cases e'
      exact ⟨no _ b1, no _ b2⟩
  · obtain ⟨o', e'⟩ := P.ex a o e
    exact P'.ex a o' e'
  · obtain ⟨k1, sl, k2⟩ := P.keep a o e hn hx
    have hn' := P.own_old e hn
    refine ⟨fun hf => (P'.keep a o (k1 hf) hn' hx).1 hf, ?_⟩
    obtain ⟨-, sl', k3⟩ := P'.keep a _ k2 hn' hx
    exact ⟨sl', k3⟩
theorem Post.weaken (P : Post B fr [] μ σ s μ' σ' s') : Post B fr fx μ σ s μ' σ' s' :=
  ⟨P.rel, P.len, P.agree, P.fresh, P.ex, fun a o e hn z_ => P.keep a o e hn List.not_mem_nil, P.gens, P.os, P.nrec⟩
theorem IsTuple.at {h : Heap} {a : Addr} {items : Array Value} (t : h.IsTuple a items) : ∃ o, h.get? a = some o ∧ o.cls = .type "tuple" := let ⟨o, e, c, _⟩ := t; ⟨o, e, c⟩
theorem OR.cls {n : Nat} {h : Heap} {i : Nat} {o : AO} (R : OR B μ n h i o) : ∃ x, h.get? (μ.a i) = some x ∧ x.cls ≠ .type "tuple" := by
  cases o with
  | list l => obtain ⟨vs, ⟨x, e⟩, _⟩ := R; exact ⟨_, e, by dsimp only; decide⟩
  | dI l => obtain ⟨vs, ⟨x, _, _, e, c, _⟩, _⟩ := R; exact ⟨x, e, by rw [c.1]; decide⟩
  | dF l ep => obtain ⟨vs, ⟨x, _, e, c, _⟩, _⟩ := R; exact ⟨x, e, by rw [c.1]; decide⟩
  | dS l => obtain ⟨vs, ⟨x, _, _, e, c, _⟩, _⟩ := R; exact ⟨x, e, by rw [c.1]; decide⟩
  | dT l => obtain ⟨vs, ⟨x, _, _, e, c, _⟩, _⟩ := R; exact ⟨x, e, by rw [c.1]; decide⟩
  | set S k => obtain ⟨x, _, _, _, e, c, _⟩ := R; exact ⟨x, e, by rw [c.1]; decide⟩
  | inst C fs => obtain ⟨e, _⟩ := R; exact ⟨_, e, by intro q; cases q⟩
  | exc b => obtain ⟨x, e, c, _⟩ := R; exact ⟨x, e, by rw [c]; intro q; cases q⟩
  | excN b => obtain ⟨x, e, c, _⟩ := R; exact ⟨x, e, by rw [c]; intro q; cases q⟩
theorem OR.dcls {n : Nat} {h : Heap} {i : Nat} {o : AO} (R : OR B μ n h i o) (D : OD μ i o) : ∃ x, h.get? (μ.d i) = some x ∧ x.cls ≠ .type "tuple" := by
  cases o with
  | inst C fs => obtain ⟨_, es, ep, e, _⟩ := R; exact ⟨_, e, by dsimp only; decide⟩
  | exc b => obtain ⟨x, _, _, _, _, _, _, _, _, e, _⟩ := R; exact ⟨_, e, by dsimp only; decide⟩
  | excN b => obtain ⟨x, _, _, _, _, _, _, _, _, e, _⟩ := R; exact ⟨_, e, by dsimp only; decide⟩
  | list l => rw [show μ.d i = μ.a i from D]; exact R.cls
  | dI l => rw [show μ.d i = μ.a i from D]; exact R.cls
  | dF l ep => rw [show μ.d i = μ.a i from D]; exact R.cls
  | dS l => rw [show μ.d i = μ.a i from D]; exact R.cls
  | dT l => rw [show μ.d i = μ.a i from D]; exact R.cls
  | set S k => rw [show μ.d i = μ.a i from D]; exact R.cls
theorem Rel.tuple (R : Rel B μ σ s.heap) {a : Addr} {items : Array Value} (t : s.heap.IsTuple a items) : ¬ Own μ σ.length a := by
  obtain ⟨o, e, c⟩ := IsTuple.at t
  rintro ⟨i, hi, q⟩
  obtain ⟨ao, ho⟩ : ∃ ao, σ[i]? = some ao := ⟨σ[i], List.getElem?_eq_getElem hi⟩
  rcases q with q | q <;> subst q
  · obtain ⟨x, e', n⟩ := (R.obj i ao ho).cls
    rw [e] at e'; cases e'; exact n c
  · obtain ⟨x, e', n⟩ := (R.obj i ao ho).dcls (R.one i ao ho)
    rw [e] at e'; cases e'; exact n c
noncomputable def TK (h h' : Heap) : Prop := ∀ a items, h.IsTuple a items → h'.IsTuple a items
theorem TK.of_keeps {h h' : Heap} (k : ∀ b o, h.get? b = some o → h'.get? b = some o) : TK h h' := fun a _ ⟨o, e, r⟩ => ⟨o, k a o e, r⟩
noncomputable def NT (fx : List Addr) (h : Heap) : Prop := ∀ a, a ∈ fx → ∀ items, ¬ h.IsTuple a items
mutual
theorem VR.keeps {n n' : Nat} {h h' : Heap} (T : TK h h') (hn : n ≤ n') (ha : ∀ j, j < n → μ'.a j = μ.a j) : ∀ {x : V} {v : Value}, VR μ n h x v → VR μ' n' h' x v
  | .none, _, e => e
  | .bool _, _, e => e
  | .int _, _, e => e
  | .str _, _, e => e
  | .tup l, _, e => by
    refine shut fun P_ o_ => ?_
    obtain ⟨a, items, e1, e2, e3⟩ := VR_tup_of e
    refine o_ ?_
    rw [e1]; exact VR_tup (T _ _ e2) (VRs.keeps T hn ha e3)
  | .ref i, v, e => by rw [(VR_ref_of e).2]; exact VR_ref (Nat.lt_of_lt_of_le (VR_ref_of e).1 hn) (ha i (VR_ref_of e).1).symm
  | .ty _, _, e => e
  | .ext _, _, e => e
theorem VRs.keeps {n n' : Nat} {h h' : Heap} (T : TK h h') (hn : n ≤ n') (ha : ∀ j, j < n → μ'.a j = μ.a j) : ∀ {x : List V} {v : List Value}, VRs μ n h x v → VRs μ' n' h' x v
  | [], _, e => VRs_nilO e
  | x :: l, _, e => by
    refine shut fun P_ o_ => ?_
    obtain ⟨v, r, e1, e2, e3⟩ := VRs_consO e
    refine o_ ?_
    rw [e1]; exact VRs_cons (VR.keeps T hn ha e2) (VRs.keeps T hn ha e3)
end
theorem ER.keeps {n n' : Nat} {h h' : Heap} (T : TK h h') (hn : n ≤ n') (ha : ∀ j, j < n → μ'.a j = μ.a j) : ∀ {fs : List (Str × V)} {es : List DictEntry}, ER μ n h fs es → ER μ' n' h' fs es
  | [], _, e => ER_nilO e
  | (x, a) :: l, _, e => by
    refine shut fun P_ o_ => ?_
    obtain ⟨en, r, t, e1, e2, e3, e4⟩ := ER_consO e
    refine o_ ?_
    rw [e1]; exact ER_cons e2 (VR.keeps T hn ha e3) (ER.keeps T hn ha e4)
theorem tkey_keeps {K : Type} [DecidableEq K] {prog : Program} {w : World} {knd : KeyKind prog w K} {h h' : Heap} (T : TK h h') {ks : List K} {a : Addr} (x : IsTupleKey knd h ks a) : IsTupleKey knd h' ks a := by
  refine shut fun P_ o_ => ?_
  obtain ⟨o, items, n, e, c, d, r⟩ := x
  obtain ⟨o', e', c', n', d'⟩ := T a items ⟨o, e, c, n, d⟩
  refine o_ ?_
  exact ⟨o', items, n', e', c', d', r⟩
theorem OR.keeps {n n' : Nat} {h h' : Heap} {i : Nat} {o : AO} (T : TK h h') (hn : n ≤ n') (ha : ∀ j, j < n → μ'.a j = μ.a j) (ei : μ'.a i = μ.a i) (di : μ'.d i = μ.d i)
    (e1 : h'.get? (μ.a i) = h.get? (μ.a i)) (e2 : h'.get? (μ.d i) = h.get? (μ.d i)) (R : OR B μ n h i o) : OR B μ' n' h' i o := by
  cases o with
  | list l =>
    refine shut fun P_ o_ => ?_
    obtain ⟨vs, ⟨x, e⟩, q⟩ := R
    refine o_ ?_
    exact ⟨vs, ⟨x, by simp only [ei, e1]; exact e⟩, VRs.keeps T hn ha q⟩
  | dI l =>
    refine shut fun P_ o_ => ?_
    obtain ⟨kvs, ⟨x, es, ep, e, r⟩, q1, q2⟩ := R
    refine o_ ?_
    exact ⟨kvs, ⟨x, es, ep, by simp only [ei, e1]; exact e, r⟩, q1, VRs.keeps T hn ha q2⟩
  | dF l ep =>
    refine shut fun P_ o_ => ?_
    obtain ⟨kvs, ⟨x, es, e, r⟩, q1, q2⟩ := R
    refine o_ ?_
    exact ⟨kvs, ⟨x, es, by simp only [ei, e1]; exact e, r⟩, q1, VRs.keeps T hn ha q2⟩
  | dS l =>
    refine shut fun P_ o_ => ?_
    obtain ⟨kvs, ⟨x, es, ep, e, r⟩, q1, q2⟩ := R
    refine o_ ?_
    exact ⟨kvs, ⟨x, es, ep, by simp only [ei, e1]; exact e, r⟩, q1, VRs.keeps T hn ha q2⟩
  | dT l =>
    refine shut fun P_ o_ => ?_
    obtain ⟨kvs, ⟨x, es, ep, e, r1, r2, r3, r4, r5⟩, q1, q2⟩ := R
    refine o_ ?_
    exact ⟨kvs, ⟨x, es, ep, by simp only [ei, e1]; exact e, r1, r2, r3, fun y hy => tkey_keeps T (r4 y hy), r5⟩, q1, VRs.keeps T hn ha q2⟩
  | set S k =>
    refine shut fun P_ o_ => ?_
    obtain ⟨x, es, ep, t, e, r⟩ := R
    refine o_ ?_
    exact ⟨x, es, ep, t, by simp only [ei, e1]; exact e, r⟩
  | inst C fs =>
    refine shut fun P_ o_ => ?_
    obtain ⟨e, es, ep, f, l, nd, q⟩ := R
    refine o_ ?_
    exact ⟨by simp only [ei, e1, di]; exact e, es, ep, by simp only [di, e2]; exact f, l, nd, ER.keeps T hn ha q⟩
  | exc ball =>
    refine shut fun P_ o_ => ?_
    obtain ⟨x, e, c, d, v, t, b, hs, ep, f, q⟩ := R
    refine o_ ?_
    exact ⟨x, by simp only [ei, e1]; exact e, c, by simp only [di]; exact d, v, t, b, hs, ep, by simp only [di, e2]; exact f, VR.keeps T hn ha q⟩
  | excN ball =>
    refine shut fun P_ o_ => ?_
    obtain ⟨x, e, c, d, v, t, b, hs, ep, f, q⟩ := R
    refine o_ ?_
    exact ⟨x, by simp only [ei, e1]; exact e, c, by simp only [di]; exact d, v, t, b, hs, ep, by simp only [di, e2]; exact f, VR.keeps T hn ha q⟩
theorem Post.tk (R : Rel B μ σ s.heap) (P : Post B fr fx μ σ s μ' σ' s') (hx : NT fx s.heap) : TK s.heap s'.heap := by
  intro a items t
  obtain ⟨o, e, c, n, hd⟩ := id t
  obtain ⟨-, sl, k⟩ := P.keep a o e (R.tuple t) (fun q => hx a q items t)
  exact ⟨_, k, c, n, hd⟩
theorem VR.post (R : Rel B μ σ s.heap) (P : Post B fr fx μ σ s μ' σ' s') (hx : NT fx s.heap) {x : V} {v : Value} (q : VR μ σ.length s.heap x v) : VR μ' σ'.length s'.heap x v :=
  VR.keeps (P.tk R hx) P.len (fun j hj => (P.agree j hj).1) q
theorem VRs.post (R : Rel B μ σ s.heap) (P : Post B fr fx μ σ s μ' σ' s') (hx : NT fx s.heap) {x : List V} {v : List Value} (q : VRs μ σ.length s.heap x v) : VRs μ' σ'.length s'.heap x v :=
  VRs.keeps (P.tk R hx) P.len (fun j hj => (P.agree j hj).1) q
theorem Rel.owned (R : Rel B μ σ s.heap) {i : Nat} (hi : i < σ.length) : (∃ x, s.heap.get? (μ.a i) = some x) ∧ (∃ x, s.heap.get? (μ.d i) = some x) := by
  obtain ⟨x, e, _⟩ := (R.obj i σ[i] (List.getElem?_eq_getElem hi)).cls
  obtain ⟨y, f, _⟩ := (R.obj i σ[i] (List.getElem?_eq_getElem hi)).dcls (R.one i _ (List.getElem?_eq_getElem hi))
  exact ⟨⟨x, e⟩, ⟨y, f⟩⟩
theorem Post.grow {s' : Shared} (R : Rel B μ σ s.heap) (k : ∀ b o, s.heap.get? b = some o → s'.heap.get? b = some o) (hg : s'.gens = s.gens := by rfl) (ho : s'.os = s.os := by rfl) :
    Post B fr fx μ σ s μ σ s' := by
  refine ⟨⟨fun b o e => k _ _ (R.base b o e), R.above, R.inj, fun i o e => ?_, R.one⟩, Nat.le_refl _, fun z_ z_ => ⟨rfl, rfl⟩, fun i h1 h2 => absurd h2 (Nat.not_lt.mpr h1), fun a o e => ⟨o, k _ _ e⟩, fun a o e z_ z_ => ⟨fun z_ => k _ _ e, o.slots, k _ _ e⟩, hg, ho, fun a o e z_ h => ⟨o, k _ _ e, h⟩⟩
  have hi : i < σ.length := by
    rcases Nat.lt_or_ge i σ.length with h | h
    · exact h
    · rw [List.getElem?_eq_none h] at e; cases e
  obtain ⟨⟨x, ex⟩, ⟨y, ey⟩⟩ := R.owned hi
  exact OR.keeps (TK.of_keeps k) (Nat.le_refl _) (fun z_ z_ => rfl) rfl rfl (by simp only [ex]; exact k _ _ ex) (by simp only [ey]; exact k _ _ ey) (R.obj i o e)
theorem Post.push (R : Rel B μ σ s.heap) (o : Obj) (t : Nat) : Post B fr fx μ σ s μ σ { s with heap := s.heap.push o, toks := t } :=
  Post.grow R (fun z_ z_ e => Heap.get?_push_of_some _ e)
theorem Post.tok (R : Rel B μ σ s.heap) (t : Nat) : Post B fr fx μ σ s μ σ { s with toks := t } := Post.grow R (fun z_ z_ e => e)
theorem Post.alloc {ao : AO} {x y : Addr} (R : Rel B μ σ s.heap) (k : ∀ b o, s.heap.get? b = some o → s'.heap.get? b = some o)
    (hx : s.heap.objs.size ≤ x) (hy : s.heap.objs.size ≤ y) (hor : OR B (μ.ext σ.length x y) (σ.length + 1) s'.heap σ.length ao) (hod : OD (μ.ext σ.length x y) σ.length ao)
    (hg : s'.gens = s.gens := by rfl) (ho : s'.os = s.os := by rfl) :
    Post B fr fx μ σ s (μ.ext σ.length x y) (σ ++ [ao]) s' := by
  have ne : ∀ i, i < σ.length → (μ.ext σ.length x y).a i = μ.a i ∧ (μ.ext σ.length x y).d i = μ.d i := fun i hi => ⟨if_neg (Nat.ne_of_lt hi), if_neg (Nat.ne_of_lt hi)⟩
  have at_ : (μ.ext σ.length x y).a σ.length = x ∧ (μ.ext σ.length x y).d σ.length = y := ⟨if_pos rfl, if_pos rfl⟩
  have lt_a : ∀ i, i < σ.length → μ.a i < s.heap.objs.size ∧ μ.d i < s.heap.objs.size := fun i hi => by
    refine shut fun P_ o_ => ?_
    obtain ⟨⟨x, ex⟩, ⟨y, ey⟩⟩ := R.owned hi
    refine o_ ?_
    exact ⟨Heap.lt_size ex, Heap.lt_size ey⟩
  have cs : ∀ i, i < (σ ++ [ao]).length → i < σ.length ∨ i = σ.length := fun i hi => by
    rw [List.length_append, List.length_cons, List.length_nil] at hi
    lia -abstractProof
  refine ⟨⟨fun b o e => k _ _ (R.base b o e), fun i hi => ?_, fun i j hi hj hij => ?_, fun i o e => ?_, fun i o e => ?_⟩, by simp, ne, fun i h1 h2 => ?_, fun a o e => ⟨o, k _ _ e⟩, fun a o e z_ z_ => ⟨fun z_ => k _ _ e, o.slots, k _ _ e⟩, hg, ho, fun a o e z_ h => ⟨o, k _ _ e, h⟩⟩
  · rcases cs i hi with h | rfl
    · rw [(ne i h).1, (ne i h).2]; exact R.above i h
    · rw [at_.1, at_.2]
      have no : ∀ a, s.heap.objs.size ≤ a → B.h₀.get? a = none := fun a ha => by
        cases q : B.h₀.get? a with
        | none => rfl
        | some o => exact absurd (Heap.lt_size (R.base a o q)) (Nat.not_lt.mpr ha)
      refine ⟨no x hx, no y hy, Nat.lt_of_lt_of_le ?_ hx⟩
      obtain ⟨o, es, ep, e, _⟩ := B.g
      exact Nat.lt_trans (show sysModules < mainGlobals by decide) (Heap.lt_size (R.base _ _ e))
  · rcases cs i hi with h | rfl <;> rcases cs j hj with h' | h'
    · simp only [(ne i h).1, (ne i h).2, (ne j h').1, (ne j h').2]; exact R.inj i j h h' hij
    · subst h'
      simp only [(ne i h).1, (ne i h).2, at_.1, at_.2]
      have l := lt_a i h
      exact ⟨Nat.ne_of_lt (Nat.lt_of_lt_of_le l.1 hx), Nat.ne_of_lt (Nat.lt_of_lt_of_le l.1 hy), Nat.ne_of_lt (Nat.lt_of_lt_of_le l.2 hy)⟩
    · simp only [(ne j h').1, (ne j h').2, at_.1, at_.2]
      have l := lt_a j h'
      exact ⟨Nat.ne_of_gt (Nat.lt_of_lt_of_le l.1 hx), Nat.ne_of_gt (Nat.lt_of_lt_of_le l.2 hx), Nat.ne_of_gt (Nat.lt_of_lt_of_le l.2 hy)⟩
    · exact absurd h'.symm hij
  · have hi : i < (σ ++ [ao]).length := by
      rcases Nat.lt_or_ge i (σ ++ [ao]).length with h | h
      · exact h
      · rw [List.getElem?_eq_none h] at e; cases e
    simp only [List.length_append, List.length_cons, List.length_nil]
    rcases cs i hi with h | rfl
    · rw [List.getElem?_append_left h] at e
      obtain ⟨⟨x, ex⟩, ⟨y, ey⟩⟩ := R.owned h
      exact OR.keeps (TK.of_keeps k) (Nat.le_succ _) (fun j hj => (ne j hj).1) (ne i h).1 (ne i h).2 (by simp only [ex]; exact k _ _ ex) (by simp only [ey]; exact k _ _ ey) (R.obj i o e)
    · rw [List.getElem?_append_right (Nat.le_refl _), Nat.sub_self] at e
      cases e; exact hor
  · have hi : i < (σ ++ [ao]).length := by
      rcases Nat.lt_or_ge i (σ ++ [ao]).length with h | h
      · exact h
      · rw [List.getElem?_eq_none h] at e; cases e
    rcases cs i hi with h | rfl
    · rw [List.getElem?_append_left h] at e
      exact OD.of (ne i h).1 (ne i h).2 (R.one i o e)
    · rw [List.getElem?_append_right (Nat.le_refl _), Nat.sub_self] at e
      cases e; exact hod
  · have : i = σ.length := by rcases cs i h2 with h | h <;> lia -abstractProof
    subst this
    rw [at_.1, at_.2]; exact ⟨Heap.get?_none_of_le hx, Heap.get?_none_of_le hy⟩
theorem Post.upd {ao ao' : AO} {i : Nat} (R : Rel B μ σ s.heap) (hi : σ[i]? = some ao) (hs : ∀ b, b ≠ μ.a i → b ≠ μ.d i → s'.heap.get? b = s.heap.get? b)
    (hor : OR B μ σ.length s'.heap i ao') (hod : OD μ i ao') (hex : ∀ b o, s.heap.get? b = some o → ∃ o', s'.heap.get? b = some o') (hg : s'.gens = s.gens := by rfl) (ho : s'.os = s.os := by rfl) : Post B fr fx μ σ s μ (σ.set i ao') s' := by
  have hlt : i < σ.length := by
    rcases Nat.lt_or_ge i σ.length with h | h
    · exact h
    · rw [List.getElem?_eq_none h] at hi; cases hi
  have tk : TK s.heap s'.heap := by
    intro a items t
    obtain ⟨o, e, c, r⟩ := id t
    have h1 : a ≠ μ.a i := fun q => by
      subst q
      refine shut fun P_ o_ => ?_
      obtain ⟨x, e', n⟩ := (R.obj i ao hi).cls
      refine o_ ?_
      rw [e] at e'; cases e'; exact n c
    have h2 : a ≠ μ.d i := fun q => by
      subst q
      obtain ⟨x, e', n⟩ := (R.obj i ao hi).dcls (R.one i ao hi)
      rw [e] at e'; cases e'; exact n c
    exact ⟨o, (hs a h1 h2).trans e, c, r⟩
  refine ⟨⟨fun b o e => ?_, fun j hj => R.above j (by simpa using hj), fun j k hj hk => R.inj j k (by simpa using hj) (by simpa using hk), fun j o e => ?_, fun j o e => ?_⟩, by simp, fun z_ z_ => ⟨rfl, rfl⟩, fun j h1 h2 => absurd (by simpa using h2) (Nat.not_lt.mpr h1), fun a o e => ?_, fun a o e hn z_ => ?_, hg, ho, fun a o e hn h => ⟨o, (hs a (fun q => hn ⟨i, hlt, .inl q⟩) (fun q => hn ⟨i, hlt, .inr q⟩)).trans e, h⟩⟩
  · have := R.above i hlt
    exact (hs b (fun q => by rw [q, this.1] at e; cases e) (fun q => by rw [q, this.2.1] at e; cases e)).trans (R.base b o e)
  · rw [List.length_set]
    by_cases hj : i = j
    · subst hj
      rw [List.getElem?_set_self hlt] at e
      cases e; exact hor
    · rw [List.getElem?_set_ne hj] at e
      have hjl : j < σ.length := by
        rcases Nat.lt_or_ge j σ.length with h | h
        · exact h
        · rw [List.getElem?_eq_none h] at e; cases e
      have n1 := R.inj j i hjl hlt (Ne.symm hj)
      have n2 := R.inj i j hlt hjl hj
      exact OR.keeps tk (Nat.le_refl _) (fun z_ z_ => rfl) rfl rfl (hs _ n1.1 n1.2.1) (hs _ (Ne.symm n2.2.1) n1.2.2) (R.obj j o e)
  · by_cases hj : i = j
    · subst hj
      rw [List.getElem?_set_self hlt] at e
      cases e; exact hod
    · rw [List.getElem?_set_ne hj] at e
      exact R.one j o e
  · exact hex a o e
  · have := (hs a (fun q => hn ⟨i, hlt, .inl q⟩) (fun q => hn ⟨i, hlt, .inr q⟩)).trans e
    exact ⟨fun z_ => this, o.slots, this⟩
theorem Post.own {L : Addr} (R : Rel B μ σ s.heap) (hL : L ∈ fx) (hn : ¬ Own μ σ.length L) (hl : B.h₀.get? L = none) (hc : ∀ items, ¬ s.heap.IsTuple L items) (hs : Heap.SameBut L s.heap s'.heap) (hex : ∃ o, s'.heap.get? L = some o ∧ ∀ vs, o.data ≠ .fields vs)
    (hg : s'.gens = s.gens := by rfl) (ho : s'.os = s.os := by rfl) : Post B fr fx μ σ s μ σ s' := by
  have tk : TK s.heap s'.heap := fun a items ⟨o, e, r⟩ => ⟨o, (hs.2 a (fun q => by subst q; exact hc items ⟨o, e, r⟩)).trans e, r⟩
  refine ⟨⟨fun b o e => ?_, R.above, R.inj, fun i o e => ?_, R.one⟩, Nat.le_refl _, fun z_ z_ => ⟨rfl, rfl⟩, fun i h1 h2 => absurd h2 (Nat.not_lt.mpr h1), fun a o e => ?_, fun a o e z_ hx => ?_, hg, ho, fun a o e z_ h => ?_⟩
  · exact (hs.2 b (fun q => by rw [q, hl] at e; cases e)).trans (R.base b o e)
  · have hi : i < σ.length := by
      rcases Nat.lt_or_ge i σ.length with h | h
      · exact h
      · rw [List.getElem?_eq_none h] at e; cases e
    exact OR.keeps tk (Nat.le_refl _) (fun z_ z_ => rfl) rfl rfl (hs.2 _ fun q => hn ⟨i, hi, .inl q.symm⟩) (hs.2 _ fun q => hn ⟨i, hi, .inr q.symm⟩) (R.obj i o e)
  · by_cases q : a = L
    · rw [q]; exact let ⟨o, e, _⟩ := hex; ⟨o, e⟩
    · exact ⟨o, (hs.2 a q).trans e⟩
  · have := (hs.2 a (fun q => hx (by rw [q]; exact hL))).trans e
    exact ⟨fun z_ => this, o.slots, this⟩
  · by_cases q : a = L
    · rw [q]; exact hex
    · exact ⟨o, (hs.2 a q).trans e, h⟩
end
noncomputable def frs (A : Around) : List Addr := (A.frames.getD []).filterMap (·.frame)
noncomputable def Tr (B : Bs) (h₀ : Heap) (μ : Mp) (n : Nat) (h : Heap) (e : Addr) : Prop :=
  ∃ o vs T oT ts fl, h.get? e = some o ∧ o.data = .fields vs ∧ 2 ≤ vs.size ∧ vs[1]? = some (.ref T) ∧ T ≠ e ∧ h.get? T = some oT ∧ oT.data = .fields ts ∧ ts[3]? = some fl ∧ ¬ Own μ n T ∧ h₀.get? T = none
noncomputable def Fly (B : Bs) (h₀ : Heap) (μ : Mp) (n : Nat) (h : Heap) (e : Addr) : Prop :=
  (∃ o vs, h.get? e = some o ∧ o.data = .fields vs ∧ 2 ≤ vs.size ∧ vs[1]? = some .none) ∨ Tr B h₀ μ n h e
inductive QE (B : Bs) (fr fx : List Addr) (μ : Mp) (σ : List AO) (s : Shared) (X : V → List AO → Prop) (e : Value) (s' : Shared) : Prop
  | mk (i : Nat) (ball : V) (μ' : Mp) (σ' : List AO) (a : e = .ref (μ'.a i)) (b : σ'[i]? = some (.exc ball)) (P : Post B fr fx μ σ s μ' σ' s') (f : Fly B s.heap μ' σ'.length s'.heap (μ'.a i)) (x : X ball σ')
inductive Wq {α : Type} (B : Bs) (fr fx : List Addr) (μ : Mp) (σ : List AO) (s : Shared) (R : α → Mp → List AO → Shared → Prop) (v : α) (s' : Shared) : Prop
  | mk (μ' : Mp) (σ' : List AO) (P : Post B fr fx μ σ s μ' σ' s') (r : R v μ' σ' s')
inductive EVq (Q : V → List AO → Prop) (v : Value) (μ' : Mp) (σ' : List AO) (s' : Shared) : Prop
  | mk (a : V) (h : VR μ' σ'.length s'.heap a v) (q : Q a σ')
noncomputable def W {α : Type} (B : Bs) (X : V → List AO → Prop) (A : Around) (fx : List Addr) (μ : Mp) (σ : List AO) (s : Shared) (t : Sem α) (R : α → Mp → List AO → Shared → Prop) : Prop :=
  wpAny (model B.prog B.w) A t (Wq B (frs A) fx μ σ s R) (QE B (frs A) fx μ σ s X) s
section
variable {α β : Type} {B : Bs} {X : V → List AO → Prop} {A : Around} {fx : List Addr} {μ μ' : Mp} {σ σ' : List AO} {s s' : Shared} {t : Sem α} {R R' : α → Mp → List AO → Shared → Prop}
theorem Fly.older {h₀ h₁ h : Heap} {n : Nat} {e : Addr} (x : Fly B h₁ μ n h e) (k : ∀ a, h₁.get? a = none → h₀.get? a = none) : Fly B h₀ μ n h e := by
  rcases x with x | ⟨o, vs, T, oT, ts, fl, a1, a2, a3, a4, a5, a6, a7, a8, a9, a10⟩
  · exact .inl x
  · exact .inr ⟨o, vs, T, oT, ts, fl, a1, a2, a3, a4, a5, a6, a7, a8, a9, k T a10⟩
theorem Post.back {fr : List Addr} (P : Post B fr fx μ σ s μ' σ' s') {a : Addr} (e : s'.heap.get? a = none) : s.heap.get? a = none := by
  cases q : s.heap.get? a with
  | none => rfl
  | some o => obtain ⟨o', e'⟩ := P.ex a o q; rw [e] at e'; cases e'
theorem QE.trans {fr : List Addr} {e : Value} {s'' : Shared} (P : Post B fr fx μ σ s μ' σ' s') (h : QE B fr fx μ' σ' s' X e s'') : QE B fr fx μ σ s X e s'' := by
  obtain ⟨i, b, μ₁, σ₁, e1, e2, e3, e4, e5⟩ := h
  exact ⟨i, b, μ₁, σ₁, e1, e2, P.trans e3, e4.older fun z_ z => P.back z, e5⟩
theorem QE.weaken {fr : List Addr} {e : Value} {s'' : Shared} (h : QE B fr [] μ σ s X e s'') : QE B fr fx μ σ s X e s'' := by
  obtain ⟨i, b, μ₁, σ₁, e1, e2, e3, e4, e5⟩ := h
  exact ⟨i, b, μ₁, σ₁, e1, e2, e3.weaken, e4, e5⟩
theorem W.mono (h : W B X A fx μ σ s t R) (hR : ∀ v μ' σ' s', Post B (frs A) fx μ σ s μ' σ' s' → R v μ' σ' s' → R' v μ' σ' s') : W B X A fx μ σ s t R' :=
  wpAny_mono h (fun v s' ⟨μ', σ', p, r⟩ => ⟨μ', σ', p, hR v μ' σ' s' p r⟩) fun z_ z_ x => x
theorem W.from {R : α → Mp → List AO → Shared → Prop} (P : Post B (frs A) fx μ σ s μ' σ' s') (h : W B X A fx μ' σ' s' t R) : wpAny (model B.prog B.w) A t (Wq B (frs A) fx μ σ s R) (QE B (frs A) fx μ σ s X) s' :=
  wpAny_mono h (fun _ _ ⟨μ', σ', p, r⟩ => ⟨μ', σ', P.trans p, r⟩) fun z_ z_ x => x.trans P
theorem W.bind {k : α → Sem β} {R : β → Mp → List AO → Shared → Prop} (h : W B X A fx μ σ s t (fun v μ₁ σ₁ s₁ => W B X A fx μ₁ σ₁ s₁ (k v) R)) : W B X A fx μ σ s (t >>= k) R :=
  wpAny_bind (wpAny_mono h (fun _ _ ⟨_, _, p, r⟩ => W.from p r) fun z_ z_ x => x)
theorem W.weaken (h : W B X A [] μ σ s t R) : W B X A fx μ σ s t R :=
  wpAny_mono h (fun v s' ⟨μ', σ', p, r⟩ => ⟨μ', σ', p.weaken, r⟩) fun z_ z_ x => x.weaken
theorem W.pure {v : α} (Rl : Rel B μ σ s.heap) (h : R v μ σ s) : W B X A fx μ σ s (pure v) R := wpAny_pure ⟨μ, σ, Post.refl Rl, h⟩
theorem W.holding {vs : List Value} (h : W B X A fx μ σ s t R) : W B X A fx μ σ s (holding vs t) R := wpAny_holding h
theorem W.standAt {p : Pos} {k : Unit → Sem β} {R : β → Mp → List AO → Shared → Prop} (h : W B X A fx μ σ s (k ()) R) : W B X A fx μ σ s (standAt p >>= k) R := wpAny_bind (wpAny_standAt h)
end
noncomputable def Slot (μ : Mp) (n : Nat) (h : Heap) (env : Env) (f : Str → Option Value) (x : Str) (o : Option V) : Prop :=
  (env.kindOf x = some .local ∧ ∀ v, o = some v → ∃ val, f x = some val ∧ VR μ n h v val) ∨
  ((env.kindOf x = some .cell ∨ env.kindOf x = some .free) ∧ ∃ c w, env.cells.lookup x = some c ∧ h.IsCell c w ∧ ∀ v, o = some v → ∃ val, w = some val ∧ VR μ n h v val)
noncomputable abbrev Loc := List (Str × Option V)
noncomputable def nthL {α : Type} : List α → Nat → Option α
  | [], _ => none
  | a :: _, 0 => some a
  | _ :: l, k + 1 => nthL l k
theorem subN {α : Type} {m : List α} : ∀ p, p ∈ ([] : List α) → p ∈ m := nofun
theorem subC {α : Type} {m l : List α} {a : α} (h : a ∈ m) (t : ∀ p, p ∈ l → p ∈ m) : ∀ p, p ∈ a :: l → p ∈ m := fun z_ hp => (List.mem_cons.mp hp).elim (fun e => e ▸ h) (t _)
theorem mI {α : Type} : ∀ {l : List α} {p : α} (k : Nat), nthL l k = some p → p ∈ l
  | _ :: _, _, 0, h => Option.some.inj h ▸ .head _
  | _ :: _, _, k + 1, h => .tail _ (mI k h)
noncomputable def setL : Loc → Nat → V → Loc
  | [], _, _ => []
  | p :: r, 0, v => (p.1, some v) :: r
  | p :: r, k + 1, v => p :: setL r k v
set_option genInjectivity false in
structure Gs where
  g : List Str
  c : List Str
  l : List Str := []
structure Ok (B : Bs) (n : Nat) (G : Gs) (A : Around) (env : Env) (fx : List Addr) (m : Loc) (μ : Mp) (σ : List AO) (s : Shared) : Prop where
  rel : Rel B μ σ s.heap
  room : A.depth + 2 * n ≤ 980
  units : A.units + 12 * n ≤ 9000
  hnd : A.handled = none
  frames : ∃ f outer, A.frames = some (f :: outer) ∧ f.frame = env.frame ∧ s.heap.FunFrames B.h₀ (f :: outer)
  kind : env.scope.kind = .function
  glob : env.globals = mainGlobals
  blt : env.builtins = builtinsNs
  fxl : env.locals ∈ fx
  fxo : ∀ a, a ∈ fx → ¬ Own μ σ.length a ∧ B.h₀.get? a = none ∧ ∃ o, s.heap.get? a = some o ∧ (∀ items k, o.data ≠ .seq items k) ∧ ∀ vs, o.data ≠ .fields vs
  cel : ∀ x c, env.cells.lookup x = some c → ¬ Own μ σ.length c ∧ B.h₀.get? c = none ∧ (env.func.isSome = true → env.kindOf x = some .cell → c ∈ fx) ∧ ∃ w, s.heap.IsCell c w
  celI : ∀ x y c, env.cells.lookup x = some c → env.cells.lookup y = some c → x = y
  slots : ∃ f, s.heap.Ns env.locals f ∧ ∀ x o, (x, o) ∈ m → Slot μ σ.length s.heap env f x o
  nod : (m.map (·.1)).Nodup
  frn : ∀ a, a ∈ frs A → ¬ Own μ σ.length a
  nf : env.func.isSome = true → ∀ x, env.kindOf x ≠ some .free
  gk : ∀ x, x ∈ G.g → env.kindOf x = some .globalImplicit ∧ (x == ("__debug__" : Str)) = false
  ck : ∀ x, x ∈ G.c → env.kindOf x = some .cell ∧ ∃ c, env.cells.lookup x = some c
  lk : ∀ x, x ∈ G.l → env.kindOf x = some .local
  dbg : ∀ p, p ∈ m → (p.1 == ("__debug__" : Str)) = false ∧ (p.1 == ("__classdict__" : Str)) = false
section
variable {G : Gs} {α β : Type} {B : Bs} {X : V → List AO → Prop} {A : Around} {fx : List Addr} {μ μ' : Mp} {σ σ' : List AO} {s s' : Shared} {n : Nat} {env : Env} {m : Loc}
theorem Ok.nt (O : Ok B n G A env fx m μ σ s) : NT fx s.heap := fun a ha items ⟨o, e, _, k, hd⟩ => by
  obtain ⟨-, -, o', e', h, _⟩ := O.fxo a ha
  rw [e] at e'; cases e'
  exact h _ _ hd
theorem nt_nil {h : Heap} : NT [] h := fun a ha => by simp at ha
theorem Ok.vr (O : Ok B n G A env fx m μ σ s) (P : Post B (frs A) fx μ σ s μ' σ' s') {x : V} {v : Value} (h : VR μ σ.length s.heap x v) : VR μ' σ'.length s'.heap x v := VR.post O.rel P O.nt h
theorem Ok.vrs (O : Ok B n G A env fx m μ σ s) (P : Post B (frs A) fx μ σ s μ' σ' s') {x : List V} {v : List Value} (h : VRs μ σ.length s.heap x v) : VRs μ' σ'.length s'.heap x v := VRs.post O.rel P O.nt h
theorem funFrames_post {fr : List Addr} {l : List Env} (hf : s.heap.FunFrames B.h₀ l) (P : Post B fr [] μ σ s μ' σ' s') (hn : ∀ a ∈ l.filterMap (·.frame), ¬ Own μ σ.length a) : s'.heap.FunFrames B.h₀ l := by
  induction l with
  | nil => trivial
  | cons f l ih =>
    refine shut fun P_ o_ => ?_
    obtain ⟨hk, ⟨L, o, hL, hb, ho, hd⟩, hr⟩ := hf
    refine o_ ?_
    rw [List.filterMap_cons, hL] at hn
    obtain ⟨-, sl, k⟩ := P.keep L o ho (hn L (.head _)) List.not_mem_nil
    exact ⟨hk, ⟨L, _, hL, hb, k, hd⟩, ih hr (fun a ha => hn a (.tail _ ha))⟩
theorem ns_post {fr : List Addr} {L : Addr} {f : Str → Option Value} (P : Post B fr [] μ σ s μ' σ' s') (hn : ¬ Own μ σ.length L) (h : s.heap.Ns L f) : s'.heap.Ns L f := by
  obtain ⟨o, es, ep, e, r⟩ := h
  obtain ⟨-, sl, k⟩ := P.keep L o e hn List.not_mem_nil
  exact ⟨_, es, ep, k, r⟩
theorem cell_post {fr : List Addr} {c : Addr} {w : Option Value} (P : Post B fr [] μ σ s μ' σ' s') (hn : ¬ Own μ σ.length c) (h : s.heap.IsCell c w) : s'.heap.IsCell c w := by
  obtain ⟨o, e, r⟩ := h
  obtain ⟨-, sl, k⟩ := P.keep c o e hn List.not_mem_nil
  exact ⟨_, k, r⟩
theorem Slot.post {fr : List Addr} {f : Str → Option Value} {x : Str} {o : Option V} (R : Rel B μ σ s.heap) (P : Post B fr [] μ σ s μ' σ' s') (hc : ∀ x c, env.cells.lookup x = some c → ¬ Own μ σ.length c) (h : Slot μ σ.length s.heap env f x o) : Slot μ' σ'.length s'.heap env f x o := by
  rcases h with ⟨k, h⟩ | ⟨k, c, w, hl, hw, h⟩
  · exact .inl ⟨k, fun v e => let ⟨val, a, b⟩ := h v e; ⟨val, a, VR.post R P nt_nil b⟩⟩
  · exact .inr ⟨k, c, w, hl, cell_post P (hc x c hl) hw, fun v e => let ⟨val, a, b⟩ := h v e; ⟨val, a, VR.post R P nt_nil b⟩⟩
theorem Ok.next (O : Ok B n G A env fx m μ σ s) (P : Post B (frs A) [] μ σ s μ' σ' s') : Ok B n G A env fx m μ' σ' s' where
  rel := P.rel
  room := O.room
  units := O.units
  hnd := O.hnd
  frames := by
    refine shut fun P_ o_ => ?_
    obtain ⟨f, outer, e1, e2, e3⟩ := O.frames
    refine o_ ?_
    exact ⟨f, outer, e1, e2, funFrames_post e3 P fun a ha => O.frn a (by rw [frs, e1]; exact ha)⟩
  kind := O.kind
  glob := O.glob
  blt := O.blt
  fxl := O.fxl
  fxo := fun a ha => by
    refine shut fun P_ o_ => ?_
    obtain ⟨h1, h2, o, h3, h4⟩ := O.fxo a ha
    obtain ⟨-, sl, k⟩ := P.keep a o h3 h1 List.not_mem_nil
    refine o_ ?_
    exact ⟨P.own_old h3 h1, h2, _, k, h4⟩
  cel := fun x c hc => by
    refine shut fun P_ o_ => ?_
    obtain ⟨h1, h2, h3, w, h4⟩ := O.cel x c hc
    refine o_ ?_
    have h4' := h4
    obtain ⟨o, e, _⟩ := h4'
    exact ⟨P.own_old e h1, h2, h3, w, cell_post P h1 h4⟩
  celI := O.celI
  slots := by
    obtain ⟨f, h1, h2⟩ := O.slots
    exact ⟨f, ns_post P (O.fxo _ O.fxl).1 h1, fun x o hx => (h2 x o hx).post O.rel P fun x c hc => (O.cel x c hc).1⟩
  nod := O.nod
  frn := fun a ha => by
    obtain ⟨f, outer, e1, e2, e3⟩ := O.frames
    have hm : a ∈ (f :: outer).filterMap (·.frame) := by rw [frs, e1] at ha; exact ha
    refine shut fun P_ o_ => ?_
    obtain ⟨_, o, ho, _⟩ := e3.mem hm
    refine o_ ?_
    exact P.own_old ho (O.frn a ha)
  nf := O.nf
  gk := O.gk
  ck := O.ck
  lk := O.lk
  dbg := O.dbg
end
noncomputable def EV (B : Bs) (n : Nat) (X : V → List AO → Prop) (G : Gs) (m : Loc) (σ : List AO) (e : Expr) (Q : V → List AO → Prop) : Prop :=
  ∀ A env fx μ s, Ok B n G A env fx m μ σ s → W B X A [] μ σ s (eval e env) (EVq Q)
set_option genInjectivity false in
inductive AF where
  | nxt | brk | cnt
  | ret (v : V)
noncomputable def FR (μ : Mp) (n : Nat) (h : Heap) : Flow → AF → Prop
  | .next, .nxt => True
  | .brk, .brk => True
  | .cont, .cnt => True
  | .ret v, .ret a => VR μ n h a v
  | _, _ => False
inductive EXq (B : Bs) (n : Nat) (G : Gs) (A : Around) (env : Env) (fx : List Addr) (Q : AF → Loc → List AO → Prop) (fl : Flow) (μ' : Mp) (σ' : List AO) (s' : Shared) : Prop
  | mk (af : AF) (m' : Loc) (h : FR μ' σ'.length s'.heap fl af) (O : Ok B n G A env fx m' μ' σ' s') (q : Q af m' σ')
noncomputable def EX (B : Bs) (n : Nat) (X : V → List AO → Prop) (G : Gs) (m : Loc) (σ : List AO) (st : Stmt) (Q : AF → Loc → List AO → Prop) : Prop :=
  ∀ A env fx μ s, env.func.isSome = true → Ok B n G A env fx m μ σ s → W B X A fx μ σ s (exec st env) (EXq B n G A env fx Q)
noncomputable def EXs (B : Bs) (n : Nat) (X : V → List AO → Prop) (G : Gs) (m : Loc) (σ : List AO) (st : List Stmt) (Q : AF → Loc → List AO → Prop) : Prop :=
  ∀ A env fx μ s, env.func.isSome = true → Ok B n G A env fx m μ σ s → W B X A fx μ σ s (execs st env) (EXq B n G A env fx Q)
noncomputable abbrev TEq (Q : Bool → List AO → Prop) : Bool → Mp → List AO → Shared → Prop := fun b z_ σ' z_ => Q b σ'
noncomputable def TE (B : Bs) (n : Nat) (X : V → List AO → Prop) (G : Gs) (m : Loc) (σ : List AO) (e : Expr) (Q : Bool → List AO → Prop) : Prop :=
  ∀ A env fx μ s, Ok B n G A env fx m μ σ s → W B X A [] μ σ s (isTrue e env (eval e env)) (TEq Q)
structure OkC (B : Bs) (n : Nat) (A : Around) (μ : Mp) (σ : List AO) (s : Shared) : Prop where
  rel : Rel B μ σ s.heap
  room : A.depth + 2 * n ≤ 980
  units : A.units + 12 * n ≤ 9000
  hnd : A.handled = none
  frames : ∃ outer, A.frames = some outer ∧ s.heap.FunFrames B.h₀ outer
  frn : ∀ a, a ∈ frs A → ¬ Own μ σ.length a
noncomputable def CA (B : Bs) (n : Nat) (X : V → List AO → Prop) (f : Value) (args : List V) (σ : List AO) (Q : V → List AO → Prop) : Prop :=
  ∀ A μ s vals, OkC B n A μ σ s → VRs μ σ.length s.heap args vals → codeAny (model B.prog B.w) A (.call f ⟨vals, []⟩)
    (fun r s' => match r with
      | .ok (.ret v) => Wq B (frs A) [] μ σ s (EVq Q) v s'
      | .ok _ => False
      | .error e => QE B (frs A) [] μ σ s X e s') s
noncomputable abbrev K2 (B : Bs) (n : Nat) (X : V → List AO → Prop) (G : Gs) (m : Loc) (r : Expr) (J : V → V → List AO → Prop) : V → List AO → Prop := fun a σ₁ => EV B n X G m σ₁ r (J a)
noncomputable abbrev K3 (B : Bs) (n : Nat) (X : V → List AO → Prop) (G : Gs) (m : Loc) (r : Expr) (J : V → V → V → List AO → Prop) : V → V → List AO → Prop := fun a b σ₁ => EV B n X G m σ₁ r (J a b)
inductive BQ (Q : Bool → List AO → Prop) (c : V) (σ' : List AO) : Prop
  | mk (b : Bool) (e : c = .bool b) (q : Q b σ')
structure IfS (B : Bs) (n : Nat) (X : V → List AO → Prop) (G : Gs) (m : Loc) (body orelse : List Stmt) (Q : AF → Loc → List AO → Prop) (b : Bool) (σ₁ : List AO) : Prop where
  t : b = true → EXs B n X G m σ₁ body Q
  f : b = false → EXs B n X G m σ₁ orelse Q
structure IfE (B : Bs) (n : Nat) (X : V → List AO → Prop) (G : Gs) (m : Loc) (body orelse : Expr) (Q : V → List AO → Prop) (b : Bool) (σ₁ : List AO) : Prop where
  t : b = true → EV B n X G m σ₁ body Q
  f : b = false → EV B n X G m σ₁ orelse Q
structure Nx (B : Bs) (n : Nat) (X : V → List AO → Prop) (G : Gs) (rest : List Stmt) (Q : AF → Loc → List AO → Prop) (af : AF) (m' : Loc) (σ' : List AO) : Prop where
  e : af = .nxt
  h : EXs B n X G m' σ' rest Q
structure Cn (B : Bs) (n : Nat) (X : V → List AO → Prop) (G : Gs) (rest : List Stmt) (Q : AF → Loc → List AO → Prop) (af : AF) (m' : Loc) (σ' : List AO) : Prop where
  t : af = .nxt → EXs B n X G m' σ' rest Q
  f : af ≠ .nxt → Q af m' σ'
noncomputable abbrev RetK (Q : AF → Loc → List AO → Prop) (m : Loc) : V → List AO → Prop := fun a σ₁ => Q (.ret a) m σ₁
noncomputable abbrev ExK (Q : AF → Loc → List AO → Prop) (m : Loc) : V → List AO → Prop := fun z_ σ₁ => Q .nxt m σ₁
noncomputable abbrev FnQ (Q : V → List AO → Prop) : AF → Loc → List AO → Prop := fun af z_ σ' => match af with
  | .ret v => Q v σ'
  | .nxt => Q .none σ'
  | _ => False
noncomputable def NoX : V → List AO → Prop := fun z_ z_ => False
section
variable {B : Bs} {n : Nat} {X : V → List AO → Prop} {G : Gs} {m : Loc} {σ : List AO} {Q : V → List AO → Prop}
theorem EV_int {i : Int} {k pos} (h : Q (.int i) σ) : EV B n X G m σ (.Constant (.int i) k pos) Q := fun A env fx μ s O =>
  wpAny_Constant_int ⟨μ, σ, Post.tok O.rel _, .int i, VR_int, h⟩
theorem EV_str {x : Str} {k pos} (h : Q (.str x) σ) : EV B n X G m σ (.Constant (.str x) k pos) Q := fun A env fx μ s O =>
  wpAny_Constant_str ⟨μ, σ, Post.tok O.rel _, .str x, VR_str, h⟩
theorem EV_none {k pos} (h : Q .none σ) : EV B n X G m σ (.Constant .none k pos) Q := fun A env fx μ s O =>
  wpAny_Constant_none ⟨μ, σ, Post.refl O.rel, .none, VR_none, h⟩
theorem EV_bool {b k pos} (h : Q (.bool b) σ) : EV B n X G m σ (.Constant (.bool b) k pos) Q := fun A env fx μ s O =>
  wpAny_Constant_bool ⟨μ, σ, Post.refl O.rel, .bool b, VR_bool, h⟩
theorem EV_name {x : Str} {v : V} {pos} (hm : (x, some v) ∈ m) (h : Q v σ) : EV B n X G m σ (.Name x pos) Q := fun A env fx μ s O => by
  obtain ⟨f, hns, hsl⟩ := O.slots
  obtain ⟨d1, d2⟩ := O.dbg _ hm
  refine wpAny_Name ?_ d1
  rcases hsl x _ hm with ⟨k, q⟩ | ⟨k, c, w, hl, hw, q⟩
  · obtain ⟨val, a, b⟩ := q v rfl
    exact wpAny_loadName_local O.kind k hns a ⟨μ, σ, Post.refl O.rel, v, b, h⟩
  · obtain ⟨val, rfl, b⟩ := q v rfl
    rcases k with k | k
    · exact wpAny_loadName_cell O.kind k hl hw ⟨μ, σ, Post.refl O.rel, v, b, h⟩
    · exact wpAny_loadName_free O.kind k hl hw ⟨μ, σ, Post.refl O.rel, v, b, h⟩ d2
theorem W_glob {x : Str} {v : Value} {pos} {A env fx μ s} {R : Value → Mp → List AO → Shared → Prop} (O : Ok B n G A env fx m μ σ s) (hx : x ∈ G.g) (hg : B.mg x = some v) (h : R v μ σ s) : W B X A [] μ σ s (eval (.Name x pos) env) R := by
  obtain ⟨k, d⟩ := O.gk x hx
  refine Name_function_global O.kind k (loadGlobal_global (mg := B.mg) ?_ hg ⟨μ, σ, Post.refl O.rel, h⟩) d
  rw [O.glob]; exact B.g.keeps O.rel.base
theorem W_built {x : Str} {v : Value} {pos} {A env fx μ s} {R : Value → Mp → List AO → Shared → Prop} (O : Ok B n G A env fx m μ σ s) (hx : x ∈ G.g) (hg : B.mg x = none) (hb : bootBuiltins x = some v) (hn : x ≠ "__name__") (h : R v μ σ s) : W B X A [] μ σ s (eval (.Name x pos) env) R := by
  obtain ⟨k, d⟩ := O.gk x hx
  refine Name_function_global O.kind k (loadGlobal_builtin (mg := B.mg) (mb := B.mb) ?_ hg ?_ ((B.bi x hn).trans hb) ⟨μ, σ, Post.refl O.rel, h⟩) d
  · rw [O.glob]; exact B.g.keeps O.rel.base
  · rw [O.blt]; exact B.b.keeps O.rel.base
theorem EV_ty {x : Str} {T : String} {pos} (hx : x ∈ G.g) (hg : B.mg x = none) (hb : bootBuiltins x = some (.type T)) (hn : x ≠ "__name__") (h : Q (.ty T) σ) : EV B n X G m σ (.Name x pos) Q := fun z_ z_ z_ z_ z_ O =>
  W_built O hx hg hb hn ⟨.ty T, VR_ty, h⟩
theorem EV_gint {x : Str} {i : Int} {t : Tok} {pos} (hx : x ∈ G.g) (hg : B.mg x = some (.int i t)) (h : Q (.int i) σ) : EV B n X G m σ (.Name x pos) Q := fun z_ z_ z_ z_ z_ O =>
  W_glob O hx hg ⟨.int i, VR_int, h⟩
theorem EV_gstr {x y : Str} {t : Tok} {pos} (hx : x ∈ G.g) (hg : B.mg x = some (.str y t)) (h : Q (.str y) σ) : EV B n X G m σ (.Name x pos) Q := fun z_ z_ z_ z_ z_ O =>
  W_glob O hx hg ⟨.str y, VR_str, h⟩
theorem EV.mono {e : Expr} {Q' : V → List AO → Prop} (h : EV B n X G m σ e Q) (hQ : ∀ a σ', Q a σ' → Q' a σ') : EV B n X G m σ e Q' := fun A env fx μ s O => (h A env fx μ s O).mono fun _ _ _ _ _ ⟨a, ha, q⟩ => ⟨a, ha, hQ _ _ q⟩
theorem Ok.c {A env fx μ s} (O : Ok B n G A env fx m μ σ s) : OkC B n A μ σ s := ⟨O.rel, O.room, O.units, O.hnd, let ⟨f, o, a, _, b⟩ := O.frames; ⟨f :: o, a, b⟩, O.frn⟩
noncomputable def OP1 (B : Bs) (n : Nat) (X : V → List AO → Prop) (a : V) (σ : List AO) (k : Value → Sem Value) (Q : V → List AO → Prop) : Prop :=
  ∀ A μ s va, OkC B n A μ σ s → VR μ σ.length s.heap a va → W B X A [] μ σ s (k va) (EVq Q)
noncomputable def OP2 (B : Bs) (n : Nat) (X : V → List AO → Prop) (a b : V) (σ : List AO) (k : Value → Value → Sem Value) (Q : V → List AO → Prop) : Prop :=
  ∀ A μ s va vb, OkC B n A μ σ s → VR μ σ.length s.heap a va → VR μ σ.length s.heap b vb → W B X A [] μ σ s (k va vb) (EVq Q)
noncomputable def OPs (B : Bs) (n : Nat) (X : V → List AO → Prop) (l : List V) (σ : List AO) (k : List Value → Sem Value) (Q : V → List AO → Prop) : Prop :=
  ∀ A μ s vs, OkC B n A μ σ s → VRs μ σ.length s.heap l vs → W B X A [] μ σ s (k vs) (EVq Q)
theorem CA.op {f : Value} {l : List V} (h : CA B n X f l σ Q) : OPs B n X l σ (fun vs => call f vs) Q := fun A μ s vs O hv =>
  wpAny_call (codeAny_mono (h A μ s vs O hv) fun r s' z => by
    rcases r with e | (v | _ | _ | _) <;> first | exact z | exact z.elim)
noncomputable abbrev J1 (B : Bs) (n : Nat) (X : V → List AO → Prop) (k : Value → Sem Value) (Q : V → List AO → Prop) : V → List AO → Prop := fun a σ₁ => OP1 B n X a σ₁ k Q
noncomputable abbrev J2 (B : Bs) (n : Nat) (X : V → List AO → Prop) (k : Value → Value → Sem Value) (Q : V → List AO → Prop) : V → V → List AO → Prop := fun a b σ₁ => OP2 B n X a b σ₁ k Q
noncomputable abbrev JL (B : Bs) (n : Nat) (X : V → List AO → Prop) (k : List Value → Sem Value) (Q : V → List AO → Prop) : List V → List AO → Prop := fun l σ₁ => OPs B n X l σ₁ k Q
theorem W.two {A : Around} {μ : Mp} {s : Shared} {α : Type} {l r : Expr} {env : Env} {fx : List Addr} {k : Value → Value → Sem α} {R : α → Mp → List AO → Shared → Prop} (O : Ok B n G A env fx m μ σ s)
    (h : EV B n X G m σ l fun a σ₁ => EV B n X G m σ₁ r fun b σ₂ => ∀ μ₂ s₂ va vb, Ok B n G A env fx m μ₂ σ₂ s₂ → VR μ₂ σ₂.length s₂.heap a va → VR μ₂ σ₂.length s₂.heap b vb → W B X A [] μ₂ σ₂ s₂ (k va vb) R) :
    wpAny (model B.prog B.w) A (eval l env) (fun va s₁ => wpAny (model B.prog B.w) A (eval r env) (fun vb s₂ => wpAny (model B.prog B.w) A (k va vb) (Wq B (frs A) [] μ σ s R) (QE B (frs A) [] μ σ s X) s₂) (QE B (frs A) [] μ σ s X) s₁) (QE B (frs A) [] μ σ s X) s := by
  refine wpAny_mono (h A env fx μ s O) (fun va s₁ z_ => ?_) fun z_ z_ x => x
  refine shut fun P_ o_ => ?_
  obtain ⟨μ₁, σ₁, P₁, a, ha, h₁⟩ := z_
  refine o_ ?_
  have O₁ := O.next P₁
  refine wpAny_mono (h₁ A env fx μ₁ s₁ O₁) (fun vb s₂ z_ => ?_) fun z_ z_ x => x.trans P₁
  refine shut fun P_ o_ => ?_
  obtain ⟨μ₂, σ₂, P₂, b, hb, h₂⟩ := z_
  refine o_ ?_
  exact W.from (P₁.trans P₂) (h₂ μ₂ s₂ va vb (O₁.next P₂) (VR.post O₁.rel P₂ nt_nil ha) hb)
theorem EV_bin {l r : Expr} {op pos} (h : EV B n X G m σ l (K2 B n X G m r (J2 B n X (binaryOp op) Q))) : EV B n X G m σ (.BinOp l op r pos) Q := fun A env fx μ s O =>
  wpAny_BinOp (W.two O (h.mono fun a σ₁ h₁ => h₁.mono fun b σ₂ h₂ μ₂ s₂ va vb O₂ ha hb => h₂ A μ₂ s₂ va vb O₂.c ha hb))
theorem EV_cmp {l r : Expr} {op pos} (h : EV B n X G m σ l (K2 B n X G m r (J2 B n X (compareOp op) Q))) (hm : behindInMarks op r = false := by with_unfolding_all rfl) : EV B n X G m σ (.Compare l [op] [r] pos) Q := fun A env fx μ s O =>
  wpAny_Compare1 (W.two O (h.mono fun a σ₁ h₁ => h₁.mono fun b σ₂ h₂ μ₂ s₂ va vb O₂ ha hb => h₂ A μ₂ s₂ va vb O₂.c ha hb)) hm
theorem TE_cmp {l r : Expr} {op pos} {Q : Bool → List AO → Prop} (h : EV B n X G m σ l (K2 B n X G m r (J2 B n X (compareOp op) (BQ Q)))) (hm : behindInMarks op r = false := by with_unfolding_all rfl) : TE B n X G m σ (.Compare l [op] [r] pos) Q := fun A env fx μ s O => by
  refine wpAny_isTrue_Compare1 (wpAny_mono (h A env fx μ s O) (fun va s₁ z_ => ?_) fun z_ z_ x => x) hm
  refine shut fun P_ o_ => ?_
  obtain ⟨μ₁, σ₁, P₁, a, ha, h₁⟩ := z_
  refine o_ ?_
  have O₁ := O.next P₁
  refine wpAny_mono (h₁ A env fx μ₁ s₁ O₁) (fun vb s₂ z_ => ?_) fun z_ z_ x => x.trans P₁
  refine shut fun P_ o_ => ?_
  obtain ⟨μ₂, σ₂, P₂, b, hb, h₂⟩ := z_
  refine o_ ?_
  have O₂ := O₁.next P₂
  refine wpAny_mono (h₂ A μ₂ s₂ va vb O₂.c (VR.post O₁.rel P₂ nt_nil ha) hb) (fun vc s₃ z_ => ?_) fun z_ z_ x => x.trans (P₁.trans P₂)
  refine shut fun P_ o_ => ?_
  obtain ⟨μ₃, σ₃, P₃, c, hc, b, hb, q⟩ := z_
  refine o_ ?_
  subst hb
  rw [VR_bool_of hc]
  exact wpAny_truthy_bool ⟨μ₃, σ₃, (P₁.trans P₂).trans P₃, q⟩
noncomputable abbrev QC (Q : List V → List AO → Prop) (a : V) : List V → List AO → Prop := fun l σ₂ => Q (a :: l) σ₂
noncomputable abbrev QS (F : (List V → List AO → Prop) → List AO → Prop) (Q : List V → List AO → Prop) : V → List AO → Prop := fun a σ₁ => F (QC Q a) σ₁
noncomputable def EVt (B : Bs) (n : Nat) (X : V → List AO → Prop) (G : Gs) (m : Loc) : List Expr → (List V → List AO → Prop) → List AO → Prop
  | [], Q, σ => Q [] σ
  | e :: r, Q, σ => EV B n X G m σ e (QS (EVt B n X G m r) Q)
noncomputable abbrev EVs (B : Bs) (n : Nat) (X : V → List AO → Prop) (G : Gs) (m : Loc) (es : List Expr) (σ : List AO) (Q : List V → List AO → Prop) : Prop := EVt B n X G m es Q σ
noncomputable abbrev TupK (Q : V → List AO → Prop) : List V → List AO → Prop := fun l σ₁ => Q (.tup l) σ₁
noncomputable abbrev LstK (Q : V → List AO → Prop) : List V → List AO → Prop := fun l σ₁ => Q (.ref σ₁.length) (σ₁ ++ [.list l])
noncomputable def noStar : List Expr → Bool
  | [] => true
  | .Starred .. :: _ => false
  | _ :: r => noStar r
theorem noStar_cons {e : Expr} {r : List Expr} {env : Env} (h : noStar (e :: r) = true) : starEach (e :: r) env = (false, eval e env) :: starEach r env ∧ noStar r = true := by
  cases e <;> first | exact ⟨rfl, h⟩ | cases h
theorem W_spliced {pos : Pos} {A : Around} {env : Env} {fx : List Addr} : ∀ {es : List Expr} {σ : List AO} {μ : Mp} {s : Shared} {Q : List V → List AO → Prop}, Ok B n G A env fx m μ σ s → noStar es = true → EVs B n X G m es σ Q →
    W B X A [] μ σ s (spliced (backTo pos (starEach es env))) (fun vs μ' σ' s' => vs.length = es.length ∧ ∃ l, VRs μ' σ'.length s'.heap l vs ∧ Q l σ')
  | [], σ, μ, s, Q, O, _, h => wpAny_pure ⟨μ, σ, Post.refl O.rel, rfl, [], VRs_nil, h⟩
  | e :: r, σ, μ, s, Q, O, hs, h => by
    obtain ⟨h1, h2⟩ := noStar_cons (env := env) hs
    simp only [h1]
    refine spliced_cons (wpAny_mono (h A env fx μ s O) (fun v s₁ z_ => ?_) fun z_ z_ x => x)
    refine shut fun P_ o_ => ?_
    obtain ⟨μ₁, σ₁, P₁, a, ha, h₁⟩ := z_
    refine o_ ?_
    have O₁ := O.next P₁
    exact wpAny_mono (W_spliced O₁ h2 h₁) (fun vs s₂ ⟨μ₂, σ₂, P₂, hlen, l, hl, q⟩ => ⟨μ₂, σ₂, P₁.trans P₂, by simp only [List.length_cons, List.length_cons, hlen], a :: l, VRs_cons (VR.post O₁.rel P₂ nt_nil ha) hl, q⟩) fun z_ z_ x => x.trans P₁
theorem W_args {pos : Pos} {A : Around} {env : Env} {fx : List Addr} {f : Value} {es : List Expr} {μ : Mp} {s : Shared} {Q : List V → List AO → Prop} (O : Ok B n G A env fx m μ σ s) (hs : noStar es = true) (h : EVs B n X G m es σ Q) :
    W B X A [] μ σ s (evalArgs f true (backTo pos (starEach es env)) []) (fun a μ' σ' s' => a.kw = [] ∧ ∃ l, VRs μ' σ'.length s'.heap l a.pos ∧ Q l σ') := by
  have z := W_spliced (pos := pos) O hs h
  cases es with
  | nil =>
    refine evalArgs_kw2_nil (kws := []) rfl ?_
    refine wpAny_evalAll_nil ?_
    exact ⟨μ, σ, Post.refl O.rel, rfl, [], VRs_nil, h⟩
  | cons e r =>
    obtain ⟨h1, h2⟩ := noStar_cons (env := env) hs
    rw [h1] at z ⊢
    exact evalArgs_plain (wpAny_mono z (fun vs s₁ ⟨μ₁, σ₁, P₁, _, l, hl, q⟩ => ⟨μ₁, σ₁, P₁, rfl, l, hl, q⟩) fun z_ z_ x => x)
theorem noStar_any {env : Env} {pos : Pos} : ∀ {es : List Expr}, noStar es = true → (backTo pos (starEach es env)).any (·.1) = false := by
  intro l_
  induction l_ with
  | nil =>
    intro _
    exact rfl
  | cons e r ih =>
    intro h
    obtain ⟨h1, h2⟩ := noStar_cons (env := env) h
    rw [h1]
    exact ih h2
theorem W_callWithR {R : Value → Mp → List AO → Shared → Prop} {pos : Pos} {A : Around} {env : Env} {fx : List Addr} {f : Value} {first : List V} {firstV : List Value} {es : List Expr} {μ : Mp} {s : Shared} (O : Ok B n G A env fx m μ σ s)
    (hk : ∀ h, B.K.In h → ∃ k, (k = Keeper.frame ∨ k = Keeper.machine ∨ k = Keeper.boundFrame) ∧ Looks (model B.prog B.w) h (keeperOf f) k) (hs : noStar es = true) (hf : VRs μ σ.length s.heap first firstV)
    (h : EVs B n X G m es σ fun l σ₁ => ∀ A μ₁ s₁ vs, OkC B n A μ₁ σ₁ s₁ → VRs μ₁ σ₁.length s₁.heap (first ++ l) vs → W B X A [] μ₁ σ₁ s₁ (call f vs) R) :
    W B X A [] μ σ s (callWith pos f firstV (backTo pos (starEach es env)) []) R := by
  refine callWith_of (P := B.K.In) (by rw [noStar_any hs]; rfl) hk ?_
  refine wpAny_mono (W_args O hs h) (fun a s₁ ⟨μ₁, σ₁, P₁, e, l, hl, q⟩ => ⟨B.X.keeps P₁.rel.base, ?_⟩) fun z_ z_ x => x
  obtain ⟨pos, kw⟩ := a
  cases e
  exact W.from P₁ (q A μ₁ s₁ _ (O.next P₁).c (VRs_append (VRs.post O.rel P₁ nt_nil hf) hl))
theorem W_callWith {pos : Pos} {A : Around} {env : Env} {fx : List Addr} {f : Value} {first : List V} {firstV : List Value} {es : List Expr} {μ : Mp} {s : Shared} (O : Ok B n G A env fx m μ σ s)
    (hk : ∀ h, B.K.In h → ∃ k, (k = Keeper.frame ∨ k = Keeper.machine ∨ k = Keeper.boundFrame) ∧ Looks (model B.prog B.w) h (keeperOf f) k) (hs : noStar es = true) (hf : VRs μ σ.length s.heap first firstV)
    (h : EVs B n X G m es σ fun l σ₁ => OPs B n X (first ++ l) σ₁ (fun vs => call f vs) Q) :
    W B X A [] μ σ s (callWith pos f firstV (backTo pos (starEach es env)) []) (EVq Q) := W_callWithR O hk hs hf h
theorem keeps_type (M : Model) (T : String) (h : Heap) : ∃ k, (k = Keeper.frame ∨ k = Keeper.machine ∨ k = Keeper.boundFrame) ∧ Looks M h (keeperOf (.type T)) k := ⟨.machine, .inr (.inl rfl), Looks.of_pure rfl⟩
theorem keeps_builtin (M : Model) (T : String) (h : Heap) : ∃ k, (k = Keeper.frame ∨ k = Keeper.machine ∨ k = Keeper.boundFrame) ∧ Looks M h (keeperOf (.builtin T)) k := ⟨.machine, .inr (.inl rfl), Looks.of_pure rfl⟩
theorem EV_call {x : Str} {p pos : Pos} {es : List Expr} {f : Value} (hx : x ∈ G.g) (hg : B.mg x = some f) (hk : keepIn B.K f = true) (hs : noStar es = true)
    (h : EVs B n X G m es σ (JL B n X (fun vs => call f vs) Q)) : EV B n X G m σ (.Call (.Name x p) es [] pos) Q := fun A env fx μ s O =>
  wpAny_Call_NameR (wpAny_mono (W_glob (X := X) (R := fun v μ' σ' s' => v = f ∧ μ' = μ ∧ σ' = σ ∧ s' = s) O hx hg ⟨rfl, rfl, rfl, rfl⟩)
    (fun v s₁ ⟨μ₁, σ₁, P₁, e1, e2, e3, e4⟩ => by subst e1 e2 e3 e4; exact W_callWith (first := []) O (fun h X' => keeps_K hk h X') hs VRs_nil h) fun z_ z_ x => x)
theorem EV_callB {x : Str} {p pos : Pos} {es : List Expr} {f : Value} (hx : x ∈ G.g) (hg : B.mg x = none) (hb : bootBuiltins x = some f) (hn : x ≠ "__name__")
    (hk : ∀ h, ∃ k, (k = Keeper.frame ∨ k = Keeper.machine ∨ k = Keeper.boundFrame) ∧ Looks (model B.prog B.w) h (keeperOf f) k) (hs : noStar es = true)
    (h : EVs B n X G m es σ (JL B n X (fun vs => call f vs) Q)) : EV B n X G m σ (.Call (.Name x p) es [] pos) Q := fun A env fx μ s O =>
  wpAny_Call_NameR (wpAny_mono (W_built (X := X) (R := fun v μ' σ' s' => v = f ∧ μ' = μ ∧ σ' = σ ∧ s' = s) O hx hg hb hn ⟨rfl, rfl, rfl, rfl⟩)
    (fun v s₁ ⟨μ₁, σ₁, P₁, e1, e2, e3, e4⟩ => by subst e1 e2 e3 e4; exact W_callWith (first := []) O (fun h z_ => hk h) hs VRs_nil h) fun z_ z_ x => x)
theorem Post.pushed {fr fx : List Addr} {μ : Mp} {s : Shared} {o : Obj} {ao : AO} (R : Rel B μ σ s.heap) (hf : o.isFreed = false)
    (hor : OR B (μ.ext σ.length s.heap.objs.size s.heap.objs.size) (σ.length + 1) (s.heap.push o) σ.length ao) (hod : OD (μ.ext σ.length s.heap.objs.size s.heap.objs.size) σ.length ao) (t : Nat) :
    Post B fr fx μ σ s (μ.ext σ.length s.heap.objs.size s.heap.objs.size) (σ ++ [ao]) { s with heap := s.heap.push o, toks := t } :=
  Post.alloc R (fun z_ z_ e => Heap.get?_push_of_some _ e) (Nat.le_refl _) (Nat.le_refl _) hor hod
theorem ext_a (μ : Mp) (k : Nat) (x y : Addr) : (μ.ext k x y).a k = x := if_pos rfl
theorem ext_d (μ : Mp) (k : Nat) (x y : Addr) : (μ.ext k x y).d k = y := if_pos rfl
theorem EV_tuple {es : List Expr} {k : Nat} {pos : Pos} (hs : noStar es = true) (hl : es.length ≤ 1000) (h : EVs B n X G m es σ (TupK Q)) : EV B n X G m σ (.Tuple es k pos) Q := fun A env fx μ s O => by
  refine wpAny_Tuple (wpAny_mono (W_spliced O hs (Q := fun l σ₁ => Q (.tup l) σ₁ ) h) (fun vs s₁ ⟨μ₁, σ₁, P₁, hlen, l, hv, q⟩ => ⟨?_, μ₁, σ₁, P₁.trans (Post.push P₁.rel _ _), .tup l, ?_, q⟩) fun z_ z_ x => x)
  · simp only [hlen, sizeLine_eq]; lia
  · exact VR_tup ⟨{ cls := .type "tuple", data := .seq vs.toArray }, Heap.get?_push_size _ rfl, rfl, 0, rfl⟩ (VRs.keeps (TK.of_keeps fun z_ z_ e => Heap.get?_push_of_some _ e) (Nat.le_refl _) (fun z_ z_ => rfl) hv)
theorem OR_list {μ : Mp} {s : Shared} {l : List V} {vs : List Value} (hv : VRs μ σ.length s.heap l vs) :
    OR B (μ.ext σ.length s.heap.objs.size s.heap.objs.size) (σ.length + 1) (s.heap.push { cls := .type "list", data := .seq vs.toArray }) σ.length (.list l) := by
  refine ⟨vs, ⟨0, ?_⟩, VRs.keeps (TK.of_keeps fun z_ z_ e => Heap.get?_push_of_some _ e) (Nat.le_succ _) (fun j hj => if_neg (Nat.ne_of_lt hj)) hv⟩
  rw [ext_a]
  exact Heap.get?_push_size _ rfl
theorem VR_new {μ : Mp} {x y : Addr} {h : Heap} {ao : AO} : VR (μ.ext σ.length x y) (σ ++ [ao]).length h (.ref σ.length) (.ref x) := by
  exact VR_ref (by simp) (by simp only [ext_a])
theorem EV_list {es : List Expr} {pos : Pos} (hs : noStar es = true) (hl : es.length ≤ 1000) (h : EVs B n X G m es σ (LstK Q)) : EV B n X G m σ (.List es pos) Q := fun A env fx μ s O => by
  refine wpAny_List (wpAny_mono (W_spliced O hs (Q := fun l σ₁ => Q (.ref σ₁.length) (σ₁ ++ [.list l])) h) (fun vs s₁ ⟨μ₁, σ₁, P₁, hlen, l, hv, q⟩ => ⟨by simp only [hlen, sizeLine_eq]; lia,
    μ₁.ext σ₁.length s₁.heap.objs.size s₁.heap.objs.size, σ₁ ++ [.list l], P₁.trans (Post.pushed P₁.rel rfl (OR_list hv) ((ext_d ..).trans (ext_a ..).symm) _), .ref σ₁.length, VR_new, q⟩) fun z_ z_ x => x)
theorem EV_dS {pos : Pos} (h : Q (.ref σ.length) (σ ++ [.dS []])) : EV B n X G m σ (.Dict [] [] pos) Q := fun A env fx μ s O =>
  wpAny_Dict_empty ⟨μ.ext σ.length s.heap.objs.size s.heap.objs.size, σ ++ [.dS []], Post.pushed (ao := .dS []) O.rel rfl ⟨[], by rw [ext_a]; exact ⟨_, #[], 0, Heap.get?_push_size _ rfl, ⟨rfl, rfl, rfl⟩, rfl, fun z_ he => by simp at he, .nil, .nil⟩, rfl, VRs_nil⟩ ((ext_d ..).trans (ext_a ..).symm) _, .ref σ.length, VR_new, h⟩
theorem EV_dI {pos : Pos} (h : Q (.ref σ.length) (σ ++ [.dI []])) : EV B n X G m σ (.Dict [] [] pos) Q := fun A env fx μ s O =>
  wpAny_Dict_empty ⟨μ.ext σ.length s.heap.objs.size s.heap.objs.size, σ ++ [.dI []], Post.pushed (ao := .dI []) O.rel rfl ⟨[], by rw [ext_a]; exact ⟨_, #[], 0, Heap.get?_push_size _ rfl, ⟨rfl, rfl, rfl⟩, rfl, fun z_ he => by simp at he, .nil, .nil⟩, rfl, VRs_nil⟩ ((ext_d ..).trans (ext_a ..).symm) _, .ref σ.length, VR_new, h⟩
theorem EV_dT {pos : Pos} (h : Q (.ref σ.length) (σ ++ [.dT []])) : EV B n X G m σ (.Dict [] [] pos) Q := fun A env fx μ s O =>
  wpAny_Dict_empty ⟨μ.ext σ.length s.heap.objs.size s.heap.objs.size, σ ++ [.dT []], Post.pushed (ao := .dT []) O.rel rfl ⟨[], by rw [ext_a]; exact ⟨_, #[], 0, Heap.get?_push_size _ rfl, ⟨rfl, rfl, rfl⟩, rfl, rfl, fun z_ he => by simp at he, .nil⟩, rfl, VRs_nil⟩ ((ext_d ..).trans (ext_a ..).symm) _, .ref σ.length, VR_new, h⟩
end
section
variable {B : Bs} {n : Nat} {X : V → List AO → Prop} {G : Gs} {m : Loc} {σ : List AO} {Q : V → List AO → Prop}
theorem fin_tok {fr fx : List Addr} {μ : Mp} {s : Shared} {v : Value} {a : V} {t : Nat} (R : Rel B μ σ s.heap) (hv : VR μ σ.length s.heap a v) (q : Q a σ) :
    Wq B fr fx μ σ s (EVq Q) v { s with toks := t } := ⟨μ, σ, Post.tok R t, a, hv, q⟩
theorem fin_same {fr fx : List Addr} {μ : Mp} {s : Shared} {v : Value} {a : V} (R : Rel B μ σ s.heap) (hv : VR μ σ.length s.heap a v) (q : Q a σ) :
    Wq B fr fx μ σ s (EVq Q) v s := ⟨μ, σ, Post.refl R, a, hv, q⟩
theorem OP2_int {x y : Int} {k : Value → Value → Sem Value} (h : ∀ A μ s t u, OkC B n A μ σ s → W B X A [] μ σ s (k (.int x t) (.int y u)) (EVq Q)) : OP2 B n X (.int x) (.int y) σ k Q := fun A μ s va vb O ha hb =>
  let ⟨t, e⟩ := VR_int_of ha
  let ⟨u, e'⟩ := VR_int_of hb
  e ▸ e' ▸ h A μ s t u O
theorem OP_add {x y : Int} (h : Q (.int (x + y)) σ) : OP2 B n X (.int x) (.int y) σ (binaryOp .Add) Q := OP2_int fun A μ s t u O => show wpAny _ _ _ _ _ _ from by with_reducible exact PyProof.Rows.add_int (fin_tok O.rel VR_int h)
theorem OP_sub {x y : Int} (h : Q (.int (x - y)) σ) : OP2 B n X (.int x) (.int y) σ (binaryOp .Sub) Q := OP2_int fun A μ s t u O => show wpAny _ _ _ _ _ _ from by with_reducible exact PyProof.Rows.sub_int (fin_tok O.rel VR_int h)
theorem OP_mul {x y : Int} (hm : IntMulOk x y) (h : Q (.int (x * y)) σ) : OP2 B n X (.int x) (.int y) σ (binaryOp .Mult) Q := OP2_int fun A μ s t u O => show wpAny _ _ _ _ _ _ from by with_reducible exact PyProof.Rows.mul_int (fin_tok O.rel VR_int h) hm
theorem OP_mod {x y : Int} (hy : y ≠ 0) (h : Q (.int (x.fmod y)) σ) : OP2 B n X (.int x) (.int y) σ (binaryOp .Mod) Q := OP2_int fun A μ s t u O => show wpAny _ _ _ _ _ _ from by with_reducible exact PyProof.Rows.mod_int hy (fin_tok O.rel VR_int h)
theorem OP_fdiv {x y : Int} (hy : y ≠ 0) (hp : Builtin.divisionGoesByPylong x y = false) (h : Q (.int (x.fdiv y)) σ) : OP2 B n X (.int x) (.int y) σ (binaryOp .FloorDiv) Q := OP2_int fun A μ s t u O => show wpAny _ _ _ _ _ _ from by with_reducible exact PyProof.Rows.floordiv_int hy (fin_tok O.rel VR_int h) (Or.inl hp)
theorem OP_eqI {x y : Int} (h : Q (.bool (x == y)) σ) : OP2 B n X (.int x) (.int y) σ (compareOp .Eq) Q := OP2_int fun A μ s t u O => show wpAny _ _ _ _ _ _ from by with_reducible exact PyProof.Rows.eq_int (fin_same O.rel VR_bool h)
theorem OP_neI {x y : Int} (h : Q (.bool (x != y)) σ) : OP2 B n X (.int x) (.int y) σ (compareOp .NotEq) Q := OP2_int fun A μ s t u O => show wpAny _ _ _ _ _ _ from by with_reducible exact PyProof.Rows.ne_int (fin_same O.rel VR_bool h)
theorem OP_ltI {x y : Int} (h : Q (.bool (decide (x < y))) σ) : OP2 B n X (.int x) (.int y) σ (compareOp .Lt) Q := OP2_int fun A μ s t u O => show wpAny _ _ _ _ _ _ from by with_reducible exact PyProof.Rows.lt_int (fin_same O.rel VR_bool h)
theorem OP_leI {x y : Int} (h : Q (.bool (decide (x ≤ y))) σ) : OP2 B n X (.int x) (.int y) σ (compareOp .LtE) Q := OP2_int fun A μ s t u O => show wpAny _ _ _ _ _ _ from by with_reducible exact PyProof.Rows.le_int (fin_same O.rel VR_bool h)
theorem OP_gtI {x y : Int} (h : Q (.bool (decide (y < x))) σ) : OP2 B n X (.int x) (.int y) σ (compareOp .Gt) Q := OP2_int fun A μ s t u O => show wpAny _ _ _ _ _ _ from by with_reducible exact PyProof.Rows.gt_int (fin_same O.rel VR_bool h)
theorem OP_geI {x y : Int} (h : Q (.bool (decide (y ≤ x))) σ) : OP2 B n X (.int x) (.int y) σ (compareOp .GtE) Q := OP2_int fun A μ s t u O => show wpAny _ _ _ _ _ _ from by with_reducible exact PyProof.Rows.ge_int (fin_same O.rel VR_bool h)
theorem OP_eqS {x y : Str} (h : Q (.bool (x == y)) σ) : OP2 B n X (.str x) (.str y) σ (compareOp .Eq) Q := fun A μ s va vb O ha hb => by
  obtain ⟨t, rfl⟩ := VR_str_of ha; obtain ⟨u, rfl⟩ := VR_str_of hb
  show wpAny _ _ _ _ _ _
  with_reducible refine PyProof.Rows.eq_str ?_ 
  exact fin_same O.rel VR_bool h
theorem OP_neS {x y : Str} (h : Q (.bool (x != y)) σ) : OP2 B n X (.str x) (.str y) σ (compareOp .NotEq) Q := fun A μ s va vb O ha hb => by
  obtain ⟨t, rfl⟩ := VR_str_of ha; obtain ⟨u, rfl⟩ := VR_str_of hb
  show wpAny _ _ _ _ _ _
  with_reducible refine PyProof.Rows.ne_str ?_ 
  exact fin_same O.rel VR_bool h
theorem OP_addS {x y : Str} (hz : x.length + y.length ≤ sizeLine) (h : Q (.str (x ++ y)) σ) : OP2 B n X (.str x) (.str y) σ (binaryOp .Add) Q := fun A μ s va vb O ha hb => by
  obtain ⟨t, rfl⟩ := VR_str_of ha; obtain ⟨u, rfl⟩ := VR_str_of hb
  show wpAny _ _ _ _ _ _
  with_reducible refine PyProof.Rows.add_str (fun t' tk => ?_) hz
  exact fin_tok O.rel VR_str h
theorem OP_inS {x y : Str} (h : Q (.bool !(Builtin.Str.occurrences x y 0 x.length 1).isEmpty) σ) : OP2 B n X (.str y) (.str x) σ (compareOp .In) Q := fun A μ s va vb O ha hb => by
  obtain ⟨t, rfl⟩ := VR_str_of ha; obtain ⟨u, rfl⟩ := VR_str_of hb
  show wpAny _ _ _ _ _ _
  with_reducible refine PyProof.Rows.in_str ?_ 
  exact fin_same O.rel VR_bool h
theorem plainIs_none (v : Value) (h : v = .none ∨ ∃ a, v = .ref a) : plainIs v .none = true := by
  rcases h with rfl | ⟨a, rfl⟩ <;> rfl
theorem OP_isN : (h : Q (.bool true) σ) → OP2 B n X .none .none σ (compareOp .Is) Q := fun h A μ s va vb O ha hb => by
  simp only [VR_none_of ha, VR_none_of hb]
  exact wpAny_is_plain rfl (fin_same O.rel VR_bool h)
theorem OP_isNr {i : Nat} (h : Q (.bool false) σ) : OP2 B n X (.ref i) .none σ (compareOp .Is) Q := fun A μ s va vb O ha hb => by
  simp only [VR_none_of hb, (VR_ref_of ha).2]
  exact wpAny_is_plain rfl (fin_same O.rel VR_bool h)
theorem OP_isNt {l : List V} (h : Q (.bool false) σ) : OP2 B n X (.tup l) .none σ (compareOp .Is) Q := fun A μ s va vb O ha hb => by
  obtain ⟨a, items, rfl, -⟩ := VR_tup_of ha
  rw [VR_none_of hb]
  exact wpAny_is_plain rfl (fin_same O.rel VR_bool h)
theorem EV_un {x : Expr} {op pos} (h : EV B n X G m σ x (J1 B n X (unaryOp op) Q)) : EV B n X G m σ (.UnaryOp op x pos) Q := fun A env fx μ s O =>
  wpAny_UnaryOp (wpAny_mono (h A env fx μ s O) (fun v s₁ ⟨μ₁, σ₁, P₁, a, ha, q⟩ => W.from P₁ (q A μ₁ s₁ v (O.next P₁).c ha)) fun z_ z_ x => x)
theorem OP_neg {x : Int} (h : Q (.int (-x)) σ) : OP1 B n X (.int x) σ (unaryOp .USub) Q := fun A μ s va O ha => by
  obtain ⟨t, rfl⟩ := VR_int_of ha
  show wpAny _ _ _ _ _ _
  with_reducible refine PyProof.Rows.neg_int ?_ 
  exact fin_tok O.rel VR_int h
theorem TE_val {e : Expr} {Q : Bool → List AO → Prop} (h : EV B n X G m σ e (BQ Q))
    (he : ∀ env whole, isTrue e env whole = (do let v ← whole; standAt e.pos; holding [v] (truthy v)) := by intro _ _; rfl) : TE B n X G m σ e Q := fun A env fx μ s O =>
  wpAny_isTrue_value (wpAny_mono (h A env fx μ s O) (fun v s₁ ⟨μ₁, σ₁, P₁, a, ha, b, hb, q⟩ => by
    subst hb; rw [VR_bool_of ha]; exact wpAny_truthy_bool ⟨μ₁, σ₁, P₁, q⟩) fun z_ z_ x => x) (he _ _)
structure TAk (F : (Bool → List AO → Prop) → List AO → Prop) (Q : Bool → List AO → Prop) (b : Bool) (σ₁ : List AO) : Prop where
  t : b = true → F Q σ₁
  f : b = false → Q false σ₁
structure TOk (F : (Bool → List AO → Prop) → List AO → Prop) (Q : Bool → List AO → Prop) (b : Bool) (σ₁ : List AO) : Prop where
  t : b = true → Q true σ₁
  f : b = false → F Q σ₁
noncomputable def TAt (B : Bs) (n : Nat) (X : V → List AO → Prop) (G : Gs) (m : Loc) : List Expr → (Bool → List AO → Prop) → List AO → Prop
  | [], Q, σ => Q true σ
  | e :: r, Q, σ => TE B n X G m σ e (TAk (TAt B n X G m r) Q)
noncomputable def TOt (B : Bs) (n : Nat) (X : V → List AO → Prop) (G : Gs) (m : Loc) : List Expr → (Bool → List AO → Prop) → List AO → Prop
  | [], Q, σ => Q false σ
  | e :: r, Q, σ => TE B n X G m σ e (TOk (TOt B n X G m r) Q)
noncomputable abbrev TAnd (B : Bs) (n : Nat) (X : V → List AO → Prop) (G : Gs) (m : Loc) (es : List Expr) (σ : List AO) (Q : Bool → List AO → Prop) : Prop := TAt B n X G m es Q σ
noncomputable abbrev TOr (B : Bs) (n : Nat) (X : V → List AO → Prop) (G : Gs) (m : Loc) (es : List Expr) (σ : List AO) (Q : Bool → List AO → Prop) : Prop := TOt B n X G m es Q σ
noncomputable abbrev NotK (Q : Bool → List AO → Prop) : Bool → List AO → Prop := fun b σ₁ => Q (!b) σ₁
theorem W_and {A : Around} {env : Env} {fx : List Addr} : ∀ {es : List Expr} {σ : List AO} {μ : Mp} {s : Shared} {Q : Bool → List AO → Prop}, Ok B n G A env fx m μ σ s → TAnd B n X G m es σ Q →
    W B X A [] μ σ s (allTrue .And es env) (fun b z_ σ' z_ => Q b σ')
  | [], σ, μ, s, Q, O, h => wpAny_allTrue_And_nil ⟨μ, σ, Post.refl O.rel, h⟩
  | e :: r, σ, μ, s, Q, O, h => wpAny_allTrue_And_cons (wpAny_mono (h A env fx μ s O) (fun b s₁ ⟨μ₁, σ₁, P₁, q1, q2⟩ => by
      cases b with
      | true => exact W.from P₁ (W_and (O.next P₁) (q1 rfl))
      | false => exact ⟨μ₁, σ₁, P₁, q2 rfl⟩) fun z_ z_ x => x)
theorem wpAny_allTrue_Or_nil' {M : Model} {A : Around} {E : Value → Shared → Prop} {s : Shared} {env : Env} {Q : Bool → Shared → Prop} (h : Q false s) : wpAny M A (allTrue .Or [] env) Q E s := wpAny_pure h
theorem W_or {A : Around} {env : Env} {fx : List Addr} : ∀ {es : List Expr} {σ : List AO} {μ : Mp} {s : Shared} {Q : Bool → List AO → Prop}, Ok B n G A env fx m μ σ s → TOr B n X G m es σ Q →
    W B X A [] μ σ s (allTrue .Or es env) (fun b z_ σ' z_ => Q b σ')
  | [], σ, μ, s, Q, O, h => wpAny_allTrue_Or_nil' ⟨μ, σ, Post.refl O.rel, h⟩
  | e :: r, σ, μ, s, Q, O, h => wpAny_allTrue_Or_cons (wpAny_mono (h A env fx μ s O) (fun b s₁ ⟨μ₁, σ₁, P₁, q1, q2⟩ => by
      cases b with
      | true => exact ⟨μ₁, σ₁, P₁, q1 rfl⟩
      | false => exact W.from P₁ (W_or (O.next P₁) (q2 rfl))) fun z_ z_ x => x)
theorem TE_not {x : Expr} {pos} {Q : Bool → List AO → Prop} (h : TE B n X G m σ x (NotK Q)) : TE B n X G m σ (.UnaryOp .Not x pos) Q := fun A env fx μ s O => wpAny_isTrue_Not (wpAny_mono (h A env fx μ s O) (fun _ _ ⟨μ', σ', P, q⟩ => ⟨μ', σ', P, q⟩) fun z_ z_ x => x)
theorem TE_and {es : List Expr} {pos} {Q : Bool → List AO → Prop} (h : TAnd B n X G m es σ Q) : TE B n X G m σ (.BoolOp .And es pos) Q := fun A env fx μ s O => wpAny_isTrue_BoolOp (W_and O h)
theorem TE_or {es : List Expr} {pos} {Q : Bool → List AO → Prop} (h : TOr B n X G m es σ Q) : TE B n X G m σ (.BoolOp .Or es pos) Q := fun A env fx μ s O => wpAny_isTrue_BoolOp (W_or O h)
theorem EV_if {test body orelse : Expr} {pos} (h : TE B n X G m σ test (IfE B n X G m body orelse Q)) : EV B n X G m σ (.IfExp test body orelse pos) Q := fun A env fx μ s O =>
  wpAny_IfExp (wpAny_mono (h A env fx μ s O) (fun b s₁ ⟨μ₁, σ₁, P₁, q1, q2⟩ => by
    cases b with
    | true => exact W.from P₁ (q1 rfl A env fx μ₁ s₁ (O.next P₁))
    | false => exact W.from P₁ (q2 rfl A env fx μ₁ s₁ (O.next P₁))) fun z_ z_ x => x)
inductive BAk (F : List AO → Prop) (Q : V → List AO → Prop) (c : V) (σ₁ : List AO) : Prop
  | mk (b : Bool) (e : c = .bool b) (t : b = true → F σ₁) (f : b = false → Q (.bool false) σ₁)
inductive BOk (F : List AO → Prop) (Q : V → List AO → Prop) (c : V) (σ₁ : List AO) : Prop
  | mk (b : Bool) (e : c = .bool b) (t : b = true → Q (.bool true) σ₁) (f : b = false → F σ₁)
noncomputable def BAnd (B : Bs) (n : Nat) (X : V → List AO → Prop) (G : Gs) (m : Loc) : List Expr → List AO → (V → List AO → Prop) → Prop
  | [], _, _ => False
  | [e], σ, Q => EV B n X G m σ e Q
  | e :: r, σ, Q => EV B n X G m σ e (BAk (fun σ₁ => BAnd B n X G m r σ₁ Q) Q)
noncomputable def BOr (B : Bs) (n : Nat) (X : V → List AO → Prop) (G : Gs) (m : Loc) : List Expr → List AO → (V → List AO → Prop) → Prop
  | [], _, _ => False
  | [e], σ, Q => EV B n X G m σ e Q
  | e :: r, σ, Q => EV B n X G m σ e (BOk (fun σ₁ => BOr B n X G m r σ₁ Q) Q)
theorem W_band {A : Around} {env : Env} {fx : List Addr} {pos : Pos} : ∀ {es : List Expr} {σ : List AO} {μ : Mp} {s : Shared} {Q : V → List AO → Prop}, Ok B n G A env fx m μ σ s → BAnd B n X G m es σ Q →
    W B X A [] μ σ s (boolOp pos .And (evalEach es env)) (EVq Q)
  | [], σ, μ, s, Q, O, h => h.elim
  | [e], σ, μ, s, Q, O, h => h A env fx μ s O
  | e :: e' :: r, σ, μ, s, Q, O, h => wpAny_bind (wpAny_mono (h A env fx μ s O) (fun v s₁ ⟨μ₁, σ₁, P₁, a, ha, b, hb, q1, q2⟩ => by
      subst hb
      rw [VR_bool_of ha]
      refine wpAny_bind (wpAny_standAt (wpAny_bind (wpAny_holding (wpAny_truthy_bool ?_))))
      cases b with
      | true => exact W.from P₁ (W_band (es := e' :: r) (O.next P₁) (q1 rfl))
      | false => exact wpAny_pure ⟨μ₁, σ₁, P₁, .bool false, VR_bool, q2 rfl⟩) fun z_ z_ x => x)
theorem W_bor {A : Around} {env : Env} {fx : List Addr} {pos : Pos} : ∀ {es : List Expr} {σ : List AO} {μ : Mp} {s : Shared} {Q : V → List AO → Prop}, Ok B n G A env fx m μ σ s → BOr B n X G m es σ Q →
    W B X A [] μ σ s (boolOp pos .Or (evalEach es env)) (EVq Q)
  | [], σ, μ, s, Q, O, h => h.elim
  | [e], σ, μ, s, Q, O, h => h A env fx μ s O
  | e :: e' :: r, σ, μ, s, Q, O, h => wpAny_bind (wpAny_mono (h A env fx μ s O) (fun v s₁ ⟨μ₁, σ₁, P₁, a, ha, b, hb, q1, q2⟩ => by
      subst hb
      rw [VR_bool_of ha]
      refine wpAny_bind (wpAny_standAt (wpAny_bind (wpAny_holding (wpAny_truthy_bool ?_))))
      cases b with
      | true => exact wpAny_pure ⟨μ₁, σ₁, P₁, .bool true, VR_bool, q1 rfl⟩
      | false => exact W.from P₁ (W_bor (es := e' :: r) (O.next P₁) (q2 rfl))) fun z_ z_ x => x)
theorem EV_and {es : List Expr} {pos} (h : BAnd B n X G m es σ Q) : EV B n X G m σ (.BoolOp .And es pos) Q := fun A env fx μ s O => W_band O h
theorem EV_or {es : List Expr} {pos} (h : BOr B n X G m es σ Q) : EV B n X G m σ (.BoolOp .Or es pos) Q := fun A env fx μ s O => W_bor O h
end
section
variable {B : Bs} {n : Nat} {X : V → List AO → Prop} {G : Gs} {m : Loc} {σ : List AO} {Q : V → List AO → Prop}
theorem subscripted_is (slice : Expr) (o i : Value) : ∃ ops, subscripted slice false o i = operate ops (getItem o i) := by
  cases slice with
  | Slice l u st p => cases st <;> exact ⟨_, rfl⟩
  | _ => exact ⟨_, rfl⟩
noncomputable def SUB (B : Bs) (n : Nat) (X : V → List AO → Prop) (a b : V) (σ : List AO) (Q : V → List AO → Prop) : Prop :=
  ∀ A μ s va vb, OkC B n A μ σ s → VR μ σ.length s.heap a va → VR μ σ.length s.heap b vb → ItemOn (model B.prog B.w) A (QE B (frs A) [] μ σ s X) va vb (Wq B (frs A) [] μ σ s (EVq Q)) s
noncomputable abbrev JS (B : Bs) (n : Nat) (X : V → List AO → Prop) (Q : V → List AO → Prop) : V → V → List AO → Prop := fun a b σ₂ => SUB B n X a b σ₂ Q
theorem EV_sub {l r : Expr} {pos} (h : EV B n X G m σ l (K2 B n X G m r (JS B n X Q))) : EV B n X G m σ (.Subscript l r pos) Q := fun A env fx μ s O =>
  Subscript_ (W.two (R := EVq Q) O (h.mono fun a σ₁ h₁ => h₁.mono fun b σ₂ h₂ μ₂ s₂ va vb O₂ ha hb => by
    refine shut fun P_ o_ => ?_
    obtain ⟨T, id, hl, hT, hg⟩ := h₂ A μ₂ s₂ va vb O₂.c ha hb
    refine o_ ?_
    obtain ⟨ops, ho⟩ := subscripted_is r va vb
    exact tail_any hT hl hg ho))
theorem Rel.list {μ : Mp} {h : Heap} (R : Rel B μ σ h) {i : Nat} {l : List V} (hi : σ[i]? = some (.list l)) : ∃ vs, h.PlainList (μ.a i) (List.toArray vs) ∧ VRs μ σ.length h l vs := R.obj i _ hi
theorem SUB_list {i : Nat} {l : List V} {k : Int} {x : V} (hi : σ[i]? = some (.list l)) (h0 : 0 ≤ k) (hk : k < 2 ^ 63) (hx : l[k.toNat]? = some x) (h : Q x σ) : SUB B n X (.ref i) (.int k) σ Q := fun A μ s va vb O ha hb => by
  obtain ⟨t, rfl⟩ := VR_int_of hb
  obtain ⟨-, rfl⟩ := VR_ref_of ha
  obtain ⟨vs, hl, hv⟩ := O.rel.list hi
  obtain ⟨v, hv1, hv2⟩ := VRs_get hv hx
  exact ⟨"list", _, PySem.slot_list_getitem.lookup, hl.isList.typeIs, wpAny_getItem_list hl.isList h0 hk (by simpa using hv1) (fin_same O.rel hv2 h)⟩
theorem seqIndex_nat {k N : Nat} (h : k < N) : seqIndex? (k : Int) N = some k := by
  unfold seqIndex?
  have h1 : ¬ ((k : Int) < 0) := by lia -abstractProof
  simp [h1, h]
theorem SUB_tup {l : List V} {k : Nat} {x : V} (hk : k < 1000) (hx : l[k]? = some x) (h : Q x σ) : SUB B n X (.tup l) (.int (k : Nat)) σ Q := fun A μ s va vb O ha hb => by
  obtain ⟨t, rfl⟩ := VR_int_of hb
  obtain ⟨a, items, rfl, ht, hv⟩ := VR_tup_of ha
  obtain ⟨v, hv1, hv2⟩ := VRs_get hv hx
  have hlt : k < items.length := by
    rcases Nat.lt_or_ge k items.length with z | z
    · exact z
    · rw [List.getElem?_eq_none z] at hv1; cases hv1
  have hT : s.TypeIs (.ref a) "tuple" := let ⟨o, e, c, _⟩ := ht; ⟨o, e, c⟩
  refine ⟨"tuple", _, PyProof.Rows.slot_tuple_getitem.lookup, hT, ?_⟩
  show wpAny _ _ _ _ _ _
  have ht' : IsTup s.heap a items.toArray := ht
  with_reducible refine PyProof.Rows.getItem_tuple ht' (by lia -abstractProof) (by lia -abstractProof) (j := k) (x := v) ?_ ?_ ?_
  · rw [List.size_toArray]; exact seqIndex_nat hlt
  · simpa using hv1
  · exact fin_same O.rel hv2 h
theorem Rel.dI {μ : Mp} {h : Heap} (R : Rel B μ σ h) {i : Nat} {l : List (Int × V)} (hi : σ[i]? = some (.dI l)) : ∃ kvs : List (Int × Value), h.DictOf (intKind B.prog B.w) (μ.a i) kvs ∧ kvs.map (·.1) = l.map (·.1) ∧ VRs μ σ.length h (l.map (·.2)) (kvs.map (·.2)) := R.obj i _ hi
theorem Rel.dS {μ : Mp} {h : Heap} (R : Rel B μ σ h) {i : Nat} {l : List (Str × V)} (hi : σ[i]? = some (.dS l)) : ∃ kvs : List (Str × Value), h.DictOf (strKind B.prog B.w) (μ.a i) kvs ∧ kvs.map (·.1) = l.map (·.1) ∧ VRs μ σ.length h (l.map (·.2)) (kvs.map (·.2)) := R.obj i _ hi
theorem Rel.dT {μ : Mp} {h : Heap} (R : Rel B μ σ h) {i : Nat} {l : List (List Int × V)} (hi : σ[i]? = some (.dT l)) : ∃ kvs : List (List Int × Addr × Value), h.DictOfH (tupleKind (intKind B.prog B.w)) (μ.a i) kvs ∧ kvs.map (·.1) = l.map (·.1) ∧ VRs μ σ.length h (l.map (·.2)) (kvs.map (·.2.2)) := R.obj i _ hi
theorem Rel.notSys {μ : Mp} {h : Heap} (R : Rel B μ σ h) {i : Nat} (hi : i < σ.length) : (μ.a i == sysModules) = false := by
  exact beq_eq_false_iff_ne.mpr (Nat.ne_of_gt (R.above i hi).2.2)
noncomputable def at? {K : Type} [DecidableEq K] (l : List (K × V)) (k : K) : Option V := (l.find? fun kv => kv.1 = k).map (·.2)
noncomputable def put {K : Type} [DecidableEq K] (l : List (K × V)) (k : K) (v : V) : List (K × V) := if l.any (fun kv => kv.1 = k) then l.map (fun kv => if kv.1 = k then (kv.1, v) else kv) else l ++ [(k, v)]
theorem at_some {K : Type} [DecidableEq K] {μ : Mp} {N : Nat} {h : Heap} : ∀ {l : List (K × V)} {kvs : List (K × Value)}, kvs.map (·.1) = l.map (·.1) → VRs μ N h (l.map (·.2)) (kvs.map (·.2)) → ∀ {k : K},
    (∀ {x : V}, at? l k = some x → ∃ v, PySem.valueAt kvs k = some v ∧ VR μ N h x v) ∧ (at? l k = none → PySem.valueAt kvs k = none) := by
  intro l_
  induction l_ with
  | nil =>
    intro kvs e _ k
    have : kvs = [] := by simpa using e
    subst this
    exact ⟨fun z => (nomatch z), fun z_ => rfl⟩
  | cons u_ l ih =>
    intro kvs e hv k
    obtain ⟨k', x'⟩ := u_
    cases kvs with
    | nil => simp at e
    | cons kv kvs =>
      obtain ⟨k'', v'⟩ := kv
      simp only [List.map_cons, List.cons.injEq] at e
      obtain ⟨rfl, e⟩ := e
      simp only [List.map_cons] at hv
      refine shut fun P_ o_ => ?_
      obtain ⟨v, r, hr, hv1, hv2⟩ := VRs_consO hv
      refine o_ ?_
      cases hr
      have ih := ih e hv2 (k := k)
      by_cases q : k'' = k
      · subst q
        have e1 : at? ((k'', x') :: l) k'' = some x' := by simp [at?]
        have e2 : PySem.valueAt ((k'', v') :: kvs) k'' = some v' := by simp [PySem.valueAt]
        rw [e1, e2]
        exact ⟨fun z => (by cases z; exact ⟨_, rfl, hv1⟩), fun z => (nomatch z)⟩
      · have e1 : at? ((k'', x') :: l) k = at? l k := by simp [at?, q]
        have e2 : PySem.valueAt ((k'', v') :: kvs) k = PySem.valueAt kvs k := by simp [PySem.valueAt, q]
        rw [e1, e2]; exact ih
theorem SUB_dI {i : Nat} {l : List (Int × V)} {k : Int} {x : V} (hi : σ[i]? = some (.dI l)) (hx : at? l k = some x) (h : Q x σ) : SUB B n X (.ref i) (.int k) σ Q := fun A μ s va vb O ha hb => by
  obtain ⟨t, rfl⟩ := VR_int_of hb
  obtain ⟨-, rfl⟩ := VR_ref_of ha
  refine shut fun P_ o_ => ?_
  obtain ⟨kvs, hd, e, hv⟩ := O.rel.dI hi
  obtain ⟨v, hv1, hv2⟩ := (at_some e hv).1 hx
  refine o_ ?_
  refine ⟨"dict", _, PySem.slot_dict_getitem.lookup, hd.typeIs, ?_⟩
  exact wpAny_getItem_of (knd := intKind B.prog B.w) (k := k) (by simp [intKind, Value.isInt]) hd.mapOf hv1 (fin_tok O.rel hv2 h)
theorem SUB_str {x : Str} {k : Int} (h0 : 0 ≤ k) (h1 : k < x.length) (h2 : k < 2 ^ 63) (h : Q (.str (Txt.item x k)) σ) : SUB B n X (.str x) (.int k) σ Q := fun A μ s va vb O ha hb => by
  obtain ⟨t, rfl⟩ := VR_int_of hb
  obtain ⟨u, rfl⟩ := VR_str_of ha
  exact SB.item (by simp [fitsSsize]; lia -abstractProof) (charAt_isSome (by lia -abstractProof) h1) (fin_tok O.rel VR_str h)
end
section
variable {B : Bs} {n : Nat} {X : V → List AO → Prop} {G : Gs} {m : Loc} {σ : List AO} {Q : V → List AO → Prop}
structure CF (B : Bs) (C : Addr) : Prop where
  ga : findIn B.K (.ref C) "__getattribute__" = some (some (.builtin "object.__getattribute__"))
  gt : findIn B.K (.ref C) "__getattr__" = some none
  sa : findIn B.K (.ref C) "__setattr__" = some (some (.builtin "object.__setattr__"))
  hd : (clsIn B.K C).any (·.hasDict) = true
  po : plainOver B.K C = true
theorem er_find {μ : Mp} {N : Nat} {h : Heap} : ∀ {fs : List (Str × V)} {es : List DictEntry}, ER μ N h fs es → (fs.map (·.1)).Nodup → ∀ {x : Str} {a : V}, (x, a) ∈ fs → ∃ e, es.find? (·.key.isStr x) = some e ∧ VR μ N h a e.val := by
  intro l_
  induction l_ with
  | nil =>
    intro _ _ _ _ _ hm
    simp at hm
  | cons u_ fs ih =>
    intro es he hn x a hm
    obtain ⟨y, b⟩ := u_
    obtain ⟨e, r, t, rfl, hk, hv, hr⟩ := ER_consO he
    rw [List.map_cons, List.nodup_cons] at hn
    rcases List.mem_cons.mp hm with q | q
    · cases q
      exact ⟨e, by rw [List.find?_cons, hk]; simp [Value.isStr], hv⟩
    · obtain ⟨e', h1, h2⟩ := ih hr hn.2 q
      have ne : (e.key.isStr x) = false := by
        rw [hk]
        show (y == x) = false
        rw [beq_eq_false_iff_ne]
        rintro rfl
        exact hn.1 (List.mem_map.mpr ⟨_, q, rfl⟩)
      exact ⟨e', by simp only [List.find?_cons, ne]; exact h1, h2⟩
theorem er_none {μ : Mp} {N : Nat} {h : Heap} : ∀ {fs : List (Str × V)} {es : List DictEntry}, ER μ N h fs es → es.any (·.refKey) = false ∧ ∀ {x : Str}, x ∉ fs.map (·.1) → es.find? (·.key.isStr x) = none := by
  intro l_
  induction l_ with
  | nil =>
    intro es he
    rw [ER_nilO he]; exact ⟨rfl, fun z_ => rfl⟩
  | cons u_ fs ih =>
    intro es he
    obtain ⟨y, b⟩ := u_
    refine shut fun P_ o_ => ?_
    obtain ⟨e, r, t, rfl, hk, hv, hr⟩ := ER_consO he
    obtain ⟨h1, h2⟩ := ih hr
    refine o_ ?_
    refine ⟨by rw [List.any_cons, h1, DictEntry.refKey, hk]; rfl, fun {x} hx => ?_⟩
    rw [List.map_cons, List.mem_cons, not_or] at hx
    have ne : (e.key.isStr x) = false := by
      rw [hk]
      show (y == x) = false
      rw [beq_eq_false_iff_ne]
      exact fun q => hx.1 q.symm
    simp only [List.find?_cons, ne]; exact h2 hx.2
theorem Rel.inst {μ : Mp} {h : Heap} (R : Rel B μ σ h) {i : Nat} {C : Addr} {fs : List (Str × V)} (hi : σ[i]? = some (.inst C fs)) :
    h.get? (μ.a i) = some (instObj C (μ.d i)) ∧ ∃ es ep, h.get? (μ.d i) = some { cls := .type "dict", data := .dict (List.toArray es) ep } ∧ es.length ≤ 100 ∧ (fs.map (·.1)).Nodup ∧ ER μ σ.length h fs es := R.obj i _ hi
theorem instAt_of {h : Heap} {x dx C : Addr} {od : Obj} (hx : h.get? x = some (instObj C dx)) (hd : h.get? dx = some od) : InstAt h x (instObj C dx) C (some od) := ⟨hx, rfl, rfl, hd⟩
theorem find_own {C : Addr} {od : Obj} {x : Str} {v : Value} (cf : CF B C) (hn : findIn B.K (.ref C) x = some none) (hl : lookIn x od = some (some v)) : findObj B.K C (some od) x = some (.value v) := by
  obtain ⟨cd, hc, hd⟩ := any_some cf.hd
  unfold findObj
  rw [hc, hn]
  rw [Option.bind_some]
  rw [show W.ownOf cd (some od) x = some (some v) by unfold W.ownOf; rw [if_pos hd]; exact hl]
  rfl
theorem VR.handed {μ : Mp} {N : Nat} {h : Heap} {a : V} {v : Value} (q : VR μ N h a v) : handedIn v = true := by
  cases a with
  | none => rw [VR_none_of q]; rfl
  | bool _ => rw [VR_bool_of q]; rfl
  | int _ => obtain ⟨_, e⟩ := VR_int_of q; rw [e]; rfl
  | str _ => obtain ⟨_, e⟩ := VR_str_of q; rw [e]; rfl
  | tup _ => obtain ⟨_, _, e, _⟩ := VR_tup_of q; rw [e]; rfl
  | ref _ => rw [(VR_ref_of q).2]; rfl
  | ty _ => rw [VR_ty_of q]; rfl
  | ext _ => rw [VR_ext_of q]; rfl
theorem OP_attr {i : Nat} {C : Addr} {fs : List (Str × V)} {x : Str} {a : V} {b : Bool} (cf : CF B C) (hn : findIn B.K (.ref C) x = some none) (hi : σ[i]? = some (.inst C fs)) (hm : (x, a) ∈ fs) (h : Q a σ) : OP1 B n X (.ref i) σ (fun v => getAttr v x b) Q := fun A μ s va O ha => by
  refine shut fun P_ o_ => ?_
  obtain ⟨-, rfl⟩ := VR_ref_of ha
  obtain ⟨hx, es, ep, hd, hz, nd, her⟩ := O.rel.inst hi
  obtain ⟨e, h1, h2⟩ := er_find her nd hm
  refine o_ ?_
  have hl : lookIn x { cls := .type "dict", data := .dict (List.toArray es) ep } = some (some e.val) := by
    unfold lookIn; dsimp only; rw [h1]
  exact get_value (B.X.keeps O.rel.base) (instAt_of hx hd) cf.ga (find_own cf hn hl) h2.handed (fin_tok O.rel h2 h)
theorem EV_attr {o : Expr} {x : Str} {pos : Pos} (h : EV B n X G m σ o (J1 B n X (fun v => getAttr v x true) Q))
    (hb : ∀ env, attributeBase o x env (eval o env) = eval o env := by intro _; rfl) : EV B n X G m σ (.Attribute o x pos) Q := fun A env fx μ s O => by
  refine Attribute_any_ (wpAny_mono (h A env fx μ s O) (fun v s₁ ⟨μ₁, σ₁, P₁, a, ha, q⟩ => W.from P₁ (q A μ₁ s₁ v (O.next P₁).c ha)) fun z_ z_ x => x) ?_
  show (attributeBase o x env (eval o env) >>= _) = _
  rw [hb]
structure MF (B : Bs) (C : Addr) (name : Str) (f : Addr) : Prop where
  find : findIn B.K (.ref C) name = some (some (.ref f))
  fn : typeIn B.K (.ref f) = some (.type "function")
  keep : keepIn B.K (.ref f) = true
theorem noStar_all {env : Env} {pos : Pos} : ∀ {es : List Expr}, noStar es = true → (backTo pos (starEach es env)).all (fun x => !x.1) = true := by
  intro l_
  induction l_ with
  | nil =>
    intro _
    exact rfl
  | cons e r ih =>
    intro h
    obtain ⟨h1, h2⟩ := noStar_cons (env := env) h
    rw [h1]
    exact ih h2
noncomputable abbrev JC (B : Bs) (n : Nat) (X : V → List AO → Prop) (k : List Value → Sem Value) (Q : V → List AO → Prop) (a : V) : List V → List AO → Prop := fun l σ₁ => OPs B n X (a :: l) σ₁ k Q
inductive IM (B : Bs) (n : Nat) (X : V → List AO → Prop) (G : Gs) (m : Loc) (name : Str) (es : List Expr) (Q : V → List AO → Prop) (a : V) (σ₁ : List AO) : Prop
  | mk (i : Nat) (C : Addr) (fs : List (Str × V)) (f : Addr) (e : a = .ref i) (h : σ₁[i]? = some (.inst C fs)) (cf : CF B C) (mf : MF B C name f) (nm : name ∉ fs.map (·.1)) (q : EVs B n X G m es σ₁ (JC B n X (fun vs => call (.ref f) vs) Q a))
theorem EV_imeth {o : Expr} {name : Str} {apos pos : Pos} {es : List Expr} (hs : noStar es = true) (hl : es.length < 20) (hline : (apos.endLine == pos.line) = true)
    (h : EV B n X G m σ o (IM B n X G m name es Q))
    (hb : ∀ env, attributeBase o name env (eval o env) = eval o env := by intro _; rfl) : EV B n X G m σ (.Call (.Attribute o name apos) es [] pos) Q := fun A env fx μ s O => by
  show wpAny _ _ _ _ _ _
  simp only [arm_eval_Call, hb]
  refine wpAny_bind (wpAny_mono (h A env fx μ s O) (fun v s₁ z_ => ?_) fun z_ z_ e => e)
  refine shut fun P_ o_ => ?_
  obtain ⟨μ₁, σ₁, P₁, a, ha, i, C, fs, f, e1, hi, cf, mf, hnm, q⟩ := z_
  refine o_ ?_
  subst e1
  have O₁ := O.next P₁
  refine shut fun P_ o_ => ?_
  obtain ⟨-, rfl⟩ := VR_ref_of ha
  obtain ⟨hx, es', ep, hd, hz, nd, her⟩ := O₁.rel.inst hi
  obtain ⟨r1, r2⟩ := er_none her
  refine o_ ?_
  have hsh : shadowIn (some { cls := .type "dict", data := .dict (List.toArray es') ep }) name = some false := by
    unfold shadowIn lookIn
    dsimp only
    rw [r2 hnm, r1]; rfl
  have hform : methodCallForm (es.length + ([] : List Keyword).length) (backTo pos (starEach es env)) (backToKw pos (keywordEach [] env)) = true := by
    unfold methodCallForm
    rw [noStar_all hs]
    show (true && true && decide (es.length + 0 + 0 < 30)) = true
    simp; lia -abstractProof
  have hpos : methodCallPos true o env apos pos = pure pos := by unfold methodCallPos; simp [hline]
  refine wpAny_bind (wpAny_standAt ?_)
  unfold methodCall
  rw [hform]
  refine wpAny_bind (wpAny_holding ?_)
  show wpAny _ _ (getMethod _ _ _) _ _ _
  refine method_fn (B.X.keeps O₁.rel.base) (instAt_of hx hd) cf.ga cf.gt mf.find mf.fn hsh ?_
  refine wpAny_bind (wpAny_of_eq hpos ?_)
  exact W.from P₁ (W_callWith (first := [.ref i]) O₁ (fun h X' => keeps_K mf.keep h X') hs (VRs_one ha) q)
end
inductive Upd : Loc → Str → V → Loc → Prop
  | head {x o v r} : Upd ((x, o) :: r) x v ((x, some v) :: r)
  | tail {p r x v r'} : Upd r x v r' → Upd (p :: r) x v (p :: r')
theorem uI : ∀ {m : Loc} {x : Str} {v : V} {o : Option V} (k : Nat), nthL m k = some (x, o) → Upd m x v (setL m k v)
  | p :: _, _, _, _, 0, h => by cases h; exact .head
  | _ :: _, _, _, _, k + 1, h => .tail (uI k h)
theorem Upd.names {m m' : Loc} {x : Str} {v : V} (u : Upd m x v m') : m'.map (·.1) = m.map (·.1) := by
  induction u with
  | head => rfl
  | tail _ ih => simp only [List.map_cons, List.map_cons, ih]
theorem Upd.old {m m' : Loc} {x : Str} {v : V} (u : Upd m x v m') : ∃ o, (x, o) ∈ m := by
  induction u with
  | head => exact ⟨_, .head _⟩
  | tail _ ih => obtain ⟨o, h⟩ := ih; exact ⟨o, .tail _ h⟩
theorem Upd.of {m m' : Loc} {x : Str} {v : V} (u : Upd m x v m') (nd : (m.map (·.1)).Nodup) : ∀ {y : Str} {o : Option V}, (y, o) ∈ m' → (y = x ∧ o = some v) ∨ (y ≠ x ∧ (y, o) ∈ m) := by
  induction u with
  | head =>
    intro y o h
    rw [List.map_cons, List.nodup_cons] at nd
    rcases List.mem_cons.mp h with q | q
    · cases q; exact .inl ⟨rfl, rfl⟩
    · exact .inr ⟨fun e => nd.1 (List.mem_map.mpr ⟨_, q, e⟩), .tail _ q⟩
  | tail u ih =>
    intro y o h
    rw [List.map_cons, List.nodup_cons] at nd
    rcases List.mem_cons.mp h with q | q
    · subst q
      obtain ⟨o', ho⟩ := u.old
      exact .inr ⟨fun e => nd.1 (List.mem_map.mpr ⟨_, ho, e.symm⟩), .head _⟩
    · rcases ih nd.2 q with z | ⟨z1, z2⟩
      · exact .inl z
      · exact .inr ⟨z1, .tail _ z2⟩
section
variable {B : Bs} {n : Nat} {X : V → List AO → Prop} {G : Gs} {m m' : Loc} {σ : List AO} {A : Around} {env : Env} {fx : List Addr} {μ : Mp} {s : Shared}
theorem nt_ns {h : Heap} {L : Addr} {f : Str → Option Value} (x : h.Ns L f) (items : Array Value) : ¬ h.IsTuple L items := fun ⟨o, e, _, k, hd⟩ => by
  obtain ⟨o', es, ep, e', hd', _⟩ := x
  rw [e] at e'; cases e'; rw [hd] at hd'; cases hd'
theorem nt_cell {h : Heap} {L : Addr} {w : Option Value} (x : h.IsCell L w) (items : Array Value) : ¬ h.IsTuple L items := fun ⟨o, e, _, k, hd⟩ => by
  obtain ⟨o', e', hd'⟩ := x
  rw [e] at e'; cases e'; rw [hd] at hd'; cases hd'
theorem Ok.turn {L : Addr} {s' : Shared} (O : Ok B n G A env fx m μ σ s) (R' : Rel B μ σ s'.heap) (hs : Heap.SameBut L s.heap s'.heap) (hn : (m'.map (·.1)) = m.map (·.1))
    (hnew : L ∈ fx ∨ L ∈ frs A → ∃ o, s'.heap.get? L = some o ∧ (∀ items k, o.data ≠ .seq items k) ∧ ∀ vs, o.data ≠ .fields vs)
    (hcell : ∀ x c, env.cells.lookup x = some c → ∃ w, s'.heap.IsCell c w) (hslots : ∃ f, s'.heap.Ns env.locals f ∧ ∀ x o, (x, o) ∈ m' → Slot μ σ.length s'.heap env f x o) : Ok B n G A env fx m' μ σ s' where
  rel := R'
  room := O.room
  units := O.units
  hnd := O.hnd
  frames := by
    refine shut fun P_ o_ => ?_
    obtain ⟨f, outer, e1, e2, e3⟩ := O.frames
    refine o_ ?_
    refine ⟨f, outer, e1, e2, ?_⟩
    have : ∀ {l : List Env}, (∀ a, a ∈ l.filterMap (·.frame) → a ∈ frs A) → s.heap.FunFrames B.h₀ l → s'.heap.FunFrames B.h₀ l := fun {l} => by
      induction l with
      | nil => intro _ h; exact h
      | cons f l ih =>
        intro hm z1_
        refine shut fun P_ o_ => ?_
        obtain ⟨hk, ⟨L', o', hL', hb, ho', hd⟩, hr⟩ := z1_
        refine o_ ?_
        rw [List.filterMap_cons, hL'] at hm
        refine ⟨hk, ?_, ih (fun a ha => hm a (.tail _ ha)) hr⟩
        by_cases q : L' = L
        · subst q
          refine shut fun P_ o_ => ?_
          obtain ⟨o, ho, _, hf⟩ := hnew (.inr (hm _ (.head _)))
          refine o_ ?_
          exact ⟨L', o, hL', hb, ho, hf⟩
        · exact ⟨L', o', hL', hb, (hs.2 _ q).trans ho', hd⟩
    exact this (fun a ha => by rw [frs, e1]; exact ha) e3
  kind := O.kind
  glob := O.glob
  blt := O.blt
  fxl := O.fxl
  fxo := fun a ha => by
    refine shut fun P_ o_ => ?_
    obtain ⟨h1, h2, o, h3, h4⟩ := O.fxo a ha
    refine o_ ?_
    by_cases q : a = L
    · subst q
      refine shut fun P_ o_ => ?_
      obtain ⟨o', ho', hs'⟩ := hnew (.inl ha)
      refine o_ ?_
      exact ⟨h1, h2, o', ho', hs'⟩
    · exact ⟨h1, h2, o, (hs.2 _ q).trans h3, h4⟩
  cel := fun x c hc => by
    refine shut fun P_ o_ => ?_
    obtain ⟨h1, h2, h3, w, h4⟩ := O.cel x c hc
    refine o_ ?_
    exact ⟨h1, h2, h3, hcell x c hc⟩
  celI := O.celI
  slots := hslots
  nod := by rw [hn]; exact O.nod
  frn := O.frn
  nf := O.nf
  gk := O.gk
  ck := O.ck
  lk := O.lk
  dbg := fun p hp => by
    have : p.1 ∈ m.map (·.1) := by rw [← hn]; exact List.mem_map_of_mem hp
    refine shut fun P_ o_ => ?_
    obtain ⟨q, hq, e⟩ := List.mem_map.mp this
    refine o_ ?_
    rw [← e]; exact O.dbg q hq
theorem W_store' {A' : Around} {x : Str} {a : V} {v : Value} (O : Ok B n G A env fx m μ σ s) (hf : env.func.isSome = true ∨ env.kindOf x = some .local) (u : Upd m x a m') (hv : VR μ σ.length s.heap a v) {E : Value → Shared → Prop} :
    wpAny (model B.prog B.w) A' (storeName env x v) (fun z_ s' => Post B (frs A) fx μ σ s μ σ s' ∧ Ok B n G A env fx m' μ σ s') E s := by
  obtain ⟨f, hns, hsl⟩ := O.slots
  obtain ⟨o, ho⟩ := u.old
  have tkOf : ∀ {s' : Shared}, Post B (frs A) fx μ σ s μ σ s' → TK s.heap s'.heap := fun P => P.tk O.rel O.nt
  rcases hsl x o ho with ⟨k, q⟩ | ⟨k, c, w, hl, hw, q⟩
  · refine wpAny_storeName_local k hns (fun h' hn hs => ?_) (by rw [O.kind]; rfl)
    refine shut fun P_ o_ => ?_
    obtain ⟨l1, l2, _⟩ := O.fxo _ O.fxl
    refine o_ ?_
    have P : Post B (frs A) fx μ σ s μ σ { s with heap := h', toks := s.toks + 1 } := Post.own O.rel O.fxl l1 l2 (nt_ns hns) hs (let ⟨o, _, _, e, hd, _⟩ := hn; ⟨o, e, fun z_ q => by rw [hd] at q; cases q⟩)
    refine ⟨P, O.turn P.rel hs u.names ?_ ?_ ⟨_, hn, fun y o' hy => ?_⟩⟩
    · refine shut fun P_ o_ => ?_
      obtain ⟨ob, es, ep, e, hd, _⟩ := hn
      refine o_ ?_
      exact fun z_ => ⟨ob, e, fun z_ z_ q => (by rw [hd] at q; cases q), fun z_ q => (by rw [hd] at q; cases q)⟩
    · intro y c hc
      refine shut fun P_ o_ => ?_
      obtain ⟨_, _, _, w, hw⟩ := O.cel y c hc
      refine o_ ?_
      refine shut fun P_ o_ => ?_
      obtain ⟨oc, e, hd⟩ := hw
      refine o_ ?_
      refine ⟨w, oc, (hs.2 c fun q => ?_).trans e, hd⟩
      refine shut fun P_ o_ => ?_
      obtain ⟨ob, es, ep, e', hd', _⟩ := hns
      refine o_ ?_
      rw [q] at e; rw [e] at e'; cases e'; rw [hd] at hd'; cases hd'
    · rcases u.of O.nod hy with ⟨rfl, rfl⟩ | ⟨hne, hy'⟩
      · exact .inl ⟨k, fun v' e => by cases e; exact ⟨v, if_pos rfl, VR.keeps (tkOf P) (Nat.le_refl _) (fun z_ z_ => rfl) hv⟩⟩
      · rcases hsl y o' hy' with ⟨k', q'⟩ | ⟨k', c, w, hl, hw, q'⟩
        · exact .inl ⟨k', fun v' e => let ⟨val, a1, a2⟩ := q' v' e; ⟨val, (if_neg hne).trans a1, VR.keeps (tkOf P) (Nat.le_refl _) (fun z_ z_ => rfl) a2⟩⟩
        · refine .inr ⟨k', c, w, hl, ?_, fun v' e => let ⟨val, a1, a2⟩ := q' v' e; ⟨val, a1, VR.keeps (tkOf P) (Nat.le_refl _) (fun z_ z_ => rfl) a2⟩⟩
          obtain ⟨oc, e, hd⟩ := hw
          refine ⟨oc, (hs.2 c fun q => ?_).trans e, hd⟩
          obtain ⟨ob, es, ep, e', hd', _⟩ := hns
          rw [q] at e; rw [e] at e'; cases e'; rw [hd] at hd'; cases hd'
  · rcases k with k | k
    · have hfs : env.func.isSome = true := by
        rcases hf with hf | hf
        · exact hf
        · rw [k] at hf; cases hf
      obtain ⟨c1, c2, c3, _⟩ := O.cel x c hl
      refine wpAny_storeName_cell O.kind k hl hw (fun h' hn hs => ?_)
      have P : Post B (frs A) fx μ σ s μ σ { s with heap := h' } := Post.own O.rel (c3 hfs k) c1 c2 (nt_cell hw) hs (let ⟨o, e, hd⟩ := hn; ⟨o, e, fun z_ q => by rw [hd] at q; cases q⟩)
      have hL : env.locals ≠ c := fun q => by
        refine shut fun P_ o_ => ?_
        obtain ⟨ob, es, ep, e', hd', _⟩ := hns
        obtain ⟨oc, e, hd⟩ := hw
        refine o_ ?_
        rw [q] at e'; rw [e] at e'; cases e'; rw [hd] at hd'; cases hd'
      refine ⟨P, O.turn P.rel hs u.names ?_ ?_ ⟨f, hns.sameBut hs hL, fun y o' hy => ?_⟩⟩
      · refine shut fun P_ o_ => ?_
        obtain ⟨ob, e, hd⟩ := hn
        refine o_ ?_
        exact fun z_ => ⟨ob, e, fun z_ z_ q => (by rw [hd] at q; cases q), fun z_ q => (by rw [hd] at q; cases q)⟩
      · intro y c' hc
        by_cases q : c' = c
        · subst q; exact ⟨_, hn⟩
        · refine shut fun P_ o_ => ?_
          obtain ⟨_, _, _, w', oc, e, hd⟩ := O.cel y c' hc
          refine o_ ?_
          exact ⟨w', oc, (hs.2 _ q).trans e, hd⟩
      · rcases u.of O.nod hy with ⟨rfl, rfl⟩ | ⟨hne, hy'⟩
        · exact .inr ⟨.inl k, c, some v, hl, hn, fun v' e => by cases e; exact ⟨v, rfl, VR.keeps (tkOf P) (Nat.le_refl _) (fun z_ z_ => rfl) hv⟩⟩
        · rcases hsl y o' hy' with ⟨k', q'⟩ | ⟨k', c', w', hl', ⟨oc, e, hd⟩, q'⟩
          · exact .inl ⟨k', fun v' e => let ⟨val, a1, a2⟩ := q' v' e; ⟨val, a1, VR.keeps (tkOf P) (Nat.le_refl _) (fun z_ z_ => rfl) a2⟩⟩
          · refine .inr ⟨k', c', w', hl', ⟨oc, (hs.2 c' fun q => ?_).trans e, hd⟩, fun v' e => let ⟨val, a1, a2⟩ := q' v' e; ⟨val, a1, VR.keeps (tkOf P) (Nat.le_refl _) (fun z_ z_ => rfl) a2⟩⟩
            subst q
            exact hne (O.celI _ _ _ hl' hl)
    · exfalso
      rcases hf with hf | hf
      · exact O.nf hf x k
      · rw [k] at hf; cases hf
end
section
variable {B : Bs} {n : Nat} {X : V → List AO → Prop} {G : Gs} {m : Loc} {σ : List AO} {Q : AF → Loc → List AO → Prop}
theorem EXs_nil (h : Q .nxt m σ) : EXs B n X G m σ [] Q := fun A env fx μ s hf O => wpAny_execs_nil ⟨μ, σ, Post.refl O.rel, .nxt, m, trivial, O, h⟩
noncomputable def AF.isNxt : AF → Bool
  | .nxt => true
  | _ => false
theorem EXs_cons {st : Stmt} {rest : List Stmt} (h : EX B n X G m σ st (Cn B n X G rest Q)) : EXs B n X G m σ (st :: rest) Q := fun A env fx μ s hf O => by
  refine wpAny_execs_cons (wpAny_mono (h A env fx μ s hf O) (fun fl s₁ z_ => ?_) fun z_ z_ x => x)
  refine shut fun P_ o_ => ?_
  obtain ⟨μ₁, σ₁, P₁, af, m', hr, O₁, q1, q2⟩ := z_
  refine o_ ?_
  cases fl <;> cases af <;> first | exact hr.elim | skip
  · exact W.from P₁ (q1 rfl A env fx μ₁ s₁ hf O₁)
  · exact ⟨μ₁, σ₁, P₁, _, m', hr, O₁, q2 (by intro e; cases e)⟩
  · exact ⟨μ₁, σ₁, P₁, _, m', hr, O₁, q2 (by intro e; cases e)⟩
  · exact ⟨μ₁, σ₁, P₁, _, m', hr, O₁, q2 (by intro e; cases e)⟩
theorem EXs_next {st : Stmt} {rest : List Stmt} (h : EX B n X G m σ st (Nx B n X G rest Q)) : EXs B n X G m σ (st :: rest) Q :=
  EXs_cons fun A env fx μ s hf O => (h A env fx μ s hf O).mono fun _ _ _ _ _ ⟨af, m', hr, O', e, q⟩ => ⟨af, m', hr, O', fun z_ => q, fun z => absurd e z⟩
theorem EXs_last {st : Stmt} (h : EX B n X G m σ st Q) : EXs B n X G m σ [st] Q :=
  EXs_cons fun A env fx μ s hf O => (h A env fx μ s hf O).mono fun _ _ _ _ _ ⟨af, m', hr, O', q⟩ => ⟨af, m', hr, O', fun e => EXs_nil (by subst e; exact q), fun z_ => q⟩
theorem EX_mono {st : Stmt} {Q' : AF → Loc → List AO → Prop} (h : EX B n X G m σ st Q) (hQ : ∀ a m' σ', Q a m' σ' → Q' a m' σ') : EX B n X G m σ st Q' := fun A env fx μ s hf O => (h A env fx μ s hf O).mono fun _ _ _ _ _ ⟨a, m', h1, h2, h3⟩ => ⟨a, m', h1, h2, hQ _ _ _ h3⟩
theorem EXs_mono {st : List Stmt} {Q' : AF → Loc → List AO → Prop} (h : EXs B n X G m σ st Q) (hQ : ∀ a m' σ', Q a m' σ' → Q' a m' σ') : EXs B n X G m σ st Q' := fun A env fx μ s hf O => (h A env fx μ s hf O).mono fun _ _ _ _ _ ⟨a, m', h1, h2, h3⟩ => ⟨a, m', h1, h2, hQ _ _ _ h3⟩
theorem W.ev {α β : Type} {A : Around} {fx : List Addr} {μ : Mp} {s : Shared} {t : Sem α} {k : α → Sem β} {R : α → Mp → List AO → Shared → Prop} {R' : β → Mp → List AO → Shared → Prop} (h : W B X A [] μ σ s t R)
    (hk : ∀ v μ₁ σ₁ s₁, Post B (frs A) [] μ σ s μ₁ σ₁ s₁ → R v μ₁ σ₁ s₁ → W B X A fx μ₁ σ₁ s₁ (k v) R') :
    wpAny (model B.prog B.w) A t (fun v s₁ => wpAny (model B.prog B.w) A (k v) (Wq B (frs A) fx μ σ s R') (QE B (frs A) fx μ σ s X) s₁) (QE B (frs A) fx μ σ s X) s :=
  wpAny_mono h (fun v s₁ ⟨μ₁, σ₁, P, r⟩ => W.from P.weaken (hk v μ₁ σ₁ s₁ P r)) fun z_ z_ x => x.weaken
theorem W_storeQ {A : Around} {env : Env} {fx : List Addr} {μ : Mp} {s : Shared} {x : Str} {a : V} {v : Value} {m' : Loc} (O : Ok B n G A env fx m μ σ s) (hf : env.func.isSome = true ∨ env.kindOf x = some .local) (u : Upd m x a m') (hv : VR μ σ.length s.heap a v) (q : Q .nxt m' σ) :
    wpAny (model B.prog B.w) A (storeName env x v) (fun z_ s' => Wq B (frs A) fx μ σ s (EXq B n G A env fx Q) .next s') (QE B (frs A) fx μ σ s X) s :=
  wpAny_mono (W_store' O hf u hv) (fun _ s' ⟨P, O'⟩ => ⟨_, _, P, .nxt, m', trivial, O', q⟩) fun z_ z_ x => x
inductive Asg (m : Loc) (x : Str) (K : Loc → List AO → Prop) (a : V) (σ₁ : List AO) : Prop
  | mk (m' : Loc) (u : Upd m x a m') (k : K m' σ₁)
theorem EX_assign {x : Str} {pos' pos : Pos} {value : Expr} (h : EV B n X G m σ value (Asg m x (Q .nxt)))
    (hs : ∀ env, swapsWith value (some (.Name x pos')) pos.line env = pure false := by intro _; rfl) : EX B n X G m σ (.Assign [.Name x pos'] value pos) Q := fun A env fx μ s hf O => by
  refine wpAny_Assign_Name (wpAny_mono (h A env fx μ s O) (fun v s₁ z_ => ?_) fun z_ z_ x => x.weaken) (hs env)
  refine shut fun P_ o_ => ?_
  obtain ⟨μ₁, σ₁, P₁, a, ha, m', u, q⟩ := z_
  refine o_ ?_
  exact wpAny_mono (W_storeQ (X := X) (O.next P₁) (.inl hf) u ha q) (fun _ s' ⟨μ', σ', P, r⟩ => ⟨μ', σ', P₁.weaken.trans P, r⟩) fun z_ z_ x => x.trans P₁.weaken
theorem EX_expr {e : Expr} {pos : Pos} (h : EV B n X G m σ e (ExK Q m)) (hs : ∀ env, swapsWith e none pos.line env = pure false := by intro _; rfl) : EX B n X G m σ (.Expr e pos) Q := fun A env fx μ s hf O => by
  refine wpAny_Expr_any (wpAny_mono (h A env fx μ s O) (fun v s₁ ⟨μ₁, σ₁, P₁, a, ha, q⟩ => ⟨μ₁, σ₁, P₁.weaken, .nxt, m, trivial, O.next P₁, q⟩) fun z_ z_ x => x.weaken) ?_ (hs env)
  unfold interactive; rw [O.kind]; rfl
theorem EX_pass {pos : Pos} (h : Q .nxt m σ) : EX B n X G m σ (.Pass pos) Q := fun A env fx μ s hf O => wpAny_Pass ⟨μ, σ, Post.refl O.rel, .nxt, m, trivial, O, h⟩
theorem EX_cont {pos : Pos} (h : Q .cnt m σ) : EX B n X G m σ (.Continue pos) Q := fun A env fx μ s hf O => wpAny_Continue ⟨μ, σ, Post.refl O.rel, .cnt, m, trivial, O, h⟩
theorem EX_ret {e : Expr} {pos : Pos} (h : EV B n X G m σ e (RetK Q m)) : EX B n X G m σ (.Return (some e) pos) Q := fun A env fx μ s hf O =>
  wpAny_Return_some (wpAny_mono (h A env fx μ s O) (fun v s₁ ⟨μ₁, σ₁, P₁, a, ha, q⟩ => ⟨μ₁, σ₁, P₁.weaken, .ret a, m, ha, O.next P₁, q⟩) fun z_ z_ x => x.weaken)
theorem EX_if {test : Expr} {body orelse : List Stmt} {pos : Pos} (h : TE B n X G m σ test (IfS B n X G m body orelse Q)) : EX B n X G m σ (.If test body orelse pos) Q := fun A env fx μ s hf O => by
  refine wpAny_If (wpAny_mono (h A env fx μ s O) (fun b s₁ z_ => ?_) fun z_ z_ x => x.weaken)
  refine shut fun P_ o_ => ?_
  obtain ⟨μ₁, σ₁, P₁, q1, q2⟩ := z_
  refine o_ ?_
  cases b with
  | true => exact W.from P₁.weaken (q1 rfl A env fx μ₁ s₁ hf (O.next P₁))
  | false => exact W.from P₁.weaken (q2 rfl A env fx μ₁ s₁ hf (O.next P₁))
noncomputable def OPu (B : Bs) (n : Nat) (X : V → List AO → Prop) (l : List V) (σ : List AO) (k : List Value → Sem Unit) (Q : List AO → Prop) : Prop :=
  ∀ A μ s vs, OkC B n A μ σ s → VRs μ σ.length s.heap l vs → W B X A [] μ σ s (k vs) (fun z_ z_ σ' z_ => Q σ')
noncomputable abbrev U2 (B : Bs) (n : Nat) (X : V → List AO → Prop) (k : List Value → Sem Unit) (Q : List AO → Prop) : V → V → List AO → Prop := fun v a σ₁ => OPu B n X [a, v] σ₁ k Q
noncomputable abbrev U3 (B : Bs) (n : Nat) (X : V → List AO → Prop) (k : List Value → Sem Unit) (Q : List AO → Prop) : V → V → V → List AO → Prop := fun v a b σ₁ => OPu B n X [a, b, v] σ₁ k Q
noncomputable abbrev stA (x : Str) : List Value → Sem Unit := (fun | [a, v] => setAttr a x v | _ => pure ())
noncomputable abbrev stI : List Value → Sem Unit := (fun | [a, b, v] => setItem a b v | _ => pure ())
theorem EX_setattr {o value : Expr} {x : Str} {pos' pos : Pos} (h : EV B n X G m σ value (K2 B n X G m o (U2 B n X (stA x) (Q .nxt m))))
    (hs : ∀ env, swapsWith value (some (.Attribute o x pos')) pos.line env = pure false := by intro _; rfl) : EX B n X G m σ (.Assign [.Attribute o x pos'] value pos) Q := fun A env fx μ s hf O => by
  refine plainObj_wpAny_Assign_Attribute (wpAny_mono (h A env fx μ s O) (fun v s₁ z_ => ?_) fun z_ z_ x => x.weaken) (hs env)
  refine shut fun P_ o_ => ?_
  obtain ⟨μ₁, σ₁, P₁, a, ha, h₁⟩ := z_
  refine o_ ?_
  have O₁ := O.next P₁
  refine wpAny_mono (h₁ A env fx μ₁ s₁ O₁) (fun vo s₂ z_ => ?_) fun z_ z_ x => (x.trans P₁).weaken
  refine shut fun P_ o_ => ?_
  obtain ⟨μ₂, σ₂, P₂, b, hb, h₂⟩ := z_
  refine o_ ?_
  have O₂ := O₁.next P₂
  exact wpAny_mono (h₂ A μ₂ s₂ [vo, v] O₂.c (VRs_cons hb (VRs_one (VR.post O₁.rel P₂ nt_nil ha)))) (fun _ s₃ ⟨μ₃, σ₃, P₃, q⟩ => ⟨μ₃, σ₃, ((P₁.trans P₂).trans P₃).weaken, .nxt, m, trivial, O₂.next P₃, q⟩) fun z_ z_ x => (x.trans (P₁.trans P₂)).weaken
theorem EX_setitem {o i value : Expr} {pos' pos : Pos} (h : EV B n X G m σ value (K2 B n X G m o (K3 B n X G m i (U3 B n X stI (Q .nxt m)))))
    (hs : ∀ env, swapsWith value (some (.Subscript o i pos')) pos.line env = pure false := by intro _; rfl) : EX B n X G m σ (.Assign [.Subscript o i pos'] value pos) Q := fun A env fx μ s hf O => by
  refine wpAny_Assign_Subscript (wpAny_mono (h A env fx μ s O) (fun v s₁ z_ => ?_) fun z_ z_ x => x.weaken) (hs env)
  refine shut fun P_ o_ => ?_
  obtain ⟨μ₁, σ₁, P₁, a, ha, h₁⟩ := z_
  refine o_ ?_
  have O₁ := O.next P₁
  refine wpAny_mono (h₁ A env fx μ₁ s₁ O₁) (fun vo s₂ z_ => ?_) fun z_ z_ x => (x.trans P₁).weaken
  refine shut fun P_ o_ => ?_
  obtain ⟨μ₂, σ₂, P₂, b, hb, h₂⟩ := z_
  refine o_ ?_
  have O₂ := O₁.next P₂
  refine wpAny_mono (h₂ A env fx μ₂ s₂ O₂) (fun vi s₃ z_ => ?_) fun z_ z_ x => (x.trans (P₁.trans P₂)).weaken
  refine shut fun P_ o_ => ?_
  obtain ⟨μ₃, σ₃, P₃, c, hc, h₃⟩ := z_
  refine o_ ?_
  have O₃ := O₂.next P₃
  exact wpAny_mono (h₃ A μ₃ s₃ [vo, vi, v] O₃.c (VRs_cons (VR.post O₂.rel P₃ nt_nil hb) (VRs_cons hc (VRs_one (VR.post O₂.rel P₃ nt_nil (VR.post O₁.rel P₂ nt_nil ha))))))
    (fun _ s₄ ⟨μ₄, σ₄, P₄, q⟩ => ⟨μ₄, σ₄, (((P₁.trans P₂).trans P₃).trans P₄).weaken, .nxt, m, trivial, O₃.next P₄, q⟩) fun z_ z_ x => (x.trans ((P₁.trans P₂).trans P₃)).weaken
theorem EX_aug {x : Str} {pos' pos : Pos} {op : Operator} {value : Expr} {v₀ : V} (hm : (x, some v₀) ∈ m) (h : EV B n X G m σ value (J2 B n X (inplaceOp op) (Asg m x (Q .nxt)) v₀)) : EX B n X G m σ (.AugAssign (.Name x pos') op value pos) Q := fun A env fx μ s hf O => by
  obtain ⟨d1, d2⟩ := O.dbg _ hm
  have ld : W B X A [] μ σ s (loadName env x) (fun v μ' σ' s' => VR μ' σ'.length s'.heap v₀ v ∧ μ' = μ ∧ σ' = σ ∧ s' = s) := by
    refine shut fun P_ o_ => ?_
    obtain ⟨f, hns, hsl⟩ := O.slots
    refine o_ ?_
    rcases hsl x _ hm with ⟨k, q⟩ | ⟨k, c, w, hl, hw, q⟩
    · obtain ⟨val, a, b⟩ := q v₀ rfl
      exact wpAny_loadName_local O.kind k hns a ⟨μ, σ, Post.refl O.rel, b, rfl, rfl, rfl⟩
    · obtain ⟨val, rfl, b⟩ := q v₀ rfl
      rcases k with k | k
      · exact wpAny_loadName_cell O.kind k hl hw ⟨μ, σ, Post.refl O.rel, b, rfl, rfl, rfl⟩
      · exact wpAny_loadName_free O.kind k hl hw ⟨μ, σ, Post.refl O.rel, b, rfl, rfl, rfl⟩ d2
  refine wpAny_AugAssign_Name (wpAny_mono ld (fun v s₁ z_ => ?_) fun z_ z_ x => x.weaken)
  refine shut fun P_ o_ => ?_
  obtain ⟨μ₁, σ₁, P₁, hv, e1, e2, e3⟩ := z_
  refine o_ ?_
  subst e1 e2 e3
  refine wpAny_mono (h A env fx _ _ O) (fun vb s₂ z_ => ?_) fun z_ z_ x => x.weaken
  refine shut fun P_ o_ => ?_
  obtain ⟨μ₂, σ₂, P₂, b, hb, h₂⟩ := z_
  refine o_ ?_
  have O₂ := O.next P₂
  refine wpAny_mono (h₂ A μ₂ s₂ v vb O₂.c (VR.post O.rel P₂ nt_nil hv) hb) (fun vc s₃ z_ => ?_) fun z_ z_ x => (x.trans P₂).weaken
  refine shut fun P_ o_ => ?_
  obtain ⟨μ₃, σ₃, P₃, c, hc, m', u, q⟩ := z_
  refine o_ ?_
  exact wpAny_mono (W_storeQ (X := X) (O₂.next P₃) (.inl hf) u hc q) (fun _ s' ⟨μ', σ', P, r⟩ => ⟨μ', σ', (P₂.trans P₃).weaken.trans P, r⟩) fun z_ z_ x => x.trans (P₂.trans P₃).weaken
theorem EX_augitem {o i value : Expr} {pos' pos : Pos} {op : Operator} (h : EV B n X G m σ o fun a σ₁ => EV B n X G m σ₁ i fun b σ₂ => SUB B n X a b σ₂ fun c σ₃ => EV B n X G m σ₃ value fun d σ₄ => OP2 B n X c d σ₄ (inplaceOp op) fun e σ₅ => OPu B n X [a, b, e] σ₅ stI (Q .nxt m))
    (hi : ∀ ov iv new, augStore i ov iv new = (do holding [new, ov, iv] (setItem ov iv new); release [new, ov, iv] []; pure .next) := by intros; rfl) : EX B n X G m σ (.AugAssign (.Subscript o i pos') op value pos) Q := fun A env fx μ s hf O => by
  refine wpAny_AugAssign_SubscriptAny (wpAny_mono (h A env fx μ s O) (fun va s₁ z_ => ?_) fun z_ z_ x => x.weaken) hi
  refine shut fun P_ o_ => ?_
  obtain ⟨μ₁, σ₁, P₁, a, ha, h₁⟩ := z_
  refine o_ ?_
  have O₁ := O.next P₁
  refine wpAny_mono (h₁ A env fx μ₁ s₁ O₁) (fun vb s₂ z_ => ?_) fun z_ z_ x => (x.trans P₁).weaken
  refine shut fun P_ o_ => ?_
  obtain ⟨μ₂, σ₂, P₂, b, hb, h₂⟩ := z_
  refine o_ ?_
  have O₂ := O₁.next P₂
  have ha₂ := VR.post O₁.rel P₂ nt_nil ha
  refine shut fun P_ o_ => ?_
  obtain ⟨T, id, _, _, hg⟩ := h₂ A μ₂ s₂ va vb O₂.c ha₂ hb
  refine o_ ?_
  refine wpAny_mono hg (fun vc s₃ z_ => ?_) fun z_ z_ x => (x.trans (P₁.trans P₂)).weaken
  refine shut fun P_ o_ => ?_
  obtain ⟨μ₃, σ₃, P₃, c, hc, h₃⟩ := z_
  refine o_ ?_
  have O₃ := O₂.next P₃
  refine wpAny_mono (h₃ A env fx μ₃ s₃ O₃) (fun vd s₄ z_ => ?_) fun z_ z_ x => (x.trans ((P₁.trans P₂).trans P₃)).weaken
  refine shut fun P_ o_ => ?_
  obtain ⟨μ₄, σ₄, P₄, d, hd, h₄⟩ := z_
  refine o_ ?_
  have O₄ := O₃.next P₄
  refine wpAny_mono (h₄ A μ₄ s₄ vc vd O₄.c (VR.post O₃.rel P₄ nt_nil hc) hd) (fun ve s₅ z_ => ?_) fun z_ z_ x => (x.trans (((P₁.trans P₂).trans P₃).trans P₄)).weaken
  refine shut fun P_ o_ => ?_
  obtain ⟨μ₅, σ₅, P₅, e, he, h₅⟩ := z_
  refine o_ ?_
  have O₅ := O₄.next P₅
  have P35 := (P₃.trans P₄).trans P₅
  exact wpAny_mono (h₅ A μ₅ s₅ [va, vb, ve] O₅.c (VRs_cons (VR.post O₂.rel P35 nt_nil ha₂) (VRs_cons (VR.post O₂.rel P35 nt_nil hb) (VRs_one he))))
    (fun _ s₆ ⟨μ₆, σ₆, P₆, q⟩ => ⟨μ₆, σ₆, (((P₁.trans P₂).trans P35).trans P₆).weaken, .nxt, m, trivial, O₅.next P₆, q⟩) fun z_ z_ x => (x.trans ((P₁.trans P₂).trans P35)).weaken
end
structure Thru (B : Bs) (X : V → List AO → Prop) : Prop where
  leave : ∀ {n G A env fx m μ σ s e s'}, Ok B n G A env fx m μ σ s → env.func.isSome = true → QE B (frs A) fx μ σ s X e s' → wpAny (model B.prog B.w) A (leaving env e) (fun z_ s'' => QE B (frs A) fx μ σ s X e s'') (fun z_ z_ => False) s'
  loop : ∀ {n G A env fx m μ σ s e s'}, Ok B n G A env fx m μ σ s → QE B (frs A) fx μ σ s X e s' → notedBy (model B.prog B.w) A env (fun e s' => cameBackBy (model B.prog B.w) A env (QE B (frs A) fx μ σ s X) e s') e s'
theorem thruNo {B : Bs} : Thru B NoX := ⟨fun z_ z_ h => by obtain ⟨_, _, _, _, _, _, _, _, h⟩ := h; exact h.elim, fun z_ h => by obtain ⟨_, _, _, _, _, _, _, _, h⟩ := h; exact h.elim⟩
inductive FNo (B : Bs) (f : Addr) (ps : List Str) (dargs : List V) (body : List Stmt) (sc : Scope) : Prop
  | mk (oc : Value) (od : Option Addr) (osl : Array (Option Value)) (name qual : Str) (params : Arguments) (dV kV doc pm : Value) (an : Option Addr) (cdv ct : Value) (dvals : List Value) (hdv : ∀ μ N h, VRs μ N h dargs dvals)
    (hob : B.K.lookup f = some ⟨oc, od, .func (fnOf name qual params body sc dV kV doc pm an cdv ct), osl⟩) (hcd : codeIn B.K cdv qual = true)
    (hb : ∀ vals : List Value, vals.length + dargs.length = ps.length → ∀ (M : Model) (A : Around) (E : Value → Shared → Prop) (s : Shared) (Q : List (Str × Value) → Shared → Prop), B.K.In s.heap → Q (ps.zip (vals ++ dvals)) s → wpAny M A (bindArgs (fnOf name qual params body sc dV kV doc pm an cdv ct) ⟨vals, []⟩) Q E s)
structure FN (B : Bs) (f : Addr) (ps : List Str) (dargs : List V) (body : List Stmt) (sc : Scope) : Prop where
  ob : FNo B f ps dargs body sc
noncomputable def chk (sc : Scope) (G : Gs) (ps others : List Str) : Bool :=
  sc.kind == .function && !sc.isCoroutine && !sc.isGenerator && sc.names.all (fun p => p.2 != .free) && G.g.all (fun x => sc.names.lookup x == some .globalImplicit && x != ("__debug__" : Str)) &&
  (ps ++ others).all (fun x => (sc.names.lookup x == some .local || (sc.names.lookup x == some .cell && ((cellsFrom 0 sc.names []).lookup x).isSome)) && x != ("__debug__" : Str) && x != ("__classdict__" : Str)) && decide ((ps ++ others).Nodup) && decide (((cellsFrom 0 sc.names []).map (·.1)).Nodup) &&
  G.l.all (fun x => sc.names.lookup x == some .local) && G.c.all (fun x => sc.names.lookup x == some .cell && ((cellsFrom 0 sc.names []).lookup x).isSome)
noncomputable def m0 (ps : List Str) (args : List V) (others : List Str) : Loc := List.zipWith (fun p a => (p, some a)) ps args ++ others.map fun x => (x, none)
theorem cellsFrom_some' {x : Str} (names : List (Str × NameKind)) (k k' : Nat) (h : ((cellsFrom k names []).lookup x).isSome = true) : ((cellsFrom k' names []).lookup x).isSome = true := by
  have e := cellsFrom_names names k k' [] [] rfl
  revert e h
  generalize cellsFrom k names [] = l
  generalize cellsFrom k' names [] = l'
  intro h e
  induction l generalizing l' with
  | nil => cases h
  | cons p l ih =>
    cases l' with
    | nil => cases e
    | cons q l' =>
      obtain ⟨a, b⟩ := p
      obtain ⟨a', b'⟩ := q
      simp only [List.map_cons, List.cons.injEq] at e
      obtain ⟨rfl, e⟩ := e
      rw [List.lookup_cons] at h ⊢
      cases q : x == a with
      | true => rfl
      | false => rw [q] at h; exact ih l' h e
theorem bindL_at {kindOf : Str → Option NameKind} : ∀ {ps : List Str} {vals : List Value} {m : Str → Option Value}, ps.Nodup → ∀ {x : Str} {v : Value}, (x, v) ∈ ps.zip vals → kindOf x = some .local → bindL kindOf (ps.zip vals) m x = some v
  | [], _, _, _, _, _, h, _ => by simp at h
  | _ :: _, [], _, _, _, _, h, _ => by simp at h
  | p :: ps, v :: vals, m, hn, x, w, h, hk => by
    rw [List.nodup_cons] at hn
    simp only [List.zip_cons_cons] at h ⊢
    unfold bindL
    rcases List.mem_cons.mp h with q | q
    · cases q
      rw [if_pos hk]
      have : ∀ {ps : List Str} {vals : List Value} {m : Str → Option Value}, p ∉ ps → m p = some v → bindL kindOf (ps.zip vals) m p = some v := by
        intro ps
        induction ps with
        | nil => intro vals m _ h; simpa [bindL] using h
        | cons p' ps ih =>
          intro vals m hx h
          cases vals with
          | nil => simpa [bindL] using h
          | cons v' vals =>
            rw [List.mem_cons, not_or] at hx
            simp only [List.zip_cons_cons]
            unfold bindL
            refine ih hx.2 ?_
            split
            · show (if p = p' then _ else _) = _
              rw [if_neg hx.1]; exact h
            · exact h
      exact this hn.1 (if_pos rfl)
    · exact bindL_at hn.2 q hk
theorem bindC_at {kindOf : Str → Option NameKind} : ∀ {ps : List Str} {vals : List Value} {m : Str → Option Value}, ps.Nodup → ∀ {x : Str} {v : Value}, (x, v) ∈ ps.zip vals → kindOf x ≠ some .local → bindC kindOf (ps.zip vals) m x = some v
  | [], _, _, _, _, _, h, _ => by simp at h
  | _ :: _, [], _, _, _, _, h, _ => by simp at h
  | p :: ps, v :: vals, m, hn, x, w, h, hk => by
    rw [List.nodup_cons] at hn
    simp only [List.zip_cons_cons] at h ⊢
    unfold bindC
    rcases List.mem_cons.mp h with q | q
    · cases q
      rw [if_neg hk]
      have : ∀ {ps : List Str} {vals : List Value} {m : Str → Option Value}, p ∉ ps → m p = some v → bindC kindOf (ps.zip vals) m p = some v := by
        intro ps
        induction ps with
        | nil => intro vals m _ h; simpa [bindC] using h
        | cons p' ps ih =>
          intro vals m hx h
          cases vals with
          | nil => simpa [bindC] using h
          | cons v' vals =>
            rw [List.mem_cons, not_or] at hx
            simp only [List.zip_cons_cons]
            unfold bindC
            refine ih hx.2 ?_
            split
            · exact h
            · show (if p = p' then _ else _) = _
              rw [if_neg hx.1]; exact h
      exact this hn.1 (if_pos rfl)
    · exact bindC_at hn.2 q hk
theorem m0_names : ∀ {ps : List Str} {args : List V} {others : List Str}, args.length = ps.length → (m0 ps args others).map (·.1) = ps ++ others
  | [], [], others, _ => by simp [m0, Function.comp_def]
  | p :: ps, a :: args, others, h => by
    have := m0_names (ps := ps) (args := args) (others := others) (by simpa using h)
    unfold m0 at this ⊢
    simp only [List.zipWith_cons_cons, List.cons_append, List.map_cons, this]
theorem m0_mem {μ : Mp} {N : Nat} {h : Heap} : ∀ {ps : List Str} {args : List V} {vals : List Value} {others : List Str}, args.length = ps.length → VRs μ N h args vals → ∀ {x : Str} {o : Option V}, (x, o) ∈ m0 ps args others → (∃ a v, o = some a ∧ (x, v) ∈ ps.zip vals ∧ VR μ N h a v) ∨ (o = none ∧ x ∈ others)
  | [], [], vals, others, _, _, x, o, hm => by
    simp only [m0, List.zipWith_nil_left, List.nil_append, List.mem_map, Prod.mk.injEq] at hm
    obtain ⟨y, hy, rfl, rfl⟩ := hm
    exact .inr ⟨rfl, hy⟩
  | p :: ps, a :: args, vals, others, hl, hv, x, o, hm => by
    obtain ⟨v, r, rfl, hv1, hv2⟩ := VRs_consO hv
    unfold m0 at hm
    simp only [List.zipWith_cons_cons, List.cons_append] at hm
    rcases List.mem_cons.mp hm with q | q
    · cases q; exact .inl ⟨a, v, rfl, .head _, hv1⟩
    · rcases m0_mem (ps := ps) (args := args) (vals := r) (others := others) (by simpa using hl) hv2 q with ⟨a', v', e1, e2, e3⟩ | z
      · exact .inl ⟨a', v', e1, .tail _ e2, e3⟩
      · exact .inr z
section
variable {B : Bs} {n : Nat} {X : V → List AO → Prop} {σ : List AO} {Q : V → List AO → Prop}
theorem Post.inner {fr fr' fx : List Addr} {μ μ' : Mp} {σ' : List AO} {s s₁ s' : Shared} (P : Post B fr' fx μ σ s₁ μ' σ' s') (k : ∀ b o, s.heap.get? b = some o → s₁.heap.get? b = some o)
    (hx : ∀ a, a ∈ fx → s.heap.get? a = none) (hr : ∀ a, a ∈ fr' → a ∈ fr ∨ s.heap.get? a = none) (hg : s₁.gens = s.gens) (ho : s₁.os = s.os) : Post B fr [] μ σ s μ' σ' s' :=
  ⟨P.rel, P.len, P.agree, fun i h1 h2 => by
    obtain ⟨e1, e2⟩ := P.fresh i h1 h2
    have no : ∀ a, s₁.heap.get? a = none → s.heap.get? a = none := fun a e => by
      cases q : s.heap.get? a with
      | none => rfl
      | some o => rw [k a o q] at e; cases e
    exact ⟨no _ e1, no _ e2⟩, fun a o e => P.ex a o (k a o e), fun a o e hn z_ => by
    have nx : a ∉ fx := fun q => by rw [hx a q] at e; cases e
    obtain ⟨k1, k2⟩ := P.keep a o (k a o e) hn nx
    exact ⟨fun hf => k1 fun q => ((hr a q).elim hf fun z => by rw [z] at e; cases e), k2⟩, P.gens.trans hg, P.os.trans ho, fun a o e hn h => P.nrec a o (k a o e) hn h⟩
theorem CA_fn {f : Addr} {ps : List Str} {body : List Stmt} {sc : Scope} {args dargs : List V} {others : List Str} {G : Gs} (T : Thru B X) (F : FN B f ps dargs body sc) (hc : chk sc G ps others = true) (hl : (args ++ dargs).length = ps.length)
    (h : EXs B n X G (m0 ps (args ++ dargs) others) σ body (FnQ Q)) : CA B (n + 1) X (.ref f) args σ Q := fun A μ s vals O hv => by
  obtain ⟨oc, od, osl, name, qual, params, dV, kV, doc, pm, an, cdv, ct, dvals, hdv, hob, hcd, hbind⟩ := F.ob
  simp only [chk, Bool.and_eq_true, decide_eq_true_eq, List.all_eq_true, bne_iff_ne, ne_eq, beq_iff_eq, Bool.not_eq_true', Bool.or_eq_true] at hc
  obtain ⟨⟨⟨⟨⟨⟨⟨⟨⟨c1, c2⟩, c3⟩, c4⟩, c5⟩, c6⟩, c7⟩, c8⟩, c9⟩, c10⟩ := hc
  have hKs := B.X.keeps O.rel.base
  have hv2 := VRs_append hv (hdv μ σ.length s.heap)
  have hvl : vals.length + dargs.length = ps.length := by rw [VRs_length hv, ← List.length_append]; exact hl
  have npd : ps.Nodup := (List.nodup_append.mp c7).1
  have inps : ∀ {x v}, (x, v) ∈ ps.zip (vals ++ dvals) → x ∈ ps ++ others := fun hm => List.mem_append_left _ (List.of_mem_zip hm).1
  obtain ⟨outer, hA, hFF⟩ := O.frames
  have hd : A.depth < recursionLimit := by have := O.room; unfold recursionLimit; lia -abstractProof
  refine codeAny_call_function hd (hKs _ _ hob) rfl c2 c3 rfl (codeRec_of hKs hcd) ?_
  refine hbind vals hvl _ _ _ _ _ hKs ?_
  refine wpAny_newFunctionEnv_cells c1 (fun x hx => ?_) fun env he s₁ I => ?_
  · have := (c6 x.1 (inps hx)).1.1
    rcases this with z | ⟨z1, z2⟩
    · exact .inl z
    · exact .inr ⟨z1, cellsFrom_some' _ _ _ z2⟩
  subst he
  refine ⟨(B.nolim.keeps O.rel.base).keeps I.toInCall.keep, codeAny_func ?_⟩
  obtain ⟨h₁, tk, rfl, hk⟩ := I.done
  generalize hE : newEnv sc s.heap.objs.size mainGlobals (cellsFrom (s.heap.objs.size + 1) sc.names []) (qual ++ ".<locals>.") (some f) cdv none builtinsNs = env at I ⊢
  have eL : env.locals = s.heap.objs.size := by rw [← hE]; rfl
  have eC : env.cells = cellsFrom (s.heap.objs.size + 1) sc.names [] := by rw [← hE]; rfl
  have eS : env.scope = sc := by rw [← hE]; rfl
  have eF : env.frame = some s.heap.objs.size := by rw [← hE]; rfl
  have eG : env.globals = mainGlobals := by rw [← hE]; rfl
  have eB : env.builtins = builtinsNs := by rw [← hE]; rfl
  have eFn : env.func.isSome = true := by rw [← hE]; rfl
  have kind : ∀ x, env.kindOf x = sc.names.lookup x := fun x => by unfold Env.kindOf; rw [eS]
  have newA : ∀ a, s.heap.objs.size ≤ a → s.heap.get? a = none := fun a ha => Heap.get?_none_of_le ha
  have newB : ∀ a, s.heap.objs.size ≤ a → B.h₀.get? a = none := fun a ha => by
    cases q : B.h₀.get? a with
    | none => rfl
    | some o => have := O.rel.base a o q; rw [newA a ha] at this; cases this
  have newO : ∀ a, s.heap.objs.size ≤ a → ¬ Own μ σ.length a := fun a ha ⟨i, hi, q⟩ => by
    obtain ⟨⟨x, ex⟩, ⟨y, ey⟩⟩ := O.rel.owned hi
    rcases q with q | q <;> subst q
    · rw [newA _ ha] at ex; cases ex
    · rw [newA _ ha] at ey; cases ey
  have cellIn : ∀ x c, env.cells.lookup x = some c → s.heap.objs.size ≤ c ∧ c ∈ env.cells.map (·.2) := fun x c hx =>
    ⟨Nat.le_of_lt (eL ▸ I.above x c (mem_of_lookup hx)), List.mem_map.mpr ⟨_, mem_of_lookup hx, rfl⟩⟩
  obtain ⟨oL, esL, epL, hLg, hLd, hLr⟩ := I.toInCall.ns
  have fxAll : ∀ a, a ∈ env.locals :: env.cells.map (·.2) → s.heap.objs.size ≤ a ∧ ∃ o, h₁.get? a = some o ∧ (∀ items k, o.data ≠ .seq items k) ∧ ∀ vs, o.data ≠ .fields vs := fun a ha => by
    rcases List.mem_cons.mp ha with q | q
    · subst q
      exact ⟨Nat.le_of_eq eL.symm, oL, hLg, fun z_ z_ z => (by rw [hLd] at z; cases z), fun z_ z => (by rw [hLd] at z; cases z)⟩
    · obtain ⟨p, hp, rfl⟩ := List.mem_map.mp q
      obtain ⟨nm, c⟩ := p
      have nd : (env.cells.map (·.1)).Nodup := by
        simp only [eC, cellsFrom_names sc.names (s.heap.objs.size + 1) 0 [] [] rfl]; exact c8
      have hlk := lookup_of_mem_nodup nd hp
      obtain ⟨oc', e', d'⟩ := I.cell nm c hlk
      exact ⟨(cellIn nm c hlk).1, oc', e', fun z_ z_ z => (by rw [d'] at z; cases z), fun z_ z => (by rw [d'] at z; cases z)⟩
  have P0 : ∀ {fr fx}, Post B fr fx μ σ s μ σ { s with heap := h₁, toks := tk } := Post.grow O.rel hk
  have frA : frs (A.deeper env) = s.heap.objs.size :: frs A := by
    unfold frs Around.deeper
    rw [hA]
    simp [eF]
  have OK : Ok B n G (A.deeper env) env (env.locals :: env.cells.map (·.2)) (m0 ps (args ++ dargs) others) μ σ { s with heap := h₁, toks := tk } := {
    rel := (P0 (fr := []) (fx := [])).rel
    room := by have := O.room; show A.depth + 1 + 2 * n ≤ 980; lia -abstractProof
    units := by have := O.units; show A.units + 3 + 12 * n ≤ 9000; lia -abstractProof
    hnd := O.hnd
    frames := by
      refine ⟨env, outer, by unfold Around.deeper; simp only [hA]; rfl, rfl, ?_⟩
      refine ⟨by simp only [eS, c1]; decide, ⟨s.heap.objs.size, oL, eF, newB _ (Nat.le_refl _), eL ▸ hLg, fun z_ z => (by rw [hLd] at z; cases z)⟩, ?_⟩
      exact hFF.of_keeps fun b o hb z_ => ⟨o, hk b o hb, rfl⟩
    kind := by simp only [eS]; exact c1
    glob := eG
    blt := eB
    fxl := .head _
    fxo := fun a ha => let ⟨h1, h2⟩ := fxAll a ha; ⟨newO a h1, newB a h1, h2⟩
    cel := fun x c hx => ⟨newO c (cellIn x c hx).1, newB c (cellIn x c hx).1, fun z_ z_ => .tail _ (cellIn x c hx).2, _, I.cell x c hx⟩
    celI := fun x y c hx hy => name_of_addr I.apart (mem_of_lookup hx) (mem_of_lookup hy)
    slots := by
      refine ⟨_, I.toInCall.ns, fun x o hm => ?_⟩
      rcases m0_mem hl hv2 hm with ⟨a, v, rfl, hm', hva⟩ | ⟨rfl, hx⟩
      · have hva' : VR μ σ.length h₁ a v := VR.keeps (TK.of_keeps hk) (Nat.le_refl _) (fun z_ z_ => rfl) hva
        rcases (c6 x (inps hm')).1.1 with z | ⟨z1, z2⟩
        · exact .inl ⟨(kind x).trans z, fun v' e => by cases e; exact ⟨v, bindL_at npd hm' ((kind x).trans z), hva'⟩⟩
        · obtain ⟨c, hcc⟩ := Option.isSome_iff_exists.mp (cellsFrom_some' _ _ (s.heap.objs.size + 1) z2)
          rw [← eC] at hcc
          exact .inr ⟨.inl ((kind x).trans z1), c, _, hcc, I.cell x c hcc, fun v' e => by cases e; exact ⟨v, bindC_at npd hm' (by simp only [kind x, z1]; decide), hva'⟩⟩
      · rcases (c6 x (List.mem_append_right _ hx)).1.1 with z | ⟨z1, z2⟩
        · exact .inl ⟨(kind x).trans z, fun v' e => by cases e⟩
        · obtain ⟨c, hcc⟩ := Option.isSome_iff_exists.mp (cellsFrom_some' _ _ (s.heap.objs.size + 1) z2)
          rw [← eC] at hcc
          exact .inr ⟨.inl ((kind x).trans z1), c, _, hcc, I.cell x c hcc, fun v' e => by cases e⟩
    nod := by rw [m0_names hl]; exact c7
    frn := fun a ha => by
      rw [frA] at ha
      rcases List.mem_cons.mp ha with q | q
      · subst q; exact newO _ (Nat.le_refl _)
      · exact O.frn a q
    nf := fun z_ x hx => by
      rw [kind x] at hx
      exact c4 _ (mem_of_lookup hx) rfl
    gk := fun x hx => ⟨(kind x).trans (c5 x hx).1, beq_eq_false_iff_ne.mpr (c5 x hx).2⟩
    lk := fun x hx => (kind x).trans (c9 x hx)
    ck := fun x hx => ⟨(kind x).trans (c10 x hx).1, by
      have z := cellsFrom_some' _ _ (s.heap.objs.size + 1) (c10 x hx).2
      rw [← eC] at z
      exact Option.isSome_iff_exists.mp z⟩
    dbg := fun p hp => by
      have : p.1 ∈ ps ++ others := by rw [← m0_names hl]; exact List.mem_map_of_mem hp
      obtain ⟨⟨_, h2⟩, h3⟩ := c6 _ this
      exact ⟨beq_eq_false_iff_ne.mpr h2, beq_eq_false_iff_ne.mpr h3⟩ }
  have inner : ∀ {μ' σ' s'}, Post B (frs (A.deeper env)) (env.locals :: env.cells.map (·.2)) μ σ { s with heap := h₁, toks := tk } μ' σ' s' → Post B (frs A) [] μ σ s μ' σ' s' := fun P =>
    P.inner hk (fun a ha => newA a (fxAll a ha).1) (fun a ha => by
      rw [frA] at ha
      rcases List.mem_cons.mp ha with q | q
      · exact .inr (by rw [q]; exact newA _ (Nat.le_refl _))
      · exact .inl q) rfl rfl
  refine wpAny_mono (h (A.deeper env) env _ μ _ eFn OK) (fun fl s' ⟨μ', σ', P, af, m', hr, _, q⟩ => ?_) fun e s' x => ?_
  · cases fl <;> cases af <;> first | exact hr.elim | exact q.elim | skip
    · exact ⟨μ', σ', inner P, .none, VR_none, q⟩
    · exact ⟨μ', σ', inner P, _, hr, q⟩
  · refine wpAny_mono (T.leave OK eFn x) (fun z_ s'' z => ?_) fun z_ z_ z => z.elim
    obtain ⟨i, b, μ₁, σ₁, e1, e2, e3, e4, e5⟩ := z
    exact ⟨i, b, μ₁, σ₁, e1, e2, inner e3, e4.older fun z_ z => (P0 (fr := []) (fx := [])).back z, e5⟩
end
section
variable {B : Bs} {n : Nat} {X : V → List AO → Prop} {G : Gs} {m : Loc} {σ : List AO} {A : Around} {env : Env} {fx : List Addr} {μ : Mp} {s : Shared}
noncomputable def IsRec (h : Heap) (it : Addr) : Prop := ∃ o vs, h.get? it = some o ∧ o.data = .fields vs
theorem ext_tk {h h' : Heap} {it : Addr} (he : Heap.ExtBut it h h') (hr : IsRec h it) : TK h h' := fun a items ⟨o, e, c, k, hd⟩ => by
  refine ⟨o, he a o (fun q => ?_) e, c, k, hd⟩
  clear he
  subst q
  obtain ⟨o', vs, e', hd'⟩ := hr
  rw [e] at e'; cases e'; rw [hd] at hd'; cases hd'
theorem Rel.ext {h h' : Heap} {it : Addr} (R : Rel B μ σ h) (he : Heap.ExtBut it h h') (hr : IsRec h it) (hno : ¬ Own μ σ.length it) (hb : B.h₀.get? it = none) : Rel B μ σ h' := by
  have tk := ext_tk he hr
  refine ⟨fun b o e => he b o (fun q => by rw [q, hb] at e; cases e) (R.base b o e), R.above, R.inj, fun i o e => ?_, R.one⟩
  have hi : i < σ.length := by
    rcases Nat.lt_or_ge i σ.length with h | h
    · exact h
    · rw [List.getElem?_eq_none h] at e; cases e
  have own : (∃ x, h.get? (μ.a i) = some x) ∧ (∃ x, h.get? (μ.d i) = some x) := R.owned (s := ⟨h, #[], {}, 0, {}⟩) hi
  obtain ⟨⟨x, ex⟩, ⟨y, ey⟩⟩ := own
  have n1 : μ.a i ≠ it := fun q => hno ⟨i, hi, .inl q.symm⟩
  have n2 : μ.d i ≠ it := fun q => hno ⟨i, hi, .inr q.symm⟩
  exact OR.keeps tk (Nat.le_refl _) (fun z_ z_ => rfl) rfl rfl (by simp only [ex]; exact he _ _ n1 ex) (by simp only [ey]; exact he _ _ n2 ey) (R.obj i o e)
theorem Post.aside {fr : List Addr} {μ' : Mp} {σ' : List AO} {s' : Shared} {h' : Heap} {it : Addr} {tk : Nat} (P : Post B fr fx μ σ s μ' σ' s') (he : Heap.ExtBut it s'.heap h') (hr : IsRec s'.heap it) (hno : ¬ Own μ' σ'.length it) (hb : B.h₀.get? it = none) (hn : s.heap.get? it = none) :
    Post B fr fx μ σ s μ' σ' { s' with heap := h', toks := tk } := by
  have ne : ∀ a o, s.heap.get? a = some o → a ≠ it := fun a o e q => by rw [q, hn] at e; cases e
  exact ⟨P.rel.ext he hr hno hb, P.len, P.agree, P.fresh, fun a o e => let ⟨o', e'⟩ := P.ex a o e; ⟨o', he a o' (ne a o e) e'⟩, fun a o e h1 h2 => by
    obtain ⟨k1, sl, k2⟩ := P.keep a o e h1 h2
    exact ⟨fun hf => he a _ (ne a o e) (k1 hf), sl, he a _ (ne a o e) k2⟩, P.gens, P.os, fun a o e hn h => let ⟨o', e', h'⟩ := P.nrec a o e hn h; ⟨o', he a o' (ne a o e) e', h'⟩⟩
theorem Ok.aside {h' : Heap} {it : Addr} {tk : Nat} (O : Ok B n G A env fx m μ σ s) (he : Heap.ExtBut it s.heap h') (hr : IsRec s.heap it) (hno : ¬ Own μ σ.length it) (hb : B.h₀.get? it = none) : Ok B n G A env fx m μ σ { s with heap := h', toks := tk } := by
  have ne : ∀ a o, s.heap.get? a = some o → (∀ vs, o.data ≠ .fields vs) → a ≠ it := fun a o e hd q => by
    clear hb hno he
    subst q
    refine shut fun P_ o_ => ?_
    obtain ⟨o', vs, e', hd'⟩ := hr
    refine o_ ?_
    rw [e] at e'; cases e'; exact hd vs hd'
  have tk' := ext_tk he hr
  have ns : ∀ {L f}, s.heap.Ns L f → h'.Ns L f := fun {L f} ⟨o, es, ep, e, hd, r⟩ => ⟨o, es, ep, he L o (ne L o e fun vs q => by rw [hd] at q; cases q) e, hd, r⟩
  have cl : ∀ {c w}, s.heap.IsCell c w → h'.IsCell c w := fun {c w} ⟨o, e, hd⟩ => ⟨o, he c o (ne c o e fun vs q => by rw [hd] at q; cases q) e, hd⟩
  exact {
    rel := O.rel.ext he hr hno hb
    room := O.room
    units := O.units
    hnd := O.hnd
    frames := by
      refine shut fun P_ o_ => ?_
      obtain ⟨f, outer, e1, e2, e3⟩ := O.frames
      refine o_ ?_
      exact ⟨f, outer, e1, e2, e3.of_keeps fun b o hb hd => ⟨o, he b o (ne b o hb hd) hb, rfl⟩⟩
    kind := O.kind
    glob := O.glob
    blt := O.blt
    fxl := O.fxl
    fxo := fun a ha => by
      refine shut fun P_ o_ => ?_
      obtain ⟨h1, h2, o, h3, h4, h5⟩ := O.fxo a ha
      refine o_ ?_
      exact ⟨h1, h2, o, he a o (ne a o h3 h5) h3, h4, h5⟩
    cel := fun x c hc => by
      refine shut fun P_ o_ => ?_
      obtain ⟨h1, h2, h3, w, h4⟩ := O.cel x c hc
      refine o_ ?_
      exact ⟨h1, h2, h3, w, cl h4⟩
    celI := O.celI
    slots := by
      refine shut fun P_ o_ => ?_
      obtain ⟨f, h1, h2⟩ := O.slots
      refine o_ ?_
      refine ⟨f, ns h1, fun x o hx => ?_⟩
      rcases h2 x o hx with ⟨k, q⟩ | ⟨k, c, w, hl, hw, q⟩
      · exact .inl ⟨k, fun v e => let ⟨val, a1, a2⟩ := q v e; ⟨val, a1, VR.keeps tk' (Nat.le_refl _) (fun z_ z_ => rfl) a2⟩⟩
      · exact .inr ⟨k, c, w, hl, cl hw, fun v e => let ⟨val, a1, a2⟩ := q v e; ⟨val, a1, VR.keeps tk' (Nat.le_refl _) (fun z_ z_ => rfl) a2⟩⟩
    nod := O.nod
    frn := O.frn
    nf := O.nf
    gk := O.gk
    ck := O.ck
    lk := O.lk
    dbg := O.dbg }
noncomputable def ownIters : List String := ["enumerate", "zip", "dict_itemiterator", "dict_reverseitemiterator", "odict_iterator", "itertools.zip_longest", "itertools.pairwise"]
structure Wk (B : Bs) (it : Addr) (l : List V) (Tk : Nat → Mp → List AO → Heap → Prop) (C : List AO → Prop) : Prop where
  obj : ∀ {k μ σ h}, Tk k μ σ h → ∃ o t vs, h.get? it = some o ∧ o.cls = .type t ∧ o.data = .fields vs ∧ ownIters.contains t = false
  item : ∀ {A k μ σ s Q E x}, A.handled = none → Rel B μ σ s.heap → l[k]? = some x → C σ → Tk k μ σ s.heap → ¬ Own μ σ.length it →
    (∀ v h' tk, VR μ σ.length s.heap x v → Tk (k + 1) μ σ h' → Heap.SameBut it s.heap h' → Q (some v) { s with heap := h', toks := tk }) → wpAny (model B.prog B.w) A (pyNext (.ref it)) Q E s
  self : ∀ {A k μ σ s Q E}, Tk k μ σ s.heap → Q (.ref it) s → wpAny (model B.prog B.w) A (pyIter (.ref it)) Q E s
  done : ∀ {A μ σ s Q E}, A.handled = none → Rel B μ σ s.heap → C σ → Tk l.length μ σ s.heap → (∀ h' tk, Heap.ExtBut it s.heap h' → Q none { s with heap := h', toks := tk }) → wpAny (model B.prog B.w) A (pyNext (.ref it)) Q E s
  keep : ∀ {k fr fx μ σ s μ' σ' s'}, Tk k μ σ s.heap → Rel B μ σ s.heap → C σ → C σ' → ¬ Own μ σ.length it → it ∉ fx → it ∉ fr → NT fx s.heap → Post B fr fx μ σ s μ' σ' s' → Tk k μ' σ' s'.heap
noncomputable def ITER (B : Bs) (n : Nat) (X : V → List AO → Prop) (a : V) (l : List V) (C : List AO → Prop) (σ : List AO) : Prop :=
  ∀ A μ s va, OkC B n A μ σ s → VR μ σ.length s.heap a va → W B X A [] μ σ s (pyIter va) (fun v μ' σ' s' => μ' = μ ∧ σ' = σ ∧ ∃ it Tk, v = .ref it ∧ s.heap.get? it = none ∧ Wk B it l Tk C ∧ Tk 0 μ σ s'.heap)
inductive AGq (B : Bs) (n : Nat) (G : Gs) (A : Around) (env : Env) (fx : List Addr) (Q : Loc → List AO → Prop) (_u : Unit) (μ' : Mp) (σ' : List AO) (s' : Shared) : Prop
  | mk (m' : Loc) (O : Ok B n G A env fx m' μ' σ' s') (q : Q m' σ')
noncomputable def ASG (B : Bs) (n : Nat) (X : V → List AO → Prop) (G : Gs) (m : Loc) (target : Expr) (x : V) (σ : List AO) (Q : Loc → List AO → Prop) : Prop :=
  ∀ A env fx μ s v, env.func.isSome = true → Ok B n G A env fx m μ σ s → VR μ σ.length s.heap x v → W B X A fx μ σ s (assign target env v) (AGq B n G A env fx Q)
theorem letOwn {M : Model} {E : Value → Shared → Prop} {target : Expr} {it : Addr} {v : Value} {Q : Unit → Shared → Prop} (h : ∃ o t vs, s.heap.get? it = some o ∧ o.cls = .type t ∧ o.data = .fields vs ∧ ownIters.contains t = false) (q : Q () s) :
    wpAny M A (letOwnedTupleGo target (.ref it) v) Q E s := by
  obtain ⟨o, t, vs, e, c, d, hc⟩ := h
  have key : ∀ a, wpAny M A (do
      let o ← load it
      match o.cls, o.data with
      | .type n, .fields vs =>
        if ownIters.contains n && vs[0]? == some (rawInt a) then
          rule "for.unpacks-the-owned-tuple"
          updateField it 0 .none
      | _, _ => pure ()) Q E s := fun a => by
    refine wpAny_bind (wpAny_load e ?_)
    rw [c, d]
    dsimp only
    rw [hc, Bool.false_and, if_neg (by decide)]
    exact wpAny_pure q
  unfold letOwnedTupleGo
  cases target <;> cases v <;> first | exact wpAny_pure q | exact key _
theorem frs_mem (O : Ok B n G A env fx m μ σ s) {a : Addr} (ha : a ∈ frs A) : ∃ o, s.heap.get? a = some o ∧ ∀ vs, o.data ≠ .fields vs := by
  refine shut fun P_ o_ => ?_
  obtain ⟨f, outer, e1, e2, e3⟩ := O.frames
  refine o_ ?_
  have hm : a ∈ (f :: outer).filterMap (·.frame) := by rw [frs, e1] at ha; exact ha
  exact (e3.mem hm).2
inductive IEq (B : Bs) (fr : List Addr) (μ : Mp) (σ : List AO) (s : Shared) (Q : List V → (List AO → Prop) → List AO → Prop) (v : Value) (s₂ : Shared) : Prop
  | mk (μ₂ : Mp) (σ₂ : List AO) (it : Addr) (Tk : Nat → Mp → List AO → Heap → Prop) (l : List V) (C : List AO → Prop) (P : Post B fr [] μ σ s μ₂ σ₂ s₂) (e : v = .ref it) (hn : s.heap.get? it = none) (no : ¬ Own μ₂ σ₂.length it) (wk : Wk B it l Tk C) (t : Tk 0 μ₂ σ₂ s₂.heap) (q : Q l C σ₂)
noncomputable def IE (B : Bs) (n : Nat) (X : V → List AO → Prop) (G : Gs) (m : Loc) (σ : List AO) (iter : Expr) (Q : List V → (List AO → Prop) → List AO → Prop) : Prop :=
  ∀ A env fx μ s, Ok B n G A env fx m μ σ s → wpAny (model B.prog B.w) A (eval iter env) (fun va s₁ => wpAny (model B.prog B.w) A (pyIter va) (IEq B (frs A) μ σ s Q) (QE B (frs A) [] μ σ s X) s₁) (QE B (frs A) [] μ σ s X) s
theorem not_own_new {it : Addr} (R : Rel B μ σ s.heap) (h : s.heap.get? it = none) : ¬ Own μ σ.length it := fun ⟨i, hi, q⟩ => by
  obtain ⟨⟨x, ex⟩, ⟨y, ey⟩⟩ := R.owned hi
  rcases q with q | q <;> subst q
  · rw [h] at ex; cases ex
  · rw [h] at ey; cases ey
inductive ItQ (B : Bs) (n : Nat) (X : V → List AO → Prop) (Q : List V → (List AO → Prop) → List AO → Prop) (a : V) (σ₁ : List AO) : Prop
  | mk (l : List V) (C : List AO → Prop) (i : ITER B n X a l C σ₁) (q : Q l C σ₁)
theorem IE.mono {iter : Expr} {Q Q' : List V → (List AO → Prop) → List AO → Prop} (h : IE B n X G m σ iter Q) (k : ∀ l C σ₁, Q l C σ₁ → Q' l C σ₁) : IE B n X G m σ iter Q' := fun A env fx μ s O =>
  wpAny_mono (h A env fx μ s O) (fun z_ z_ z => wpAny_mono z (fun _ _ ⟨a, b, c, d, e, f, g, i, j, k', l, o, q⟩ => ⟨a, b, c, d, e, f, g, i, j, k', l, o, k _ _ _ q⟩) fun z_ z_ x => x) fun z_ z_ x => x
theorem IE_of {iter : Expr} {Q : List V → (List AO → Prop) → List AO → Prop} (h : EV B n X G m σ iter (ItQ B n X Q)) : IE B n X G m σ iter Q := fun A env fx μ s O => by
  refine wpAny_mono (h A env fx μ s O) (fun va s₁ z_ => ?_) fun z_ z_ x => x
  refine shut fun P_ o_ => ?_
  obtain ⟨μ₁, σ₁, P₁, a, ha, l, C, hit, q⟩ := z_
  refine o_ ?_
  have O₁ := O.next P₁
  refine wpAny_mono (hit A μ₁ s₁ va O₁.c ha) (fun v s₂ z_ => ?_) fun z_ z_ x => x.trans P₁
  refine shut fun P_ o_ => ?_
  obtain ⟨μ₂, σ₂, P₂, e1, e2, it, Tk, e3, hnew, wk, t0⟩ := z_
  refine o_ ?_
  clear ha hit o_
  subst e1 e2 e3
  have hsn : s.heap.get? it = none := by
    cases q : s.heap.get? it with
    | none => rfl
    | some o => obtain ⟨o', e'⟩ := P₁.ex it o q; rw [hnew] at e'; cases e'
  exact ⟨μ₂, σ₂, it, Tk, l, C, P₁.trans P₂, rfl, hsn, not_own_new O₁.rel hnew, wk, t0, q⟩
noncomputable abbrev ForK (I : Nat → Loc → List AO → Prop) (Q : AF → Loc → List AO → Prop) (k : Nat) : AF → Loc → List AO → Prop := fun af m₃ σ₃ => match af with
  | .nxt => I (k + 1) m₃ σ₃
  | .cnt => I (k + 1) m₃ σ₃
  | .brk => Q .nxt m₃ σ₃
  | .ret v => Q (.ret v) m₃ σ₃
noncomputable abbrev TurnK (B : Bs) (n : Nat) (X : V → List AO → Prop) (G : Gs) (body : List Stmt) (I : Nat → Loc → List AO → Prop) (Q : AF → Loc → List AO → Prop) (k : Nat) : Loc → List AO → Prop := fun m₂ σ₂ => EXs B n X G m₂ σ₂ body (ForK I Q k)
inductive ForI (B : Bs) (n : Nat) (X : V → List AO → Prop) (G : Gs) (m : Loc) (target : Expr) (body : List Stmt) (Q : AF → Loc → List AO → Prop) (I : Nat → Loc → List AO → Prop) (l : List V) (C : List AO → Prop) (σ₁ : List AO) : Prop
  | mk (i : I 0 m σ₁) (c : ∀ k m' σ', k ≤ l.length → I k m' σ' → C σ') (t : ∀ k m' σ' x, l[k]? = some x → I k m' σ' → ASG B n X G m' target x σ' (TurnK B n X G body I Q k)) (e : ∀ m' σ', I l.length m' σ' → Q .nxt m' σ')
inductive ForQ (B : Bs) (n : Nat) (X : V → List AO → Prop) (G : Gs) (m : Loc) (target : Expr) (body : List Stmt) (Q : AF → Loc → List AO → Prop) (l : List V) (C : List AO → Prop) (σ₁ : List AO) : Prop
  | mk (I : Nat → Loc → List AO → Prop) (z : ForI B n X G m target body Q I l C σ₁)
inductive FInv (B : Bs) (n : Nat) (G : Gs) (A : Around) (env : Env) (fx : List Addr) (μ : Mp) (σ : List AO) (s : Shared) (it : Addr) (N₀ : Nat) (Tk : Nat → Mp → List AO → Heap → Prop) (I : Nat → Loc → List AO → Prop) (N : Nat) (s' : Shared) : Prop
  | mk (k : Nat) (m' : Loc) (μ' : Mp) (σ' : List AO) (e : N = N₀ - k) (hk : k ≤ N₀) (P : Post B (frs A) fx μ σ s μ' σ' s') (O : Ok B n G A env fx m' μ' σ' s') (t : Tk k μ' σ' s'.heap) (no : ¬ Own μ' σ'.length it) (i : I k m' σ')
theorem EX_forE {Q : AF → Loc → List AO → Prop} {target iter : Expr} {body : List Stmt} {pos : Pos} (T : Thru B X)
    (h : IE B n X G m σ iter (ForQ B n X G m target body Q))
    (hs : ∀ env x, foldedSetIterable iter env x = pure x := by intro _ _; rfl) : EX B n X G m σ (.For target iter body [] pos) Q := fun A env fx μ s hf O => by
  refine wpAny_For (wpAny_mono (h A env fx μ s O) (fun va s₁ h₁ => wpAny_mono h₁ (fun v s₂ z_ => ?_) fun z_ z_ x => x.weaken) fun z_ z_ x => x.weaken) (hs env)
  refine shut fun P_ o_ => ?_
  obtain ⟨μ₂, σ₂, it, Tk, l, C, P₂, e3, hsn, no1, wk, t0, I, i0, hC, hturn, hend⟩ := z_
  refine o_ ?_
  subst e3
  have O₂ := O.next P₂
  have hb : B.h₀.get? it = none := by
    cases q : B.h₀.get? it with
    | none => rfl
    | some o => have := O.rel.base it o q; rw [hsn] at this; cases this
  refine codeAny_forLoop_any (FInv B n G A env fx μ σ s it l.length Tk I) ?_ l.length
    ⟨0, m, μ₂, σ₂, rfl, Nat.zero_le _, P₂.weaken, O₂, t0, no1, i0⟩
  rintro N s' ⟨k, m', μ', σ', rfl, hk, P', O', tk, no, ik⟩
  have hrec : IsRec s'.heap it := let ⟨o, t, vs, e, _, d, _⟩ := wk.obj tk; ⟨o, vs, e, d⟩
  have nfx : it ∉ fx := fun q => by
    obtain ⟨_, _, o, e, _, hd⟩ := O'.fxo it q
    obtain ⟨o', vs, e', hd'⟩ := hrec
    rw [e] at e'; cases e'; exact hd vs hd'
  have nfr : it ∉ frs A := fun q => by
    refine shut fun P_ o_ => ?_
    obtain ⟨o, e, hd⟩ := frs_mem O' q
    refine o_ ?_
    refine shut fun P_ o_ => ?_
    obtain ⟨o', vs, e', hd'⟩ := hrec
    refine o_ ?_
    rw [e] at e'; cases e'; exact hd vs hd'
  rcases Nat.lt_or_ge k l.length with hlt | hge
  · obtain ⟨x, hx⟩ : ∃ x, l[k]? = some x := ⟨l[k], List.getElem?_eq_getElem hlt⟩
    refine wk.item O'.hnd O'.rel hx (hC k m' σ' hk ik) tk no fun v h₃ tk₃ hv t₃ hs₃ => ?_
    have he := hs₃.extBut
    have P₃ : Post B (frs A) fx μ σ s μ' σ' { s' with heap := h₃, toks := tk₃ } := P'.aside he hrec no hb hsn
    have O₃ : Ok B n G A env fx m' μ' σ' { s' with heap := h₃, toks := tk₃ } := O'.aside he hrec no hb
    have hv₃ : VR μ' σ'.length h₃ x v := VR.keeps (ext_tk he hrec) (Nat.le_refl _) (fun z_ z_ => rfl) hv
    refine letOwn (wk.obj t₃) ?_
    refine wpAny_mono (hturn k m' σ' x hx ik A env fx μ' _ v hf O₃ hv₃) (fun z_ s₄ z_ => ?_) fun e s₅ z => T.loop O (z.trans P₃)
    refine shut fun P_ o_ => ?_
    obtain ⟨μ₄, σ₄, P₄, m₄, O₄, hbody⟩ := z_
    refine o_ ?_
    refine wpAny_mono (hbody A env fx μ₄ s₄ hf O₄) (fun fl s₅ z_ => ?_) fun e s₅ z => T.loop O (z.trans (P₃.trans P₄))
    refine shut fun P_ o_ => ?_
    obtain ⟨μ₅, σ₅, P₅, af, m₅, hr, O₅, q⟩ := z_
    refine o_ ?_
    have P35 := P₄.trans P₅
    have go : I (k + 1) m₅ σ₅ → ∃ N', N' < l.length - k ∧ FInv B n G A env fx μ σ s it l.length Tk I N' s₅ := fun q => by
      refine ⟨l.length - (k + 1), by omega, k + 1, m₅, μ₅, σ₅, rfl, hlt, P₃.trans P35, O₅, ?_, ?_, q⟩
      · exact wk.keep t₃ O₃.rel (hC k m' σ' hk ik) (hC (k + 1) m₅ σ₅ hlt q) no nfx nfr O₃.nt P35
      · refine shut fun P_ o_ => ?_
        obtain ⟨o, t, vs, e, _⟩ := wk.obj t₃
        refine o_ ?_
        exact P35.own_old e no
    cases fl <;> cases af <;> first | exact hr.elim | skip
    · exact go q
    · exact ⟨μ₅, σ₅, P₃.trans P35, .nxt, m₅, trivial, O₅, q⟩
    · exact go q
    · exact ⟨μ₅, σ₅, P₃.trans P35, _, m₅, hr, O₅, q⟩
  · have hkl : k = l.length := Nat.le_antisymm hk hge
    subst hkl
    refine wk.done O'.hnd O'.rel (hC _ m' σ' hk ik) tk fun h₃ tk₃ he => ?_
    exact wpAny_execs_nil ⟨μ', σ', P'.aside he hrec no hb hsn, .nxt, m', trivial, O'.aside he hrec no hb, hend m' σ' ik⟩
theorem EX_for {Q : AF → Loc → List AO → Prop} {target iter : Expr} {body : List Stmt} {pos : Pos} (T : Thru B X) (I : Nat → Loc → List AO → Prop) (h : IE B n X G m σ iter (ForI B n X G m target body Q I))
    (hs : ∀ env x, foldedSetIterable iter env x = pure x := by intro _ _; rfl) : EX B n X G m σ (.For target iter body [] pos) Q := EX_forE T (h.mono fun z_ z_ z_ z => ⟨I, z⟩) hs
theorem keep_rec {fr : List Addr} {μ' : Mp} {σ' : List AO} {s' : Shared} {it : Addr} {o : Obj} (P : Post B fr fx μ σ s μ' σ' s') (e : s.heap.get? it = some o) (no : ¬ Own μ σ.length it) (nx : it ∉ fx) (nr : it ∉ fr) : s'.heap.get? it = some o := (P.keep it o e no nx).1 nr
theorem new_walk {o : Obj} {va : Value} {l : List V} {C : List AO → Prop} (O : OkC B n A μ σ s) (Tk : Nat → Mp → List AO → Heap → Prop) (wk : Wk B s.heap.objs.size l Tk C) (t0 : Tk 0 μ σ (s.heap.push o)) (hp : ∀ Q E, Q (.ref s.heap.objs.size) { s with heap := s.heap.push o } → wpAny (model B.prog B.w) A (pyIter va) Q E s) :
    W B X A [] μ σ s (pyIter va) (fun v μ' σ' s' => μ' = μ ∧ σ' = σ ∧ ∃ it Tk, v = .ref it ∧ s.heap.get? it = none ∧ Wk B it l Tk C ∧ Tk 0 μ σ s'.heap) :=
  hp _ _ ⟨μ, σ, Post.push O.rel o s.toks, rfl, rfl, _, Tk, rfl, Heap.get?_none_of_le (Nat.le_refl _), wk, t0⟩
theorem ITER_list {i : Nat} {l : List V} (hi : σ[i]? = some (.list l)) : ITER B n X (.ref i) l (fun σ => σ[i]? = some (.list l)) σ := fun A μ s va O ha => by
  obtain ⟨-, rfl⟩ := VR_ref_of ha
  obtain ⟨vs, hl, hv⟩ := O.rel.list hi
  refine new_walk (o := { cls := .type "list_iterator", data := .fields #[.ref (μ.a i), .int 0 0] }) O (fun k μ σ h => h.IsListIter s.heap.objs.size (μ.a i) k) ⟨?_, ?_, fun h q => wpAny_pyIter_listiter h q, ?_, ?_⟩ ⟨_, Heap.get?_push_size _ rfl, rfl, rfl⟩ fun Q E hQ => wpAny_pyIter_list hl.isList hQ
  · rintro k μ σ h ⟨o, e, c, d⟩; exact ⟨o, _, _, e, c, d, by decide⟩
  · intro A k μ σ s Q E x hh R hx hC ht no hQ
    obtain ⟨vs, hl, hv⟩ := R.list hC
    obtain ⟨v, hv1, hv2⟩ := VRs_get hv hx
    exact wpAny_pyNext_list_item ht hl.isList (by simpa using hv1) fun h' ht' hs => hQ v h' s.toks hv2 ht' hs
  · intro A μ σ s Q E hh R hC ht hQ
    obtain ⟨vs, hl, hv⟩ := R.list hC
    exact wpAny_pyNext_list_end hh ht hl.isList (by simp [← VRs_length hv]) fun h' he => hQ h' s.toks he
  · intro k fr fx μ σ s μ' σ' s' z9_ R hC hC' no nx nr _ P
    refine shut fun P_ o_ => ?_
    obtain ⟨o, e, c, d⟩ := z9_
    refine o_ ?_
    have hlt : i < σ.length := by
      rcases Nat.lt_or_ge i σ.length with h | h
      · exact h
      · rw [List.getElem?_eq_none h] at hC; cases hC
    exact ⟨o, keep_rec P e no nx nr, c, by rw [(P.agree i hlt).1]; exact d⟩
theorem ITER_tup {l : List V} : ITER B n X (.tup l) l (fun z_ => True) σ := fun A μ s va O ha => by
  obtain ⟨t, items, rfl, ht, hv⟩ := VR_tup_of ha
  refine new_walk (o := { cls := .type "tuple_iterator", data := .fields #[.ref t, .int 0 0] }) O (fun k μ σ h => ∃ items, h.IsTupleIter s.heap.objs.size t k ∧ h.IsTuple t (List.toArray items) ∧ VRs μ σ.length h l items) ⟨?_, ?_, fun ⟨_, h, _⟩ q => wpAny_pyIter_tupleiter h q, ?_, ?_⟩
    ⟨items, ⟨_, Heap.get?_push_size _ rfl, rfl, rfl⟩, TK.of_keeps (fun z_ z_ e => Heap.get?_push_of_some _ e) _ _ ht, VRs.keeps (TK.of_keeps fun z_ z_ e => Heap.get?_push_of_some _ e) (Nat.le_refl _) (fun z_ z_ => rfl) hv⟩ fun Q E hQ => wpAny_pyIter_tuple ht hQ
  · rintro k μ σ h ⟨_, ⟨o, e, c, d⟩, _⟩; exact ⟨o, _, _, e, c, d, by decide⟩
  · intro A k μ σ s Q E x hh R hx hC z12_ no hQ
    refine shut fun P_ o_ => ?_
    obtain ⟨items, ht, hT, hv⟩ := z12_
    refine o_ ?_
    obtain ⟨v, hv1, hv2⟩ := VRs_get hv hx
    refine wpAny_pyNext_tuple_item ht hT (by simpa using hv1) fun h' ht' hs => ?_
    have hr : IsRec s.heap _ := let ⟨o, e, _, d⟩ := ht; ⟨o, _, e, d⟩
    have tk := ext_tk hs.extBut hr
    exact hQ v h' s.toks hv2 ⟨items, ht', tk _ _ hT, VRs.keeps tk (Nat.le_refl _) (fun z_ z_ => rfl) hv⟩ hs
  · intro A μ σ s Q E hh R hC z9_ hQ
    refine shut fun P_ o_ => ?_
    obtain ⟨items, ht, hT, hv⟩ := z9_
    refine o_ ?_
    exact wpAny_pyNext_tuple_end hh ht hT (by simp [← VRs_length hv]) fun h' he => hQ h' s.toks he
  · intro k fr fx μ σ s μ' σ' s' z9_ R hC hC' no nx nr hnt P
    refine shut fun P_ o_ => ?_
    obtain ⟨items, ⟨o, e, c, d⟩, hT, hv⟩ := z9_
    refine o_ ?_
    exact ⟨items, ⟨o, keep_rec P e no nx nr, c, d⟩, P.tk R hnt _ _ hT, VRs.post R P hnt hv⟩
theorem ASG_name {x : Str} {pos : Pos} {a : V} {Q : Loc → List AO → Prop} (h : Asg m x Q a σ) : ASG B n X G m (.Name x pos) a σ Q := fun A env fx μ s v hf O hv => by
  obtain ⟨m', u, q⟩ := h
  exact wpAny_assign_Name (wpAny_mono (W_store' O (.inl hf) u hv) (fun _ s' ⟨P, O'⟩ => ⟨_, _, P, m', O', q⟩) fun z_ z_ x => x)
end
section
variable {B : Bs} {n : Nat} {X : V → List AO → Prop} {G : Gs} {m : Loc} {σ : List AO}
noncomputable abbrev LWr (B : Bs) (n : Nat) (X : V → List AO → Prop) (G : Gs) (A : Around) (env : Env) (fx : List Addr) (μ : Mp) (σ : List AO) (s : Shared) (Q : AF → Loc → List AO → Prop) : Except Value Flow → Shared → Prop := fun r s' => match r with
  | .ok fl => Wq B (frs A) fx μ σ s (EXq B n G A env fx Q) fl s'
  | .error e => cameBackBy (model B.prog B.w) A env (QE B (frs A) fx μ σ s X) e s'
noncomputable def LW (B : Bs) (n : Nat) (X : V → List AO → Prop) (G : Gs) (test : Expr) (body : List Stmt) (m : Loc) (σ : List AO) (Q : AF → Loc → List AO → Prop) : Prop :=
  ∀ A env fx μ s, env.func.isSome = true → Ok B n G A env fx m μ σ s → codeAny (model B.prog B.w) A (.whileLoop test body [] env) (LWr B n X G A env fx μ σ s Q) s
theorem wpAny_mono' {α : Type} {M : Model} {A : Around} {t : Sem α} {Q Q' : α → Shared → Prop} {E E' : Value → Shared → Prop} {s : Shared} (h : wpAny M A t Q E s) (hQ : ∀ a s, Q a s → Q' a s) (hE : ∀ e s, E e s → E' e s) : wpAny M A t Q' E' s :=
  wpAny_mono h hQ hE
noncomputable abbrev LWK (B : Bs) (n : Nat) (X : V → List AO → Prop) (G : Gs) (test : Expr) (body : List Stmt) (Q : AF → Loc → List AO → Prop) : AF → Loc → List AO → Prop := fun af m₂ σ₂ => match af with
  | .nxt => LW B n X G test body m₂ σ₂ Q
  | .cnt => LW B n X G test body m₂ σ₂ Q
  | .brk => Q .nxt m₂ σ₂
  | .ret v => Q (.ret v) m₂ σ₂
structure LWS (B : Bs) (n : Nat) (X : V → List AO → Prop) (G : Gs) (test : Expr) (body : List Stmt) (m : Loc) (Q : AF → Loc → List AO → Prop) (b : Bool) (σ₁ : List AO) : Prop where
  t : b = true → EXs B n X G m σ₁ body (LWK B n X G test body Q)
  f : b = false → Q .nxt m σ₁
theorem LW_step {test : Expr} {body : List Stmt} {Q : AF → Loc → List AO → Prop} (T : Thru B X)
    (h : TE B n X G m σ test (LWS B n X G test body m Q)) : LW B n X G test body m σ Q := fun A env fx μ s hf O => by
  refine codeAny_of_tree ?_
  show wpAny _ A ((whileTurn test body [] env).onRaise (fun x => do noteFrame x env; theTreesLotGoes x)) _ _ s
  refine wpAny_noted ?_
  simp only [whileTurn]
  refine wpAny_bind (wpAny_mono (h A env fx μ s O) (fun b s₂ z_ => ?_) fun e s' z => T.loop O z.weaken)
  refine shut fun P_ o_ => ?_
  obtain ⟨μ₂, σ₂, P₂, h₂, h₂'⟩ := z_
  refine o_ ?_
  have O₂ := O.next P₂
  cases b with
  | false =>
    simp only [Bool.false_eq_true, if_false]
    exact wpAny_bind (wpAny_execs_nil (wpAny_pure ⟨μ₂, σ₂, P₂.weaken, .nxt, m, trivial, O₂, h₂' rfl⟩))
  | true =>
    simp only [if_true]
    refine wpAny_bind (wpAny_mono (h₂ rfl A env fx μ₂ s₂ hf O₂) (fun f s₃ z_ => ?_) fun e s' z => T.loop O (z.trans P₂.weaken))
    refine shut fun P_ o_ => ?_
    obtain ⟨μ₃, σ₃, P₃, af, m₃, hr, O₃, q⟩ := z_
    refine o_ ?_
    have go : LW B n X G test body m₃ σ₃ Q → codeAny (model B.prog B.w) A (.whileLoop test body [] env) (LWr B n X G A env fx μ σ s Q) s₃ := fun q => by
      refine codeAny_mono (q A env fx μ₃ s₃ hf O₃) fun r s' z => ?_
      cases r with
      | ok fl =>
        obtain ⟨μ', σ', P, z⟩ := z
        exact ⟨μ', σ', (P₂.weaken.trans P₃).trans P, z⟩
      | error e => exact wpAny_mono z (fun z_ z_ z => z.trans (P₂.weaken.trans P₃)) fun z_ z_ z => z.trans (P₂.weaken.trans P₃)
    cases f <;> cases af <;> first | exact hr.elim | skip
    · exact wpAny_pure ⟨rfl, go q⟩
    · exact wpAny_pure ⟨μ₃, σ₃, P₂.weaken.trans P₃, .nxt, m₃, trivial, O₃, q⟩
    · exact wpAny_pure ⟨rfl, go q⟩
    · exact wpAny_pure ⟨μ₃, σ₃, P₂.weaken.trans P₃, _, m₃, hr, O₃, q⟩
theorem EX_while {test : Expr} {body : List Stmt} {pos : Pos} {Q : AF → Loc → List AO → Prop} (h : LW B n X G test body m σ Q) : EX B n X G m σ (.While test body [] pos) Q := fun A env fx μ s hf O => by
  refine wpAny_While (codeAny_mono (h A env fx μ s hf O) fun r s' z => ?_)
  cases r with
  | ok fl => exact z
  | error e => exact z
variable {Q : V → List AO → Prop}
noncomputable def GM (B : Bs) (a : V) (σ : List AO) (name : Str) (id : String) : Prop :=
  ∀ A μ s va pl (Q : Value × List Value → Shared → Prop) E, Rel B μ σ s.heap → VR μ σ.length s.heap a va → Q (.builtin id, [va]) s → wpAny (model B.prog B.w) A (getMethod va name pl) Q E s
inductive BM (B : Bs) (n : Nat) (X : V → List AO → Prop) (G : Gs) (m : Loc) (name : Str) (es : List Expr) (Q : V → List AO → Prop) (a : V) (σ₁ : List AO) : Prop
  | mk (id : String) (g : GM B a σ₁ name id) (q : EVs B n X G m es σ₁ (JC B n X (fun vs => call (.builtin id) vs) Q a))
theorem EV_bmeth {o : Expr} {name : Str} {apos pos : Pos} {es : List Expr} (hs : noStar es = true) (hl : es.length < 20) (hline : (apos.endLine == pos.line) = true)
    (h : EV B n X G m σ o (BM B n X G m name es Q))
    (hb : ∀ env, attributeBase o name env (eval o env) = eval o env := by intro _; rfl) : EV B n X G m σ (.Call (.Attribute o name apos) es [] pos) Q := fun A env fx μ s O => by
  show wpAny _ _ _ _ _ _
  simp only [arm_eval_Call, hb]
  refine wpAny_bind (wpAny_mono (h A env fx μ s O) (fun v s₁ z_ => ?_) fun z_ z_ e => e)
  refine shut fun P_ o_ => ?_
  obtain ⟨μ₁, σ₁, P₁, a, ha, id, gm, q⟩ := z_
  refine o_ ?_
  have O₁ := O.next P₁
  have hform : methodCallForm (es.length + ([] : List Keyword).length) (backTo pos (starEach es env)) (backToKw pos (keywordEach [] env)) = true := by
    unfold methodCallForm
    simp only [noStar_all hs]
    show (true && true && decide (es.length + 0 + 0 < 30)) = true
    simp; lia -abstractProof
  have hpos : methodCallPos true o env apos pos = pure pos := by unfold methodCallPos; simp [hline]
  refine wpAny_bind (wpAny_standAt ?_)
  unfold methodCall
  rw [hform]
  refine wpAny_bind (wpAny_holding ?_)
  show wpAny _ _ (getMethod _ _ _) _ _ _
  refine gm A μ₁ s₁ v _ _ _ O₁.rel ha ?_
  refine wpAny_bind (wpAny_of_eq hpos ?_)
  exact W.from P₁ (W_callWith (first := [a]) O₁ (fun h z_ => keeps_builtin _ _ h) hs (VRs_one ha) q)
theorem idx_lt {σ : List AO} {i : Nat} {o : AO} (h : σ[i]? = some o) : i < σ.length := by
  rcases Nat.lt_or_ge i σ.length with z | z
  · exact z
  · rw [List.getElem?_eq_none z] at h; cases h
theorem GM_list {i : Nat} {l : List V} {name : Str} {id : String} (hi : σ[i]? = some (.list l)) (slot : PySem.Slot "list" name id) (hty : typeOf (.builtin id) = pure (.type "method_descriptor")) : GM B (.ref i) σ name id := fun A μ s va pl Q E R ha hQ => by
  obtain ⟨-, rfl⟩ := VR_ref_of ha
  refine shut fun P_ o_ => ?_
  obtain ⟨vs, ⟨k, e⟩, hv⟩ := R.list hi
  refine o_ ?_
  exact getMethod_builtin ⟨_, e, rfl⟩ PySem.F.plainAttrs_list slot hty (fun a q => by cases q; exact ⟨_, e, rfl⟩) hQ
theorem GM_dS {i : Nat} {l : List (Str × V)} {name : Str} {id : String} (hi : σ[i]? = some (.dS l)) (slot : PySem.Slot "dict" name id) (hty : typeOf (.builtin id) = pure (.type "method_descriptor")) : GM B (.ref i) σ name id := fun A μ s va pl Q E R ha hQ => by
  obtain ⟨-, rfl⟩ := VR_ref_of ha
  obtain ⟨vs, hd, _⟩ := R.dS hi
  exact getMethod_builtin hd.typeIs PySem.F.plainAttrs_dict slot hty hd.mapOf.noDict hQ
theorem GM_dI {i : Nat} {l : List (Int × V)} {name : Str} {id : String} (hi : σ[i]? = some (.dI l)) (slot : PySem.Slot "dict" name id) (hty : typeOf (.builtin id) = pure (.type "method_descriptor")) : GM B (.ref i) σ name id := fun A μ s va pl Q E R ha hQ => by
  obtain ⟨-, rfl⟩ := VR_ref_of ha
  obtain ⟨vs, hd, _⟩ := R.dI hi
  exact getMethod_builtin hd.typeIs PySem.F.plainAttrs_dict slot hty hd.mapOf.noDict hQ
theorem GM_dT {i : Nat} {l : List (List Int × V)} {name : Str} {id : String} (hi : σ[i]? = some (.dT l)) (slot : PySem.Slot "dict" name id) (hty : typeOf (.builtin id) = pure (.type "method_descriptor")) : GM B (.ref i) σ name id := fun A μ s va pl Q E R ha hQ => by
  obtain ⟨-, rfl⟩ := VR_ref_of ha
  obtain ⟨vs, hd, _⟩ := R.dT hi
  exact getMethod_builtin (hd.typeIs) PySem.F.plainAttrs_dict slot hty (dictOfH_noDict hd) hQ
theorem GM_set {i : Nat} {S : Int → Bool} {k : Nat} {name : Str} {id : String} (hi : σ[i]? = some (.set S k)) (slot : PySem.Slot "set" name id) (hty : typeOf (.builtin id) = pure (.type "method_descriptor")) : GM B (.ref i) σ name id := fun A μ s va pl Q E R ha hQ => by
  obtain ⟨-, rfl⟩ := VR_ref_of ha
  have hS : s.heap.SetOf (intKind B.prog B.w) (μ.a i) S k := R.obj i _ hi
  exact getMethod_builtin hS.typeIs PySem.F.plainAttrs_set slot hty hS.noDict hQ
theorem tk_but {μ : Mp} {s : Shared} {i : Nat} {o : AO} {h' : Heap} (R : Rel B μ σ s.heap) (hi : σ[i]? = some o) (hs : Heap.SameBut (μ.a i) s.heap h') : TK s.heap h' := fun a items ⟨ob, e, c, r⟩ => by
  refine ⟨ob, (hs.2 a fun q => ?_).trans e, c, r⟩
  subst q
  obtain ⟨x, e', hn⟩ := (R.obj i o hi).cls
  rw [e] at e'; cases e'; exact hn c
theorem upd_list {fr fx : List Addr} {μ : Mp} {s : Shared} {i : Nat} {l l' : List V} {vs' : List Value} {h' : Heap} {tk : Nat} (R : Rel B μ σ s.heap) (hi : σ[i]? = some (.list l)) (hl' : h'.PlainList (μ.a i) vs'.toArray)
    (hv' : VRs μ σ.length s.heap l' vs') (hs : Heap.SameBut (μ.a i) s.heap h') : Post B fr fx μ σ s μ (σ.set i (.list l')) { s with heap := h', toks := tk } := by
  refine Post.upd R hi (fun b hb z_ => hs.2 b hb) ⟨vs', hl', VRs.keeps (tk_but R hi hs) (Nat.le_refl _) (fun z_ z_ => rfl) hv'⟩ (show OD μ i (.list l') from R.one i (.list l) hi) fun b o e => ?_
  by_cases q : b = μ.a i
  · obtain ⟨k, z⟩ := hl'; exact ⟨_, by rw [q]; exact z⟩
  · exact ⟨o, (hs.2 b q).trans e⟩
theorem VRs_1 {μ k h a vs} (q : VRs μ k h [a] vs) : ∃ v, vs = [v] ∧ VR μ k h a v := by
  obtain ⟨v, r, e, h1, q⟩ := VRs_consO q
  exact ⟨v, by rw [e, VRs_nilO q], h1⟩
theorem VRs_two {μ k h a b vs} (q : VRs μ k h [a, b] vs) : ∃ v w, vs = [v, w] ∧ VR μ k h a v ∧ VR μ k h b w := by
  obtain ⟨v, r, e, h1, q⟩ := VRs_consO q
  obtain ⟨w, e', h2⟩ := VRs_1 q
  exact ⟨v, w, by rw [e, e'], h1, h2⟩
theorem VRs_three {μ k h a b c vs} (q : VRs μ k h [a, b, c] vs) : ∃ v w x, vs = [v, w, x] ∧ VR μ k h a v ∧ VR μ k h b w ∧ VR μ k h c x := by
  obtain ⟨v, r, e, h1, q⟩ := VRs_consO q
  obtain ⟨w, x, e', h2, h3⟩ := VRs_two q
  exact ⟨v, w, x, by rw [e, e'], h1, h2, h3⟩
theorem OP_append {i : Nat} {l : List V} {x : V} (hi : σ[i]? = some (.list l)) (hz : l.length ≤ 100000) (h : Q .none (σ.set i (.list (l ++ [x])))) : OPs B n X [.ref i, x] σ (fun vs => call (.builtin "list.append") vs) Q := fun A μ s vs O hv => by
  obtain ⟨v, w, rfl, h1, h2⟩ := VRs_two hv
  obtain ⟨-, rfl⟩ := VR_ref_of h1
  obtain ⟨us, hl, hu⟩ := O.rel.list hi
  show wpAny _ _ _ _ _ _
  refine wpAny_list_append_plain hl (fun h' hl' hs => ?_) (by simp only [List.size_toArray, VRs_length hu, sizeLine_eq]; lia -abstractProof)
  have hp : us.toArray.push w = (us ++ [w]).toArray := by simp
  rw [hp] at hl'
  exact ⟨μ, _, upd_list O.rel hi hl' (VRs_append hu (VRs_one h2)) hs, .none, VR_none, h⟩
inductive Ap2 (Q : V → List AO → Prop) (i : Nat) (x : V) (σ₂ : List AO) : Prop
  | mk (l : List V) (h : σ₂[i]? = some (.list l)) (hz : l.length ≤ 100000) (q : Q .none (σ₂.set i (.list (l ++ [x]))))
inductive Ap1 (B : Bs) (n : Nat) (X : V → List AO → Prop) (G : Gs) (m : Loc) (e : Expr) (Q : V → List AO → Prop) (a : V) (σ₁ : List AO) : Prop
  | mk (i : Nat) (e1 : a = .ref i) (h : ∃ l, σ₁[i]? = some (.list l)) (q : EV B n X G m σ₁ e (Ap2 Q i))
theorem EV_append {o e : Expr} {apos pos : Pos} (hline : (apos.endLine == pos.line) = true) (hs : noStar [e] = true)
    (h : EV B n X G m σ o (Ap1 B n X G m e Q))
    (hb : ∀ env, attributeBase o "append" env (eval o env) = eval o env := by intro _; rfl) : EV B n X G m σ (.Call (.Attribute o "append" apos) [e] [] pos) Q :=
  EV_bmeth hs (show 1 < 20 by decide) hline (h.mono fun a σ₁ ⟨i, e1, ⟨l, hl⟩, h₁⟩ => by
    subst e1
    exact ⟨_, GM_list hl PySem.slot_list_append PySem.type_list_append, EV.mono h₁ fun x σ₂ ⟨l, hl, hz, q⟩ => OP_append hl hz q⟩) hb
end
section
variable {B : Bs} {n : Nat} {X : V → List AO → Prop} {G : Gs} {m : Loc} {σ : List AO} {Q : V → List AO → Prop}
theorem plain_sz {us : List Value} {l : List V} {μ k h} (hu : VRs μ k h l us) (hz : l.length ≤ 100000) : us.toArray.size ≤ sizeLine := by
  simp only [List.size_toArray, VRs_length hu, sizeLine_eq]; lia -abstractProof
theorem setItem_plain {prog : Program} {w : World} {A : Around} {E : Value → Shared → Prop} {s : Shared} {a : Addr} {us : Array Value} {k : Int} {t : Tok} {y : Value} {Q : Unit → Shared → Prop} (hl : s.heap.PlainList a us)
    (h0 : 0 ≤ k) (hfit : k < 2 ^ 63) (hk : k < us.size)
    (hQ : ∀ h', h'.PlainList a (us.setIfInBounds k.toNat y) → Heap.SameBut a s.heap h' → Q () { s with heap := h' }) : wpAny (model prog w) A (setItem (.ref a) (.int k t) y) Q E s := by
  obtain ⟨c, ho⟩ := hl
  have hT : s.TypeIs (.ref a) "list" := ⟨_, ho, rfl⟩
  unfold setItem
  try with_reducible refine wpAny_holding ?_
  refine wpAny_bind (wpAny_sequenceKey hT (by decide) ?_)
  refine wpAny_bind (wpAny_callSpecial?_slot (name := Str.ofString "__setitem__") hT PySem.slot_list_setitem
    (wpAny_call_entry PySem.slot_list_setitem hT PySem.entry_list_setitem ?_ (PySem.args_list_setitem _ _ _)))
  show wpAny _ _ (Builtin.List.listSubscript? (.int k t) >>= _) _ _ s
  refine wpAny_bind (wpAny_listSubscript_int (fitsIndex_of h0 hfit) ?_)
  clear hfit
  obtain ⟨j, rfl⟩ := Int.eq_ofNat_of_zero_le h0
  have hj : j < us.size := by lia -abstractProof
  have hx : us[j]? = some us[j] := Array.getElem?_eq_getElem hj
  show wpAny _ _ ((seqItemAt a j >>= fun r => pure (r.map (j, ·))) >>= _) _ _ s
  refine wpAny_bind (wpAny_bind (wpAny_seqItemAt ho rfl (wpAny_pure ?_)))
  rw [hx]
  show wpAny _ _ (setSeqItemAt a j y >>= _) _ _ s
  have hfin : (s.heap.update a (Obj.mapSeq (·.setIfInBounds j y))).PlainList a (us.setIfInBounds j y) := ⟨_, IsL.update (n := c) ho (·.setIfInBounds j y)⟩
  refine wpAny_bind (wpAny_setSeqItemAt ho rfl ?_)
  exact wpAny_pure ⟨.none, rfl, wpAny_pure (hQ _ hfin (Heap.SameBut.update ..))⟩
theorem OP_setL {i : Nat} {l : List V} {k : Nat} {x : V} {Q : List AO → Prop} (hi : σ[i]? = some (.list l)) (hk : k < l.length) (hz : l.length ≤ 100000) (h : Q (σ.set i (.list (l.set k x)))) :
    OPu B n X [.ref i, .int k, x] σ stI Q := fun A μ s vs O hv => by
  obtain ⟨v, w, y, rfl, h1, h2, h3⟩ := VRs_three hv
  obtain ⟨-, rfl⟩ := VR_ref_of h1
  obtain ⟨t, rfl⟩ := VR_int_of h2
  obtain ⟨us, hl, hu⟩ := O.rel.list hi
  have hlen := VRs_length hu
  show wpAny _ _ (setItem _ _ _) _ _ _
  refine setItem_plain hl (by lia -abstractProof) (by lia -abstractProof) (by simp only [List.size_toArray, hlen]; lia -abstractProof) fun h' hl' hs => ?_
  rw [Int.toNat_natCast, show us.toArray.setIfInBounds k y = (us.set k y).toArray by simp] at hl'
  exact ⟨μ, _, upd_list (tk := s.toks) O.rel hi hl' (VRs_set hu h3) hs, h⟩
theorem OP_popL {i : Nat} {l : List V} {x : V} (hi : σ[i]? = some (.list (l ++ [x]))) (hz : l.length ≤ 100000) (h : Q x (σ.set i (.list l))) :
    OPs B n X [.ref i] σ (fun vs => call (.builtin "list.pop") vs) Q := fun A μ s vs O hv => by
  obtain ⟨v, rfl, h1⟩ := VRs_1 hv
  obtain ⟨-, rfl⟩ := VR_ref_of h1
  obtain ⟨us, ⟨c, ho⟩, hu⟩ := O.rel.list hi
  have hlen := VRs_length hu
  rw [List.length_append, List.length_singleton] at hlen
  obtain ⟨y, hy1, hy2⟩ := VRs_get hu (i := l.length) (x := x) (by simp)
  have hsz : us.toArray.size ≤ sizeLine := by simp only [List.size_toArray, hlen, sizeLine_eq]; lia -abstractProof
  show wpAny _ _ _ _ _ _
  refine PySem.call_meets PySem.F.slot_list_pop (T := "list") ⟨_, ho, rfl⟩ PySem.F.entry_list_pop (PySem.F.args_list_pop_1 _) (MeetsSeq.list_pop_last (μ.a i) us.toArray c y (by simp only [List.size_toArray, hlen, Nat.add_sub_cancel, List.getElem?_toArray]; exact hy1) hsz) ⟨ho, ?_⟩
  have hm : us.toArray.eraseIdxIfInBounds (us.toArray.size - 1) = (us.take l.length).toArray := by
    have : l.length < us.length := by lia -abstractProof
    simp [Array.eraseIdxIfInBounds, List.eraseIdx_eq_take_drop_succ, hlen]
  have hfin : (s.heap.update (μ.a i) (Obj.mapSeq fun xs => xs.eraseIdxIfInBounds (us.toArray.size - 1))).PlainList (μ.a i) (us.take l.length).toArray := by
    simp only [← hm]
    exact ⟨_, IsL.update (n := c) ho fun xs => xs.eraseIdxIfInBounds (us.toArray.size - 1)⟩
  have hv' : VRs μ σ.length s.heap l (us.take l.length) := by have := VRs_take hu l.length; rwa [List.take_left'] at this; rfl
  have P : Post B (frs A) [] μ σ s μ (σ.set i (.list l)) { s with heap := s.heap.update (μ.a i) (Obj.mapSeq fun xs => xs.eraseIdxIfInBounds (us.toArray.size - 1)) } := upd_list (tk := s.toks) O.rel hi hfin hv' (Heap.SameBut.update ..)
  exact ⟨μ, _, P, x, VR.post O.rel P nt_nil hy2, h⟩
theorem OP_lenL {i : Nat} {l : List V} (hi : σ[i]? = some (.list l)) (hz : l.length ≤ 100000) (h : Q (.int l.length) σ) : OPs B n X [.ref i] σ (fun vs => call (.builtin "len") vs) Q := fun A μ s vs O hv => by
  obtain ⟨v, rfl, h1⟩ := VRs_1 hv
  obtain ⟨-, rfl⟩ := VR_ref_of h1
  obtain ⟨us, hl, hu⟩ := O.rel.list hi
  have hlen := VRs_length hu
  show wpAny _ _ _ _ _ _
  refine call_len_list hl.isList (by simp only [List.size_toArray, hlen]; lia -abstractProof) ?_
  simp only [List.size_toArray, hlen]
  exact fin_tok (s := s) (t := s.toks + 1 + 1) O.rel VR_int h
theorem OP_lenI {i : Nat} {l : List (Int × V)} (hi : σ[i]? = some (.dI l)) (hz : l.length ≤ 100000) (h : Q (.int l.length) σ) : OPs B n X [.ref i] σ (fun vs => call (.builtin "len") vs) Q := fun A μ s vs O hv => by
  obtain ⟨v, rfl, h1⟩ := VRs_1 hv
  obtain ⟨hlt, rfl⟩ := VR_ref_of h1
  refine shut fun P_ o_ => ?_
  obtain ⟨kvs, hd, e, hu⟩ := O.rel.dI hi
  refine o_ ?_
  have hlen : kvs.length = l.length := by have := congrArg List.length e; simpa using this
  show wpAny _ _ _ _ _ _
  refine call_len_dict (O.rel.notSys hlt) hd (by rw [hlen]; lia -abstractProof) ?_
  rw [hlen]
  exact fin_tok (s := s) (t := s.toks + 1 + 1) O.rel VR_int h
theorem OP_getS {i : Nat} {l : List (Str × V)} {k : Str} {d : V} (hi : σ[i]? = some (.dS l)) (h : Q ((at? l k).getD d) σ) : OPs B n X [.ref i, .str k, d] σ (fun vs => call (.builtin "dict.get") vs) Q := fun A μ s vs O hv => by
  obtain ⟨v, w, y, rfl, h1, h2, h3⟩ := VRs_three hv
  obtain ⟨hlt, rfl⟩ := VR_ref_of h1
  obtain ⟨t, rfl⟩ := VR_str_of h2
  refine shut fun P_ o_ => ?_
  obtain ⟨kvs, hd, e, hu⟩ := O.rel.dS hi
  refine o_ ?_
  show wpAny _ _ _ _ _ _
  refine PySem.call_meetsIn PySem.F.slot_dict_get hd.typeIs PySem.F.entry_dict_get (PySem.F.args_dict_get_3 _ _ _) (meets_dict_get_default (strKind B.prog B.w) (μ.a i) (k := k) (strKind_is _ _ _ _) (O.rel.notSys hlt) y) ⟨_, hd.mapOf, ?_⟩
  have hs := at_some e hu (k := k)
  refine fin_tok (s := s) O.rel ?_ h
  cases q : at? l k with
  | none => rw [hs.2 q]; exact h3
  | some x => obtain ⟨v, q1, q2⟩ := hs.1 q; rw [q1]; exact q2
theorem isTupKey_of {prog : Program} {w : World} {μ : Mp} {N : Nat} {h : Heap} {a : Addr} {items : List Value} {l : List Int} (ht : h.IsTuple a items.toArray) (hv : VRs μ N h (l.map .int) items) : IsTupleKey (intKind prog w) h l a := by
  obtain ⟨o, e, c, n, d⟩ := ht
  refine ⟨o, _, n, e, c, d, ?_⟩
  clear e c d
  show PySem.ItemsAre _ _ items
  induction l generalizing items with
  | nil => rw [List.map_nil, VRs] at hv; subst hv; exact .nil
  | cons x l ih =>
    rw [List.map_cons, VRs] at hv
    obtain ⟨v, r, rfl, h1, h2⟩ := hv
    obtain ⟨t, rfl⟩ := VR_int_of h1
    exact .cons (intKind_is _ _ _ _) (ih h2)
theorem atKey_val {K : Type} [DecidableEq K] (kvs : List (K × Addr × Value)) (k : K) : PySem.valueAt (kvs.map fun x => (x.1, x.2.2)) k = (atKey kvs k).map (·.2) := by
  unfold PySem.valueAt atKey
  induction kvs with
  | nil => rfl
  | cons a kvs ih =>
    simp only [List.map_cons, List.find?_cons]
    by_cases q : a.1 = k
    · simp [q]
    · simp only [q, decide_false]; exact ih
theorem atT_some {μ : Mp} {N : Nat} {h : Heap} {l : List (List Int × V)} {kvs : List (List Int × Addr × Value)} (e : kvs.map (·.1) = l.map (·.1)) (hv : VRs μ N h (l.map (·.2)) (kvs.map (·.2.2))) (k : List Int) :
    (∀ {x : V}, at? l k = some x → ∃ p, atKey kvs k = some p ∧ VR μ N h x p.2) ∧ (at? l k = none → atKey kvs k = none) := by
  have := at_some (l := l) (kvs := kvs.map fun x => (x.1, x.2.2)) (by rw [List.map_map]; exact e) (by simp only [List.map_map]; exact hv) (k := k)
  rw [atKey_val] at this
  refine ⟨fun {x} z => ?_, fun z => ?_⟩
  · obtain ⟨v, q1, q2⟩ := this.1 z
    cases r : atKey kvs k with
    | none => rw [r] at q1; cases q1
    | some p => rw [r] at q1; cases q1; exact ⟨p, rfl, q2⟩
  · have := this.2 z
    cases r : atKey kvs k with
    | none => rfl
    | some p => rw [r] at this; cases this
theorem OP_getT {i : Nat} {l : List (List Int × V)} {k : List Int} {d : V} (hi : σ[i]? = some (.dT l)) (h : Q ((at? l k).getD d) σ) : OPs B n X [.ref i, .tup (k.map .int), d] σ (fun vs => call (.builtin "dict.get") vs) Q := fun A μ s vs O hv => by
  obtain ⟨v, w, y, rfl, h1, h2, h3⟩ := VRs_three hv
  obtain ⟨hlt, rfl⟩ := VR_ref_of h1
  obtain ⟨a, items, rfl, ht, hti⟩ := VR_tup_of h2
  refine shut fun P_ o_ => ?_
  obtain ⟨kvs, hd, e, hu⟩ := O.rel.dT hi
  refine o_ ?_
  have hun : A.units + 1 < cLine := by have := O.units; unfold cLine; lia -abstractProof
  show wpAny _ _ _ _ _ _
  refine PySem.call_meetsIn PySem.F.slot_dict_get hd.typeIs PySem.F.entry_dict_get (PySem.F.args_dict_get_3 _ _ _) (meetsH_dict_get_default (tupleKind (intKind B.prog B.w)) (μ.a i) a (O.rel.notSys hlt) y)
    ⟨tupleKind_room_in1 hun, k, kvs, isTupKey_of ht hti, hd, ?_⟩
  have hs := atT_some e hu k
  refine fin_tok (s := s) O.rel ?_ h
  cases q : at? l k with
  | none => rw [hs.2 q]; exact h3
  | some x => obtain ⟨v, q1, q2⟩ := hs.1 q; rw [q1]; exact q2
theorem put_kvs {K : Type} [DecidableEq K] {μ : Mp} {N : Nat} {h : Heap} {l : List (K × V)} {kvs : List (K × Value)} (e : kvs.map (·.1) = l.map (·.1)) (hv : VRs μ N h (l.map (·.2)) (kvs.map (·.2))) {k : K} {x : V} {v : Value} (hx : VR μ N h x v) :
    (PySem.stored kvs k v).map (·.1) = (put l k x).map (·.1) ∧ VRs μ N h ((put l k x).map (·.2)) ((PySem.stored kvs k v).map (·.2)) := by
  have ha : kvs.any (fun kv => decide (kv.1 = k)) = l.any (fun kv => decide (kv.1 = k)) := by
    have e1 : kvs.any (fun kv => decide (kv.1 = k)) = (kvs.map (·.1)).any fun y => decide (y = k) := by simp only [List.any_map]; rfl
    have e2 : l.any (fun kv => decide (kv.1 = k)) = (l.map (·.1)).any fun y => decide (y = k) := by simp only [List.any_map]; rfl
    simp only [e1, e2, e]
  unfold PySem.stored put
  rw [ha]
  by_cases q : l.any (fun kv => decide (kv.1 = k)) = true
  · simp only [if_pos q, if_pos q]
    clear q ha
    induction l generalizing kvs with
    | nil => cases kvs with
      | nil => exact ⟨rfl, hv⟩
      | cons _ _ => cases e
    | cons p l ih => cases kvs with
      | nil => cases e
      | cons p' kvs =>
        simp only [List.map_cons, List.cons.injEq] at e
        obtain ⟨e1, e2⟩ := e
        simp only [List.map_cons] at hv
        refine shut fun P_ o_ => ?_
        obtain ⟨v', r, hr, hv1, hv2⟩ := VRs_consO hv
        refine o_ ?_
        cases hr
        refine shut fun P_ o_ => ?_
        obtain ⟨i1, i2⟩ := ih e2 hv2
        refine o_ ?_
        simp only [List.map_cons]
        refine ⟨?_, ?_⟩
        · simp only [i1, e1]
          by_cases z : p.1 = k <;> simp [z, e1]
        · simp only [e1]
          by_cases z : p.1 = k
          · simp only [z, if_true]; exact VRs_cons hx i2
          · simp only [z, if_false]; exact VRs_cons hv1 i2
  · simp only [if_neg q, if_neg q]
    simp only [List.map_append, List.map_cons, List.map_nil]
    exact ⟨by simp only [e], VRs_append hv (VRs_one hx)⟩
theorem upd_any {fr fx : List Addr} {μ : Mp} {s : Shared} {i : Nat} {o o' : AO} {h' : Heap} {tk : Nat} (R : Rel B μ σ s.heap) (hi : σ[i]? = some o) (hs : Heap.SameBut (μ.a i) s.heap h') (ho : OR B μ σ.length h' i o') (hd : OD μ i o → OD μ i o') (he : ∃ x, h'.get? (μ.a i) = some x) : Post B fr fx μ σ s μ (σ.set i o') { s with heap := h', toks := tk } := by
  refine Post.upd R hi (fun b hb z_ => hs.2 b hb) ho (hd (R.one i _ hi)) fun b o e => ?_
  by_cases q : b = μ.a i
  · obtain ⟨x, z⟩ := he; exact ⟨_, by rw [q]; exact z⟩
  · exact ⟨o, (hs.2 b q).trans e⟩
theorem OP_setI {i : Nat} {l : List (Int × V)} {k : Int} {x : V} {Q : List AO → Prop} (hi : σ[i]? = some (.dI l)) (hz : l.length ≤ 100000) (h : Q (σ.set i (.dI (put l k x)))) :
    OPu B n X [.ref i, .int k, x] σ stI Q := fun A μ s vs O hv => by
  obtain ⟨v, w, y, rfl, h1, h2, h3⟩ := VRs_three hv
  obtain ⟨hlt, rfl⟩ := VR_ref_of h1
  obtain ⟨t, rfl⟩ := VR_int_of h2
  refine shut fun P_ o_ => ?_
  obtain ⟨kvs, hd, e, hu⟩ := O.rel.dI hi
  refine o_ ?_
  have hlen : kvs.length = l.length := by have := congrArg List.length e; simpa using this
  show wpAny _ _ (setItem _ _ _) _ _ _
  refine wpAny_setItem_pairs (knd := intKind B.prog B.w) (k := k) (intKind_is _ _ _ _) hd (fun h' hd' hs => ?_) (by simp only [hlen, sizeLine_eq]; lia -abstractProof)
  refine shut fun P_ o_ => ?_
  obtain ⟨p1, p2⟩ := put_kvs e hu (k := k) h3
  refine o_ ?_
  have hd0 := hd'
  refine shut fun P_ o_ => ?_
  obtain ⟨ob, _, _, eo, _⟩ := hd0
  refine o_ ?_
  exact ⟨μ, _, upd_any (o' := .dI (put l k x)) O.rel hi hs ⟨_, hd', p1, VRs.keeps (tk_but O.rel hi hs) (Nat.le_refl _) (fun z_ z_ => rfl) p2⟩ id ⟨_, eo⟩, h⟩
theorem OP_setS {i : Nat} {l : List (Str × V)} {k : Str} {x : V} {Q : List AO → Prop} (hi : σ[i]? = some (.dS l)) (hz : l.length ≤ 100000) (h : Q (σ.set i (.dS (put l k x)))) :
    OPu B n X [.ref i, .str k, x] σ stI Q := fun A μ s vs O hv => by
  obtain ⟨v, w, y, rfl, h1, h2, h3⟩ := VRs_three hv
  obtain ⟨hlt, rfl⟩ := VR_ref_of h1
  obtain ⟨t, rfl⟩ := VR_str_of h2
  refine shut fun P_ o_ => ?_
  obtain ⟨kvs, hd, e, hu⟩ := O.rel.dS hi
  refine o_ ?_
  have hlen : kvs.length = l.length := by have := congrArg List.length e; simpa using this
  show wpAny _ _ (setItem _ _ _) _ _ _
  refine wpAny_setItem_pairs (knd := strKind B.prog B.w) (k := k) (strKind_is _ _ _ _) hd (fun h' hd' hs => ?_) (by simp only [hlen, sizeLine_eq]; lia -abstractProof)
  refine shut fun P_ o_ => ?_
  obtain ⟨p1, p2⟩ := put_kvs e hu (k := k) h3
  refine o_ ?_
  have hd0 := hd'
  refine shut fun P_ o_ => ?_
  obtain ⟨ob, _, _, eo, _⟩ := hd0
  refine o_ ?_
  exact ⟨μ, _, upd_any (o' := .dS (put l k x)) O.rel hi hs ⟨_, hd', p1, VRs.keeps (tk_but O.rel hi hs) (Nat.le_refl _) (fun z_ z_ => rfl) p2⟩ id ⟨_, eo⟩, h⟩
theorem storedH_val {K : Type} [DecidableEq K] (kvs : List (K × Addr × Value)) (k : K) (a : Addr) (v : Value) : (storedH kvs k a v).map (fun x => (x.1, x.2.2)) = PySem.stored (kvs.map fun x => (x.1, x.2.2)) k v := by
  have hs : (atKey kvs k).isSome = (kvs.map fun x => (x.1, x.2.2)).any (fun kv => decide (kv.1 = k)) := by
    unfold atKey
    simp only [List.any_map, Option.isSome_map]
    induction kvs with
    | nil => rfl
    | cons p kvs ih =>
      simp only [List.find?_cons, List.any_cons]
      by_cases q : p.1 = k
      · simp [q]
      · simp only [q, decide_false, Function.comp, Bool.false_or]; exact ih
  unfold storedH PySem.stored
  rw [hs]
  by_cases q : (kvs.map fun x => (x.1, x.2.2)).any (fun kv => decide (kv.1 = k)) = true
  · simp only [if_pos q, if_pos q, List.map_map, List.map_map]
    refine List.map_congr_left fun p z_ => ?_
    simp only [Function.comp, putAt]
    by_cases z : p.1 = k <;> simp [z]
  · simp only [if_neg q, if_neg q]; simp
theorem OP_setT {i : Nat} {l : List (List Int × V)} {k : List Int} {x : V} {Q : List AO → Prop} (hi : σ[i]? = some (.dT l)) (hz : l.length ≤ 100000) (h : Q (σ.set i (.dT (put l k x)))) :
    OPu B n X [.ref i, .tup (k.map .int), x] σ stI Q := fun A μ s vs O hv => by
  obtain ⟨v, w, y, rfl, h1, h2, h3⟩ := VRs_three hv
  obtain ⟨hlt, rfl⟩ := VR_ref_of h1
  obtain ⟨a, items, rfl, ht, hti⟩ := VR_tup_of h2
  refine shut fun P_ o_ => ?_
  obtain ⟨kvs, hd, e, hu⟩ := O.rel.dT hi
  refine o_ ?_
  have hlen : kvs.length = l.length := by have := congrArg List.length e; simpa using this
  have hun : A.units + 1 < cLine := by have := O.units; unfold cLine; lia -abstractProof
  show wpAny _ _ (setItem _ _ _) _ _ _
  refine wpAny_setItem_heap (knd := tupleKind (intKind B.prog B.w)) (k := k) (tupleKind_room_in1 hun) (isTupKey_of ht hti) hd (fun h' hd' hs => ?_) (by simp only [hlen, sizeLine_eq]; lia -abstractProof)
  refine shut fun P_ o_ => ?_
  obtain ⟨p1, p2⟩ := put_kvs (kvs := kvs.map fun x => (x.1, x.2.2)) (by rw [List.map_map]; exact e) (by simp only [List.map_map]; exact hu) (k := k) h3
  refine o_ ?_
  rw [← storedH_val kvs k a y, List.map_map] at p1 p2
  have hd0 := hd'
  refine shut fun P_ o_ => ?_
  obtain ⟨ob, _, _, eo, _⟩ := hd0
  refine o_ ?_
  exact ⟨μ, _, upd_any (o' := .dT (put l k x)) O.rel hi hs ⟨_, hd', p1, VRs.keeps (tk_but O.rel hi hs) (Nat.le_refl _) (fun z_ z_ => rfl) p2⟩ id ⟨_, eo⟩, h⟩
theorem OP_inI {i : Nat} {l : List (Int × V)} {k : Int} (hi : σ[i]? = some (.dI l)) (h : Q (.bool (at? l k).isSome) σ) : OP2 B n X (.int k) (.ref i) σ (compareOp .In) Q := fun A μ s va vb O ha hb => by
  obtain ⟨t, rfl⟩ := VR_int_of ha
  obtain ⟨hlt, rfl⟩ := VR_ref_of hb
  refine shut fun P_ o_ => ?_
  obtain ⟨kvs, hd, e, hu⟩ := O.rel.dI hi
  refine o_ ?_
  show wpAny _ _ _ _ _ _
  refine PySem.wpAny_in_of (knd := intKind B.prog B.w) (k := k) (intKind_is _ _ _ _) (O.rel.notSys hlt) hd.mapOf ?_
  have hs := at_some e hu (k := k)
  have : (PySem.valueAt kvs k).isSome = (at? l k).isSome := by
    cases q : at? l k with
    | none => rw [hs.2 q]; rfl
    | some x => obtain ⟨v, q1, q2⟩ := hs.1 q; rw [q1]; rfl
  rw [this]
  exact fin_tok O.rel VR_bool h
theorem OP_ninI {i : Nat} {l : List (Int × V)} {k : Int} (hi : σ[i]? = some (.dI l)) (h : Q (.bool !(at? l k).isSome) σ) : OP2 B n X (.int k) (.ref i) σ (compareOp .NotIn) Q := fun A μ s va vb O ha hb => by
  obtain ⟨t, rfl⟩ := VR_int_of ha
  obtain ⟨hlt, rfl⟩ := VR_ref_of hb
  refine shut fun P_ o_ => ?_
  obtain ⟨kvs, hd, e, hu⟩ := O.rel.dI hi
  refine o_ ?_
  show wpAny _ _ _ _ _ _
  refine PySem.wpAny_notIn_of (knd := intKind B.prog B.w) (k := k) (intKind_is _ _ _ _) (O.rel.notSys hlt) hd.mapOf ?_
  have hs := at_some e hu (k := k)
  have : (PySem.valueAt kvs k).isSome = (at? l k).isSome := by
    cases q : at? l k with
    | none => rw [hs.2 q]; rfl
    | some x => obtain ⟨v, q1, q2⟩ := hs.1 q; rw [q1]; rfl
  rw [this]
  exact fin_tok O.rel VR_bool h
theorem OP_ninSet {i : Nat} {S : Int → Bool} {c : Nat} {k : Int} (hi : σ[i]? = some (.set S c)) (h : Q (.bool !(S k)) σ) : OP2 B n X (.int k) (.ref i) σ (compareOp .NotIn) Q := fun A μ s va vb O ha hb => by
  obtain ⟨t, rfl⟩ := VR_int_of ha
  obtain ⟨hlt, rfl⟩ := VR_ref_of hb
  have hS : s.heap.SetOf (intKind B.prog B.w) (μ.a i) S c := O.rel.obj i _ hi
  show wpAny _ _ _ _ _ _
  exact PySem.wpAny_notInSet_of (knd := intKind B.prog B.w) (k := k) (intKind_is _ _ _ _) rfl hS (fin_tok O.rel VR_bool h)
theorem OP_addSet {i : Nat} {S : Int → Bool} {c : Nat} {k : Int} (hi : σ[i]? = some (.set S c)) (hz : c ≤ 4000) (h : Q .none (σ.set i (.set (fun k' => S k' || decide (k' = k)) (if S k then c else c + 1)))) : OPs B n X [.ref i, .int k] σ (fun vs => call (.builtin "set.add") vs) Q := fun A μ s vs O hv => by
  obtain ⟨v, w, rfl, h1, h2⟩ := VRs_two hv
  obtain ⟨-, rfl⟩ := VR_ref_of h1
  obtain ⟨t, rfl⟩ := VR_int_of h2
  have hS : s.heap.SetOf (intKind B.prog B.w) (μ.a i) S c := O.rel.obj i _ hi
  show wpAny _ _ _ _ _ _
  refine PySem.call_set_add (knd := intKind B.prog B.w) (k := k) (intKind_is _ _ _ _) rfl hS (by unfold scanBound; lia -abstractProof) fun h' hs hS' => ?_
  have hd0 := hS'
  refine shut fun P_ o_ => ?_
  obtain ⟨ob, _, _, _, eo, _⟩ := hd0
  refine o_ ?_
  exact ⟨μ, _, upd_any (o' := .set (fun k' => S k' || decide (k' = k)) (if S k then c else c + 1)) O.rel hi hs hS' id ⟨_, eo⟩, .none, VR_none, h⟩
end
section
variable {B : Bs} {n : Nat} {X : V → List AO → Prop} {G : Gs} {m : Loc} {σ σ' σ'' : List AO} {μ μ' μ'' : Mp} {s s' s'' : Shared} {fr fx : List Addr}
theorem Post.transN (P : Post B fr [] μ σ s μ' σ' s') (P' : Post B fr fx μ' σ' s' μ'' σ'' s'') (hfx : ∀ a, a ∈ fx → s.heap.get? a = none) : Post B fr [] μ σ s μ'' σ'' s'' := by
  refine ⟨P'.rel, Nat.le_trans P.len P'.len, fun i hi => ?_, fun i h1 h2 => ?_, fun a o e => ?_, fun a o e hn hx => ?_, P'.gens.trans P.gens, P'.os.trans P.os, fun a o e hn h => let ⟨o', e', h'⟩ := P.nrec a o e hn h; P'.nrec a o' e' (P.own_old e hn) h'⟩
  · obtain ⟨a1, a2⟩ := P.agree i hi
    obtain ⟨b1, b2⟩ := P'.agree i (Nat.lt_of_lt_of_le hi P.len)
    exact ⟨b1.trans a1, b2.trans a2⟩
  · by_cases hl : i < σ'.length
    · obtain ⟨b1, b2⟩ := P'.agree i hl
      rw [b1, b2]
      exact P.fresh i h1 hl
    · obtain ⟨b1, b2⟩ := P'.fresh i (Nat.le_of_not_lt hl) h2
      have no : ∀ a, s'.heap.get? a = none → s.heap.get? a = none := fun a e => by
        cases q : s.heap.get? a with
        | none => rfl
        | some o => obtain ⟨o', e'⟩ := P.ex a o q; rw [e] at e'; cases e'
      exact ⟨no _ b1, no _ b2⟩
  · obtain ⟨o', e'⟩ := P.ex a o e
    exact P'.ex a o' e'
  · obtain ⟨k1, sl, k2⟩ := P.keep a o e hn hx
    have hn' := P.own_old e hn
    have hx' : a ∉ fx := fun q => by rw [hfx a q] at e; cases e
    refine ⟨fun hf => (P'.keep a o (k1 hf) hn' hx').1 hf, ?_⟩
    obtain ⟨-, sl', k3⟩ := P'.keep a _ k2 hn' hx'
    exact ⟨sl', k3⟩
theorem off_tk {h h' : Heap} {it : Addr} (he : Heap.ExtBut it h h') (hr : ∀ items, ¬ h.IsTuple it items) : TK h h' := fun a items ⟨o, e, r⟩ =>
  ⟨o, he a o (fun q => by subst q; exact hr items ⟨o, e, r⟩) e, r⟩
theorem Rel.off {h h' : Heap} {it : Addr} (R : Rel B μ σ h) (he : Heap.ExtBut it h h') (hr : ∀ items, ¬ h.IsTuple it items) (hno : ¬ Own μ σ.length it) (hb : B.h₀.get? it = none) : Rel B μ σ h' := by
  have tk := off_tk he hr
  refine ⟨fun b o e => he b o (fun q => by rw [q, hb] at e; cases e) (R.base b o e), R.above, R.inj, fun i o e => ?_, R.one⟩
  have hi := idx_lt e
  have own : (∃ x, h.get? (μ.a i) = some x) ∧ (∃ x, h.get? (μ.d i) = some x) := R.owned (s := ⟨h, #[], {}, 0, {}⟩) hi
  obtain ⟨⟨x, ex⟩, ⟨y, ey⟩⟩ := own
  have n1 : μ.a i ≠ it := fun q => hno ⟨i, hi, .inl q.symm⟩
  have n2 : μ.d i ≠ it := fun q => hno ⟨i, hi, .inr q.symm⟩
  exact OR.keeps tk (Nat.le_refl _) (fun z_ z_ => rfl) rfl rfl (by simp only [ex]; exact he _ _ n1 ex) (by simp only [ey]; exact he _ _ n2 ey) (R.obj i o e)
theorem Post.off {h' : Heap} {it : Addr} {tk : Nat} (P : Post B fr fx μ σ s μ' σ' s') (he : Heap.ExtBut it s'.heap h') (hr : ∀ items, ¬ s'.heap.IsTuple it items) (hno : ¬ Own μ' σ'.length it) (hb : B.h₀.get? it = none) (hn : s.heap.get? it = none) :
    Post B fr fx μ σ s μ' σ' { s' with heap := h', toks := tk } := by
  have ne : ∀ a o, s.heap.get? a = some o → a ≠ it := fun a o e q => by rw [q, hn] at e; cases e
  exact ⟨P.rel.off he hr hno hb, P.len, P.agree, P.fresh, fun a o e => let ⟨o', e'⟩ := P.ex a o e; ⟨o', he a o' (ne a o e) e'⟩, fun a o e h1 h2 => by
    obtain ⟨k1, sl, k2⟩ := P.keep a o e h1 h2
    exact ⟨fun hf => he a _ (ne a o e) (k1 hf), sl, he a _ (ne a o e) k2⟩, P.gens, P.os, fun a o e hn h => let ⟨o', e', h'⟩ := P.nrec a o e hn h; ⟨o', he a o' (ne a o e) e', h'⟩⟩
theorem Post.adopt {D : Addr} {l : List V} {vs : List Value} (P : Post B fr fx μ σ s μ' σ' s') (hD : s'.heap.PlainList D vs.toArray) (hv : VRs μ' σ'.length s'.heap l vs) (hno : ¬ Own μ' σ'.length D) (hb : B.h₀.get? D = none) (hn : s.heap.get? D = none) (sysD : sysModules < D) :
    Post B fr fx μ σ s (μ'.ext σ'.length D D) (σ' ++ [.list l]) s' := by
  have ne : ∀ i, i < σ'.length → (μ'.ext σ'.length D D).a i = μ'.a i ∧ (μ'.ext σ'.length D D).d i = μ'.d i := fun i hi => ⟨if_neg (Nat.ne_of_lt hi), if_neg (Nat.ne_of_lt hi)⟩
  have at_ : (μ'.ext σ'.length D D).a σ'.length = D ∧ (μ'.ext σ'.length D D).d σ'.length = D := ⟨if_pos rfl, if_pos rfl⟩
  have cs : ∀ i, i < (σ' ++ [AO.list l]).length → i < σ'.length ∨ i = σ'.length := fun i hi => by
    rw [List.length_append, List.length_cons, List.length_nil] at hi
    lia -abstractProof
  have nD : ∀ i, i < σ'.length → μ'.a i ≠ D ∧ μ'.d i ≠ D := fun i hi => ⟨fun q => hno ⟨i, hi, .inl q.symm⟩, fun q => hno ⟨i, hi, .inr q.symm⟩⟩
  have key : ∀ i o, (σ' ++ [AO.list l])[i]? = some o → (i < σ'.length ∧ σ'[i]? = some o) ∨ (i = σ'.length ∧ o = .list l) := fun i o e => by
    rcases cs i (idx_lt e) with h | rfl
    · rw [List.getElem?_append_left h] at e; exact .inl ⟨h, e⟩
    · rw [List.getElem?_append_right (Nat.le_refl _), Nat.sub_self] at e; cases e; exact .inr ⟨rfl, rfl⟩
  refine ⟨⟨P.rel.base, fun i hi => ?_, fun i j hi hj hij => ?_, fun i o e => ?_, fun i o e => ?_⟩, by have := P.len; simp; lia -abstractProof, fun i hi => ?_, fun i h1 h2 => ?_, P.ex, P.keep, P.gens, P.os, P.nrec⟩
  · rcases cs i hi with h | rfl
    · rw [(ne i h).1, (ne i h).2]; exact P.rel.above i h
    · rw [at_.1, at_.2]; exact ⟨hb, hb, sysD⟩
  · rcases cs i hi with h | rfl <;> rcases cs j hj with h' | h'
    · simp only [(ne i h).1, (ne i h).2, (ne j h').1, (ne j h').2]; exact P.rel.inj i j h h' hij
    · subst h'
      simp only [(ne i h).1, (ne i h).2, at_.1, at_.2]
      exact ⟨(nD i h).1, (nD i h).1, (nD i h).2⟩
    · simp only [(ne j h').1, (ne j h').2, at_.1, at_.2]
      exact ⟨(nD j h').1.symm, (nD j h').2.symm, (nD j h').2.symm⟩
    · exact absurd h'.symm hij
  · simp only [List.length_append, List.length_cons, List.length_nil]
    rcases key i o e with ⟨h, e⟩ | ⟨rfl, rfl⟩
    · exact OR.keeps (TK.of_keeps fun z_ z_ e => e) (Nat.le_succ _) (fun j hj => (ne j hj).1) (ne i h).1 (ne i h).2 rfl rfl (P.rel.obj i o e)
    · refine ⟨vs, by rw [at_.1]; exact hD, VRs.keeps (TK.of_keeps fun z_ z_ e => e) (Nat.le_succ _) (fun j hj => (ne j hj).1) hv⟩
  · rcases key i o e with ⟨h, e⟩ | ⟨rfl, rfl⟩
    · exact OD.of (ne i h).1 (ne i h).2 (P.rel.one i o e)
    · exact at_.2.trans at_.1.symm
  · have := P.agree i hi
    have hi' := Nat.lt_of_lt_of_le hi P.len
    rw [(ne i hi').1, (ne i hi').2]; exact this
  · rcases cs i h2 with h | rfl
    · rw [(ne i h).1, (ne i h).2]; exact P.fresh i h1 h
    · rw [at_.1, at_.2]; exact ⟨hn, hn⟩
theorem new_sys (R : Rel B μ σ s.heap) {D : Addr} (h : s.heap.objs.size ≤ D) : sysModules < D := by
  obtain ⟨o, es, ep, e, _⟩ := B.g
  exact Nat.lt_of_lt_of_le (Nat.lt_trans (show sysModules < mainGlobals by decide) (Heap.lt_size (R.base _ _ e))) h
theorem new_base (R : Rel B μ σ s.heap) {D : Addr} (h : s.heap.get? D = none) : B.h₀.get? D = none := by
  cases q : B.h₀.get? D with
  | none => rfl
  | some o => have := R.base D o q; rw [h] at this; cases this
noncomputable def clOf (env : Env) : List (Str × NameKind) → List (Str × Addr) → List (Str × Addr)
  | [], cs => cs
  | (y, k) :: r, cs => if k == .free then clOf env r ((y, (env.cells.lookup y).getD 0) :: cs) else clOf env r cs
theorem clOf_eq (env : Env) : ∀ (names : List (Str × NameKind)) (cs : List (Str × Addr)), (∀ p, p ∈ names → p.2 = .free → ∃ c, env.cells.lookup p.1 = some c) →
    (forIn names cs (fun (p : Str × NameKind) (cs : List (Str × Addr)) => (if p.2 == .free then do let c ← cellOf env p.1; pure (ForInStep.yield ((p.1, c) :: cs)) else pure (ForInStep.yield cs) : Sem _)) : Sem _) = pure (clOf env names cs)
  | [], _, _ => rfl
  | (y, k) :: r, cs, h => by
    rw [List.forIn_cons]
    dsimp only
    by_cases hk : (k == NameKind.free) = true
    · obtain ⟨c, hc⟩ := h _ (mI 0 rfl) (by simpa using hk)
      have hc' : env.cells.lookup y = some c := hc
      rw [if_pos hk, clOf, if_pos hk, hc', show cellOf env y = pure c by unfold cellOf; rw [hc']]
      rw [pure_bind, Option.getD_some]
      exact clOf_eq env r _ fun p hp => h p (.tail _ hp)
    · rw [if_neg hk, clOf, if_neg hk]
      rw [pure_bind]
      exact clOf_eq env r _ fun p hp => h p (.tail _ hp)
theorem closureFor_of {scope : Scope} {env : Env} (h : ∀ p, p ∈ scope.names → p.2 = .free → ∃ c, env.cells.lookup p.1 = some c) : closureFor scope env = pure (clOf env scope.names []) := by
  simp only [← clOf_eq env scope.names [] h]
  unfold closureFor
  rw [bind_pure]
theorem clOf_mem {env : Env} : ∀ {names : List (Str × NameKind)} {cs : List (Str × Addr)} {y : Str} {c : Addr}, (y, c) ∈ clOf env names cs → (y, c) ∈ cs ∨ (c = (env.cells.lookup y).getD 0 ∧ (y, NameKind.free) ∈ names) := by
  intro l_
  induction l_ with
  | nil =>
    intro _ _ _ h
    exact .inl h
  | cons u_ r ih =>
    intro cs y c h
    obtain ⟨z, k⟩ := u_
    rw [clOf] at h
    by_cases hk : (k == NameKind.free) = true
    · rw [if_pos hk] at h
      have hk' : k = .free := by simpa using hk
      rcases ih h with q | ⟨q1, q2⟩
      · rcases List.mem_cons.mp q with q | q
        · cases q; subst hk'; exact .inr ⟨rfl, .head _⟩
        · exact .inl q
      · exact .inr ⟨q1, .tail _ q2⟩
    · rw [if_neg hk] at h
      rcases ih h with q | ⟨q1, q2⟩
      · exact .inl q
      · exact .inr ⟨q1, .tail _ q2⟩
theorem clOf_has {env : Env} : ∀ {names : List (Str × NameKind)} {cs : List (Str × Addr)} {y : Str}, (y, NameKind.free) ∈ names ∨ y ∈ cs.map (·.1) → y ∈ (clOf env names cs).map (·.1) := by
  intro l_
  induction l_ with
  | nil =>
    intro _ _ h
    exact h.elim (fun q => by cases q) id
  | cons u_ r ih =>
    intro cs y h
    obtain ⟨z, k⟩ := u_
    simp only [clOf]
    by_cases hk : (k == NameKind.free) = true
    · rw [if_pos hk]
      refine ih ?_
      rcases h with q | q
      · rcases List.mem_cons.mp q with q | q
        · cases q; exact .inr (mI 0 rfl)
        · exact .inl q
      · exact .inr (.tail _ q)
    · rw [if_neg hk]
      refine ih ?_
      rcases h with q | q
      · rcases List.mem_cons.mp q with q | q
        · cases q; exact absurd rfl hk
        · exact .inl q
      · exact .inr q
theorem clOf_lookup {env : Env} {names : List (Str × NameKind)} {y : Str} {c : Addr} : ((clOf env names []).lookup y = some c → (y, NameKind.free) ∈ names ∧ c = (env.cells.lookup y).getD 0) ∧ ((y, NameKind.free) ∈ names → (clOf env names []).lookup y = some ((env.cells.lookup y).getD 0)) := by
  have one : ∀ {c}, (clOf env names []).lookup y = some c → (y, NameKind.free) ∈ names ∧ c = (env.cells.lookup y).getD 0 := fun {c} h => by
    rcases clOf_mem (mem_of_lookup h) with q | ⟨q1, q2⟩
    · cases q
    · exact ⟨q2, q1⟩
  refine ⟨one, fun h => ?_⟩
  have hm := clOf_has (env := env) (cs := []) (.inl h)
  cases q : (clOf env names []).lookup y with
  | some c => rw [(one q).2]
  | none =>
    exfalso
    have : ∀ {l : List (Str × Addr)}, l.lookup y = none → y ∉ l.map (·.1) := fun {l} => by
      induction l with
      | nil => intro _ h; cases h
      | cons p l ih =>
        obtain ⟨a, b⟩ := p
        intro h
        rw [List.lookup_cons] at h
        cases e : y == a with
        | true => rw [e] at h; cases h
        | false =>
          rw [e] at h
          rw [List.map_cons, List.mem_cons, not_or]
          exact ⟨by simpa using e, ih h⟩
    exact this q hm
theorem relabel_lookup {scope : Scope} {env : Env} {y : Str} {k : NameKind} (h : scope.names.lookup y = some k) : (relabel scope env).names.lookup y = some (if (k == .free && env.scope.kind == .function && env.kindOf y == some .cell) then .cell else k) := by
  unfold relabel
  show List.lookup y (scope.names.map _) = _
  generalize scope.names = l at h
  induction l with
  | nil => cases h
  | cons p l ih =>
    obtain ⟨a, b⟩ := p
    rw [List.lookup_cons] at h
    rw [List.map_cons]
    dsimp only
    cases e : y == a with
    | true =>
      rw [e] at h
      cases h
      have e' : y = a := by simpa using e
      subst e'
      split <;> simp [List.lookup_cons, *]
    | false =>
      rw [e] at h
      have := ih h
      split <;> simp only [List.lookup_cons, e] <;> exact this
end
section
variable {B : Bs} {n : Nat} {X : V → List AO → Prop} {G G' : Gs} {m : Loc} {σ σ' σ'' : List AO} {μ μ' μ'' : Mp} {s s' s'' : Shared} {fr fx fx' : List Addr} {A : Around} {env : Env}
theorem Post.mono_fx (P : Post B fr fx μ σ s μ' σ' s') (h : ∀ a, a ∈ fx → a ∈ fx') : Post B fr fx' μ σ s μ' σ' s' :=
  ⟨P.rel, P.len, P.agree, P.fresh, P.ex, fun a o e hn hx => P.keep a o e hn fun q => hx (h a q), P.gens, P.os, P.nrec⟩
noncomputable def chkC (scope : Scope) (x : Str) (cap : List Str) (G : Gs) : Bool :=
  scope.kind == .function && scope.names.all (fun p => p.2 != .cell) && scope.names.lookup x == some .local &&
  scope.names.all (fun p => p.2 != .local || scope.names.lookup p.1 == some .local) && scope.names.all (fun p => p.2 != .free || cap.contains p.1) &&
  cap.all (fun y => scope.names.lookup y == some .free && y != ("__debug__" : Str) && y != ("__classdict__" : Str)) &&
  G.g.all (fun g => scope.names.lookup g == some .globalImplicit && g != ("__debug__" : Str)) && (G.c.isEmpty && G.l.isEmpty) && decide ((x :: cap).Nodup) && x != ("__debug__" : Str) && x != ("__classdict__" : Str)
structure ChkC (scope : Scope) (x : Str) (cap : List Str) (G : Gs) : Prop where
  kind : scope.kind = .function
  cell : ∀ p, p ∈ scope.names → p.2 ≠ .cell
  loc : scope.names.lookup x = some .local
  locs : ∀ p, p ∈ scope.names → p.2 = .local → scope.names.lookup p.1 = some .local
  free : ∀ p, p ∈ scope.names → p.2 = .free → p.1 ∈ cap
  capd : ∀ y, y ∈ cap → scope.names.lookup y = some .free ∧ y ≠ ("__debug__" : Str) ∧ y ≠ ("__classdict__" : Str)
  g : ∀ y, y ∈ G.g → scope.names.lookup y = some .globalImplicit ∧ y ≠ ("__debug__" : Str)
  c : G.c = []
  l : G.l = []
  nd : (x :: cap).Nodup
  x1 : x ≠ ("__debug__" : Str)
  x2 : x ≠ ("__classdict__" : Str)
theorem ChkC.of {scope : Scope} {x : Str} {cap : List Str} {G : Gs} (h : chkC scope x cap G = true) : ChkC scope x cap G := by
  simp only [chkC, Bool.and_eq_true, decide_eq_true_eq, List.all_eq_true, bne_iff_ne, ne_eq, beq_iff_eq, Bool.or_eq_true, List.isEmpty_iff, List.contains_iff_mem] at h
  refine shut fun P_ o_ => ?_
  obtain ⟨⟨⟨⟨⟨⟨⟨⟨⟨⟨h1, h2⟩, h3⟩, h4⟩, h5⟩, h6⟩, h7⟩, h8⟩, h9⟩, h10⟩, h11⟩ := h
  refine o_ ?_
  exact ⟨h1, h2, h3, fun p hp e => (h4 p hp).elim (fun z => absurd e z) id, fun p hp e => (h5 p hp).elim (fun z => absurd e z) id, fun y hy => ⟨(h6 y hy).1.1, (h6 y hy).1.2, (h6 y hy).2⟩, h7, h8.1, h8.2, h9, h10, h11⟩
theorem Ok.comp {scope : Scope} {x : Str} {cap : List Str} {mc : Loc} {C : Addr} {f : Str → Option Value} (O : Ok B n G A env fx m μ σ s) (hc : ChkC scope x cap G') (hcap : ∀ y, y ∈ cap → y ∈ G.c) (hmc : mc.map (·.1) = cap) (hsub : ∀ p, p ∈ mc → p ∈ m)
    (hC : s.heap.Ns C f) (hno : ¬ Own μ σ.length C) (hb : B.h₀.get? C = none) : Ok B n G' A (compEnvC scope (clOf env scope.names []) C env) [C] ((x, none) :: mc) μ σ s where
  rel := O.rel
  room := O.room
  units := O.units
  hnd := O.hnd
  frames := O.frames
  kind := hc.kind
  glob := O.glob
  blt := O.blt
  fxl := .head _
  fxo := fun a ha => by
    rw [List.mem_singleton] at ha
    subst ha
    refine shut fun P_ o_ => ?_
    obtain ⟨o, es, ep, e, d, _⟩ := hC
    refine o_ ?_
    exact ⟨hno, hb, o, e, fun z_ z_ q => (by rw [d] at q; cases q), fun z_ q => (by rw [d] at q; cases q)⟩
  cel := fun y c hy => by
    refine shut fun P_ o_ => ?_
    obtain ⟨h1, h2⟩ := clOf_lookup.1 hy
    refine o_ ?_
    obtain ⟨c', hc'⟩ := (O.ck y (hcap y (hc.free _ h1 rfl))).2
    rw [hc', Option.getD_some] at h2
    subst h2
    refine shut fun P_ o_ => ?_
    obtain ⟨k1, k2, _, k4⟩ := O.cel y _ hc'
    refine o_ ?_
    exact ⟨k1, k2, (fun q => by cases q), k4⟩
  celI := fun y z c hy hz => by
    obtain ⟨h1, h2⟩ := clOf_lookup.1 hy
    obtain ⟨h3, h4⟩ := clOf_lookup.1 hz
    obtain ⟨c', hc'⟩ := (O.ck y (hcap y (hc.free _ h1 rfl))).2
    obtain ⟨c'', hc''⟩ := (O.ck z (hcap z (hc.free _ h3 rfl))).2
    rw [hc', Option.getD_some] at h2
    rw [hc'', Option.getD_some] at h4
    subst h2
    subst h4
    exact O.celI _ _ _ hc' hc''
  slots := by
    refine ⟨f, hC, fun y o hy => ?_⟩
    rcases List.mem_cons.mp hy with q | q
    · clear hy
      cases q
      exact .inl ⟨lookup_relabel_local hc.loc, fun v e => by cases e⟩
    · obtain ⟨f', _, hsl⟩ := O.slots
      have hyc : y ∈ cap := by rw [← hmc]; exact List.mem_map_of_mem q
      obtain ⟨kc, c, hcc⟩ := O.ck y (hcap y hyc)
      have hlk := (hc.capd y hyc).1
      rcases hsl y o (hsub _ q) with ⟨k, _⟩ | ⟨_, c', w, hl, hw, hq⟩
      · rw [kc] at k; cases k
      · refine .inr ⟨.inl ?_, c', w, ?_, hw, hq⟩
        · show (relabel scope env).names.lookup y = _
          rw [relabel_lookup hlk, O.kind, kc]; rfl
        · show (clOf env scope.names []).lookup y = _
          rw [(clOf_lookup (c := 0)).2 (mem_of_lookup hlk), hl]; rfl
  nod := by simp only [List.map_cons, hmc]; exact hc.nd
  frn := O.frn
  nf := fun q => by cases q
  gk := fun y hy => by
    obtain ⟨h1, h2⟩ := hc.g y hy
    refine ⟨?_, beq_eq_false_iff_ne.mpr h2⟩
    show (relabel scope env).names.lookup y = _
    rw [relabel_lookup h1]; rfl
  ck := fun y hy => by rw [hc.c] at hy; cases hy
  lk := fun y hy => by rw [hc.l] at hy; cases hy
  dbg := fun p hp => by
    rcases List.mem_cons.mp hp with q | q
    · cases q; exact ⟨beq_eq_false_iff_ne.mpr hc.x1, beq_eq_false_iff_ne.mpr hc.x2⟩
    · exact O.dbg p (hsub _ q)
noncomputable def TT (B : Bs) (n : Nat) (X : V → List AO → Prop) (G : Gs) (m : Loc) (σ : List AO) : List Expr → (Bool → List AO → Prop) → Prop
  | [], Q => Q true σ
  | [c], Q => TE B n X G m σ c Q
  | _, _ => False
noncomputable abbrev CE (J : Nat → List V → List AO → Prop) (k : Nat) (acc : List V) : V → List AO → Prop := fun y σ₃ => J (k + 1) (acc ++ [y]) σ₃
structure CS (B : Bs) (n : Nat) (G' : Gs) (m : Loc) (elt : Expr) (J : Nat → List V → List AO → Prop) (k : Nat) (acc : List V) (b : Bool) (σ'' : List AO) : Prop where
  t : b = true → EV B n NoX G' m σ'' elt (CE J k acc)
  f : b = false → J (k + 1) acc σ''
inductive CInv (B : Bs) (fr : List Addr) (μ : Mp) (σ : List AO) (s : Shared) (D C it : Addr) (N₀ : Nat) (Tk : Nat → Mp → List AO → Heap → Prop) (J : Nat → List V → List AO → Prop) (N : Nat) (s' : Shared) : Prop
  | mk (k : Nat) (acc : List V) (us : List Value) (μ₁ : Mp) (σ₁ : List AO) (f : Str → Option Value) (e : N = N₀ - k) (hk : k ≤ N₀) (P : Post B fr [] μ σ s μ₁ σ₁ s') (pl : s'.heap.PlainList D (List.toArray us)) (v : VRs μ₁ σ₁.length s'.heap acc us) (ns : s'.heap.Ns C f) (t : Tk k μ₁ σ₁ s'.heap)
    (nD : ¬ Own μ₁ σ₁.length D) (nC : ¬ Own μ₁ σ₁.length C) (nI : ¬ Own μ₁ σ₁.length it) (hl : acc.length ≤ k) (j : J k acc σ₁)
noncomputable def CT (B : Bs) (n : Nat) (G' : Gs) (x : Str) (mc : Loc) (elt : Expr) (ifs : List Expr) (l : List V) (J : Nat → List V → List AO → Prop) : Prop :=
  ∀ k acc σ' a, l[k]? = some a → J k acc σ' → TT B n NoX G' ((x, some a) :: mc) σ' ifs (CS B n G' ((x, some a) :: mc) elt J k acc)
theorem nox {fr : List Addr} {e : Value} {P : Prop} (h : QE B fr fx μ σ s NoX e s') : P := by obtain ⟨_, _, _, _, _, _, _, _, h⟩ := h; exact h.elim
theorem own_new_post {D : Addr} (P : Post B fr fx μ σ s μ' σ' s') {o : Obj} (e : s.heap.get? D = some o) (h : ¬ Own μ σ.length D) : ¬ Own μ' σ'.length D := P.own_old e h
theorem comp_block {elt iter : Expr} {x : Str} {px pos : Pos} {ifs : List Expr} {scope : Scope} {cap : List Str} {mc : Loc} {it : Addr} {Tk : Nat → Mp → List AO → Heap → Prop} {l : List V} {C₀ : List AO → Prop} {J : Nat → List V → List AO → Prop}
    {s₂ : Shared} {RR : Value → Addr → Result → Shared → Prop} {E : Value → Shared → Prop}
    (O : Ok B n G A env fx m μ σ s) (hc : ChkC scope x cap G') (hcap : ∀ y, y ∈ cap → y ∈ G.c) (hmc : mc.map (·.1) = cap) (hsub : ∀ p, p ∈ mc → p ∈ m)
    (P₂ : Post B (frs A) [] μ σ s μ' σ' s₂) (hsn : s.heap.get? it = none) (no : ¬ Own μ' σ'.length it) (wk : Wk B it l Tk C₀) (t0 : Tk 0 μ' σ' s₂.heap) (hz : l.length ≤ 100000)
    (j0 : J 0 [] σ') (hJ : ∀ k acc σ', k ≤ l.length → J k acc σ' → C₀ σ') (turn : CT B n G' x mc elt ifs l J)
    (fin : ∀ D C acc us μ₁ σ₁ s₁ f, Post B (frs A) [] μ σ s μ₁ σ₁ s₁ → s.heap.get? D = none → s.heap.get? C = none → D ≠ C → sysModules < D → s₁.heap.PlainList D (List.toArray us) → VRs μ₁ σ₁.length s₁.heap acc us → s₁.heap.Ns C f → ¬ Own μ₁ σ₁.length D → ¬ Own μ₁ σ₁.length C →
      J l.length acc σ₁ → RR (.ref D) C (.ok .next) s₁) :
    wpAny (model B.prog B.w) A (newList []) (fun acc s₃ => wpAny (model B.prog B.w) A (newFunctionEnv scope env.globals (clOf env scope.names []) [] env.qual none .none (some env)) (fun cenv s₄ =>
      codeAny (model B.prog B.w) A (.compStart (.ListComp elt [⟨.Name x px, iter, ifs, 0⟩] scope pos) 0 (.ref it) acc { cenv with scope := relabel scope env }) (RR acc cenv.locals) s₄) E s₃) E s₂ := by
  refine wpAny_newObj_type (wpAny_newFunctionEnv hc.cell (by intro y hy; simp at hy) (fun h₁ hns₁ hsb₁ => ?_) hc.kind)
  dsimp only at hns₁ hsb₁ ⊢
  generalize hH2 : s₂.heap.push { cls := .type "list", dict := none, data := .seq ([] : List Value).toArray } = H2 at hns₁ hsb₁ ⊢
  have hCs : H2.objs.size = s₂.heap.objs.size + 1 := by simp only [← hH2, Heap.size_push]
  generalize hDD : s₂.heap.objs.size = D at hCs
  generalize hCC : H2.objs.size = C at hns₁ hsb₁ hCs ⊢
  have lDC : D < C := by simp only [hCs]; exact Nat.lt_succ_self _
  have nDC : D ≠ C := Nat.ne_of_lt lDC
  have old : ∀ b o, s₂.heap.get? b = some o → h₁.get? b = some o := fun b o e => by
    have hb := Heap.lt_size e
    exact hsb₁.extBut b o (Nat.ne_of_lt (Nat.lt_trans (hDD ▸ hb) lDC)) (Heap.get?_push_of_some _ (hH2 ▸ Heap.get?_push_of_some _ e))
  have hacc : h₁.PlainList D #[] := ⟨_, hsb₁.extBut _ _ nDC (Heap.get?_push_of_some _ (hH2 ▸ hDD ▸ Heap.get?_push_size _ rfl))⟩
  have n2 : ∀ a, D ≤ a → s₂.heap.get? a = none := fun a ha => Heap.get?_none_of_le (by simp only [hDD]; exact ha)
  have back : ∀ a, s₂.heap.get? a = none → s.heap.get? a = none := fun a e => by
    cases q : s.heap.get? a with
    | none => rfl
    | some o => obtain ⟨o', e'⟩ := P₂.ex a o q; rw [e] at e'; cases e'
  have sD : s.heap.get? D = none := back D (n2 D (Nat.le_refl _))
  have sC : s.heap.get? C = none := back C (n2 C (Nat.le_of_lt lDC))
  have bD := new_base O.rel sD
  have bC := new_base O.rel sC
  have bI := new_base O.rel hsn
  have sysD : sysModules < D := new_sys P₂.rel (Nat.le_of_eq hDD)
  have P₄ : ∀ tk, Post B (frs A) [] μ' σ' s₂ μ' σ' { s₂ with heap := h₁, toks := tk } := fun tk => Post.grow P₂.rel old
  have oD : ¬ Own μ' σ'.length D := not_own_new P₂.rel (n2 D (Nat.le_refl _))
  have oC : ¬ Own μ' σ'.length C := not_own_new P₂.rel (n2 C (Nat.le_of_lt lDC))
  have hitne : it ≠ D ∧ it ≠ C := by
    refine shut fun P_ o_ => ?_
    obtain ⟨o, t, vs, e, _⟩ := wk.obj t0
    refine o_ ?_
    have := Heap.lt_size e
    rw [hDD] at this
    exact ⟨Nat.ne_of_lt this, Nat.ne_of_lt (Nat.lt_trans this lDC)⟩
  have frD : ∀ a, s.heap.get? a = none → a ∉ frs A := fun a ha q => by
    refine shut fun P_ o_ => ?_
    obtain ⟨o, e, _⟩ := frs_mem O q
    refine o_ ?_
    rw [ha] at e; cases e
  have t1 : Tk 0 μ' σ' h₁ := wk.keep (fr := []) (fx := []) (s' := { s₂ with heap := h₁, toks := 0 }) t0 P₂.rel (hJ 0 [] σ' (Nat.zero_le _) j0) (hJ 0 [] σ' (Nat.zero_le _) j0) no (by simp) (by simp) nt_nil (Post.grow P₂.rel old)
  let cenv := compEnvC scope (clOf env scope.names []) C env
  have loop : ∀ s₃ : Shared, s₃ = { s₂ with heap := h₁, toks := s₂.toks + ([] : List (Str × Value)).length } →
      codeAny (model B.prog B.w) A (.compLoop (.ListComp elt [⟨.Name x px, iter, ifs, 0⟩] scope pos) 0 (.ref it) (.ref D) cenv) (RR (.ref D) C) s₃ := by
    clear hCs lDC hsb₁
    rintro s₃ rfl
    refine codeAny_compLoop_tests (CInv B (frs A) μ σ s D C it l.length Tk J) ?_ l.length ⟨0, [], [], μ', σ', _, rfl, Nat.zero_le _, P₂.trans (P₄ _), hacc, VRs_nil, hns₁, t1, oD, oC, no, Nat.le_refl _, j0⟩
    clear oC hns₁
    rintro N s' ⟨k, acc, us, μ₁, σ₁, f, rfl, hk, P, hpl, hv, hns, tk, nD, nC, nI, hlen, jk⟩
    have hrec : IsRec s'.heap it := let ⟨o, t, vs, e, _, d, _⟩ := wk.obj tk; ⟨o, vs, e, d⟩
    rcases Nat.lt_or_ge k l.length with hlt | hge
    · obtain ⟨a, ha⟩ : ∃ a, l[k]? = some a := ⟨l[k], List.getElem?_eq_getElem hlt⟩
      refine wk.item O.hnd P.rel ha (hJ k acc σ₁ hk jk) tk nI fun v h₃ tk₃ hva t₃ hs₃ => ?_
      have he := hs₃.extBut
      have P₃ : Post B (frs A) [] μ σ s μ₁ σ₁ { s' with heap := h₃, toks := tk₃ } := P.aside he hrec nI bI hsn
      have tk₃' := ext_tk he hrec
      have hpl₃ : h₃.PlainList D (List.toArray us) := hpl.extBut he hitne.1.symm
      have hns₃ : h₃.Ns C f := hns.extBut he hitne.2.symm
      have hv₃ : VRs μ₁ σ₁.length h₃ acc us := VRs.keeps tk₃' (Nat.le_refl _) (fun z_ z_ => rfl) hv
      have O₃ : Ok B n G A env fx m μ₁ σ₁ { s' with heap := h₃, toks := tk₃ } := O.next P₃
      have Oc := O₃.comp hc hcap hmc hsub hns₃ nC bC
      have u : Upd ((x, none) :: mc) x a ((x, some a) :: mc) := .head
      refine wpAny_mono (wpAny_assign_Name (W_store' (E := QE B (frs A) [C] μ₁ σ₁ { s' with heap := h₃, toks := tk₃ } NoX) Oc (.inr (lookup_relabel_local hc.loc)) u (VR.keeps tk₃' (Nat.le_refl _) (fun z_ z_ => rfl) hva))) (fun _ s₄ ⟨P34, Oc₄⟩ => ?_) fun z_ z_ z => nox z
      have tests : W B NoX A [] μ₁ σ₁ s₄ (forIn ifs true fun c r => if r = true then do let ok ← isTrue c cenv (eval c cenv); pure (ForInStep.yield ok) else pure (ForInStep.yield r))
          (TEq (CS B n G' ((x, some a) :: mc) elt J k acc)) := by
        have h := turn k acc σ₁ a ha jk
        match ifs, h with
        | [], h => exact wpAny_tests_nil ⟨_, _, Post.refl Oc₄.rel, h⟩
        | [c], h => exact wpAny_tests_one (h A cenv [C] _ s₄ Oc₄)
      refine wpAny_mono tests (fun b s₅ ⟨μ₅, σ₅, P45, q1, q2⟩ => ?_) fun z_ z_ z => nox z
      have Oc₅ := Oc₄.next P45
      have P35 : Post B (frs A) [C] μ₁ σ₁ { s' with heap := h₃, toks := tk₃ } μ₅ σ₅ s₅ := P34.trans P45.weaken
      -- what stands at the end of a turn
      have again : ∀ {μ₆ σ₆ s₆ acc' us'}, Post B (frs A) [C, D] μ₁ σ₁ { s' with heap := h₃, toks := tk₃ } μ₆ σ₆ s₆ → s₆.heap.PlainList D (List.toArray us') → VRs μ₆ σ₆.length s₆.heap acc' us' → (∃ f, s₆.heap.Ns C f) → acc'.length ≤ k + 1 → J (k + 1) acc' σ₆ →
          ∃ N', N' < l.length - k ∧ CInv B (frs A) μ σ s D C it l.length Tk J N' s₆ := fun {μ₆ σ₆ s₆ acc' us'} P36 hpl₆ hv₆ ⟨f₆, hns₆⟩ hl₆ j₆ => by
        obtain ⟨cd, ho⟩ := hpl₃
        have hns₃' := hns₃
        obtain ⟨oc, _, _, hoc, _⟩ := hns₃'
        refine shut fun P_ o_ => ?_
        obtain ⟨oi, _, _, hoi, _, hid, _⟩ := wk.obj t₃
        refine o_ ?_
        refine ⟨l.length - (k + 1), by lia -abstractProof, k + 1, acc', us', μ₆, σ₆, f₆, rfl, hlt, P₃.transN P36 (fun a ha => ?_), hpl₆, hv₆, hns₆, ?_, P36.own_old ho nD, P36.own_old hoc nC, P36.own_old hoi nI, hl₆, j₆⟩
        · rcases List.mem_cons.mp ha with q | q
          · simp only [q]; exact sC
          · simp only [List.mem_singleton.mp q]; exact sD
        · refine wk.keep t₃ P₃.rel (hJ k acc σ₁ hk jk) (hJ (k + 1) acc' σ₆ hlt j₆) nI (fun q => ?_) (frD it hsn) (fun a ha items => ?_) P36
          · rcases List.mem_cons.mp q with q | q
            · exact hitne.2 q
            · exact hitne.1 (List.mem_singleton.mp q)
          · clear nDC bC sC hitne
            rcases List.mem_cons.mp ha with q | q
            · subst q; exact nt_ns hns₃ items
            · simp only [List.mem_singleton.mp q]
              rintro ⟨o, e, hcl, _⟩
              rw [ho] at e; cases e; exact absurd (show (Value.type "list") = .type "tuple" from hcl) (by decide)
      have keepD : ∀ {μ₆ σ₆ s₆}, Post B (frs A) [C] μ₁ σ₁ { s' with heap := h₃, toks := tk₃ } μ₆ σ₆ s₆ → s₆.heap.PlainList D (List.toArray us) := fun P36 => by
        refine shut fun P_ o_ => ?_
        obtain ⟨cd, ho⟩ := hpl₃
        refine o_ ?_
        exact ⟨cd, (P36.keep D _ ho nD (by simpa using nDC)).1 (frD D sD)⟩
      have keepV : ∀ {μ₆ σ₆ s₆}, Post B (frs A) [C] μ₁ σ₁ { s' with heap := h₃, toks := tk₃ } μ₆ σ₆ s₆ → VRs μ₆ σ₆.length s₆.heap acc us := fun P36 => VRs.post P₃.rel P36 (fun a ha items => by simp only [List.mem_singleton.mp ha]; exact nt_ns hns₃ items) hv₃
      have keepN : ∀ {s₆ : Shared} {μ₆ σ₆ mm}, Ok B n G' A cenv [C] mm μ₆ σ₆ s₆ → ∃ f, s₆.heap.Ns C f := fun O => let ⟨f, h, _⟩ := O.slots; ⟨f, h⟩
      cases b with
      | false =>
        simp only [Bool.false_eq_true, if_false]
        exact again (P35.mono_fx fun a ha => by simp only [List.mem_singleton.mp ha]; exact .head _) (keepD P35) (keepV P35) (keepN Oc₅) (Nat.le_succ_of_le hlen) (q2 rfl)
      | true =>
        simp only [if_true]
        refine wpAny_mono (q1 rfl A cenv [C] μ₅ s₅ Oc₅) (fun y s₆ z_ => ?_) fun z_ z_ z => nox z
        refine shut fun P_ o_ => ?_
        obtain ⟨μ₆, σ₆, P56, y', hy', j₆⟩ := z_
        refine o_ ?_
        have Oc₆ := Oc₅.next P56
        have P36 := P35.trans P56.weaken
        have hpl₆ := keepD P36
        have hv₆ := keepV P36
        refine wpAny_list_append_plain hpl₆ (fun h₇ hpl₇ hs₇ => ?_) (by simp only [List.size_toArray, VRs_length hv₆, sizeLine_eq]; lia -abstractProof)
        have nD₆ : ¬ Own μ₆ σ₆.length D := by obtain ⟨cd, ho⟩ := hpl₃; exact P36.own_old ho nD
        have ntD : ∀ items, ¬ s₆.heap.IsTuple D items := by
          rintro items ⟨o, e, hcl, _⟩
          obtain ⟨cd, ho⟩ := hpl₆
          rw [ho] at e; cases e; exact absurd (show (Value.type "list") = .type "tuple" from hcl) (by decide)
        have P67 : Post B (frs A) [C, D] μ₆ σ₆ s₆ μ₆ σ₆ { s₆ with heap := h₇ } := Post.own P36.rel (by simp) nD₆ bD ntD hs₇ (let ⟨cd, e⟩ := hpl₇; ⟨_, e, fun z_ q => by cases q⟩)
        have tk₇ := off_tk hs₇.extBut ntD
        have e7 : us.toArray.push y = (us ++ [y]).toArray := by simp
        rw [e7] at hpl₇
        refine again (s₆ := { s₆ with heap := h₇ }) ((P36.mono_fx fun a ha => by simp only [List.mem_singleton.mp ha]; exact .head _).trans P67) hpl₇ (VRs.keeps tk₇ (Nat.le_refl _) (fun z_ z_ => rfl) (VRs_append hv₆ (VRs_one hy'))) ?_ (by simp only [List.length_append, List.length_singleton]; lia -abstractProof) j₆
        obtain ⟨f₆, hn₆⟩ := keepN Oc₆
        exact ⟨f₆, hn₆.sameBut hs₇ nDC.symm⟩
    · have hkl : k = l.length := Nat.le_antisymm hk hge
      subst hkl
      refine wk.done O.hnd P.rel (hJ _ acc σ₁ hk jk) tk fun h₃ tk₃ he => ?_
      exact fin D C acc us μ₁ σ₁ _ f (P.aside he hrec nI bI hsn) sD sC nDC sysD (hpl.extBut he hitne.1.symm) (VRs.keeps (ext_tk he hrec) (Nat.le_refl _) (fun z_ z_ => rfl) hv) (hns.extBut he hitne.2.symm) nD nC jk
  clear hCs oD bD sD hitne
  subst hDD
  exact codeAny_compStart_list (loop _ rfl) (wk.self t1 (loop _ rfl))
inductive CmpJ (B : Bs) (n : Nat) (G' : Gs) (x : Str) (mc : Loc) (elt : Expr) (ifs : List Expr) (Q : V → List AO → Prop) (J : Nat → List V → List AO → Prop) (l : List V) (C : List AO → Prop) (σ₁ : List AO) : Prop
  | mk (hz : l.length ≤ 100000) (j0 : J 0 [] σ₁) (hJ : ∀ k acc σ', k ≤ l.length → J k acc σ' → C σ') (turn : CT B n G' x mc elt ifs l J) (e : ∀ acc σ', J l.length acc σ' → LstK Q acc σ')
inductive CmpE (B : Bs) (n : Nat) (G' : Gs) (x : Str) (mc : Loc) (elt : Expr) (ifs : List Expr) (Q : V → List AO → Prop) (l : List V) (C : List AO → Prop) (σ₁ : List AO) : Prop
  | mk (J : Nat → List V → List AO → Prop) (z : CmpJ B n G' x mc elt ifs Q J l C σ₁)
theorem EV_compE {elt iter : Expr} {x : Str} {px pos : Pos} {ifs : List Expr} {scope : Scope} {cap : List Str} (G' : Gs) (mc : Loc) {Q : V → List AO → Prop} (hc : chkC scope x cap G' = true) (hcap : ∀ y, y ∈ cap → y ∈ G.c) (hmc : mc.map (·.1) = cap) (hsub : ∀ p, p ∈ mc → p ∈ m)
    (h : IE B n X G m σ iter (CmpE B n G' x mc elt ifs Q))
    (hs : ∀ env x, foldedSetIterable iter env x = pure x := by intro _ _; rfl) : EV B n X G m σ (.ListComp elt [⟨.Name x px, iter, ifs, 0⟩] scope pos) Q := fun A env fx μ s O => by
  have hC := ChkC.of hc
  show wpAny _ _ _ _ _ _
  simp only [eval_ListComp]
  show wpAny _ A (comprehension (.ListComp elt [⟨.Name x px, iter, ifs, 0⟩] scope pos) scope env _ (newList []) false (eval iter env)) _ _ s
  refine wpAny_comprehension_free (use := none) rfl (hs env) (closureFor_of fun p hp hf => (O.ck p.1 (hcap _ (hC.free p hp hf))).2) hC.kind hC.locs
    (wpAny_mono (h A env fx μ s O) (fun va s₁ h₁ => wpAny_mono h₁ (fun v s₂ ⟨μ₂, σ₂, it, Tk, l, C, P₂, e3, hsn, no1, wk, t0, J, hz, j0, hJ, turn, hend⟩ => ?_) fun z_ z_ x => x) fun z_ z_ x => x)
  subst e3
  refine comp_block (RR := fun acc C => compPost (model B.prog B.w) A _ none _ acc C) O hC hcap hmc hsub P₂ hsn no1 wk t0 hz j0 hJ turn fun D C acc us μ₁ σ₁ s₁ f P sD sC nDC sysD hpl hv hns nD nC j => ?_
  refine ⟨f, hns, fun h' hs' => ?_⟩
  have ntC := nt_ns hns
  have P' := P.off (tk := s₁.toks) hs'.extBut ntC nC (new_base O.rel sC) sC
  refine ⟨_, _, P'.adopt (hpl.extBut hs'.extBut nDC) (VRs.keeps (off_tk hs'.extBut ntC) (Nat.le_refl _) (fun z_ z_ => rfl) hv) nD (new_base O.rel sD) sD sysD, .ref σ₁.length, VR_new, hend acc σ₁ j⟩
theorem EX_compE {elt iter : Expr} {x y : Str} {px py pos spos : Pos} {ifs : List Expr} {scope : Scope} {cap : List Str} (G' : Gs) (mc : Loc) {Q : AF → Loc → List AO → Prop} (hc : chkC scope x cap G' = true) (hcap : ∀ y, y ∈ cap → y ∈ G.c) (hmc : mc.map (·.1) = cap) (hsub : ∀ p, p ∈ mc → p ∈ m)
    (h : IE B n X G m σ iter (CmpE B n G' x mc elt ifs (Asg m y (Q .nxt))))
    (hs : ∀ env x, foldedSetIterable iter env x = pure x := by intro _ _; rfl) : EX B n X G m σ (.Assign [.Name y py] (.ListComp elt [⟨.Name x px, iter, ifs, 0⟩] scope pos) spos) Q := fun A env fx μ s hf O => by
  have hC := ChkC.of hc
  obtain ⟨b, hb⟩ : ∃ b, swapsWith (.ListComp elt [⟨.Name x px, iter, ifs, 0⟩] scope pos) (some (.Name y py)) spos.line env = pure b := ⟨_, rfl⟩
  cases b with
  | false =>
    refine wpAny_Assign_Name (wpAny_mono (EV_compE (Q := Asg m y (Q .nxt)) G' mc hc hcap hmc hsub h hs A env fx μ s O) (fun v s₁ z_ => ?_) fun z_ z_ x => x.weaken) hb
    refine shut fun P_ o_ => ?_
    obtain ⟨μ₁, σ₁, P₁, a, ha, m', u, q⟩ := z_
    refine o_ ?_
    exact wpAny_mono (W_storeQ (X := X) (O.next P₁) (.inl hf) u ha q) (fun _ s' ⟨μ', σ', P, r⟩ => ⟨μ', σ', P₁.weaken.trans P, r⟩) fun z_ z_ x => x.trans P₁.weaken
  | true =>
    show wpAny _ _ _ _ _ _
    rw [exec_Assign_Name_used _ _ _ _ hb]
    refine wpAny_bind (wpAny_standAt (wpAny_bind ?_))
    show wpAny _ A (do let _ ← comprehension (.ListComp elt [⟨.Name x px, iter, ifs, 0⟩] scope pos) scope env _ (newList []) false (eval iter env) (some (assign (.Name y py) env))) _ _ s
    refine wpAny_bind (wpAny_mono (wpAny_comprehension_free (use := some (assign (.Name y py) env)) (Q := fun z_ s' => Wq B (frs A) fx μ σ s (EXq B n G A env fx Q) .next s') rfl (hs env)
      (closureFor_of fun p hp hf => (O.ck p.1 (hcap _ (hC.free p hp hf))).2) hC.kind hC.locs
      (wpAny_mono (h A env fx μ s O) (fun va s₁ h₁ => wpAny_mono h₁ (fun v s₂ ⟨μ₂, σ₂, it, Tk, l, C, P₂, e3, hsn, no1, wk, t0, J, hz, j0, hJ, turn, hend⟩ => ?_) fun z_ z_ x => x.weaken) fun z_ z_ x => x.weaken)) (fun z_ s' hq => wpAny_pure (wpAny_pure hq)) fun z_ z_ e => e)
    subst e3
    refine comp_block (RR := fun acc C => compPost (model B.prog B.w) A _ (some (assign (.Name y py) env)) _ acc C) O hC hcap hmc hsub P₂ hsn no1 wk t0 hz j0 hJ turn fun D C acc us μ₁ σ₁ s₁ f P sD sC nDC sysD hpl hv hns nD nC j => ?_
    obtain ⟨m', u, q⟩ := hend acc σ₁ j
    have Pa := P.adopt hpl hv nD (new_base O.rel sD) sD sysD
    have Oa := O.next Pa
    show wpAny _ A (assign (.Name y py) env (.ref D)) _ _ _
    refine wpAny_assign_Name (wpAny_mono (W_store' (E := QE B (frs A) fx μ σ s X) Oa (.inl hf) u VR_new) (fun z_ s₂ z_ => ?_) fun z_ z_ x => x)
    refine shut fun P_ o_ => ?_
    obtain ⟨P₂, O₂⟩ := z_
    refine o_ ?_
    have nC' : ¬ Own (μ₁.ext σ₁.length D D) (σ₁ ++ [AO.list acc]).length C := by
      rintro ⟨i, hi, q⟩
      rw [List.length_append, List.length_singleton] at hi
      by_cases hl : i = σ₁.length
      · subst hl
        rw [ext_a, ext_d] at q
        exact nDC (q.elim Eq.symm Eq.symm)
      · have e1 : (μ₁.ext σ₁.length D D).a i = μ₁.a i := if_neg hl
        have e2 : (μ₁.ext σ₁.length D D).d i = μ₁.d i := if_neg hl
        rw [e1, e2] at q
        exact nC ⟨i, by lia -abstractProof, q⟩
    have hCfx : C ∉ fx := fun q => by
      obtain ⟨_, _, o, e, _⟩ := O.fxo C q
      rw [sC] at e; cases e
    have hns₂ : s₂.heap.Ns C f := by
      refine shut fun P_ o_ => ?_
      obtain ⟨o, es, ep, e, r⟩ := hns
      obtain ⟨-, sl, k⟩ := P₂.keep C o e nC' hCfx
      refine o_ ?_
      exact ⟨_, es, ep, k, r⟩
    have ntC := nt_ns hns₂
    refine ⟨f, hns₂, fun h' hs' => ?_⟩
    have PT : Post B (frs A) fx μ σ s (μ₁.ext σ₁.length D D) (σ₁ ++ [AO.list acc]) s₂ := Pa.weaken.trans P₂
    have P' := PT.off (tk := s₂.toks) hs'.extBut ntC nC' (new_base O.rel sC) sC
    have hLC : env.locals ≠ C := fun q => hCfx (q ▸ O.fxl)
    have tkC := off_tk hs'.extBut ntC
    have cellC : ∀ z c, env.cells.lookup z = some c → c ≠ C := fun z c hz q => by
      obtain ⟨_, _, _, w, o, e, _⟩ := O.cel z c hz
      rw [q, sC] at e; cases e
    refine ⟨_, _, P', .nxt, m', trivial, O₂.turn P'.rel hs' rfl ?_ (fun z c hz => ?_) ?_, q⟩
    · rintro (q | q)
      · exact absurd q hCfx
      · refine shut fun P_ o_ => ?_
        obtain ⟨o, e, _⟩ := frs_mem O q
        refine o_ ?_
        rw [sC] at e; cases e
    · obtain ⟨_, _, _, w, o, e, hd⟩ := O₂.cel z c hz
      exact ⟨w, o, hs'.extBut c o (cellC z c hz) e, hd⟩
    · obtain ⟨f₂, hn₂, hsl⟩ := O₂.slots
      refine ⟨f₂, hn₂.sameBut hs' hLC, fun z o hz => ?_⟩
      rcases hsl z o hz with ⟨k, q⟩ | ⟨k, c, w, hl, ⟨oc, e, hd⟩, q⟩
      · exact .inl ⟨k, fun v' e => let ⟨val, a1, a2⟩ := q v' e; ⟨val, a1, VR.keeps tkC (Nat.le_refl _) (fun z_ z_ => rfl) a2⟩⟩
      · exact .inr ⟨k, c, w, hl, ⟨oc, hs'.extBut c oc (cellC z c hl) e, hd⟩, fun v' e => let ⟨val, a1, a2⟩ := q v' e; ⟨val, a1, VR.keeps tkC (Nat.le_refl _) (fun z_ z_ => rfl) a2⟩⟩
theorem EV_comp {elt iter : Expr} {x : Str} {px pos : Pos} {ifs : List Expr} {scope : Scope} {cap : List Str} (G' : Gs) (mc : Loc) {Q : V → List AO → Prop} (hc : chkC scope x cap G' = true) (hcap : ∀ y, y ∈ cap → y ∈ G.c) (hmc : mc.map (·.1) = cap) (hsub : ∀ p, p ∈ mc → p ∈ m)
    (J : Nat → List V → List AO → Prop) (h : IE B n X G m σ iter (CmpJ B n G' x mc elt ifs Q J))
    (hs : ∀ env x, foldedSetIterable iter env x = pure x := by intro _ _; rfl) : EV B n X G m σ (.ListComp elt [⟨.Name x px, iter, ifs, 0⟩] scope pos) Q := EV_compE G' mc hc hcap hmc hsub (h.mono fun z_ z_ z_ z => ⟨J, z⟩) hs
theorem EX_comp {elt iter : Expr} {x y : Str} {px py pos spos : Pos} {ifs : List Expr} {scope : Scope} {cap : List Str} (G' : Gs) (mc : Loc) {Q : AF → Loc → List AO → Prop} (hc : chkC scope x cap G' = true) (hcap : ∀ y, y ∈ cap → y ∈ G.c) (hmc : mc.map (·.1) = cap) (hsub : ∀ p, p ∈ mc → p ∈ m)
    (J : Nat → List V → List AO → Prop) (h : IE B n X G m σ iter (CmpJ B n G' x mc elt ifs (Asg m y (Q .nxt)) J))
    (hs : ∀ env x, foldedSetIterable iter env x = pure x := by intro _ _; rfl) : EX B n X G m σ (.Assign [.Name y py] (.ListComp elt [⟨.Name x px, iter, ifs, 0⟩] scope pos) spos) Q := EX_compE G' mc hc hcap hmc hsub (h.mono fun z_ z_ z_ z => ⟨J, z⟩) hs
end
section
variable {B : Bs} {n : Nat} {X : V → List AO → Prop} {G G' : Gs} {m : Loc} {σ σ' : List AO} {μ μ' : Mp} {s s' : Shared} {fr fx : List Addr} {A : Around} {env : Env} {Q : V → List AO → Prop}
theorem OP_iaddL {i j : Nat} {l l' : List V} (hi : σ[i]? = some (.list l)) (hj : σ[j]? = some (.list l')) (hz : l.length ≤ 100000) (hz' : l'.length ≤ 100000) (h : Q (.ref i) (σ.set i (.list (l ++ l')))) : OP2 B n X (.ref i) (.ref j) σ (inplaceOp .Add) Q := fun A μ s va vb O ha hb => by
  obtain ⟨hlt, rfl⟩ := VR_ref_of ha
  obtain ⟨-, rfl⟩ := VR_ref_of hb
  refine shut fun P_ o_ => ?_
  obtain ⟨us, ⟨c, ho⟩, hu⟩ := O.rel.list hi
  obtain ⟨us', ⟨c', ho'⟩, hu'⟩ := O.rel.list hj
  refine o_ ?_
  have hl := VRs_length hu
  have hl' := VRs_length hu'
  have ta : s.TypeIs (.ref (μ.a i)) "list" := ⟨_, ho, rfl⟩
  have tb : s.TypeIs (.ref (μ.a j)) "list" := ⟨_, ho', rfl⟩
  have hq : isSeqSlot (some (.builtin "list.__iadd__")) = true := by decide +kernel
  have hsi : seqSlot? (.type "list") (dunderI "add") = pure (some (.builtin "list.__iadd__")) := PySem.seqSlot_of PySem.F.slot_list_iadd.lookup hq
  have hfi : fillsInplaceSlot (.type "list") "add" (Operator.Add == .Add) = pure false := by
    unfold fillsInplaceSlot
    show (typeLookup (.type "list") (dunderI "add") >>= fun fi => pure (fi.isSome && !isSeqSlot fi)) = pure false
    rw [PySem.F.slot_list_iadd.lookup, pure_bind, hq]; rfl
  show wpAny _ _ (inplaceOp .Add _ _) _ _ _
  unfold inplaceOp
  refine wpAny_holding ?_
  refine wpAny_bind (wpAny_typeOf ta (wpAny_bind (wpAny_of_eq hfi ?_)))
  show wpAny _ _ (if false = true then _ else _) _ _ s
  rw [if_neg Bool.false_ne_true]
  refine wpAny_bind (wpAny_binaryOp1_none (nm := "add") ta tb PySem.noFill_list_add ?_)
  refine wpAny_bind (wpAny_of_eq hsi ?_)
  refine wpAny_bind (wpAny_rule ?_)
  refine PySem.call_meets PySem.F.slot_list_iadd ta PySem.F.entry_list_iadd (PySem.F.args_list_iadd_2 _ _) (PySem.AutoSeq1.list___iadd___list_list_0 (μ.a i) us.toArray c (μ.a j) us'.toArray c' ?_ (plain_sz hu hz) ?_) ⟨ho, ho', ?_⟩
  · simp [Builtin.List.listTooLong, hl, hl', sizeLine_eq]; intro; lia -abstractProof
  · simp only [List.size_toArray, List.size_toArray, hl, hl', sizeLine_eq]; lia -abstractProof
  have hfin : (s.heap.update (μ.a i) (Obj.mapSeq fun x => x ++ us'.toArray)).PlainList (μ.a i) (us ++ us').toArray := by
    have := IsL.update (n := c) ho fun x => x ++ us'.toArray
    rw [show us.toArray ++ us'.toArray = (us ++ us').toArray by simp] at this
    exact ⟨_, this⟩
  refine ⟨μ, _, upd_list (tk := s.toks) O.rel hi hfin (VRs_append hu hu') (Heap.SameBut.update ..), .ref i, ?_, h⟩
  exact VR_ref (by simpa using hlt) rfl
theorem fin_list' {l : List V} {D : Addr} {us : List Value} {Q : V → List AO → Prop} (R : Rel B μ σ s.heap) (P : Post B fr [] μ σ s μ σ s') (hD : s'.heap.PlainList D us.toArray) (hv : VRs μ σ.length s'.heap l us) (e : s.heap.get? D = none) (sysD : sysModules < D) (q : Q (.ref σ.length) (σ ++ [.list l])) :
    Wq B fr [] μ σ s (EVq Q) (.ref D) s' :=
  ⟨_, _, P.adopt hD hv (not_own_new R e) (new_base R e) e sysD, .ref σ.length, VR_new, q⟩
theorem fin_list {l : List V} {D : Addr} {us : List Value} {Q : V → List AO → Prop} (R : Rel B μ σ s.heap) (P : Post B fr [] μ σ s μ σ s') (hD : s'.heap.PlainList D us.toArray) (hv : VRs μ σ.length s'.heap l us) (hn : s.heap.objs.size ≤ D) (q : Q (.ref σ.length) (σ ++ [.list l])) :
    Wq B fr [] μ σ s (EVq Q) (.ref D) s' := by
  have e := Heap.get?_none_of_le hn
  exact ⟨_, _, P.adopt hD hv (not_own_new R e) (new_base R e) e (new_sys R hn), .ref σ.length, VR_new, q⟩
theorem OP_listL {i : Nat} {l : List V} (hi : σ[i]? = some (.list l)) (hz : l.length ≤ 100000) (h : Q (.ref σ.length) (σ ++ [.list l])) : OPs B n X [.ref i] σ (fun vs => call (.type "list") vs) Q := fun A μ s vs O hv => by
  obtain ⟨v, rfl, h1⟩ := VRs_1 hv
  obtain ⟨-, rfl⟩ := VR_ref_of h1
  refine shut fun P_ o_ => ?_
  obtain ⟨us, ⟨c, ho⟩, hu⟩ := O.rel.list hi
  refine o_ ?_
  show wpAny _ _ _ _ _ _
  refine call_list_seq (μ.a i) (.inl rfl) ho rfl rfl (fun h' c' hk hD => ?_) (plain_sz hu hz)
  exact fin_list O.rel (Post.grow (s' := { s with heap := h' }) O.rel hk) ⟨c', hD⟩ (VRs.keeps (TK.of_keeps hk) (Nat.le_refl _) (fun z_ z_ => rfl) hu) (Nat.le_refl _) h
theorem keys_vrs {K : Type} {h : Heap} {l : List (Int × V)} {kvs : List (Int × Value)} {N : Nat} (e : kvs.map (·.1) = l.map (·.1)) : ∀ {vs : List Value}, vs.length = kvs.length → (∀ (j : Nat) (v : Value), vs[j]? = some v → ∃ k x, kvs[j]? = some (k, x) ∧ v.isInt k = true) → VRs μ N h (l.map fun p => V.int p.1) vs := by
  induction l generalizing kvs with
  | nil =>
    intro vs hl _
    have : kvs = [] := by simpa using e
    subst this
    have : vs = [] := by simpa using hl
    subst this
    exact VRs_nil
  | cons p l ih =>
    intro vs hl hv
    cases kvs with
    | nil => cases e
    | cons q kvs =>
      cases vs with
      | nil => simp at hl
      | cons v vs =>
        simp only [List.map_cons, List.cons.injEq] at e ⊢
        obtain ⟨k, x, h1, h2⟩ := hv 0 v rfl
        simp only [List.getElem?_cons_zero, Option.some.injEq] at h1
        subst h1
        obtain ⟨t, rfl⟩ := Value.isInt_shape h2
        refine VRs_cons ?_ (ih e.2 (by simpa using hl) fun j u hu => hv (j + 1) u (by simpa using hu))
        rw [← e.1]; exact VR_int
theorem OP_listI {i : Nat} {l : List (Int × V)} (hi : σ[i]? = some (.dI l)) (hz : l.length ≤ 100000) (h : Q (.ref σ.length) (σ ++ [.list (l.map fun p => V.int p.1)])) : OPs B n X [.ref i] σ (fun vs => call (.type "list") vs) Q := fun A μ s vs O hv => by
  obtain ⟨v, rfl, h1⟩ := VRs_1 hv
  obtain ⟨hlt, rfl⟩ := VR_ref_of h1
  refine shut fun P_ o_ => ?_
  obtain ⟨kvs, hd, e, hu⟩ := O.rel.dI hi
  refine o_ ?_
  have hlen : kvs.length = l.length := by have := congrArg List.length e; simpa using this
  obtain ⟨ep, hat⟩ := hd.dictAt
  show wpAny _ _ _ _ _ _
  refine kdl_call (kdl_dict (knd := intKind B.prog B.w) (kvs := kvs) (ep := ep) (O.rel.notSys hlt)) O.hnd hat (by simp only [hlen, sizeLine_eq]; lia -abstractProof) fun h' tk acc c hk hD hacc => ?_
  refine fin_list (us := acc.toList) O.rel (Post.grow (s' := { s with heap := h', toks := tk }) O.rel hk) ⟨c, by simpa using hD⟩ ?_ (Nat.le_refl _) h
  refine keys_vrs (K := Int) e (by simp only [Array.length_toList]; exact hacc.1) fun j v hv => ?_
  exact hacc.2 j v (by rw [← Array.getElem?_toList]; exact hv)
theorem ints_of {N : Nat} {h : Heap} : ∀ {l : List Int} {vs : List Value}, VRs μ N h (l.map V.int) vs → IntsAre vs l := by
  intro l_
  induction l_ with
  | nil =>
    intro vs hv
    rw [VRs_nilO hv]; exact .nil
  | cons x l ih =>
    intro vs hv
    obtain ⟨v, r, rfl, h1, h2⟩ := VRs_consO hv
    obtain ⟨t, rfl⟩ := VR_int_of h1
    exact .cons _ _ (ih h2)
theorem of_ints {N : Nat} {h : Heap} : ∀ {l : List Int} {vs : List Value}, IntsAre vs l → VRs μ N h (l.map V.int) vs := by
  intro l_
  induction l_ with
  | nil =>
    intro vs hv
    cases hv; exact VRs_nil
  | cons x l ih =>
    intro vs hv
    cases hv with
    | cons _ t r => exact VRs_cons VR_int (ih r)
theorem OP_sortedI {i : Nat} {l : List (Int × V)} (hi : σ[i]? = some (.dI l)) (hz : l.length < 64) (h : ∀ ns : List Int, ns.Perm (l.map (·.1)) → ns.Pairwise (· ≤ ·) → Q (.ref σ.length) (σ ++ [.list (ns.map V.int)])) : OPs B n X [.ref i] σ (fun vs => call (.builtin "sorted") vs) Q := fun A μ s vs O hv => by
  obtain ⟨v, rfl, h1⟩ := VRs_1 hv
  obtain ⟨hlt, rfl⟩ := VR_ref_of h1
  refine shut fun P_ o_ => ?_
  obtain ⟨kvs, hd, e, hu⟩ := O.rel.dI hi
  refine o_ ?_
  have hlen : kvs.length = l.length := by have := congrArg List.length e; simpa using this
  obtain ⟨ep, hat⟩ := hd.dictAt
  show wpAny _ _ _ _ _ _
  refine Calls.call_function_entry kind_sorted plain_sorted entry_sorted (args_sorted1 _) ?_
  unfold Builtin.«sorted»
  refine wpAny_bind (m := checkCount "sorted" 1 1 _) (wpAny_pure ?_)
  refine wpAny_bind (kdu_collect (kdl_dict (knd := intKind B.prog B.w) (kvs := kvs) (ep := ep) (O.rel.notSys hlt)) O.hnd hat (by simp only [hlen, sizeLine_eq]; lia -abstractProof) fun h' tk acc hk hacc => ?_)
  have hvr : VRs μ σ.length h' (l.map fun p => V.int p.1) acc.toList := keys_vrs (K := Int) e (by simp only [Array.length_toList]; exact hacc.1) fun j v hv => hacc.2 j v (by rw [← Array.getElem?_toList]; exact hv)
  have hI : IntsAre acc.toList (l.map (·.1)) := ints_of (μ := μ) (N := σ.length) (h := h') (by rw [List.map_map]; exact hvr)
  have hal : acc.toList.length = l.length := by simp only [Array.length_toList]; exact hacc.1.trans hlen
  refine wpAny_bind (wpAny_newList ?_ (by simp only [hal, sizeLine_eq]; lia -abstractProof))
  have hoL : (h'.push (seqObj "list" acc.toList.toArray 0)).get? h'.objs.size = some (seqObj "list" acc.toList.toArray 0) := Heap.get?_push_size _ rfl
  show wpAny _ _ _ _ _ { s with heap := h'.push (seqObj "list" acc.toList.toArray 0), toks := tk }
  refine wpAny_bind (wpAny_holding (wpAny_call_entry slot_list_sort ⟨_, hoL, rfl⟩ entry_list_sort (list_sort_tree hoL hI (by lia -abstractProof) fun out ns' a1 a2 a3 => ⟨_, rfl, ?_⟩) (args_list_sort _)))
  refine wpAny_pure ⟨_, rfl, ?_⟩
  obtain ⟨e2, hD⟩ := sortedHeap_at (out := out) hoL
  have kp : ∀ b o, s.heap.get? b = some o → (sortedHeap (h'.push (seqObj "list" acc.toList.toArray 0)) h'.objs.size acc.toList out).get? b = some o := fun b o hb => by
    have hb' := hk b o hb
    have hlt := Heap.lt_size hb'
    rw [sortedHeap_old (Nat.ne_of_lt hlt) (by rw [size_push']; exact Nat.lt_succ_of_lt hlt)]
    exact Heap.get?_push_of_some _ hb'
  have e0 : s.heap.get? h'.objs.size = none := by
    cases q : s.heap.get? h'.objs.size with
    | some o => exact absurd (Heap.lt_size (hk _ o q)) (Nat.lt_irrefl _)
    | none => rfl
  have sysD : sysModules < h'.objs.size := by
    obtain ⟨o, es, ep, eg, _⟩ := B.g
    exact Nat.lt_trans (show sysModules < mainGlobals by decide) (Heap.lt_size (hk _ _ (O.rel.base _ _ eg)))
  have P : Post B (frs A) [] μ σ s μ σ { s with heap := sortedHeap (h'.push (seqObj "list" acc.toList.toArray 0)) h'.objs.size acc.toList out, toks := tk } := Post.grow O.rel kp
  exact fin_list' (us := out.toList) O.rel P ⟨e2, by simp only [Array.toArray_toList]; exact hD⟩ (of_ints a1) e0 sysD (h ns' a2 a3)
end
section
variable {B : Bs} {n : Nat} {X : V → List AO → Prop} {G G' : Gs} {m : Loc} {σ σ' : List AO} {μ μ' : Mp} {s s' : Shared} {fr fx : List Addr} {A : Around} {env : Env} {Q : V → List AO → Prop}
theorem OP_tupleL {i : Nat} {l : List V} (hi : σ[i]? = some (.list l)) (hz : l.length ≤ 100000) (h : Q (.tup l) σ) : OPs B n X [.ref i] σ (fun vs => call (.type "tuple") vs) Q := fun A μ s vs O hv => by
  obtain ⟨v, rfl, h1⟩ := VRs_1 hv
  obtain ⟨-, rfl⟩ := VR_ref_of h1
  obtain ⟨us, hl, hu⟩ := O.rel.list hi
  show wpAny _ _ _ _ _ _
  refine call_tuple_list hl.isList (fun h' hk => ?_) (plain_sz hu hz)
  have hk' : ∀ b o, s.heap.get? b = some o → (h'.push { cls := .type "tuple", data := .seq us.toArray }).get? b = some o := fun b o e => Heap.get?_push_of_some _ (hk b o e)
  refine ⟨μ, σ, Post.grow O.rel hk', .tup l, ?_, h⟩
  exact VR_tup ⟨_, Heap.get?_push_size _ rfl, rfl, 0, rfl⟩ (VRs.keeps (TK.of_keeps hk') (Nat.le_refl _) (fun z_ z_ => rfl) hu)
theorem OP_abs {x : Int} (h : Q (.int (if x < 0 then -x else x)) σ) : OPs B n X [.int x] σ (fun vs => call (.builtin "abs") vs) Q := fun A μ s vs O hv => by
  obtain ⟨v, rfl, h1⟩ := VRs_1 hv
  obtain ⟨t, rfl⟩ := VR_int_of h1
  show wpAny _ _ _ _ _ _
  exact call_abs_int fun u tk => fin_tok O.rel VR_int h
theorem OP_ord {x : Str} {c : Nat} (hx : x.cps = #[c]) (h : Q (.int c) σ) : OPs B n X [.str x] σ (fun vs => call (.builtin "ord") vs) Q := fun A μ s vs O hv => by
  obtain ⟨v, rfl, h1⟩ := VRs_1 hv
  obtain ⟨t, rfl⟩ := VR_str_of h1
  obtain ⟨cps⟩ := x
  cases hx
  show wpAny _ _ _ _ _ _
  exact PySem.P.ord_of_char (fin_tok O.rel VR_int h)
theorem OP_isStr {x : Str} (h : Q (.bool true) σ) : OPs B n X [.str x, .ty "str"] σ (fun vs => call (.builtin "isinstance") vs) Q := fun A μ s vs O hv => by
  obtain ⟨v, w, rfl, h1, h2⟩ := VRs_two hv
  obtain ⟨t, rfl⟩ := VR_str_of h1
  have : w = .type "str" := VR_ty_of h2
  subst this
  show wpAny _ _ _ _ _ _
  exact PySem.call_isinstance (PySem.isinstance_true (Tx := "str") (by kernel_rfl) (by rw [isSubtype_type]; kernel_rfl)) ⟨rfl, fin_same O.rel VR_bool h⟩
theorem OP_isStrT {l : List V} (h : Q (.bool false) σ) : OPs B n X [.tup l, .ty "str"] σ (fun vs => call (.builtin "isinstance") vs) Q := fun A μ s vs O hv => by
  obtain ⟨v, w, rfl, h1, h2⟩ := VRs_two hv
  refine shut fun P_ o_ => ?_
  obtain ⟨a, items, rfl, ⟨o, e, c, _⟩, _⟩ := VR_tup_of h1
  refine o_ ?_
  have : w = .type "str" := VR_ty_of h2
  subst this
  show wpAny _ _ _ _ _ _
  exact PySem.call_isinstance (PySem.isinstance_false_tuple (by decide) (by kernel_rfl) (by rw [isSubtype_type]; kernel_rfl)) ⟨⟨o, e, c⟩, fin_tok O.rel VR_bool h⟩
theorem OP_set0 (h : Q (.ref σ.length) (σ ++ [.set (fun z_ => false) 0])) : OPs B n X [] σ (fun vs => call (.type "set") vs) Q := fun A μ s vs O hv => by
  rw [VRs_nilO hv]
  show wpAny _ _ _ _ _ _
  refine PySem.call_set_0 fun led => ⟨μ.ext σ.length s.heap.objs.size s.heap.objs.size, σ ++ [.set (fun z_ => false) 0], Post.pushed (ao := .set (fun z_ => false) 0) O.rel rfl ?_ ((ext_d ..).trans (ext_a ..).symm) _, .ref σ.length, VR_new, h⟩
  show Heap.SetOf _ _ _ _ _
  rw [ext_a]
  exact ⟨_, #[], 0, .fresh 0 0 led, Heap.get?_push_size _ rfl, ⟨rfl, rfl, rfl⟩, rfl, (fun e he => by simp at he), by simp, by decide, by cases led <;> decide, rfl⟩
theorem OP_inSet {i : Nat} {S : Int → Bool} {c : Nat} {k : Int} (hi : σ[i]? = some (.set S c)) (h : Q (.bool (S k)) σ) : OP2 B n X (.int k) (.ref i) σ (compareOp .In) Q := fun A μ s va vb O ha hb => by
  obtain ⟨t, rfl⟩ := VR_int_of ha
  obtain ⟨hlt, rfl⟩ := VR_ref_of hb
  have hS : s.heap.SetOf (intKind B.prog B.w) (μ.a i) S c := O.rel.obj i _ hi
  show wpAny _ _ _ _ _ _
  exact PySem.wpAny_inSet_of (knd := intKind B.prog B.w) (k := k) (intKind_is _ _ _ _) rfl hS (fin_tok O.rel VR_bool h)
noncomputable def rng (a c : Int) : Nat → List V
  | 0 => []
  | k + 1 => .int a :: rng (a + c) c k
theorem rng_length : ∀ (a c : Int) (k : Nat), (rng a c k).length = k
  | _, _, 0 => rfl
  | a, c, k + 1 => by simp only [rng, List.length_cons, rng_length]
theorem rng_get : ∀ (a c : Int) (k i : Nat), i < k → (rng a c k)[i]? = some (.int (a + i * c))
  | a, c, 0, i, h => absurd h (Nat.not_lt_zero _)
  | a, c, k + 1, 0, _ => by simp [rng]
  | a, c, k + 1, i + 1, h => by
    simp only [rng, List.getElem?_cons_succ, rng_get (a + c) c k i (Nat.lt_of_succ_lt_succ h)]
    congr 2
    simp only [Int.add_assoc]
    congr 1
    push_cast
    simp only [Int.add_mul, Int.one_mul, Int.add_comm]
theorem wk_range {B : Bs} {it : Addr} {a c : Int} {N : Nat} : Wk B it (rng a c N) (fun k z_ z_ h => IsRangeIter h it (a + k * c) ((N : Int) - k) c) (fun z_ => True) where
  obj := fun {k μ σ h} e => ⟨_, _, _, e, rfl, rfl, by decide⟩
  self := fun h q => wpAny_pyIter_rangeiter h q
  item := fun {A k μ σ s Q E x} hh R hx hC ht no hQ => by
    have hk : k < N := by
      rcases Nat.lt_or_ge k N with z | z
      · exact z
      · rw [List.getElem?_eq_none (by rw [rng_length]; exact z)] at hx; cases hx
    rw [rng_get a c N k hk] at hx
    cases hx
    refine wpAny_pyNext_range_item ht (by lia -abstractProof) fun h' ht' hs => hQ _ h' _ VR_int ?_ hs
    have e1 : a + ((k + 1 : Nat) : Int) * c = a + k * c + c := by push_cast; simp only [Int.add_mul, Int.one_mul, Int.add_assoc]
    have e2 : (N : Int) - ((k + 1 : Nat) : Int) = N - k - 1 := by push_cast; lia -abstractProof
    show IsRangeIter h' it (a + ((k + 1 : Nat) : Int) * c) (N - ((k + 1 : Nat) : Int)) c
    simp only [e1, e2]; exact ht'
  done := fun {A μ σ s Q E} hh R hC ht hQ => by
    rw [rng_length] at ht
    exact wpAny_pyNext_range_end hh ht (by lia -abstractProof) fun h' he => hQ h' s.toks he
  keep := fun {k fr fx μ σ s μ' σ' s'} ht R hC hC' no nx nr _ P => keep_rec P ht no nx nr
theorem W_range {va : Value} {r : Addr} {a b c : Int} {t u w : Tok} {N : Nat} (O : OkC B n A μ σ s) (hr : IsRange s.heap r a b c t u w) (hsmall : Builtin.Range.small a b c = true) (hN : Builtin.Range.rangeSize a b c = N) :
    W B X A [] μ σ s (pyIter (.ref r)) (fun v μ' σ' s' => μ' = μ ∧ σ' = σ ∧ ∃ it Tk, v = .ref it ∧ s.heap.get? it = none ∧ Wk B it (rng a c N) Tk (fun z_ => True) ∧ Tk 0 μ σ s'.heap) := by
  refine new_walk (o := { cls := .type "range_iterator", data := .fields #[rawInt a, rawInt (Builtin.Range.rangeSize a b c), rawInt c] }) O _ wk_range ?_ fun Q E hQ => wpAny_pyIter_range hr hsmall hQ
  show IsRangeIter _ _ (a + ((0 : Nat) : Int) * c) ((N : Int) - ((0 : Nat) : Int)) c
  rw [show a + ((0 : Nat) : Int) * c = a by simp, show (N : Int) - ((0 : Nat) : Int) = N by simp, hN]
  exact Heap.get?_push_size _ rfl
theorem range_tail {r : Addr} {a b c : Int} {t u w : Tok} {N : Nat} {Q : List V → (List AO → Prop) → List AO → Prop} {σ₁ : List AO} {μ₁ : Mp} {s₁ : Shared} (O : Ok B n G A env fx m μ σ s) (P : Post B (frs A) [] μ σ s μ₁ σ₁ s₁)
    (hr : IsRange s₁.heap r a b c t u w) (hsm : Builtin.Range.small a b c = true) (hsz : Builtin.Range.rangeSize a b c = N) (q : Q (rng a c N) (fun z_ => True) σ₁) :
    wpAny (model B.prog B.w) A (pyIter (.ref r)) (IEq B (frs A) μ σ s Q) (QE B (frs A) [] μ σ s X) s₁ := by
  have O₂ := O.next P
  refine wpAny_mono (W_range (X := X) (va := .none) O₂.c hr hsm hsz) (fun v s₃ z_ => ?_) fun z_ z_ x => x.trans P
  refine shut fun P_ o_ => ?_
  obtain ⟨μ₃, σ₃, P₃, e1, e2, it, Tk, e3, hnew, wk, t0⟩ := z_
  refine o_ ?_
  subst μ₃ σ₃ v
  have hsn : s.heap.get? it = none := by
    cases q : s.heap.get? it with
    | none => rfl
    | some o => obtain ⟨o', e'⟩ := P.ex it o q; rw [hnew] at e'; cases e'
  exact ⟨_, _, it, Tk, _, _, P.trans P₃, rfl, hsn, not_own_new O₂.rel hnew, wk, t0, q⟩
inductive RgA (Q : List V → (List AO → Prop) → List AO → Prop) (vs : List V) (σ₁ : List AO) : Prop
  | mk (N : Nat) (e : vs = [.int N]) (hN : N ≤ 100000) (q : Q (rng 0 1 N) (fun z_ => True) σ₁)
inductive RgB (Q : List V → (List AO → Prop) → List AO → Prop) (vs : List V) (σ₁ : List AO) : Prop
  | mk (a b : Int) (N : Nat) (e : vs = [.int a, .int b]) (hsm : Builtin.Range.small a b 1 = true) (hsz : Builtin.Range.rangeSize a b 1 = N) (q : Q (rng a 1 N) (fun z_ => True) σ₁)
inductive RgC (Q : List V → (List AO → Prop) → List AO → Prop) (vs : List V) (σ₁ : List AO) : Prop
  | mk (a b c : Int) (N : Nat) (e : vs = [.int a, .int b, .int c]) (hc : c ≠ 0) (hp : Builtin.divisionGoesByPylong (b - a) c = false) (hsm : Builtin.Range.small a b c = true) (hsz : Builtin.Range.rangeSize a b c = N) (q : Q (rng a c N) (fun z_ => True) σ₁)
noncomputable abbrev RgQ (Q : List V → (List AO → Prop) → List AO → Prop) : List V → List AO → Prop := fun vs σ₁ => RgA Q vs σ₁ ∨ RgB Q vs σ₁ ∨ RgC Q vs σ₁
theorem IE_range {x : Str} {p pos : Pos} {es : List Expr} {Q : List V → (List AO → Prop) → List AO → Prop} (hx : x ∈ G.g) (hg : B.mg x = none) (hb : bootBuiltins x = some (.type "range")) (hn : x ≠ "__name__") (hs : noStar es = true)
    (h : EVs B n X G m es σ (RgQ Q)) : IE B n X G m σ (.Call (.Name x p) es [] pos) Q := fun A env fx μ s O => by
  refine wpAny_Call_NameR (wpAny_mono (W_built (X := X) (R := fun v μ' σ' s' => v = .type "range" ∧ μ' = μ ∧ σ' = σ ∧ s' = s) O hx hg hb hn ⟨rfl, rfl, rfl, rfl⟩)
    (fun v s₁ ⟨μ₁, σ₁, P₁, e1, e2, e3, e4⟩ => ?_) fun z_ z_ x => x)
  subst v μ₁ σ₁ s₁
  refine callWith_of (P := B.K.In) (by rw [noStar_any hs]; rfl) (fun h z_ => keeps_type _ _ h) ?_
  refine wpAny_mono (W_args O hs h) (fun ar s₁ ⟨μ₁, σ₁, P₁, e, l, hl, q⟩ => ⟨B.X.keeps P₁.rel.base, ?_⟩) fun z_ z_ x => x
  obtain ⟨ps, kw⟩ := ar
  cases e
  rcases q with ⟨N, rfl, hN, q⟩ | ⟨a, b, N, rfl, hsm, hsz, q⟩ | ⟨a, b, c, N, rfl, hc, hpl, hsm, hsz, q⟩
  · obtain ⟨v, hv, h1⟩ := VRs_1 hl
    obtain ⟨t, rfl⟩ := VR_int_of h1
    cases hv
    refine call_range_1 ?_
    have hsz : Builtin.Range.rangeSize 0 N 1 = N := by unfold Builtin.Range.rangeSize; simp; lia -abstractProof
    have hsm : Builtin.Range.small 0 N 1 = true := by
      unfold Builtin.Range.small Builtin.Range.rangeFitsLong
      rw [hsz]
      simp; lia -abstractProof
    exact range_tail O (P₁.trans (Post.push P₁.rel _ _)) (Heap.get?_push_size _ rfl) hsm hsz q
  · obtain ⟨v, w, hv, h1, h2⟩ := VRs_two hl
    obtain ⟨t, rfl⟩ := VR_int_of h1
    obtain ⟨u, rfl⟩ := VR_int_of h2
    cases hv
    refine call_range_2 ?_
    exact range_tail O (P₁.trans (Post.push P₁.rel _ _)) (Heap.get?_push_size _ rfl) hsm hsz q
  · obtain ⟨v, w, y, hv, h1, h2, h3⟩ := VRs_three hl
    obtain ⟨t, rfl⟩ := VR_int_of h1
    obtain ⟨u, rfl⟩ := VR_int_of h2
    obtain ⟨z, rfl⟩ := VR_int_of h3
    cases hv
    refine call_range_3 (hp := .inl hpl) hc ?_
    exact range_tail O (P₁.trans (Post.push P₁.rel _ _)) (Heap.get?_push_size _ rfl) hsm hsz q
noncomputable def chrs (x : Str) : List V := x.cps.toList.map fun c => .str ⟨#[c]⟩
theorem strIter_type (x : Str) : strIterType x = "str_ascii_iterator" ∨ strIterType x = "str_iterator" := by unfold strIterType; split <;> simp
theorem wk_str {B : Bs} {it : Addr} {x : Str} {t : Tok} : Wk B it (chrs x) (fun k z_ z_ h => h.IsStrIter it (strIterType x) x t k) (fun z_ => True) where
  obj := fun {k μ σ h} ⟨o, e, c, d⟩ => ⟨o, _, _, e, c, d, by rcases strIter_type x with q | q <;> rw [q] <;> decide⟩
  self := fun h q => by
    rcases strIter_type x with z | z <;> rw [z] at h
    · exact wpAny_pyIter_striter_ascii h q
    · exact wpAny_pyIter_striter_wide h q
  item := fun {A k μ σ s Q E y} hh R hx hC ht no hQ => by
    unfold chrs at hx
    rw [List.getElem?_map] at hx
    obtain ⟨c, hc, rfl⟩ := Option.map_eq_some_iff.mp hx
    have hc' : x.cps[k]? = some c := by rw [← Array.getElem?_toList]; exact hc
    rcases strIter_type x with z | z <;> rw [z] at ht hQ
    · exact wpAny_pyNext_ascii_item ht hc' fun h' ht' hs => hQ _ h' _ VR_str ht' hs
    · exact wpAny_pyNext_wide_item ht hc' fun h' ht' hs => hQ _ h' _ VR_str ht' hs
  done := fun {A μ σ s Q E} hh R hC ht hQ => by
    have hn : x.cps[(chrs x).length]? = none := by simp [chrs]
    rcases strIter_type x with z | z <;> rw [z] at ht
    · exact wpAny_pyNext_ascii_end hh ht hn fun h' he => hQ h' s.toks he
    · exact wpAny_pyNext_wide_end hh ht hn fun h' he => hQ h' s.toks he
  keep := fun {k fr fx μ σ s μ' σ' s'} ⟨o, e, c, d⟩ R hC hC' no nx nr _ P => ⟨o, keep_rec P e no nx nr, c, d⟩
theorem ITER_str {x : Str} : ITER B n X (.str x) (chrs x) (fun z_ => True) σ := fun A μ s va O ha => by
  obtain ⟨t, rfl⟩ := VR_str_of ha
  exact new_walk O _ wk_str ⟨_, Heap.get?_push_size _ rfl, rfl, rfl⟩ fun Q E hQ => wpAny_pyIter_strU hQ
theorem OR.freeze {N : Nat} {h : Heap} {i : Nat} {l : List (Int × V)} (x : OR B μ N h i (.dI l)) : ∃ ep, OR B μ N h i (.dF l ep) := by
  refine shut fun P_ o_ => ?_
  obtain ⟨kvs, hd, e, hv⟩ := x
  refine o_ ?_
  obtain ⟨ep, ha⟩ := hd.dictAt
  exact ⟨ep, kvs, ha, e, hv⟩
theorem OR.thaw {N : Nat} {h : Heap} {i : Nat} {l : List (Int × V)} {ep : Nat} (x : OR B μ N h i (.dF l ep)) : OR B μ N h i (.dI l) := by
  obtain ⟨kvs, hd, e, hv⟩ := x
  exact ⟨kvs, hd.dictOf, e, hv⟩
theorem Post.recast {i : Nat} {o o' : AO} (R : Rel B μ σ s.heap) (hi : σ[i]? = some o) (ho : OR B μ σ.length s.heap i o') (hd : OD μ i o → OD μ i o') : Post B fr fx μ σ s μ (σ.set i o') s :=
  Post.upd (s' := s) R hi (fun z_ z_ z_ => rfl) ho (hd (R.one i _ hi)) fun b o e => ⟨o, e⟩
theorem Rel.dF (R : Rel B μ σ s.heap) {i : Nat} {l : List (Int × V)} {ep : Nat} (hi : σ[i]? = some (.dF l ep)) : ∃ kvs : List (Int × Value), s.heap.DictAt (intKind B.prog B.w) (μ.a i) kvs ep ∧ kvs.map (·.1) = l.map (·.1) ∧ VRs μ σ.length s.heap (l.map (·.2)) (kvs.map (·.2)) := R.obj i _ hi
theorem wk_dict {B : Bs} {it : Addr} {i : Nat} {l : List (Int × V)} {ep : Nat} : Wk B it (l.map fun p => .int p.1) (fun k μ σ h => h.IsKeyIter it (μ.a i) k l.length ep) (fun σ => σ[i]? = some (.dF l ep)) where
  obj := fun {k μ σ h} ⟨o, e, c, d⟩ => ⟨o, _, _, e, c, d, by decide⟩
  self := fun h q => wpAny_pyIter_keyiter h q
  item := fun {A k μ σ s Q E y} hh R hx hC ht no hQ => by
    obtain ⟨kvs, hd, e, hu⟩ := R.dF hC
    have hlen : kvs.length = l.length := by have := congrArg List.length e; simpa using this
    rw [List.getElem?_map] at hx
    refine shut fun P_ o_ => ?_
    obtain ⟨p, hp, rfl⟩ := Option.map_eq_some_iff.mp hx
    refine o_ ?_
    have hk : (kvs.map (·.1))[k]? = some p.1 := by simp only [e, List.getElem?_map, hp]; rfl
    rw [List.getElem?_map] at hk
    obtain ⟨⟨k1, v1⟩, hk1, hk2⟩ := Option.map_eq_some_iff.mp hk
    rw [← hlen] at ht
    refine wpAny_pyNext_dict_item ht hd hk1 fun key h' hkey ht' hs => ?_
    obtain ⟨t, rfl⟩ := Value.isInt_shape hkey
    rw [hlen] at ht'
    refine hQ _ h' s.toks ?_ ht' hs
    rw [← hk2]; exact VR_int
  done := fun {A μ σ s Q E} hh R hC ht hQ => by
    obtain ⟨kvs, hd, e, hu⟩ := R.dF hC
    have hlen : kvs.length = l.length := by have := congrArg List.length e; simpa using this
    rw [List.length_map] at ht
    rw [← hlen] at ht
    exact wpAny_pyNext_dict_end hh ht hd (by simp) fun h' he => hQ h' s.toks he
  keep := fun {k fr fx μ σ s μ' σ' s'} ⟨o, e, c, d⟩ R hC hC' no nx nr _ P => ⟨o, keep_rec P e no nx nr, c, by rw [(P.agree i (idx_lt hC)).1]; exact d⟩
inductive DcQ (Q : List V → (List AO → Prop) → List AO → Prop) (a : V) (σ₁ : List AO) : Prop
  | mk (i : Nat) (l : List (Int × V)) (e : a = .ref i) (hi : σ₁[i]? = some (.dI l)) (q : ∀ ep, Q (l.map fun p => .int p.1) (fun σ => σ[i]? = some (.dF l ep)) (σ₁.set i (.dF l ep)))
theorem IE_dict {iter : Expr} {Q : List V → (List AO → Prop) → List AO → Prop} (h : EV B n X G m σ iter (DcQ Q)) : IE B n X G m σ iter Q := fun A env fx μ s O => by
  refine wpAny_mono (h A env fx μ s O) (fun va s₁ z_ => ?_) fun z_ z_ x => x
  refine shut fun P_ o_ => ?_
  obtain ⟨μ₁, σ₁, P₁, a, ha, i, l, e1, hi, q⟩ := z_
  refine o_ ?_
  subst e1
  have O₁ := O.next P₁
  obtain ⟨hlt, rfl⟩ := VR_ref_of ha
  obtain ⟨ep, hor⟩ := (O₁.rel.obj i _ hi).freeze
  have P₂ : Post B (frs A) [] μ₁ σ₁ s₁ μ₁ (σ₁.set i (.dF l ep)) s₁ := Post.recast O₁.rel hi hor id
  have O₂ := O₁.next P₂
  have hi₂ : (σ₁.set i (.dF l ep))[i]? = some (.dF l ep) := by rw [List.getElem?_set_self hlt]
  refine shut fun P_ o_ => ?_
  obtain ⟨kvs, hd, e, hu⟩ := O₂.rel.dF hi₂
  refine o_ ?_
  have hlen : kvs.length = l.length := by have := congrArg List.length e; simpa using this
  have hwk : Wk B s₁.heap.objs.size (l.map fun p => V.int p.1) (fun k μ σ h => h.IsKeyIter s₁.heap.objs.size (μ.a i) k l.length ep) (fun σ => σ[i]? = some (.dF l ep)) := wk_dict
  refine wpAny_pyIter_dict (knd := intKind B.prog B.w) (O₁.rel.notSys hlt) hd ?_
  have hn := Heap.get?_none_of_le (Nat.le_refl s₁.heap.objs.size)
  have hsn : s.heap.get? s₁.heap.objs.size = none := by
    cases q : s.heap.get? s₁.heap.objs.size with
    | none => rfl
    | some o => obtain ⟨o', e'⟩ := P₁.ex _ o q; rw [hn] at e'; cases e'
  refine ⟨μ₁, _, _, _, _, _, (P₁.trans P₂).trans (Post.push P₂.rel _ s₁.toks), rfl, hsn, not_own_new O₂.rel hn, hwk, ?_, q ep⟩
  rw [hlen]
  exact ⟨_, Heap.get?_push_size _ rfl, rfl, rfl⟩
theorem EXs_thaw {st : List Stmt} {Q : AF → Loc → List AO → Prop} {i : Nat} {l : List (Int × V)} {ep : Nat} (hi : σ[i]? = some (.dF l ep)) (h : EXs B n X G m (σ.set i (.dI l)) st Q) : EXs B n X G m σ st Q := fun A env fx μ s hf O =>
  let P : Post B (frs A) [] μ σ s μ (σ.set i (.dI l)) s := Post.recast O.rel hi (O.rel.obj i _ hi).thaw id
  W.from P.weaken (h A env fx μ s hf (O.next P))
theorem SUB_dF {i : Nat} {l : List (Int × V)} {ep : Nat} {k : Int} {x : V} (hi : σ[i]? = some (.dF l ep)) (hx : at? l k = some x) (h : Q x σ) : SUB B n X (.ref i) (.int k) σ Q := fun A μ s va vb O ha hb => by
  obtain ⟨t, rfl⟩ := VR_int_of hb
  obtain ⟨-, rfl⟩ := VR_ref_of ha
  refine shut fun P_ o_ => ?_
  obtain ⟨kvs, hd, e, hv⟩ := O.rel.dF hi
  obtain ⟨v, hv1, hv2⟩ := (at_some e hv).1 hx
  refine o_ ?_
  refine ⟨"dict", _, PySem.slot_dict_getitem.lookup, hd.dictOf.typeIs, ?_⟩
  exact wpAny_getItem_of (knd := intKind B.prog B.w) (k := k) (by simp [intKind, Value.isInt]) hd.dictOf.mapOf hv1 (fin_tok O.rel hv2 h)
end
open PySem.SeqAt
noncomputable def veq (a b : V) : Bool := @decide (a = b) (Classical.propDecidable _)
noncomputable def veqs (l r : List V) : Bool := @decide (l = r) (Classical.propDecidable _)
theorem veq_iff {a b : V} : veq a b = true ↔ a = b := @decide_eq_true_iff _ (Classical.propDecidable _)
theorem veqs_iff {a b : List V} : veqs a b = true ↔ a = b := @decide_eq_true_iff _ (Classical.propDecidable _)
theorem veq_of {a b : V} {c : Bool} (h : a = b ↔ c = true) : veq a b = c := Bool.eq_iff_iff.mpr (veq_iff.trans h)
theorem veq_ne {a b : V} (h : a = b → False) : veq a b = false := veq_of ⟨fun e => (h e).elim, fun e => Bool.noConfusion e⟩
noncomputable def tupV (f : V → Bool) : V → Bool
  | .int _ => true
  | .str _ => true
  | .tup l => l.all f
  | _ => false
noncomputable def pureV : Nat → V → Bool
  | 0 => tupV fun z_ => false
  | d + 1 => tupV (pureV d)
noncomputable def pureVs (d : Nat) (l : List V) : Bool := l.all (pureV d)
inductive TV (f : V → Bool) : V → Prop
  | int (i : Int) : TV f (.int i)
  | str (i : Str) : TV f (.str i)
  | tup (l : List V) (h : l.all f = true) : TV f (.tup l)
theorem TV.of {f : V → Bool} {a : V} (h : tupV f a = true) : TV f a := by
  cases a with
  | int i => exact .int i
  | str i => exact .str i
  | tup l => exact .tup l h
  | _ => exact Bool.noConfusion h
section
variable {μ μ' : Mp} {N N' : Nat} {h : Heap} {f : V → Bool}
noncomputable def InjF (μ μ' : Mp) (N N' : Nat) (h : Heap) (f : V → Bool) : Prop := ∀ a b v, f a = true → f b = true → VR μ N h a v → VR μ' N' h b v → a = b
theorem all_inj (ih : InjF μ μ' N N' h f) {a b : List V} {v : List Value} (h1 : a.all f = true) (h2 : b.all f = true) (e1 : VRs μ N h a v) (e2 : VRs μ' N' h b v) : a = b := by
  refine List.ext_getElem ((VRs_length e1).symm.trans (VRs_length e2)) fun j j1 j2 => ?_
  refine shut fun P_ o_ => ?_
  obtain ⟨w, q1, p1⟩ := VRs_get e1 (List.getElem?_eq_getElem j1)
  obtain ⟨w', q2, p2⟩ := VRs_get e2 (List.getElem?_eq_getElem j2)
  refine o_ ?_
  rw [q1] at q2
  rw [← Option.some.inj q2] at p2
  exact ih _ _ w (List.all_eq_true.mp h1 _ (List.getElem_mem j1)) (List.all_eq_true.mp h2 _ (List.getElem_mem j2)) p1 p2
theorem tup_inj (ih : InjF μ μ' N N' h f) {a b : V} {v : Value} (h1 : TV f a) (h2 : TV f b) (e1 : VR μ N h a v) (e2 : VR μ' N' h b v) : a = b := by
  cases h1 with
  | int i =>
    obtain ⟨t, q⟩ := VR_int_of e1
    rw [q] at e2
    cases h2 with
    | int j => obtain ⟨u, q⟩ := VR_int_of e2; rw [(Value.int.inj q).1]
    | str j => obtain ⟨u, q⟩ := VR_str_of e2; exact Value.noConfusion q
    | tup l _ => obtain ⟨_, _, q, _⟩ := VR_tup_of e2; exact Value.noConfusion q
  | str i =>
    obtain ⟨t, q⟩ := VR_str_of e1
    rw [q] at e2
    cases h2 with
    | int j => obtain ⟨u, q⟩ := VR_int_of e2; exact Value.noConfusion q
    | str j => obtain ⟨u, q⟩ := VR_str_of e2; rw [(Value.str.inj q).1]
    | tup l _ => obtain ⟨_, _, q, _⟩ := VR_tup_of e2; exact Value.noConfusion q
  | tup l hl =>
    obtain ⟨a, items, q, ⟨o, ho, _, k, hd⟩, hv⟩ := VR_tup_of e1
    rw [q] at e2
    cases h2 with
    | int j => obtain ⟨u, q⟩ := VR_int_of e2; exact Value.noConfusion q
    | str j => obtain ⟨u, q⟩ := VR_str_of e2; exact Value.noConfusion q
    | tup r hr =>
      refine shut fun P_ o_ => ?_
      obtain ⟨a', items', q, ⟨o', ho', _, k', hd'⟩, hv'⟩ := VR_tup_of e2
      refine o_ ?_
      rw [← Value.ref.inj q, ho] at ho'
      rw [← Option.some.inj ho', hd] at hd'
      have : items = items' := congrArg Array.toList (Data.seq.inj hd').1
      rw [← this] at hv'
      rw [all_inj ih hl hr hv hv']
theorem VR_inj : ∀ d : Nat, InjF μ μ' N N' h (pureV d)
  | 0, _, _, _, h1, h2, e1, e2 => tup_inj (fun z_ z_ z_ z => Bool.noConfusion z) (TV.of h1) (TV.of h2) e1 e2
  | d + 1, _, _, _, h1, h2, e1, e2 => tup_inj (VR_inj d) (TV.of h1) (TV.of h2) e1 e2
end
theorem getD_at {l : List V} {j : Nat} (h : j < l.length) : l.getD j .none = l[j] := by simp [h]
theorem tup_all {l r : List V} : ((List.range (min l.length r.length)).all (fun j => veq (l.getD j .none) (r.getD j .none)) && l.length == r.length) = veqs l r := by
  rw [Bool.eq_iff_iff, veqs_iff, Bool.and_eq_true, List.all_eq_true, beq_iff_eq]
  refine ⟨fun ⟨h1, h2⟩ => List.ext_getElem h2 fun j j1 j2 => ?_, fun e => ⟨fun j z_ => by rw [e]; exact veq_iff.mpr rfl, by rw [e]⟩⟩
  have := veq_iff.mp (h1 j (List.mem_range.mpr (Nat.lt_min.mpr ⟨j1, j2⟩)))
  rwa [getD_at j1, getD_at j2] at this
section
variable {B : Bs} {n : Nat} {X : V → List AO → Prop} {σ : List AO} {μ μ' : Mp} {N N' : Nat} {A : Around} {s : Shared} {Q : V → List AO → Prop}
theorem items_get {h : Heap} {l : List V} {us : List Value} (hv : VRs μ N h l us) (j : Nat) (h1 : j < us.toArray.size) : ∃ x, l[j]? = some x ∧ l.getD j .none = x ∧ VR μ N h x us.toArray[j] := by
  have hl := VRs_length hv
  have hj : j < l.length := hl ▸ h1
  obtain ⟨v, e, q⟩ := VRs_get hv (List.getElem?_eq_getElem hj)
  refine ⟨l[j], List.getElem?_eq_getElem hj, getD_at hj, ?_⟩
  have h1' : j < us.length := h1
  rw [List.getElem?_eq_getElem h1'] at e
  rw [← Option.some.inj e] at q
  exact q
theorem pureVs_get {f : V → Bool} {l : List V} (h : l.all f = true) {j : Nat} {x : V} (e : l[j]? = some x) : f x = true := List.all_eq_true.mp h x (List.mem_of_getElem? e)
noncomputable def EqF (μ μ' : Mp) (N N' : Nat) (s : Shared) (f : V → Bool) (c : Nat) : Prop := ∀ A a b va vb, f a = true → f b = true → VR μ N s.heap a va → VR μ' N' s.heap b vb → A.units + c < cLine → EqAt A s va vb (veq a b)
theorem eqAt_step {f : V → Bool} {c : Nat} (inj : InjF μ μ' N N' s.heap f) (ih : EqF μ μ' N N' s f c) {a b : V} {va vb : Value} (h1 : TV f a) (h2 : TV f b) (e1 : VR μ N s.heap a va) (e2 : VR μ' N' s.heap b vb) (hu : A.units + (c + 1) < cLine) : EqAt A s va vb (veq a b) := by
  cases h1 with
  | int i =>
    obtain ⟨t, q⟩ := VR_int_of e1
    rw [q]
    cases h2 with
    | int j => obtain ⟨u, q'⟩ := VR_int_of e2; rw [q', veq_of (c := i == j) (by rw [beq_iff_eq, V.int.injEq])]; exact EqAt.int_int _ _ _ _
    | str j => obtain ⟨u, q'⟩ := VR_str_of e2; rw [q', veq_ne fun e => V.noConfusion e]; exact EqAt.int_str _ _ _ _
    | tup r _ => obtain ⟨u, _, q', ht, _⟩ := VR_tup_of e2; rw [q', veq_ne fun e => V.noConfusion e]; exact EqAt.int_tuple _ _ ht (by lia -abstractProof)
  | str i =>
    obtain ⟨t, q⟩ := VR_str_of e1
    rw [q]
    cases h2 with
    | int j => obtain ⟨u, q'⟩ := VR_int_of e2; rw [q', veq_ne fun e => V.noConfusion e]; exact EqAt.str_int _ _ _ _
    | str j => obtain ⟨u, q'⟩ := VR_str_of e2; rw [q', veq_of (c := i == j) (by rw [beq_iff_eq, V.str.injEq])]; exact EqAt.str_str _ _ _ _
    | tup r _ => obtain ⟨u, _, q', ht, _⟩ := VR_tup_of e2; rw [q', veq_ne fun e => V.noConfusion e]; exact EqAt.str_tuple _ _ ht (by lia -abstractProof)
  | tup l hl =>
    obtain ⟨x, us, q, ht, hv⟩ := VR_tup_of e1
    rw [q] at e1 ⊢
    cases h2 with
    | int j => obtain ⟨u, q'⟩ := VR_int_of e2; rw [q', veq_ne fun e => V.noConfusion e]; exact EqAt.tuple_int _ _ ht (by lia -abstractProof)
    | str j => obtain ⟨u, q'⟩ := VR_str_of e2; rw [q', veq_ne fun e => V.noConfusion e]; exact EqAt.tuple_str _ _ ht (by lia -abstractProof)
    | tup r hr =>
      obtain ⟨y, ws, q', ht', hv'⟩ := VR_tup_of e2
      rw [q'] at e2 ⊢
      by_cases q : x = y
      · rw [← q] at e2 ⊢
        rw [tup_inj inj (.tup l hl) (.tup r hr) e1 e2, veq_iff.mpr rfl]
        exact EqAt.same _
      · refine EqAt.of_refs q ?_
        have key := RcAt.tuples (A := A) (e := fun j => veq (l.getD j .none) (r.getD j .none)) ht ht' (by lia -abstractProof) fun j h3 h4 => by
          refine shut fun P_ o_ => ?_
          obtain ⟨x, q1, q2, q3⟩ := items_get hv j h3
          obtain ⟨y, r1, r2, r3⟩ := items_get hv' j h4
          refine o_ ?_
          show EqAt _ _ _ _ (veq (l.getD j .none) (r.getD j .none))
          rw [q2, r2]
          exact ih _ _ _ _ _ (pureVs_get hl q1) (pureVs_get hr r1) q3 r3 (by show A.units + 1 + c < cLine; lia -abstractProof)
        rw [List.size_toArray, List.size_toArray, VRs_length hv, VRs_length hv', tup_all] at key
        rw [veq_of (c := veqs l r) (by rw [veqs_iff, V.tup.injEq])]
        exact key
theorem eqAt_pure : ∀ d : Nat, EqF μ μ' N N' s (pureV d) (d + 1)
  | 0, _, _, _, _, _, h1, h2, e1, e2, hu => eqAt_step (fun z_ z_ z_ z => Bool.noConfusion z) (fun z_ z_ z_ z_ z_ z => Bool.noConfusion z) (TV.of h1) (TV.of h2) e1 e2 hu
  | d + 1, _, _, _, _, _, h1, h2, e1, e2, hu => eqAt_step (VR_inj d) (eqAt_pure d) (TV.of h1) (TV.of h2) e1 e2 hu
theorem eqAt_at {l r : List V} {us ws : List Value} (hv : VRs μ N s.heap l us) (hv' : VRs μ N s.heap r ws) {d : Nat} (h1 : l.all (pureV d) = true) (h2 : r.all (pureV d) = true) (hu : A.units + d + 1 < cLine) (j : Nat) (h3 : j < us.toArray.size) (h4 : j < ws.toArray.size) : EqAt A s us.toArray[j] ws.toArray[j] (veq (l.getD j .none) (r.getD j .none)) := by
  refine shut fun P_ o_ => ?_
  obtain ⟨x, q1, q2, q3⟩ := items_get hv j h3
  obtain ⟨y, r1, r2, r3⟩ := items_get hv' j h4
  refine o_ ?_
  rw [q2, r2]
  exact eqAt_pure d _ _ _ _ _ (pureVs_get h1 q1) (pureVs_get h2 r1) q3 r3 (by lia -abstractProof)
theorem OP_eqV {l r : List V} (h1 : pureV 40 (.tup l) = true) (h2 : pureV 40 (.tup r) = true) (h : Q (.bool (veqs l r)) σ) : OP2 B n X (.tup l) (.tup r) σ (compareOp .Eq) Q := fun A μ s va vb O e1 e2 => by
  have hu := O.units
  obtain ⟨x, us, rfl, ht, hv⟩ := VR_tup_of e1
  obtain ⟨y, ws, rfl, ht', hv'⟩ := VR_tup_of e2
  have key := RcAt.tuples (A := A) (e := fun j => veq (l.getD j .none) (r.getD j .none)) ht ht' (by unfold cLine; lia -abstractProof) fun j h3 h4 => eqAt_at (d := 39) hv hv' h1 h2 (by show A.units + 1 + 39 + 1 < cLine; unfold cLine; lia -abstractProof) j h3 h4
  rw [List.size_toArray, List.size_toArray, VRs_length hv, VRs_length hv', tup_all] at key
  exact key _ _ _ _ (fin_same O.rel VR_bool h)
theorem OP_neV {l r : List V} (h1 : pureV 40 (.tup l) = true) (h2 : pureV 40 (.tup r) = true) (h : Q (.bool !(veqs l r)) σ) : OP2 B n X (.tup l) (.tup r) σ (compareOp .NotEq) Q := fun A μ s va vb O e1 e2 => by
  have hu := O.units
  obtain ⟨x, us, rfl, ht, hv⟩ := VR_tup_of e1
  obtain ⟨y, ws, rfl, ht', hv'⟩ := VR_tup_of e2
  have key := RcNeAt.tuples (A := A) (e := fun j => veq (l.getD j .none) (r.getD j .none)) ht ht' (by unfold cLine; lia -abstractProof) fun j h3 h4 => eqAt_at (d := 39) hv hv' h1 h2 (by show A.units + 1 + 39 + 1 < cLine; unfold cLine; lia -abstractProof) j h3 h4
  rw [List.size_toArray, List.size_toArray, VRs_length hv, VRs_length hv', tup_all] at key
  exact key _ _ _ _ (fin_same O.rel VR_bool h)
theorem OP_neL {i j : Nat} {l r : List V} (hi : σ[i]? = some (.list l)) (hj : σ[j]? = some (.list r)) (h1 : pureVs 40 l = true) (h2 : pureVs 40 r = true) (h : Q (.bool !(veqs l r)) σ) : OP2 B n X (.ref i) (.ref j) σ (compareOp .NotEq) Q := fun A μ s va vb O e1 e2 => by
  have hu := O.units
  obtain ⟨-, rfl⟩ := VR_ref_of e1
  obtain ⟨-, rfl⟩ := VR_ref_of e2
  obtain ⟨us, hl, hv⟩ := O.rel.list hi
  obtain ⟨ws, hl', hv'⟩ := O.rel.list hj
  have z1 := VRs_length hv
  have z2 := VRs_length hv'
  by_cases q : l.length = r.length
  · have key := RcNeAt.lists (A := A) (e := fun j => veq (l.getD j .none) (r.getD j .none)) hl.isList hl'.isList (by simp [z1, z2, q]) (by unfold cLine; lia -abstractProof) fun j h3 h4 => eqAt_at (d := 40) hv hv' h1 h2 (by show A.units + 1 + 40 + 1 < cLine; unfold cLine; lia -abstractProof) j h3 h4
    have e : (List.range us.toArray.size).all (fun j => veq (l.getD j .none) (r.getD j .none)) = veqs l r := by
      rw [← tup_all, List.size_toArray, z1, ← q]; simp
    rw [e] at key
    exact key _ _ _ _ (fin_same O.rel VR_bool h)
  · have e : veqs l r = false := by
      cases z : veqs l r with
      | false => rfl
      | true => exact absurd (congrArg List.length (veqs_iff.mp z)) q
    rw [e] at h
    have key := RcNeAt.lists_lengths (A := A) hl.isList hl'.isList (by simp [z1, z2, q]) (by unfold cLine; lia -abstractProof)
    exact key _ _ _ _ (fin_same O.rel VR_bool h)
theorem OP_neL0 {i j : Nat} {l : List V} (hi : σ[i]? = some (.list l)) (hj : σ[j]? = some (.list [])) (hz : l.length ≤ 100000) (h : Q (.bool !l.isEmpty) σ) : OP2 B n X (.ref i) (.ref j) σ (compareOp .NotEq) Q := fun A μ s va vb O e1 e2 => by
  have hu := O.units
  obtain ⟨-, rfl⟩ := VR_ref_of e1
  obtain ⟨-, rfl⟩ := VR_ref_of e2
  obtain ⟨us, hl, hv⟩ := O.rel.list hi
  obtain ⟨ws, hl', hv'⟩ := O.rel.list hj
  have z1 := VRs_length hv
  have z2 := VRs_length hv'
  cases l with
  | nil =>
    have key := RcNeAt.lists (A := A) (e := fun z_ => true) hl.isList hl'.isList (by simp [z1, z2]) (by unfold cLine; lia -abstractProof) fun j h3 h4 => absurd h3 (by simp [z1])
    rw [List.size_toArray, z1] at key
    exact key _ _ _ _ (fin_same O.rel VR_bool h)
  | cons a l =>
    have key := RcNeAt.lists_lengths (A := A) hl.isList hl'.isList (by simp [z1, z2]) (by unfold cLine; lia -abstractProof)
    exact key _ _ _ _ (fin_same O.rel VR_bool h)
theorem OP_eqL0 {i j : Nat} {l : List V} (hi : σ[i]? = some (.list l)) (hj : σ[j]? = some (.list [])) (hz : l.length ≤ 100000) (h : Q (.bool l.isEmpty) σ) : OP2 B n X (.ref i) (.ref j) σ (compareOp .Eq) Q := fun A μ s va vb O e1 e2 => by
  have hu := O.units
  obtain ⟨-, rfl⟩ := VR_ref_of e1
  obtain ⟨-, rfl⟩ := VR_ref_of e2
  obtain ⟨us, hl, hv⟩ := O.rel.list hi
  obtain ⟨ws, hl', hv'⟩ := O.rel.list hj
  have z1 := VRs_length hv
  have z2 := VRs_length hv'
  cases l with
  | nil =>
    have key := RcAt.lists (A := A) (e := fun z_ => true) hl.isList hl'.isList (by simp [z1, z2]) (by unfold cLine; lia -abstractProof) fun j h3 h4 => absurd h3 (by simp [z1])
    rw [List.size_toArray, z1] at key
    exact key _ _ _ _ (fin_same O.rel VR_bool h)
  | cons a l =>
    have key := RcAt.lists_lengths (A := A) hl.isList hl'.isList (by simp [z1, z2]) (by unfold cLine; lia -abstractProof)
    exact key _ _ _ _ (fin_same O.rel VR_bool h)
end
section
variable {B : Bs} {n : Nat} {X : V → List AO → Prop} {G G' : Gs} {m : Loc} {σ σ' : List AO} {μ μ' : Mp} {s s' : Shared} {fr fx : List Addr} {A : Around} {env : Env} {Q : V → List AO → Prop}
theorem OP_ninL {i : Nat} {l : List Int} {k : Int} (hi : σ[i]? = some (.list (l.map V.int))) (h : Q (.bool !(l.any (· == k))) σ) : OP2 B n X (.int k) (.ref i) σ (compareOp .NotIn) Q := fun A μ s va vb O ha hb => by
  obtain ⟨t, rfl⟩ := VR_int_of ha
  obtain ⟨-, rfl⟩ := VR_ref_of hb
  obtain ⟨us, hl, hv⟩ := O.rel.list hi
  show wpAny _ _ _ _ _ _
  exact notin_list_ints hl.isList (ints_of hv) (fin_same O.rel VR_bool h)
theorem OP_ninS {x y : Str} (h : Q (.bool (!(!(Builtin.Str.occurrences x y 0 x.length 1).isEmpty))) σ) : OP2 B n X (.str y) (.str x) σ (compareOp .NotIn) Q := fun A μ s va vb O ha hb => by
  obtain ⟨t, rfl⟩ := VR_str_of ha; obtain ⟨u, rfl⟩ := VR_str_of hb
  show wpAny _ _ _ _ _ _
  with_reducible refine PyProof.Rows.notIn_str ?_
  exact fin_same O.rel VR_bool h
theorem OP_indexL {i : Nat} {l : List Int} {k : Int} {j : Nat} (hi : σ[i]? = some (.list (l.map V.int))) (hz : l.length ≤ 100000) (hj : j < l.length) (hk : l[j]? = some k) (hno : ∀ p, p < j → l[p]? ≠ some k) (h : Q (.int j) σ) : OPs B n X [.ref i, .int k] σ (fun vs => call (.builtin "list.index") vs) Q := fun A μ s vs O hv => by
  obtain ⟨v, w, rfl, h1, h2⟩ := VRs_two hv
  obtain ⟨-, rfl⟩ := VR_ref_of h1
  obtain ⟨t, rfl⟩ := VR_int_of h2
  refine shut fun P_ o_ => ?_
  obtain ⟨us, ⟨c, ho⟩, hu⟩ := O.rel.list hi
  refine o_ ?_
  have hlen := VRs_length hu
  rw [List.length_map] at hlen
  have at_ : ∀ p (hp : p < us.toArray.size), ∃ t x, us.toArray[p] = .int x t ∧ l[p]? = some x := fun p hp => by
    refine shut fun P_ o_ => ?_
    obtain ⟨x, q1, q2, q3⟩ := items_get hu p hp
    refine o_ ?_
    rw [List.getElem?_map] at q1
    obtain ⟨y, hy, rfl⟩ := Option.map_eq_some_iff.mp q1
    obtain ⟨t, ht⟩ := VR_int_of q3
    exact ⟨t, y, ht, hy⟩
  let e : Value → Bool := fun v => match v with | .int x _ => x == k | _ => false
  have hjs : j < us.toArray.size := by simp only [List.size_toArray, hlen]; exact hj
  show wpAny _ _ _ _ _ _
  refine PySem.call_meets PySem.F.slot_list_index (T := "list") ⟨_, ho, rfl⟩ PySem.F.entry_list_index (PySem.F.args_list_index_2 _ _)
    (MeetsSeq.list_index (μ.a i) us.toArray c (.int k t) e (fun y hy => ?_) j hjs (by lia -abstractProof) ?_ (fun p hp hlt => ?_)) ⟨ho, fin_tok O.rel VR_int h⟩
  · obtain ⟨p, hp, rfl⟩ := Array.getElem_of_mem hy
    obtain ⟨t', x, e1, _⟩ := at_ p hp
    rw [e1]
    exact MeetsSeq.EqGives.int x k t' t
  · obtain ⟨t', x, e1, e2⟩ := at_ j hjs
    rw [e1]
    rw [hk] at e2
    cases e2
    show (k == k) = true
    simp
  · obtain ⟨t', x, e1, e2⟩ := at_ p hp
    rw [e1]
    show (x == k) = false
    rw [beq_eq_false_iff_ne]
    intro q
    exact hno p hlt (by rw [e2, q])
inductive As2 (m : Loc) (x y : Str) (Q : Loc → List AO → Prop) (a b : V) (σ : List AO) : Prop
  | mk (m₁ m₂ : Loc) (u₁ : Upd m x a m₁) (u₂ : Upd m₁ y b m₂) (q : Q m₂ σ)
theorem W_assign2 {x y : Str} {px py : Pos} {k : Nat} {pos : Pos} {a b : V} {v : Value} {Q : Loc → List AO → Prop} (hf : env.func.isSome = true) (O : Ok B n G A env fx m μ σ s) (hv : VR μ σ.length s.heap (.tup [a, b]) v)
    (h : As2 m x y Q a b σ) : W B X A fx μ σ s (assign (.Tuple [.Name x px, .Name y py] k pos) env v) (AGq B n G A env fx Q) := by
  obtain ⟨m₁, m₂, u₁, u₂, q⟩ := h
  refine shut fun P_ o_ => ?_
  obtain ⟨t, items, rfl, ht, hit⟩ := VR_tup_of hv
  obtain ⟨va, vb, rfl, ha, hb⟩ := VRs_two hit
  refine o_ ?_
  have he : assignEach [.Name x px, .Name y py] env = [(false, assign (.Name x px) env), (false, assign (.Name y py) env)] := rfl
  show wpAny _ _ _ _ _ _
  refine wpAny_assign_Tuple O.hnd ht (by rw [he]; rfl) (by rw [he]; rfl) fun h' hx => ?_
  have kp : ∀ b o, s.heap.get? b = some o → h'.get? b = some o := fun b o e => hx b o (Nat.ne_of_lt (Heap.lt_size e)) e
  have P : Post B (frs A) [] μ σ s μ σ { s with heap := h' } := Post.grow O.rel kp
  have O₁ := O.next P
  simp only [he]
  show wpAny _ _ (assignInOrder [assign (.Name x px) env, assign (.Name y py) env] [va, vb]) _ _ _
  refine assignInOrder_cons (wpAny_assign_Name (wpAny_mono (W_store' (E := QE B (frs A) fx μ σ s X) O₁ (.inl hf) u₁ (O.vr P.weaken ha)) (fun z_ s₂ z_ => ?_) fun z_ z_ x => x))
  refine shut fun P_ o_ => ?_
  obtain ⟨P₂, O₂⟩ := z_
  refine o_ ?_
  have hb₂ : VR μ σ.length s₂.heap b vb := VR.post O₁.rel P₂ O₁.nt (O.vr P.weaken hb)
  refine assignInOrder_cons (wpAny_assign_Name (wpAny_mono (W_store' (E := QE B (frs A) fx μ σ s X) O₂ (.inl hf) u₂ hb₂) (fun z_ s₃ z_ => ?_) fun z_ z_ x => x))
  refine shut fun P_ o_ => ?_
  obtain ⟨P₃, O₃⟩ := z_
  refine o_ ?_
  exact assignInOrder_nil ⟨_, _, (P.weaken.trans P₂).trans P₃, m₂, O₃, q⟩
theorem ASG_two {x y : Str} {px py : Pos} {k : Nat} {pos : Pos} {a b : V} {Q : Loc → List AO → Prop} (h : As2 m x y Q a b σ) : ASG B n X G m (.Tuple [.Name x px, .Name y py] k pos) (.tup [a, b]) σ Q := fun A env fx μ s v hf O hv => W_assign2 hf O hv h
inductive As2T (m : Loc) (x y : Str) (Q : Loc → List AO → Prop) (c : V) (σ : List AO) : Prop
  | mk (a b : V) (e : c = .tup [a, b]) (q : As2 m x y Q a b σ)
theorem EX_assign2 {x y : Str} {px py : Pos} {k : Nat} {tpos pos : Pos} {value : Expr} {Q : AF → Loc → List AO → Prop} (h : EV B n X G m σ value (As2T m x y (Q .nxt)))
    (hs : ∀ env, swapsWithSole [.Tuple [.Name x px, .Name y py] k tpos] value pos.line env = pure false := by intro _; rfl) (hw : ∀ env, swappedStores [.Tuple [.Name x px, .Name y py] k tpos] value env = pure none := by intro _; rfl) :
    EX B n X G m σ (.Assign [.Tuple [.Name x px, .Name y py] k tpos] value pos) Q := fun A env fx μ s hf O => by
  refine PyProof.Rows.Assign_Tuple (wpAny_mono (h A env fx μ s O) (fun v s₁ z_ => ?_) fun z_ z_ x => x.weaken) (hs env) (hw env)
  refine shut fun P_ o_ => ?_
  obtain ⟨μ₁, σ₁, P₁, c, hc, a, b, e, q⟩ := z_
  refine o_ ?_
  subst e
  exact wpAny_mono (W_assign2 (X := X) (Q := fun m' σ' => Q .nxt m' σ') hf (O.next P₁) hc q) (fun _ s' ⟨μ', σ', P, m', O', r⟩ => ⟨μ', σ', P₁.weaken.trans P, .nxt, m', trivial, O', r⟩) fun z_ z_ x => x.trans P₁.weaken
theorem VR_part {h : Heap} {N : Nat} {v : Value} {i : Int} (q : VR μ N h (.int i) v) : IsPart v (some i) := by
  obtain ⟨t, rfl⟩ := VR_int_of q; exact .int i t
theorem slice_fin {l' : List V} {us' : List Value} {o₁ o₂ : Obj} (R : Rel B μ σ s.heap) (ho : o₂ = { cls := .type "list", data := .seq us'.toArray }) (hv : VRs μ σ.length s.heap l' us') (q : Q (.ref σ.length) (σ ++ [.list l'])) :
    Wq B fr [] μ σ s (EVq Q) (.ref (s.heap.objs.size + 1)) { s with heap := (s.heap.push o₁).push o₂ } := by
  subst ho
  have kp : ∀ b o, s.heap.get? b = some o → ((s.heap.push o₁).push { cls := .type "list", data := .seq us'.toArray }).get? b = some o := fun b o e => Heap.get?_push_of_some _ (Heap.get?_push_of_some _ e)
  refine fin_list (s' := { s with heap := (s.heap.push o₁).push { cls := .type "list", data := .seq us'.toArray } }) (us := us') R (Post.grow (s' := { s with heap := (s.heap.push o₁).push { cls := .type "list", data := .seq us'.toArray } }) R kp) ⟨0, ?_⟩ (VRs.keeps (TK.of_keeps kp) (Nat.le_refl _) (fun z_ z_ => rfl) hv) (Nat.le_succ _) q
  have : (s.heap.push o₁).objs.size = s.heap.objs.size + 1 := Heap.size_push ..
  rw [← this]; exact Heap.get?_push_size _ rfl
inductive SlF (Q : V → List AO → Prop) (a b : V) (σ₂ : List AO) : Prop
  | mk (i k : Nat) (l' : List V) (e1 : a = .ref i) (e2 : b = .int (k : Nat)) (hi : σ₂[i]? = some (.list l')) (hz : l'.length ≤ 100000) (hk : k ≤ l'.length) (q : Q (.ref σ₂.length) (σ₂ ++ [.list (l'.drop k)]))
inductive SlX (B : Bs) (Q : V → List AO → Prop) (a b : V) (σ₂ : List AO) : Prop
  | mk (ad : Addr) (k : Nat) (vs : List Value) (ns : List Int) (e1 : a = .ext ad) (e2 : b = .int (k : Nat)) (hl : B.h₀.IsList ad (List.toArray vs)) (hI : IntsAre vs ns) (hz : ns.length ≤ 100000) (q : Q (.ref σ₂.length) (σ₂ ++ [.list ((ns.take k).map V.int)]))
inductive SlR (Q : V → List AO → Prop) (a b : V) (σ₂ : List AO) : Prop
  | mk (i : Nat) (l' : List V) (e1 : a = .ref i) (e2 : b = .int (-1)) (hi : σ₂[i]? = some (.list l')) (hz : l'.length ≤ 100000) (q : Q (.ref σ₂.length) (σ₂ ++ [.list l'.reverse]))
theorem EV_sliceFrom {l e : Expr} {p pos : Pos} (h : EV B n X G m σ l (K2 B n X G m e (SlF Q)))
    (ht : ∀ o r, letTemporaryGo l o r = pure () := by intro _ _; rfl) : EV B n X G m σ (.Subscript l (.Slice (some e) none none p) pos) Q := fun A env fx μ s O => by
  refine wpAny_Subscript_list_slice (wpAny_mono (h A env fx μ s O) (fun va s₁ z_ => ?_) fun z_ z_ x => x) ht
  refine shut fun P_ o_ => ?_
  obtain ⟨μ₁, σ₁, P₁, a, ha, h₁⟩ := z_
  refine o_ ?_
  have O₁ := O.next P₁
  simp only [evalPart_some]
  refine wpAny_mono (h₁ A env fx μ₁ s₁ O₁) (fun vb s₂ z_ => ?_) fun z_ z_ x => x.trans P₁
  refine shut fun P_ o_ => ?_
  obtain ⟨μ₂, σ₂, P₂, b, hb, i, k, l', e1, e2, hi, hz, hk, q⟩ := z_
  refine o_ ?_
  subst e1 e2
  have O₂ := O₁.next P₂
  simp only [evalPart_none]
  obtain ⟨-, rfl⟩ := VR_ref_of (VR.post O₁.rel P₂ nt_nil ha)
  refine shut fun P_ o_ => ?_
  obtain ⟨us, hl, hv⟩ := O₂.rel.list hi
  refine o_ ?_
  refine wpAny_pure ⟨_, us.toArray, some k, none, rfl, hl.isList, plain_sz hv hz, VR_part hb, .none, ?_⟩
  obtain ⟨μ', σ', P, r⟩ := slice_fin (s := s₂) (fr := frs A) (o₁ := { cls := .type "slice", data := .fields #[vb, .none, .none] }) O₂.rel (us' := us.drop k) (o₂ := { cls := .type "list", data := .seq (slicePick us.toArray (some k) none none) }) (by rw [slicePick_from _ _ (by rw [List.size_toArray, VRs_length hv]; exact hk)]) (VRs_drop hv k) q
  exact ⟨μ', σ', (P₁.trans P₂).trans P, r⟩
theorem EV_sliceExt {l e : Expr} {p pos : Pos} (h : EV B n X G m σ l (K2 B n X G m e (SlX B Q)))
    (ht : ∀ o r, letTemporaryGo l o r = pure () := by intro _ _; rfl) : EV B n X G m σ (.Subscript l (.Slice none (some e) none p) pos) Q := fun A env fx μ s O => by
  refine wpAny_Subscript_list_slice (wpAny_mono (h A env fx μ s O) (fun va s₁ z_ => ?_) fun z_ z_ x => x) ht
  refine shut fun P_ o_ => ?_
  obtain ⟨μ₁, σ₁, P₁, a, ha, h₁⟩ := z_
  refine o_ ?_
  have O₁ := O.next P₁
  simp only [evalPart_none]
  refine wpAny_pure ?_
  simp only [evalPart_some]
  refine wpAny_mono (h₁ A env fx μ₁ s₁ O₁) (fun vb s₂ z_ => ?_) fun z_ z_ x => x.trans P₁
  refine shut fun P_ o_ => ?_
  obtain ⟨μ₂, σ₂, P₂, b, hb, ad, k, vs, ns, e1, e2, hl, hI, hz, q⟩ := z_
  refine o_ ?_
  subst e1 e2
  have O₂ := O₁.next P₂
  have hva : va = .ref ad := by exact ha
  subst hva
  refine shut fun P_ o_ => ?_
  obtain ⟨o, eo, hc, c, hd⟩ := hl
  refine o_ ?_
  have hl₂ : s₂.heap.IsList ad vs.toArray := ⟨o, O₂.rel.base _ _ eo, hc, c, hd⟩
  have hlen : vs.length = ns.length := hI.length
  refine ⟨_, vs.toArray, none, some k, rfl, hl₂, by simp only [List.size_toArray, hlen, sizeLine_eq]; lia -abstractProof, .none, VR_part hb, ?_⟩
  have hv : VRs μ₂ σ₂.length s₂.heap (ns.map V.int) vs := of_ints hI
  have hpick : slicePick vs.toArray none (some k) none = (vs.take k).toArray := by
    by_cases hk : k ≤ vs.length
    · simp only [slicePick_upto _ _ (by rw [List.size_toArray]; exact hk)]
    · have e1 : slicePick vs.toArray none (some (k : Int)) none = slicePick vs.toArray none (some (vs.length : Int)) none := by
        unfold slicePick sliceBounds
        simp
        have : ¬ ((k : Int) < 0) := by lia -abstractProof
        have h2 : ¬ ((vs.length : Int) < 0) := by lia -abstractProof
        rw [if_neg this, if_neg h2]
        have e2 : min (k : Int) vs.length = vs.length := by lia -abstractProof
        have e3 : min (vs.length : Int) vs.length = vs.length := by lia -abstractProof
        rw [e2, e3]
      rw [e1, slicePick_upto _ _ (by rw [List.size_toArray]; exact Nat.le_refl _)]
      simp
      exact (List.take_of_length_le (by lia -abstractProof)).symm
  refine shut fun P_ o_ => ?_
  obtain ⟨μ', σ', P, r⟩ := slice_fin (s := s₂) (fr := frs A) (l' := (ns.take k).map V.int) (o₁ := { cls := .type "slice", data := .fields #[.none, vb, .none] }) (Q := Q) O₂.rel (us' := vs.take k) (o₂ := { cls := .type "list", data := .seq (slicePick vs.toArray none (some k) none) }) (by rw [hpick]) (by rw [List.map_take]; exact VRs_take hv k) q
  refine o_ ?_
  exact ⟨μ', σ', (P₁.trans P₂).trans P, r⟩
theorem EV_sliceRev {l e : Expr} {p pos : Pos} (h : EV B n X G m σ l (K2 B n X G m e (SlR Q)))
    (ht : ∀ o r, letTemporaryGo l o r = pure () := by intro _ _; rfl) : EV B n X G m σ (.Subscript l (.Slice none none (some e) p) pos) Q := fun A env fx μ s O => by
  refine wpAny_Subscript_Slice_step (T := "list") list_getitem_lookup (wpAny_mono (h A env fx μ s O) (fun va s₁ z_ => ?_) fun z_ z_ x => x) ht
  refine shut fun P_ o_ => ?_
  obtain ⟨μ₁, σ₁, P₁, a, ha, h₁⟩ := z_
  refine o_ ?_
  have O₁ := O.next P₁
  refine wpAny_Slice ?_
  simp only [evalPart_none, evalPart_some]
  refine wpAny_pure (wpAny_pure ?_)
  refine wpAny_mono (h₁ A env fx μ₁ s₁ O₁) (fun vb s₂ z_ => ?_) fun z_ z_ x => x.trans P₁
  refine shut fun P_ o_ => ?_
  obtain ⟨μ₂, σ₂, P₂, b, hb, i, l', e1, e2, hi, hz, q⟩ := z_
  refine o_ ?_
  subst e1 e2
  have O₂ := O₁.next P₂
  obtain ⟨-, rfl⟩ := VR_ref_of (VR.post O₁.rel P₂ nt_nil ha)
  obtain ⟨us, hl, hv⟩ := O₂.rel.list hi
  have hl₂ := hl.isList.push { cls := .type "slice", data := .fields #[.none, .none, vb] }
  refine ⟨hl₂.typeIs, wpAny_getItem_list_slice hl₂ (Heap.IsSliceOf.new ..) .none .none (VR_part hb) (by decide) ?_ (plain_sz hv hz)⟩
  rw [Heap.size_push]
  obtain ⟨μ', σ', P, r⟩ := slice_fin (s := s₂) (fr := frs A) (o₁ := { cls := .type "slice", data := .fields #[.none, .none, vb] }) O₂.rel (us' := us.reverse) (o₂ := { cls := .type "list", data := .seq (slicePick us.toArray none none (some (-1))) }) (by rw [krv_pick]) (VRs_reverse hv) q
  exact ⟨μ', σ', (P₁.trans P₂).trans P, r⟩
end
section
variable {prog : Program} {w : World} {A : Around} {E : Value → Shared → Prop} {s : Shared}
theorem keep_take {α : Type} (f : Nat → Bool) (k : Nat) : ∀ (l : List α) (j : Nat), (∀ i, f i = decide (k ≤ i ∧ i < j + l.length)) → ((l.zipIdx j).filterMap fun (p : α × Nat) => if f p.2 = true then none else some p.1) = l.take (k - j) := by
  intro l_
  induction l_ with
  | nil =>
    intro j _
    simp
  | cons x l ih =>
    intro j h
    rw [List.zipIdx_cons, List.filterMap_cons]
    have ih := ih (j + 1) fun i => by simp only [h i, List.length_cons]; congr 1; apply propext; constructor <;> intro z <;> lia -abstractProof
    dsimp only
    by_cases q : k ≤ j
    · rw [if_pos (by rw [h j, List.length_cons]; simp; lia -abstractProof)]
      dsimp only
      rw [ih]
      have e1 : k - (j + 1) = 0 := by lia -abstractProof
      have e2 : k - j = 0 := by lia -abstractProof
      simp only [e1, e2]; simp
    · rw [if_neg (by rw [h j, List.length_cons]; simp; lia -abstractProof)]
      dsimp only
      rw [ih]
      have e1 : k - j = k - (j + 1) + 1 := by lia -abstractProof
      simp only [e1, List.take_succ_cons]
theorem del_from {a sl : Addr} {us : Array Value} {v : Value} {k : Nat} {Q : Unit → Shared → Prop} (hl : s.heap.PlainList a us) (hs : s.heap.IsSliceOf sl v .none .none) (pv : IsPart v (some (k : Int))) (hk : k ≤ us.size) (hsz : us.size ≤ sizeLine)
    (hQ : ∀ h', h'.PlainList a (us.toList.take k).toArray → Heap.SameBut a s.heap h' → Q () { s with heap := h' }) : wpAny (model prog w) A (delItem (.ref a) (.ref sl)) Q E s := by
  obtain ⟨c, ho⟩ := hl
  refine shut fun P_ o_ => ?_
  obtain ⟨os, hos, hcs, hds⟩ := id hs
  refine o_ ?_
  have hT : s.TypeIs (.ref a) "list" := ⟨_, ho, rfl⟩
  have hTs : s.TypeIs (.ref sl) "slice" := ⟨os, hos, hcs⟩
  refine wpAny_delItem_slot hT (by decide) PySem.F.slot_list_delitem (wpAny_call_entry PySem.F.slot_list_delitem hT PySem.F.entry_list_delitem ?_ (PySem.F.args_list_delitem_2 _ _))
  show wpAny _ _ (Builtin.List.listSubscript? (.ref sl) >>= _) _ _ s
  refine wpAny_bind ?_
  unfold Builtin.List.listSubscript?
  refine wpAny_bind (wpAny_specialOf hTs slice_no_index ?_)
  simp only [Option.isNone_none, if_true]
  refine wpAny_pure ?_
  show wpAny _ _ (typeOf (.ref sl) >>= _) _ _ s
  refine wpAny_bind (wpAny_typeOf hTs ?_)
  rw [if_neg (by decide)]
  rw [listSliceParts_eq]
  refine wpAny_bind (wpAny_bind (wpAny_field hos hds (x := .none) rfl (wpAny_bind (wpAny_listPart .none ?_))))
  rw [if_neg (by decide)]
  refine wpAny_bind (wpAny_field hos hds (x := v) rfl (wpAny_bind (wpAny_listPart pv ?_)))
  refine wpAny_bind (wpAny_field hos hds (x := .none) rfl (wpAny_bind (wpAny_listPart .none (wpAny_pure ?_))))
  refine wpAny_bind (m := Builtin.List.listItems (.ref a)) ?_
  unfold Builtin.List.listItems
  refine wpAny_bind (wpAny_seqItems ho rfl (wpAny_pure ?_))
  refine wpAny_bind (wpAny_of_eq (sliceIndices_raw (some (k : Int)) none none us.size (by decide)) ?_)
  have hb : sliceBounds (some (k : Int)) none none us.size = ((k : Int), (us.size : Int), 1) := by
    unfold sliceBounds
    simp
    have : ¬ ((k : Int) < 0) := by lia -abstractProof
    rw [if_neg this]
    lia -abstractProof
  rw [hb]
  refine wpAny_bind (wpAny_rule ?_)
  let sel : Nat → Bool := fun i => if (1 : Int) > 0 then decide ((k : Int) ≤ (i : Int)) && decide ((i : Int) < (us.size : Int)) && (((i : Int) - (k : Int)) % 1 == 0) else decide ((us.size : Int) < (i : Int)) && decide ((i : Int) ≤ (k : Int)) && (((k : Int) - (i : Int)) % (-1) == 0)
  have hsel : ∀ i, sel i = decide (k ≤ i ∧ i < 0 + us.toList.length) := fun i => by
    show (if (1 : Int) > 0 then _ else _) = _
    rw [if_pos (by decide)]
    simp [Int.emod_one, Bool.decide_and]
  show wpAny _ _ (updateSeq a (fun xs => ((xs.toList.zipIdx.filterMap fun (p : Value × Nat) => if sel p.2 = true then none else some p.1)).toArray) >>= _) _ _ s
  have hu : (us.toList.zipIdx.filterMap fun (p : Value × Nat) => if sel p.2 = true then none else some p.1) = us.toList.take k := keep_take sel k us.toList 0 hsel
  have hfin : (s.heap.update a (Obj.mapSeq fun xs => ((xs.toList.zipIdx.filterMap fun (p : Value × Nat) => if sel p.2 = true then none else some p.1)).toArray)).PlainList a (us.toList.take k).toArray := by
    have := IsL.update (n := c) ho fun xs => ((xs.toList.zipIdx.filterMap fun (p : Value × Nat) => if sel p.2 = true then none else some p.1)).toArray
    simp only [← hu]
    exact ⟨_, this⟩
  have hz' : ((us.toList.zipIdx.filterMap fun (p : Value × Nat) => if sel p.2 = true then none else some p.1)).toArray.size ≤ sizeLine + 1 := by
    simp only [hu, List.size_toArray, List.length_take, Array.length_toList]; lia -abstractProof
  refine wpAny_bind (wpAny_updateSeq (hz := hsz) (_hz' := hz') ho rfl ?_)
  refine wpAny_bind (wpAny_letGo ?_)
  exact wpAny_pure ⟨_, rfl, hQ _ hfin (Heap.SameBut.update ..)⟩
end
section
variable {B : Bs} {n : Nat} {X : V → List AO → Prop} {G G' : Gs} {m : Loc} {σ σ' : List AO} {μ μ' : Mp} {s s' : Shared} {fr fx : List Addr} {A : Around} {env : Env}
inductive DlF (Q : List AO → Prop) (a b : V) (σ₂ : List AO) : Prop
  | mk (i k : Nat) (l' : List V) (e1 : a = .ref i) (e2 : b = .int (k : Nat)) (hi : σ₂[i]? = some (.list l')) (hz : l'.length ≤ 100000) (hk : k ≤ l'.length) (q : Q (σ₂.set i (.list (l'.take k))))
theorem EX_delFrom {l e : Expr} {p spos pos : Pos} {Q : AF → Loc → List AO → Prop} (h : EV B n X G m σ l (K2 B n X G m e (DlF (Q .nxt m)))) :
    EX B n X G m σ (.Delete [.Subscript l (.Slice (some e) none none p) spos] pos) Q := fun A env fx μ s hf O => by
  refine wpAny_Delete (wpAny_deleteEach_cons ?_)
  simp only [arm_delete_Subscript]
  refine wpAny_bind (wpAny_mono (h A env fx μ s O) (fun va s₁ ⟨μ₁, σ₁, P₁, a, ha, h₁⟩ => wpAny_bind (wpAny_holding (wpAny_Slice ?_))) fun z_ z_ x => x.weaken)
  have O₁ := O.next P₁
  simp only [evalPart_some]
  refine wpAny_mono (h₁ A env fx μ₁ s₁ O₁) (fun vb s₂ z_ => ?_) fun z_ z_ x => (x.trans P₁).weaken
  refine shut fun P_ o_ => ?_
  obtain ⟨μ₂, σ₂, P₂, b, hb, i, k, l', e1, e2, hi, hz, hk, q⟩ := z_
  refine o_ ?_
  subst e1 e2
  have O₂ := O₁.next P₂
  simp only [evalPart_none]
  refine wpAny_pure (wpAny_pure ?_)
  obtain ⟨-, rfl⟩ := VR_ref_of (VR.post O₁.rel P₂ nt_nil ha)
  have P₃ : Post B (frs A) [] μ₂ σ₂ s₂ μ₂ σ₂ { s₂ with heap := s₂.heap.push { cls := .type "slice", data := .fields #[vb, .none, .none] } } := Post.push (t := s₂.toks) P₂.rel _
  have O₃ := O₂.next P₃
  obtain ⟨us, hl, hv⟩ := O₃.rel.list hi
  have hlen := VRs_length hv
  refine wpAny_bind (wpAny_standAt (wpAny_bind (wpAny_holding ?_)))
  refine del_from (k := k) hl (Heap.IsSliceOf.new ..) (VR_part hb) (by simp only [List.size_toArray, hlen]; exact hk) (plain_sz hv hz) fun h' hl' hs => ?_
  have hv' : VRs μ₂ σ₂.length (s₂.heap.push { cls := .type "slice", data := .fields #[vb, .none, .none] }) (l'.take k) (us.take k) := VRs_take hv k
  have P₄ : Post B (frs A) [] μ₂ σ₂ { s₂ with heap := s₂.heap.push { cls := .type "slice", data := .fields #[vb, .none, .none] } } μ₂ (σ₂.set i (.list (l'.take k))) { s₂ with heap := h' } := upd_list (tk := s₂.toks) O₃.rel hi hl' hv' hs
  refine wpAny_release (wpAny_deleteEach_nil ⟨_, _, (((P₁.trans P₂).trans P₃).trans P₄).weaken, .nxt, m, trivial, O₃.next P₄, q⟩)
end
section
variable {B : Bs} {n : Nat} {X : V → List AO → Prop} {G G' : Gs} {m : Loc} {σ σ' : List AO} {μ μ' : Mp} {s s' : Shared} {fr fx : List Addr} {A : Around} {env : Env}
noncomputable def putf : List (Str × V) → Str → V → List (Str × V)
  | [], x, v => [(x, v)]
  | (y, b) :: fs, x, v => if y = x then (y, v) :: fs else (y, b) :: putf fs x v
theorem putf_names : ∀ (fs : List (Str × V)) (x : Str) (v : V), (∀ y, y ∈ (putf fs x v).map (·.1) ↔ y ∈ fs.map (·.1) ∨ y = x) := by
  intro l_
  induction l_ with
  | nil =>
    intro x v y
    simp [putf]
  | cons u_ fs ih =>
    intro x v y
    obtain ⟨z, b⟩ := u_
    simp only [putf]
    by_cases q : z = x
    · rw [if_pos q]; subst q; simp; intro h; exact .inl h
    · rw [if_neg q, List.map_cons, List.mem_cons, ih x v y, List.map_cons, List.mem_cons, or_assoc]
theorem putf_nodup : ∀ {fs : List (Str × V)} {x : Str} {v : V}, (fs.map (·.1)).Nodup → ((putf fs x v).map (·.1)).Nodup := by
  intro l_
  induction l_ with
  | nil =>
    intro x v _
    simp [putf]
  | cons u_ fs ih =>
    intro x v h
    obtain ⟨z, b⟩ := u_
    rw [List.map_cons, List.nodup_cons] at h
    simp only [putf]
    by_cases q : z = x
    · rw [if_pos q, List.map_cons, List.nodup_cons]; exact h
    · rw [if_neg q, List.map_cons, List.nodup_cons, putf_names]
      exact ⟨fun h' => h'.elim h.1 q, ih h.2⟩
theorem putL_er {N : Nat} {h : Heap} {x : Str} {a : V} {v : Value} {hsh : Int} {t : Tok} : ∀ {fs : List (Str × V)} {es : List DictEntry}, ER μ N h fs es → VR μ N h a v → ER μ N h (putf fs x a) (putL x hsh (.str x t) v es) ∧ (putL x hsh (.str x t) v es).length ≤ es.length + 1 := by
  intro l_
  induction l_ with
  | nil =>
    intro es e hv
    rw [ER_nilO e]
    exact ⟨ER_cons (t := t) rfl hv ER_nil, Nat.le_refl _⟩
  | cons u_ fs ih =>
    intro es e hv
    obtain ⟨y, b⟩ := u_
    refine shut fun P_ o_ => ?_
    obtain ⟨en, r, t', rfl, hk, hb, hr⟩ := ER_consO e
    refine o_ ?_
    have hs : en.key.isStr x = (y == x) := by rw [hk]; rfl
    simp only [putf, putL, hs]
    by_cases q : y = x
    · rw [if_pos q, if_pos (by simp [q])]
      exact ⟨ER_cons hk hv hr, by simp⟩
    · rw [if_neg q, if_neg (by simp [q])]
      obtain ⟨i1, i2⟩ := ih hr hv
      exact ⟨ER_cons hk hb i1, by simp; omega⟩
theorem er_length {N : Nat} {h : Heap} : ∀ {fs : List (Str × V)} {es : List DictEntry}, ER μ N h fs es → es.length = fs.length := by
  intro l_
  induction l_ with
  | nil =>
    intro es e
    rw [ER_nilO e]; rfl
  | cons u_ fs ih =>
    intro es e
    obtain ⟨y, b⟩ := u_
    refine shut fun P_ o_ => ?_
    obtain ⟨_, r, _, rfl, _, _, hr⟩ := ER_consO e
    refine o_ ?_
    simp only [List.length_cons, List.length_cons, ih hr]
theorem osa_own {prog : Program} {w : World} {K : Frag} {x C dx : Addr} {es : List DictEntry} {n : Nat} {name : Str} {tk : Tok} {v : Value} {R : Result → Shared → Prop} (X : K.In s.heap) (hx : s.heap.get? x = some (instObj C dx)) (hd : s.heap.get? dx = some (dictOf es n))
    (hp : plainOver K C = true) (ht : takerIn K C name = some none) (hh : (clsIn K C).any (·.hasDict) = true) (hr : es.any (·.refKey) = false) (hz : (putL name (PyData.keyHash w.params name) (.str name s.toks) v es).length ≤ 1000)
    (h : ∀ h', h'.get? dx = some (dictOf (putL name (PyData.keyHash w.params name) (.str name s.toks) v es) (putN name es n)) → Heap.SameBut dx s.heap h' → R (.ok (.ret .none)) { s with heap := h', toks := s.toks + 1 }) :
    codeAny (model prog w) A (.call (.builtin "object.__setattr__") ⟨[.ref x, .str name tk, v], []⟩) R s := by
  refine osa_open X (instAt_of hx hd) hp ht fun b => ?_
  obtain ⟨cd, hc, hd'⟩ := any_some hh
  dsimp only
  refine wpAny_bind (wpAny_pure (wpAny_bind (wpAny_bind (wpAny_loadPart hx (wpAny_bind ((looks_clsIn X hc).here ?_))))))
  rw [hd']
  refine wpAny_pure (a := some dx) (wpAny_bind (wpAny_pure (wpAny_bind ?_)))
  unfold nsSet
  refine wpAny_bind (wpAny_bind (wpAny_askSetting (wpAny_pure (wpAny_bind (wpAny_mkText (wpAny_bind (wpAny_loadPart hd ?_)))))))
  unfold dictOf
  dsimp only
  have c : (!es.toArray.any (·.key.isStr name) && es.toArray.any (·.refKey)) = false := by
    rw [← Array.any_toList (p := fun e => DictEntry.refKey e)]
    show (_ && es.any (·.refKey)) = false
    rw [hr, Bool.and_false]
  rw [aRefKeyMayBeTheName_at, c]
  have hpn := putName_dict name (PyData.keyHash w.params name) (.str name s.toks) v es n
  have hg : (s.heap.update dx (Obj.putName name (PyData.keyHash w.params name) (.str name s.toks) v)).get? dx = some (dictOf (putL name (PyData.keyHash w.params name) (.str name s.toks) v es) (putN name es n)) := by
    rw [Heap.get?_update_self _ hd (by rw [hpn]; rfl), hpn]
  refine wpAny_updatePart hd ?_
  refine wpAny_bind (wpAny_lookBehind hg (pastItsLine_dict (by simp only [List.size_toArray, sizeLine_eq]; lia -abstractProof)) ?_)
  exact wpAny_pure (h _ hg (Heap.SameBut.update ..))
theorem OP_setattr {i : Nat} {C : Addr} {fs : List (Str × V)} {x : Str} {a : V} {Q : List AO → Prop} (cf : CF B C) (hn : takerIn B.K C x = some none) (hi : σ[i]? = some (.inst C fs)) (hz : fs.length < 90) (h : Q (σ.set i (.inst C (putf fs x a)))) :
    OPu B n X [.ref i, a] σ (fun | [o, v] => setAttr o x v | _ => pure ()) Q := fun A μ s vs O hv => by
  obtain ⟨o, v, rfl, h1, h2⟩ := VRs_two hv
  obtain ⟨hlt, rfl⟩ := VR_ref_of h1
  refine shut fun P_ o_ => ?_
  obtain ⟨hx, es, ep, hd, hl, nd, her⟩ := O.rel.inst hi
  refine o_ ?_
  have X₀ := B.X.keeps O.rel.base
  have hlen := er_length her
  have hpe : ∀ hs t, (putL x hs (.str x t) v es).length ≤ es.length + 1 := fun hs t => (putL_er (x := x) (hsh := hs) (t := t) her h2).2
  show wpAny _ _ (setAttr _ _ _) _ _ _
  refine set_plain X₀ (instAt_of hx hd) cf.sa ?_
  refine osa_own (s := { s with toks := s.toks + 1 }) X₀ hx hd cf.po hn cf.hd (er_none her).1 (by have := hpe (PyData.keyHash B.w.params x) (s.toks + 1); dsimp only at this ⊢; lia -abstractProof) fun h' hg hs => ?_
  have ndx : μ.a i ≠ μ.d i := fun q => by rw [q] at hx; rw [hx] at hd; cases hd
  have tk : TK s.heap h' := fun b items ⟨ob, e, c, r⟩ => by
    refine ⟨ob, (hs.2 b fun q => ?_).trans e, c, r⟩
    subst q
    rw [hd] at e; cases e; exact absurd (show (Value.type "dict") = .type "tuple" from c) (by decide)
  obtain ⟨p1, p2⟩ := putL_er (x := x) (hsh := PyData.keyHash B.w.params x) (t := s.toks + 1) her h2
  refine ⟨μ, σ.set i (.inst C (putf fs x a)), Post.upd (s' := { s with heap := h', toks := s.toks + 1 + 1 }) O.rel hi (fun b z_ hb => hs.2 b hb) ⟨(hs.2 _ ndx).trans hx, _, _, hg, Nat.le_trans (hpe _ _) (by lia -abstractProof), putf_nodup nd, ER.keeps tk (Nat.le_refl _) (fun z_ z_ => rfl) p1⟩ trivial (fun b o e => ?_), h⟩
  by_cases q : b = μ.d i
  · exact ⟨_, by simp only [q]; exact hg⟩
  · exact ⟨o, (hs.2 b q).trans e⟩
end
section
variable {B : Bs} {n : Nat} {X : V → List AO → Prop} {G G' : Gs} {m : Loc} {σ σ' : List AO} {μ μ' : Mp} {s s' : Shared} {fr fx : List Addr} {A : Around} {env : Env} {Q : V → List AO → Prop}
theorem CA_make {C fI : Addr} {args : List V} (hm : makesIn B.K C = true) (hi : findIn B.K (.ref C) "__init__" = some (some (.ref fI))) (hf : typeIn B.K (.ref fI) = some (.type "function"))
    (h : CA B n X (.ref fI) (.ref σ.length :: args) (σ ++ [.inst C []]) fun v σ' => v = .none ∧ Q (.ref σ.length) σ') : CA B (n + 1) X (.ref C) args σ Q := fun A μ s vals O hv => by
  obtain ⟨hh, g, d, t, os⟩ := s
  have X₀ := B.X.keeps O.rel.base
  refine make_core (makes_of X₀ hm) (looks_findIn X₀ hi) (fun self => bind_fn X₀ self hf) (.inl rfl) ?_
  have kp : ∀ b o, hh.get? b = some o → ((hh.push emptyDict).push (instObj C hh.objs.size)).get? b = some o := fun b o e => Heap.get?_push_of_some _ (Heap.get?_push_of_some _ e)
  have hx : ((hh.push emptyDict).push (instObj C hh.objs.size)).get? (hh.objs.size + 1) = some (instObj C hh.objs.size) := by
    rw [← Heap.size_push hh emptyDict]; exact Heap.get?_push_size _ rfl
  have hd : ((hh.push emptyDict).push (instObj C hh.objs.size)).get? hh.objs.size = some emptyDict := Heap.get?_push_of_some _ (Heap.get?_push_size _ rfl)
  have P : Post B (frs A) [] μ σ ⟨hh, g, d, t, os⟩ (μ.ext σ.length (hh.objs.size + 1) hh.objs.size) (σ ++ [.inst C []]) ⟨(hh.push emptyDict).push (instObj C hh.objs.size), g, d, t, os⟩ := by
    refine Post.alloc O.rel kp (Nat.le_succ _) (Nat.le_refl _) ⟨?_, [], 0, ?_, by simp, by simp, ER_nil⟩ trivial
    · rw [ext_a, ext_d]; exact hx
    · rw [ext_d]; exact hd
  have fru : frs (A.under (.builtin "type.__call__" ⟨.ref C :: vals, []⟩)) = frs A := rfl
  have O' : OkC B n (A.under (.builtin "type.__call__" ⟨.ref C :: vals, []⟩)) (μ.ext σ.length (hh.objs.size + 1) hh.objs.size) (σ ++ [.inst C []]) ⟨(hh.push emptyDict).push (instObj C hh.objs.size), g, d, t, os⟩ := {
    rel := P.rel
    room := by have := O.room; show A.depth + (Code.builtin "type.__call__" ⟨.ref C :: vals, []⟩).weight + 2 * n ≤ 980; rw [show (Code.builtin "type.__call__" ⟨.ref C :: vals, []⟩).weight = 1 from rfl]; lia -abstractProof
    units := by have := O.units; show A.units + (Code.builtin "type.__call__" ⟨.ref C :: vals, []⟩).cUnits + 12 * n ≤ 9000; rw [show (Code.builtin "type.__call__" ⟨.ref C :: vals, []⟩).cUnits = 1 from rfl]; lia -abstractProof
    hnd := O.hnd
    frames := by
      refine shut fun P_ o_ => ?_
      obtain ⟨outer, e1, e2⟩ := O.frames
      refine o_ ?_
      exact ⟨outer, e1, e2.of_keeps fun b o hb z_ => ⟨o, kp b o hb, rfl⟩⟩
    frn := fun a ha => by
      rw [fru] at ha
      obtain ⟨outer, e1, e2⟩ := O.frames
      have hm : a ∈ outer.filterMap (·.frame) := by rw [frs, e1] at ha; exact ha
      refine shut fun P_ o_ => ?_
      obtain ⟨_, o, ho, _⟩ := e2.mem hm
      refine o_ ?_
      exact P.own_old ho (O.frn a ha) }
  have hva : VRs (μ.ext σ.length (hh.objs.size + 1) hh.objs.size) (σ ++ [AO.inst C []]).length ((hh.push emptyDict).push (instObj C hh.objs.size)) (.ref σ.length :: args) (.ref (hh.objs.size + 1) :: vals) :=
    VRs_cons VR_new (VRs.post O.rel P nt_nil hv)
  refine codeAny_mono (h _ _ _ _ O' hva) fun r s' z => ?_
  match r, z with
  | .error e, z => exact QE.trans P z
  | .ok (.ret v), z =>
    refine shut fun P_ o_ => ?_
    obtain ⟨μ', σ', P', a, ha, e1, q⟩ := z
    refine o_ ?_
    subst e1
    refine ⟨VR_none_of ha, μ', σ', P.trans P', .ref σ.length, ?_, q⟩
    have hl : σ.length < (σ ++ [AO.inst C []]).length := by simp
    exact VR_ref (Nat.lt_of_lt_of_le hl P'.len) (by simp only [(P'.agree _ hl).1, ext_a])
end
section
variable {B : Bs} {n : Nat} {X : V → List AO → Prop} {G G' : Gs} {m : Loc} {σ σ' : List AO} {μ μ' : Mp} {s s' : Shared} {fr fx fy : List Addr} {A : Around} {env : Env}
theorem mapFields_eq {o : Obj} {vs : Array Value} {f : Array Value → Array Value} (hd : o.data = .fields vs) : o.mapFields f = { o with data := .fields (f vs) } := by
  obtain ⟨c, d, dt, sl⟩ := o
  simp only at hd
  subst hd
  rfl
theorem frames_at (O : Ok B n G A env fy m μ σ s) (P : Post B (frs A) fx μ σ s μ' σ' s') : ∃ f outer L, A.frames = some (f :: outer) ∧ f.frame = env.frame ∧ env.frame = some L ∧ s'.heap.FunFrames B.h₀ (f :: outer) := by
  refine shut fun P_ o_ => ?_
  obtain ⟨f, outer, e1, e2, e3⟩ := O.frames
  obtain ⟨_, ⟨L, _, hL, _⟩, _⟩ := id e3
  refine o_ ?_
  refine ⟨f, outer, L, e1, e2, e2 ▸ hL, ?_⟩
  have : ∀ {l : List Env}, (∀ a, a ∈ l.filterMap (·.frame) → a ∈ frs A) → s.heap.FunFrames B.h₀ l → s'.heap.FunFrames B.h₀ l := fun {l} => by
    induction l with
    | nil => intro _ h; exact h
    | cons f l ih =>
      intro hm z1_
      refine shut fun P_ o_ => ?_
      obtain ⟨hk, ⟨L', o', hL', hb, ho', hd⟩, hr⟩ := z1_
      refine o_ ?_
      rw [List.filterMap_cons, hL'] at hm
      refine shut fun P_ o_ => ?_
      obtain ⟨o, ho, hf⟩ := P.nrec L' o' ho' (O.frn L' (hm _ (mI 0 rfl))) hd
      refine o_ ?_
      exact ⟨hk, ⟨L', o, hL', hb, ho, hf⟩, ih (fun a ha => hm a (.tail _ ha)) hr⟩
  exact this (fun a ha => by rw [frs, e1]; exact ha) e3
theorem frs_base (O : Ok B n G A env fy m μ σ s) {a : Addr} (ha : a ∈ frs A) : B.h₀.get? a = none := by
  obtain ⟨f, outer, e1, e2, e3⟩ := O.frames
  exact (e3.mem (by rw [frs, e1] at ha; exact ha)).1
theorem frs_there (O : Ok B n G A env fy m μ σ s) {a : Addr} (ha : a ∈ frs A) : ∃ o, s.heap.get? a = some o ∧ ∀ vs, o.data ≠ .fields vs := by
  refine shut fun P_ o_ => ?_
  obtain ⟨f, outer, e1, e2, e3⟩ := O.frames
  refine o_ ?_
  exact (e3.mem (by rw [frs, e1] at ha; exact ha)).2
theorem QE_move {i : Nat} {ball : V} {h' : Heap} {T₀ : Option Addr} (O : Ok B n G A env fy m μ σ s) (P : Post B (frs A) fx μ σ s μ' σ' s') (hi : σ'[i]? = some (.exc ball))
    (hT : ∀ b, T₀ = some b → s.heap.get? b = none ∧ ¬ Own μ' σ'.length b ∧ (∃ o ts, s'.heap.get? b = some o ∧ o.data = .fields ts) ∧ ∃ o', h'.get? b = some o')
    (k : ∀ b o, s'.heap.get? b = some o → b ≠ μ'.a i → T₀ ≠ some b → b ∉ frs A → h'.get? b = some o)
    (ks : ∀ b o, s'.heap.get? b = some o → b ≠ μ'.a i → T₀ ≠ some b → ∃ sl, h'.get? b = some { o with slots := sl })
    (he : ∃ oe vs', s'.heap.get? (μ'.a i) = some oe ∧ h'.get? (μ'.a i) = some { oe with data := .fields vs' }) : Post B (frs A) fx μ σ s μ' σ' { s' with heap := h' } := by
  have hlt := idx_lt hi
  refine shut fun P_ o_ => ?_
  obtain ⟨oe, vs', e1, e2⟩ := he
  obtain ⟨ox, hx, hxc, hxd, hxf, rest⟩ := P.rel.obj i _ hi
  refine o_ ?_
  rw [e1] at hx; cases hx
  have ab := P.rel.above i hlt
  have frO : ∀ b, b ∈ frs A → ¬ Own μ' σ'.length b := fun b hb => by
    obtain ⟨o, eo, _⟩ := frs_there O hb
    exact P.own_old eo (O.frn b hb)
  have ex' : ∀ b o, s'.heap.get? b = some o → ∃ o', h'.get? b = some o' := fun b o eb => by
    by_cases q : b = μ'.a i
    · subst q; exact ⟨_, e2⟩
    · by_cases r : T₀ = some b
      · exact (hT b r).2.2.2
      · obtain ⟨sl, z⟩ := ks b o eb q r; exact ⟨_, z⟩
  have tk : TK s'.heap h' := fun b items ⟨o, eb, c, kk, d⟩ => by
    have q : b ≠ μ'.a i := fun q => by
      subst q; rw [e1] at eb; cases eb; rw [hxc] at c; cases c
    have r : T₀ ≠ some b := fun r => by
      obtain ⟨_, _, ⟨o', ts, e', d'⟩, _⟩ := hT b r
      rw [eb] at e'; cases e'; rw [d] at d'; cases d'
    obtain ⟨sl, z⟩ := ks b o eb q r
    exact ⟨_, z, c, kk, d⟩
  have owned : ∀ b, Own μ' σ'.length b → b ≠ μ'.a i → ∀ o, s'.heap.get? b = some o → h'.get? b = some o := fun b hb q o eb =>
    k b o eb q (fun r => (hT b r).2.1 hb) fun hf => frO b hf hb
  have here : ∀ j, j < σ'.length → (∃ x, s'.heap.get? (μ'.a j) = some x) ∧ (∃ x, s'.heap.get? (μ'.d j) = some x) := fun j hj => P.rel.owned hj
  have dne : ∀ j, j < σ'.length → (j = i → False) → μ'.a j ≠ μ'.a i ∧ μ'.d j ≠ μ'.a i := fun j hj q => by
    have n1 := P.rel.inj j i hj hlt q
    have n2 := P.rel.inj i j hlt hj (fun z => q z.symm)
    exact ⟨n1.1, n2.2.1.symm⟩
  have di : μ'.d i ≠ μ'.a i := fun q => by
    obtain ⟨t, b, hs, ep, f, _⟩ := rest
    rw [q, e1] at f
    clear e2 e1 hxd hxf
    cases f
    cases hxc
  have old : ∀ a o, s.heap.get? a = some o → ¬ Own μ σ.length a → a ≠ μ'.a i ∧ T₀ ≠ some a := fun a o ea hn =>
    ⟨fun q => P.own_old ea hn ⟨i, hlt, .inl q⟩, fun r => by have := (hT a r).1; rw [ea] at this; cases this⟩
  refine ⟨⟨fun b o eb => ?_, P.rel.above, P.rel.inj, fun j o ej => ?_, P.rel.one⟩, P.len, P.agree, P.fresh, fun a o ea => ?_, fun a o ea hn hfx => ?_, P.gens, P.os, fun a o ea hn hnf => ?_⟩
  · refine k b o (P.rel.base b o eb) (fun q => by rw [q, ab.1] at eb; cases eb) (fun r => ?_) fun hf => ?_
    · have := (hT b r).1; rw [O.rel.base b o eb] at this; cases this
    · rw [frs_base O hf] at eb; cases eb
  · have hj := idx_lt ej
    obtain ⟨⟨x, ex⟩, ⟨y, ey⟩⟩ := here j hj
    clear k ks ab hlt old e1
    by_cases q : j = i
    · subst q
      rw [hi] at ej; cases ej
      refine shut fun P_ o_ => ?_
      obtain ⟨t, b, hs, ep, f, hb⟩ := rest
      refine o_ ?_
      exact ⟨_, e2, hxc, hxd, ⟨vs', rfl⟩, t, b, hs, ep, owned _ ⟨j, hj, .inr rfl⟩ di _ f, VR.keeps tk (Nat.le_refl _) (fun z_ z_ => rfl) hb⟩
    · refine shut fun P_ o_ => ?_
      obtain ⟨d1, d2⟩ := dne j hj q
      refine o_ ?_
      exact OR.keeps tk (Nat.le_refl _) (fun z_ z_ => rfl) rfl rfl (by simp only [ex]; exact owned _ ⟨j, hj, .inl rfl⟩ d1 _ ex) (by simp only [ey]; exact owned _ ⟨j, hj, .inr rfl⟩ d2 _ ey) (P.rel.obj j o ej)
  · obtain ⟨o', e'⟩ := P.ex a o ea
    exact ex' a o' e'
  · obtain ⟨z1, z2⟩ := old a o ea hn
    obtain ⟨k1, sl, k2⟩ := P.keep a o ea hn hfx
    obtain ⟨sl', k3⟩ := ks a _ k2 z1 z2
    exact ⟨fun hf => k a o (k1 hf) z1 z2 hf, sl', k3⟩
  · obtain ⟨z1, z2⟩ := old a o ea hn
    obtain ⟨o', e', h''⟩ := P.nrec a o ea hn hnf
    obtain ⟨sl', k3⟩ := ks a _ e' z1 z2
    exact ⟨_, k3, h''⟩
noncomputable def QT (B : Bs) (fr fx : List Addr) (μ : Mp) (σ : List AO) (s : Shared) (X : V → List AO → Prop) (e : Value) (s' : Shared) : Prop :=
  ∃ i ball μ' σ', e = .ref (μ'.a i) ∧ σ'[i]? = some (.exc ball) ∧ Post B fr fx μ σ s μ' σ' s' ∧ Tr B s.heap μ' σ'.length s'.heap (μ'.a i) ∧ X ball σ'
theorem QT.qe {e : Value} (h : QT B fr fx μ σ s X e s') : QE B fr fx μ σ s X e s' := by
  refine shut fun P_ o_ => ?_
  obtain ⟨i, b, μ₁, σ₁, e1, e2, e3, e4, e5⟩ := h
  refine o_ ?_
  exact ⟨i, b, μ₁, σ₁, e1, e2, e3, .inr e4, e5⟩
theorem W_entry {i : Nat} {ball : V} {head : Value} {had : Bool} {M : Model} {E : Value → Shared → Prop} {s₁ : Shared} (O : Ok B n G A env fy m μ σ s) (P : Post B (frs A) fx μ σ s μ' σ' s₁) (hi : σ'[i]? = some (.exc ball)) {oe : Obj} {vs : Array Value} (he : s₁.heap.get? (μ'.a i) = some oe) (hd : oe.data = .fields vs) (hsz : 2 ≤ vs.size) (hX : X ball σ')
    {L : Addr} (hL : env.frame = some L) :
    wpAny M A (do let a ← PySem.frameOf env; let pl ← entryPlaceOf L had; let b ← EntryCells.newEntry head a .none (rawInt L) .none pl; setField (.ref (μ'.a i)) 1 b) (fun z_ s'' => QT B (frs A) fx μ σ s X (.ref (μ'.a i)) s'') E s₁ := by
  have hlt := idx_lt hi
  refine shut fun P_ o_ => ?_
  obtain ⟨f, outer, L', e1, e2, e3, FF⟩ := frames_at O P
  refine o_ ?_
  rw [hL] at e3; cases e3
  have hfo : PySem.frameOf env = PySem.frameOf f := by unfold PySem.frameOf; rw [e2]
  rw [hfo]
  have frO : ∀ b, b ∈ frs A → b ≠ μ'.a i := fun b hb q => by
    refine shut fun P_ o_ => ?_
    obtain ⟨o, eo, _⟩ := frs_there O hb
    refine o_ ?_
    exact P.own_old eo (O.frn b hb) ⟨i, hlt, .inl q⟩
  refine wpAny_bind (wpAny_frameOf_fun e1 FF (e2.trans hL) fun h₁ hs₁ => ?_)
  have hfr : (f :: outer).filterMap (·.frame) = frs A := by simp only [frs, e1]; rfl
  rw [hfr] at hs₁
  refine wpAny_bind (wpAny_entryPlaceOf fun pl hpl => ?_)
  unfold EntryCells.newEntry newFields
  refine wpAny_bind (wpAny_newObj_type ?_ (hpl.sizeOk5 _ _ _ _ _))
  have he₁ : h₁.get? (μ'.a i) = some oe := (hs₁.2.1 _ fun q => frO _ q rfl).trans he
  generalize hto : ({ cls := .type "traceback", dict := none, data := .fields ([head, .ref L, .none, rawInt L, .none] ++ (if pl.isEmpty then List.replicate 6 Value.none else pl)).toArray } : Obj) = to
  have htd : ∃ ts, to.data = .fields ts ∧ ts[3]? = some (rawInt L) := by subst hto; exact ⟨_, rfl, by simp⟩
  have htf : to.isFreed = false := by subst hto; rfl
  have he₂ : (h₁.push to).get? (μ'.a i) = some oe := Heap.get?_push_of_some _ he₁
  refine wpAny_setField he₂ hd (Nat.lt_of_lt_of_le (by decide) hsz) ?_
  have hTe : h₁.objs.size ≠ μ'.a i := Nat.ne_of_gt (Heap.lt_size he₁)
  have he₃ := Heap.get?_update_self (Obj.mapFields (·.setIfInBounds 1 (Value.ref h₁.objs.size))) he₂ (Obj.isFreed_of_fields (Obj.data_mapFields hd _))
  rw [mapFields_eq hd] at he₃
  have oth : ∀ b, b ≠ μ'.a i → ((h₁.push to).update (μ'.a i) (Obj.mapFields (·.setIfInBounds 1 (Value.ref h₁.objs.size)))).get? b = (h₁.push to).get? b := fun b hb => Heap.get?_update_other _ _ (Ne.symm hb)
  have hT₃ : ((h₁.push to).update (μ'.a i) (Obj.mapFields (·.setIfInBounds 1 (Value.ref h₁.objs.size)))).get? h₁.objs.size = some to := (oth _ hTe).trans (Heap.get?_push_size h₁ htf)
  have P' := QE_move (h' := (h₁.push to).update (μ'.a i) (Obj.mapFields (·.setIfInBounds 1 (Value.ref h₁.objs.size)))) (T₀ := none) O P hi (fun b q => by cases q)
    (fun b o eb q z_ hf => (oth b q).trans (Heap.get?_push_of_some _ ((hs₁.2.1 b hf).trans eb)))
    (fun b o eb q z_ => by obtain ⟨sl, z⟩ := hs₁.2.2 b o eb; exact ⟨sl, (oth b q).trans (Heap.get?_push_of_some _ z)⟩) ⟨oe, _, he, he₃⟩
  refine shut fun P_ o_ => ?_
  obtain ⟨ts, ht1, ht2⟩ := htd
  refine o_ ?_
  have hnew : s₁.heap.get? h₁.objs.size = none := by
    cases q : s₁.heap.get? h₁.objs.size with
    | none => rfl
    | some o => obtain ⟨sl, z⟩ := hs₁.2.2 _ o q; exact absurd (Heap.lt_size z) (Nat.lt_irrefl _)
  exact ⟨i, ball, μ', σ', rfl, hi, P', ⟨_, _, h₁.objs.size, to, ts, rawInt L, he₃, rfl, by simpa using hsz, by simp [Nat.lt_of_lt_of_le (show 1 < 2 by decide) hsz], hTe, hT₃, ht1, ht2, not_own_new P.rel hnew, P.back hnew⟩, hX⟩
theorem QE.note {e : Value} {M : Model} {E : Value → Shared → Prop} (O : Ok B n G A env fy m μ σ s) (h : QE B (frs A) fx μ σ s X e s') : wpAny M A (noteFrame e env) (fun z_ s'' => QT B (frs A) fx μ σ s X e s'') E s' := by
  refine shut fun P_ o_ => ?_
  obtain ⟨i, ball, μ', σ', rfl, hi, P, fl, hX⟩ := h
  obtain ⟨f, outer, L, e1, e2, e3, FF⟩ := frames_at O P
  refine o_ ?_
  unfold noteFrame
  rw [e3]
  rcases fl with ⟨o, vs, ho, hd, hsz, h1⟩ | ⟨o, vs, T, oT, ts, flt, ho, hd, hsz, h1, hTe, hT, hdT, h3, hno, hn⟩
  · refine wpAny_bind (wpAny_field ho hd h1 ?_)
    rw [if_neg (by decide)]
    exact W_entry O P hi ho hd hsz hX e3
  · refine wpAny_bind (wpAny_field ho hd h1 ?_)
    rw [if_pos (show (Value.ref T != Value.none) = true from by simp)]
    refine wpAny_bind (wpAny_field hT hdT h3 ?_)
    by_cases q : (flt == rawInt L) = true
    · rw [if_pos q]
      exact wpAny_pure ⟨i, ball, μ', σ', rfl, hi, P, ⟨o, vs, T, oT, ts, flt, ho, hd, hsz, h1, hTe, hT, hdT, h3, hno, hn⟩, hX⟩
    · rw [if_neg q]
      refine wpAny_bind (wpAny_setField hT hdT (Array.getElem?_eq_some_iff.mp h3).1 ?_)
      have oth : ∀ b, b ≠ T → (s'.heap.update T (Obj.mapFields (·.setIfInBounds 3 Value.none))).get? b = s'.heap.get? b := fun b hb => Heap.get?_update_other _ _ (Ne.symm hb)
      have hT₂ := Heap.get?_update_self (Obj.mapFields (·.setIfInBounds 3 Value.none)) hT (Obj.isFreed_of_fields (Obj.data_mapFields hdT _))
      have P₂ := QE_move (h' := s'.heap.update T (Obj.mapFields (·.setIfInBounds 3 Value.none))) (T₀ := some T) O P hi (fun b z => by cases z; exact ⟨hn, hno, ⟨oT, ts, hT, hdT⟩, _, hT₂⟩)
        (fun b o eb q r z_ => (oth b fun z => r (by rw [z])).trans eb) (fun b o eb q r => ⟨o.slots, (oth b fun z => r (by rw [z])).trans eb⟩) ⟨o, vs, ho, by rw [oth _ (Ne.symm hTe), ho, ← hd]⟩
      exact W_entry (s₁ := { s' with heap := s'.heap.update T (Obj.mapFields (·.setIfInBounds 3 Value.none)) }) O P₂ hi ((oth _ (Ne.symm hTe)).trans ho) hd hsz hX e3
theorem QT.flight {A' : Around} {e : Value} {M : Model} {E : Value → Shared → Prop} {fl' : Option Addr} (O : Ok B n G A env fy m μ σ s) (h : QT B (frs A) fx μ σ s X e s') : wpAny M A' (setFlight e fl') (fun z_ s'' => QT B (frs A) fx μ σ s X e s'') E s' := by
  refine shut fun P_ o_ => ?_
  obtain ⟨i, ball, μ', σ', rfl, hi, P, ⟨o, vs, T, oT, ts, flt, ho, hd, hsz, h1, hTe, hT, hdT, h3, hno, hn⟩, hX⟩ := h
  refine o_ ?_
  have hsz3 : 3 < ts.size := (Array.getElem?_eq_some_iff.mp h3).1
  unfold setFlight
  refine wpAny_bind (wpAny_field ho hd h1 ?_)
  rw [if_pos (show (Value.ref T != Value.none) = true from by simp)]
  refine wpAny_setField hT hdT hsz3 ?_
  have oth : ∀ b, b ≠ T → (s'.heap.update T (Obj.mapFields (·.setIfInBounds 3 (fl'.elim Value.none fun f => rawInt f)))).get? b = s'.heap.get? b := fun b hb => Heap.get?_update_other _ _ (Ne.symm hb)
  have hT₂ := Heap.get?_update_self (Obj.mapFields (·.setIfInBounds 3 (fl'.elim Value.none fun f => rawInt f))) hT (Obj.isFreed_of_fields (Obj.data_mapFields hdT _))
  have P₂ := QE_move (h' := s'.heap.update T (Obj.mapFields (·.setIfInBounds 3 (fl'.elim Value.none fun f => rawInt f)))) (T₀ := some T) O P hi (fun b z => by cases z; exact ⟨hn, hno, ⟨oT, ts, hT, hdT⟩, _, hT₂⟩)
    (fun b o eb q r z_ => (oth b fun z => r (by rw [z])).trans eb) (fun b o eb q r => ⟨o.slots, (oth b fun z => r (by rw [z])).trans eb⟩) ⟨o, vs, ho, by simp only [oth _ (Ne.symm hTe), ho, ← hd]⟩
  exact ⟨i, ball, μ', σ', rfl, hi, P₂, ⟨o, vs, T, _, _, _, (oth _ (Ne.symm hTe)).trans ho, hd, hsz, h1, hTe, hT₂, Obj.data_mapFields hdT _, Array.getElem?_setIfInBounds_self_of_lt hsz3, hno, hn⟩, hX⟩
theorem thruAll : Thru B X where
  leave := fun O hf h => by
    unfold leaving
    exact wpAny_bind (wpAny_mono (h.note O) (fun z_ s'' z => wpAny_mono (z.flight O) (fun z_ z_ z => z.qe) fun z_ z_ z => z) fun z_ z_ z => z)
  loop := fun O h => by
    refine wpAny_mono (h.note O) (fun z_ s'' z => ?_) fun z_ z_ z => z
    refine shut fun P_ o_ => ?_
    obtain ⟨i, ball, μ', σ', e1, hi, P, tr, hX⟩ := z
    refine o_ ?_
    clear h
    subst e1
    have tr' := tr
    refine shut fun P_ o_ => ?_
    obtain ⟨o, vs, T, oT, ts, flt, ho, hd, hsz, h1, _⟩ := tr'
    refine o_ ?_
    show wpAny _ _ _ _ _ _
    refine wpAny_bind (wpAny_field ho hd h1 ?_)
    rw [if_neg (by simp)]
    exact wpAny_mono (QT.flight O ⟨i, ball, μ', σ', rfl, hi, P, tr, hX⟩) (fun z_ z_ z => z.qe) fun z_ z_ z => z
end
section
variable {prog : Program} {w : World} {A : Around} {K : Frag} {C CE x : Addr} {s : Shared} {name : Str} {tk : Tok} {v : Value} {R : Result → Shared → Prop} {cd : ClassData}
theorem osa_exc {ox : Obj} {vs : Array Value} (X : K.In s.heap) (hx : s.heap.get? x = some ox) (hcl : ox.cls = .ref C) (hdn : ox.dict = none) (hdt : ox.data = .fields vs) (hfr : ox.isFreed = false)
    (hc : clsIn K C = some cd) (hmro : cd.mro = [.ref C, .ref CE, .type "Exception", .type "BaseException", .type "object"]) (hd' : cd.hasDict = true) (ht : takerIn K C name = some none)
    (h : ∀ h' t, (∀ b o, b ≠ x → s.heap.get? b = some o → h'.get? b = some o) → h'.get? x = some { ox with dict := some s.heap.objs.size } → h'.get? s.heap.objs.size = some (dictOf [⟨PyData.keyHash w.params name, .str name t, v⟩] 1) → R (.ok (.ret .none)) { s with heap := h', toks := s.toks + 1 }) :
    codeAny (model prog w) A (.call (.builtin "object.__setattr__") ⟨[.ref x, .str name tk, v], []⟩) R s := by
  have SF := PySem.F.store_object
  have I : InstAt s.heap x ox C none := ⟨hx, hcl, by unfold notCls; rw [hdt], by rw [hdn]; trivial⟩
  have ne : cd.mro.isEmpty = false := by rw [hmro]; rfl
  have sub : Looks (model prog w) s.heap (isInstance (.ref x) (.type "object")) true := I.type.andThen (looks_mroIn X (by unfold mroIn; rw [hc, Option.bind_some, if_neg (by rw [ne]; decide), hmro]; rfl))
  refine codeAny_call_builtin SF.slot.plain SF.entry (@check_slot (model prog w) _ _ s "object.__setattr__" "object" "__setattr__" (.ref x) [.str name tk, v] [] _ SF.kind SF.split sub (SF.args (.ref x) (.str name tk) v) ?_)
  obtain ⟨attr, ha, hr⟩ := Option.bind_eq_some_iff.mp ht
  have hm : Looks (model prog w) s.heap (mroOf (.ref C)) cd.mro := (looks_clsIn X hc).andThen .now
  have L3 : Looks (model prog w) s.heap (PySem.Builtin.ObjectAttr.storeTaker? attr) none := by
    cases attr with
    | none => exact .now
    | some a =>
      obtain ⟨b, hb, e⟩ := Option.map_eq_some_iff.mp hr
      refine (looks_takesIn X hb).andThen ?_
      cases b
      · exact .now
      · cases e
  rw [osa_eq, refuse_eq]
  refine wpAny_bind (wpAny_bind (I.type.here (wpAny_bind (hm.here ?_))))
  rw [hmro, refuseLoop_ref, refuseLoop_ref, PySem.F.store_Exception.passes]
  refine wpAny_pure (wpAny_bind (I.type.here (wpAny_bind ((looks_findIn X ha).here (wpAny_bind (L3.here ?_))))))
  refine shut fun P_ o_ => ?_
  obtain ⟨oc, od, oda, osl⟩ := ox
  refine o_ ?_
  dsimp only at hcl hdn hdt
  subst hcl hdn hdt
  show wpAny _ _ (PySem.Builtin.ObjectAttr.storeInOwnDict (.ref x) (.ref C) (.str name tk) name v _) _ _ _
  refine wpAny_bind (wpAny_pure (wpAny_bind (wpAny_bind (wpAny_loadPart hx (wpAny_bind ((looks_clsIn X hc).here ?_))))))
  rw [hd']
  refine wpAny_bind (wpAny_alloc ?_)
  have hx₁ : (s.heap.push { cls := .type "dict", data := .dict #[] }).get? x = some { cls := .ref C, data := .fields vs, slots := osl } := Heap.get?_push_of_some _ hx
  refine wpAny_bind (wpAny_update hx₁ ?_)
  refine wpAny_pure (a := some s.heap.objs.size) ?_
  have hxd : x ≠ s.heap.objs.size := Nat.ne_of_lt (Heap.lt_size hx)
  have hx₂ := Heap.get?_update_self (fun o => { cls := o.cls, dict := some s.heap.objs.size, data := o.data, slots := o.slots }) hx₁ rfl
  have hd₂ : ((s.heap.push { cls := .type "dict", data := .dict #[] }).update x fun o => { cls := o.cls, dict := some s.heap.objs.size, data := o.data, slots := o.slots }).get? s.heap.objs.size = some (dictOf [] 0) :=
    (Heap.get?_update_other _ _ hxd).trans (Heap.get?_push_size _ rfl)
  refine wpAny_bind (wpAny_pure (wpAny_bind ?_))
  unfold nsSet
  refine wpAny_bind (wpAny_bind (wpAny_askSetting (wpAny_pure (wpAny_bind (wpAny_mkText (wpAny_bind (wpAny_loadPart hd₂ ?_)))))))
  unfold dictOf
  dsimp only
  have c : (!(List.toArray ([] : List DictEntry)).any (·.key.isStr name) && (List.toArray ([] : List DictEntry)).any (·.refKey)) = false := by simp
  rw [aRefKeyMayBeTheName_at, c]
  have hpn := putName_dict name (PyData.keyHash w.params name) (.str name s.toks) v [] 0
  have hg := Heap.get?_update_self (Obj.putName name (PyData.keyHash w.params name) (.str name s.toks) v) hd₂ (by rw [hpn]; rfl)
  rw [hpn] at hg
  refine wpAny_updatePart hd₂ ?_
  refine wpAny_bind (wpAny_lookBehind hg (pastItsLine_dict (by simp only [List.size_toArray, sizeLine_eq]; simp [putL])) ?_)
  refine wpAny_pure (h _ s.toks (fun b o hb e => ?_) ?_ hg)
  · have hbd : s.heap.objs.size ≠ b := Nat.ne_of_gt (Heap.lt_size e)
    rw [Heap.get?_update_other _ _ hbd, Heap.get?_update_other _ _ (Ne.symm hb)]
    exact Heap.get?_push_of_some _ e
  · rw [Heap.get?_update_other _ _ (Ne.symm hxd)]
    exact hx₂
end
section
variable {prog : Program} {w : World} {A : Around} {E : Value → Shared → Prop} {h : Heap} {g : Array GenState} {d : Drawn} {t : Nat} {os : OsState}
variable {nm q : Str} {C N : Addr} {bs bm bmB : List Value} {hdct : Bool} {sn : List Str} {sub : List Value} {ab : Bool} {col : Option Bool} {dd : Option Addr} {k0 k1 k2 k3 k5 : Option Value} {T0 newId initId : String}
theorem type_call_exc (F : ExcBaseFacts T0 newId initId bmB) (T : OwnTail h bmB bm) {mN : Str → Option Value} {rest : List Value} {fI : Addr} {oI : Obj} {Q : Fin → Shared → Prop}
    (hC : h.get? C = some (excClassObj nm q C N bs bm hdct sn sub ab col dd k0 k1 k2 k3 k5 newId)) (hn : h.Ns N mN) (hi : mN "__init__" = some (.ref fI)) (hfI : h.get? fI = some oI) (hfc : oI.cls = .type "function") (hrest : rest.length ≤ sizeLine)
    (hq : wpAny (model prog w) A (call (.ref fI) (.ref (h.objs.size + 1) :: rest)) (fun r s' => r = .none ∧ Q (.done (.ret (.ref (h.objs.size + 1)))) s') E
      ⟨(h.push { cls := .type "tuple", data := .seq rest.toArray }).push { cls := .ref C, data := .fields #[.ref h.objs.size, .none, .none, .none, .bool false, .none] }, g, d, t, os⟩) :
    wpAny (model prog w) A (Builtin.«type.__call__» ⟨.ref C :: rest, []⟩) Q E ⟨h, g, d, t, os⟩ := by
  repeat (first | with_reducible refine wpAny_loadPart_at hC ?_ | with_reducible refine wpAny_madeBy_exc hC ?_ | wp_step)
  refine codeAny_call_builtin_code (Code.quiet_builtin _ F.quiet) (wpAny_check_new_subT F T hC ?_)
  refine codeAny_exc_new_subT F T hC ?_ hrest
  show wpAny _ _ _ _ _ _
  have hC₁ := Heap.get?_push_of_some { cls := .ref C, data := .fields #[.ref h.objs.size, .none, .none, .none, .bool false, .none] } (Heap.get?_push_of_some { cls := .type "tuple", data := .seq rest.toArray } hC)
  have hfI₁ := Heap.get?_push_of_some { cls := .ref C, data := .fields #[.ref h.objs.size, .none, .none, .none, .bool false, .none] } (Heap.get?_push_of_some { cls := .type "tuple", data := .seq rest.toArray } hfI)
  have hn₁ : ((h.push { cls := .type "tuple", data := .seq rest.toArray }).push { cls := .ref C, data := .fields #[.ref h.objs.size, .none, .none, .none, .bool false, .none] }).Ns N mN :=
    let ⟨o, es, ep, e, r⟩ := hn; ⟨o, es, ep, Heap.get?_push_of_some _ (Heap.get?_push_of_some _ e), r⟩
  have hget : ((h.push { cls := .type "tuple", data := .seq rest.toArray }).push { cls := .ref C, data := .fields #[.ref h.objs.size, .none, .none, .none, .bool false, .none] }).get? (h.objs.size + 1) = some
      { cls := .ref C, data := .fields #[.ref h.objs.size, .none, .none, .none, .bool false, .none] } := by heap_get
  have hcC : (Value.ref C :: bm).contains (.ref C) = true := by simp
  have T₁ := T.keeps (h' := (h.push { cls := .type "tuple", data := .seq rest.toArray }).push { cls := .ref C, data := .fields #[.ref h.objs.size, .none, .none, .none, .bool false, .none] })
    fun b o e => Heap.get?_push_of_some _ (Heap.get?_push_of_some _ e)
  unfold isInstance
  repeat (first | with_reducible refine wpAny_loadPart_at hget ?_ | (with_reducible refine wpAny_isSubtype_exc hC₁ ?_; rw [hcC]) | wp_step)
  show wpAny _ _ (typeLookup (.ref C) _) _ _ _
  refine wpAny_typeLookup_tail hC₁ hn₁ T₁ F.mroIs F.init.lookup ?_
  rw [hi]
  refine wpAny_holding (wpAny_bind ?_)
  unfold bindSpecial
  refine wpAny_bind (wpAny_typeOf (T := "function") ⟨_, hfI₁, hfc⟩ ?_)
  rw [if_pos (by decide)]
  refine wpAny_pure (wpAny_bind (wpAny_mono hq (fun r s' hr => ?_) fun z_ z_ x => x))
  obtain ⟨rfl, hQ⟩ := hr
  wp_walk
  exact hQ
theorem call_exc {R : Result → Shared → Prop} (F : ExcBaseFacts T0 newId initId bmB) (T : OwnTail h bmB bm) {mN : Str → Option Value} {rest : List Value} {fI : Addr} {oI : Obj}
    (hC : h.get? C = some (excClassObj nm q C N bs bm hdct sn sub ab col dd k0 k1 k2 k3 k5 newId)) (hn : h.Ns N mN) (hi : mN "__init__" = some (.ref fI)) (hfI : h.get? fI = some oI) (hfc : oI.cls = .type "function") (hrest : rest.length ≤ sizeLine)
    (hq : wpAny (model prog w) (A.under (.builtin "type.__call__" ⟨.ref C :: rest, []⟩)) (call (.ref fI) (.ref (h.objs.size + 1) :: rest)) (fun r s' => r = .none ∧ R (.ok (.ret (.ref (h.objs.size + 1)))) s') (fun e s' => R (.error e) s')
      ⟨(h.push { cls := .type "tuple", data := .seq rest.toArray }).push { cls := .ref C, data := .fields #[.ref h.objs.size, .none, .none, .none, .bool false, .none] }, g, d, t, os⟩) :
    codeAny (model prog w) A (.call (.ref C) ⟨rest, []⟩) R ⟨h, g, d, t, os⟩ := by
  have f1 := tc_lookup
  have f2 := tc_bind (.ref C)
  have hT : (⟨h, g, d, t, os⟩ : Shared).TypeIs (.ref C) "type" := ⟨_, hC, rfl⟩
  refine codeAny_of_tree ?_
  show wpAny _ _ (callAny (.ref C) _) _ _ _
  repeat (any_goals (first | assumption | with_reducible refine wpAny_loadPart_at hC ?_ | wp_step))
  refine ⟨rfl, ?_⟩
  refine codeAny_call_builtin_at (Code.quiet_builtin _ (by decide +kernel)) entry_typeCall (wpAny_check_type_call_sub hC (type_call_exc F T hC hn hi hfI hfc hrest hq))
end
inductive XFo (B : Bs) (fI : Addr) : Prop
  | mk (CE N : Addr) (nm q : Str) (bs : List Value) (sn : List Str) (sub : List Value) (ab : Bool) (col : Option Bool) (dd : Option Addr) (k0 k1 k2 k3 k5 : Option Value)
    (hC : B.K.lookup B.excC = some (excClassObj nm q B.excC N bs [.ref CE, .type "Exception", .type "BaseException", .type "object"] true sn sub ab col dd k0 k1 k2 k3 k5 "Exception.__new__"))
    (mN : Str → Option Value) (hN : ∀ h, B.K.In h → h.Ns N mN) (hNi : mN "__init__" = some (.ref fI)) (c0 : Value) (de : Option Addr) (cd : ClassData) (sl : Array (Option Value)) (mA : Str → Option Value)
    (hE : B.K.lookup CE = some { cls := c0, dict := de, data := .cls cd, slots := sl }) (hA : ∀ h, B.K.In h → h.Ns cd.ns mA) (hAi : mA "__init__" = none)
structure XF (B : Bs) (fI : Addr) (sc : Scope) (p1 p2 p3 p4 : Pos) : Prop where
  ob : XFo B fI
  fn : FN B fI ["self", "ball"] [] [.Assign [.Attribute (.Name "self" p1) "ball" p2] (.Name "ball" p3) p4] sc
  ty : ∃ oI, B.K.lookup fI = some oI ∧ oI.cls = .type "function"
  chk : chk sc ⟨[], [], []⟩ ["self", "ball"] [] = true
  loc : sc.names.lookup ("self" : Str) = some .local ∧ sc.names.lookup ("ball" : Str) = some .local
  sa : findIn B.K (.ref B.excC) "__setattr__" = some (some (.builtin "object.__setattr__"))
  tk : takerIn B.K B.excC "ball" = some none
  ga : findIn B.K (.ref B.excC) "ball" = some none
  gaa : findIn B.K (.ref B.excC) "__getattribute__" = some (some (.builtin "BaseException.__getattribute__"))
section
variable {B : Bs} {n : Nat} {X : V → List AO → Prop} {σ : List AO} {Q : V → List AO → Prop} {fI : Addr} {sc : Scope} {p1 p2 p3 p4 : Pos}
theorem CA_exc {ball : V} (F : XF B fI sc p1 p2 p3 p4) (h : Q (.ref σ.length) (σ ++ [.excN ball])) : CA B (n + 2) X (.ref B.excC) [ball] σ Q := fun A μ s vals O hv => by
  obtain ⟨v, rfl, hv1⟩ := VRs_1 hv
  obtain ⟨CE, N, nm, q, bs, sn, sub, ab, col, dd, k0, k1, k2, k3, k5, hC, mN, hN, hNi, c0, de, cd, sl, mA, hE, hA, hAi⟩ := F.ob
  obtain ⟨oI, hI, hIc⟩ := F.ty
  have X₀ := B.X.keeps O.rel.base
  obtain ⟨hh, g, d, t, os⟩ := s
  have T : OwnTail hh [.type "Exception", .type "BaseException", .type "object"] [.ref CE, .type "Exception", .type "BaseException", .type "object"] := .own (X₀ _ _ hE) (hA _ X₀) hAi .base
  refine call_exc PySem.F.excBase_Exception T (X₀ _ _ hC) (hN _ X₀) hNi (X₀ _ _ hI) hIc (by simp [sizeLine_eq]) ?_
  generalize hA' : A.under (.builtin "type.__call__" ⟨.ref B.excC :: [v], []⟩) = A'
  generalize hT' : ({ cls := .type "tuple", data := .seq [v].toArray } : Obj) = ot
  generalize hE' : ({ cls := .ref B.excC, data := .fields #[.ref hh.objs.size, .none, .none, .none, .bool false, .none] } : Obj) = oe
  have kp : ∀ b o, hh.get? b = some o → ((hh.push ot).push oe).get? b = some o := fun b o e => Heap.get?_push_of_some _ (Heap.get?_push_of_some _ e)
  have he : ((hh.push ot).push oe).get? (hh.objs.size + 1) = some oe := by
    rw [← Heap.size_push hh ot]; exact Heap.get?_push_size _ (by subst hE'; rfl)
  have X₁ := X₀.keeps kp
  obtain ⟨oc, od, osl, name, qual, params, dV, kV, doc, pm, an, cdv, ct, dvals, hdv, hob, hcd, hbind⟩ := F.fn.ob
  have hchk := F.chk
  simp only [chk, Bool.and_eq_true, decide_eq_true_eq, List.all_eq_true, bne_iff_ne, ne_eq, beq_iff_eq, Bool.not_eq_true', Bool.or_eq_true] at hchk
  refine shut fun P_ o_ => ?_
  obtain ⟨⟨⟨⟨⟨⟨⟨⟨⟨c1, c2⟩, c3⟩, c4⟩, c5⟩, c6⟩, c7⟩, c8⟩, c9⟩, c10⟩ := hchk
  refine o_ ?_
  have hdn : dvals = [] := by have := VRs_length (hdv μ 0 hh); simpa using this
  subst hdn
  have hd : A'.depth < recursionLimit := by
    have := O.room
    rw [← hA']
    show A.depth + (Code.builtin "type.__call__" ⟨.ref B.excC :: [v], []⟩).weight < recursionLimit
    rw [show (Code.builtin "type.__call__" ⟨.ref B.excC :: [v], []⟩).weight = 1 from rfl]
    unfold recursionLimit; lia -abstractProof
  refine wpAny_call (codeAny_call_function hd (X₁ _ _ hob) rfl c2 c3 rfl (codeRec_of X₁ hcd) ?_)
  refine hbind [.ref (hh.objs.size + 1), v] rfl _ _ _ _ _ X₁ ?_
  refine wpAny_newFunctionEnv_cells c1 (fun x hx => ?_) fun env henv s₁ I => ?_
  · have hx' : x.1 ∈ (["self", "ball"] : List Str) ++ [] := by
      have := (List.of_mem_zip (show (x.1, x.2) ∈ _ from hx)).1
      exact List.mem_append_left _ this
    have := (c6 x.1 hx').1.1
    rcases this with z | ⟨z1, z2⟩
    · exact .inl z
    · exact .inr ⟨z1, cellsFrom_some' _ _ _ z2⟩
  subst henv
  refine ⟨((B.nolim.keeps O.rel.base).keeps kp).keeps I.toInCall.keep, codeAny_func ?_⟩
  obtain ⟨h₁, tk, rfl, hk⟩ := I.done
  generalize hEn : newEnv sc ((hh.push ot).push oe).objs.size mainGlobals (cellsFrom (((hh.push ot).push oe).objs.size + 1) sc.names []) (qual ++ ".<locals>.") (some fI) cdv none builtinsNs = env at I ⊢
  have eS : env.scope = sc := by rw [← hEn]; rfl
  have kind : ∀ x, env.kindOf x = sc.names.lookup x := fun x => by unfold Env.kindOf; rw [eS]
  have hkf : env.scope.kind = .function := by rw [eS]; exact c1
  have ns := I.toInCall.ns
  have e1 := bindL_at (kindOf := env.kindOf) (m := fun z_ => none) (show ((["self", "ball"] : List Str)).Nodup by decide) (show (("self" : Str), Value.ref (hh.objs.size + 1)) ∈ (["self", "ball"] : List Str).zip ([.ref (hh.objs.size + 1), v] ++ []) by simp) ((kind _).trans F.loc.1)
  have e2 := bindL_at (kindOf := env.kindOf) (m := fun z_ => none) (show ((["self", "ball"] : List Str)).Nodup by decide) (show (("ball" : Str), v) ∈ (["self", "ball"] : List Str).zip ([.ref (hh.objs.size + 1), v] ++ []) by simp) ((kind _).trans F.loc.2)
  refine wpAny_execs_cons ?_
  refine plainObj_wpAny_Assign_Attribute (wpAny_Name (wpAny_loadName_local hkf ((kind _).trans F.loc.2) ns e2 (wpAny_Name (wpAny_loadName_local hkf ((kind _).trans F.loc.1) ns e1 ?_) (by decide))) (by decide)) rfl
  have he₁ : h₁.get? (hh.objs.size + 1) = some oe := hk _ _ he
  have X₂ := X₁.keeps hk
  have hIn : InstAt h₁ (hh.objs.size + 1) oe B.excC none := ⟨he₁, by subst hE'; rfl, by subst hE'; rfl, by subst hE'; trivial⟩
  refine set_plain X₂ hIn F.sa ?_
  have hcls : clsIn B.K B.excC = some { name := nm, bases := bs, mro := .ref B.excC :: [.ref CE, .type "Exception", .type "BaseException", .type "object"], ns := N, qualname := q, hasDict := true, slotNames := sn, subclasses := sub, abstract := ab, collection := col, hasDel := false } := by unfold clsIn; rw [hC]
  refine osa_exc (s := { heap := h₁, gens := g, drawn := d, toks := tk + 1, os := os }) X₂ he₁ (by subst hE'; rfl) (by subst hE'; rfl) (by subst hE'; rfl) (by subst hE'; rfl) hcls rfl rfl F.tk fun h₂ t₂ hk₂ hx₂ hd₂ => ?_
  refine wpAny_execs_nil ?_
  -- the end
  have new1 : hh.objs.size ≤ hh.objs.size + 1 := Nat.le_succ _
  have nx : ∀ b o, hh.get? b = some o → b ≠ hh.objs.size + 1 := fun b o e => Nat.ne_of_lt (Nat.lt_succ_of_lt (Heap.lt_size e))
  have kAll : ∀ b o, hh.get? b = some o → h₂.get? b = some o := fun b o e => hk₂ b o (nx b o e) (hk b o (kp b o e))
  have hle : hh.objs.size ≤ h₁.objs.size := by
    have := Heap.lt_size he₁
    exact Nat.le_of_lt (Nat.lt_of_succ_lt this)
  have P : Post B (frs A) [] μ σ ⟨hh, g, d, t, os⟩ (μ.ext σ.length (hh.objs.size + 1) h₁.objs.size) (σ ++ [.excN ball]) ⟨h₂, g, d, tk + 1 + 1, os⟩ := by
    refine Post.alloc O.rel kAll (Nat.le_succ _) hle ⟨{ oe with dict := some h₁.objs.size }, ?_, by subst hE'; rfl, by rw [ext_d], ⟨_, by subst hE'; rfl, by simp, by simp⟩, t₂, v, PyData.keyHash B.w.params "ball", 1, ?_, ?_⟩ trivial
    · rw [ext_a]; exact hx₂
    · rw [ext_d]; exact hd₂
    · exact VR.keeps (TK.of_keeps kAll) (Nat.le_succ _) (fun j hj => if_neg (Nat.ne_of_lt hj)) hv1
  exact ⟨rfl, _, _, P, .ref σ.length, VR_new, h⟩
end
section
variable {B : Bs} {n : Nat} {X : V → List AO → Prop} {G : Gs} {m : Loc} {σ : List AO} {fI : Addr} {sc : Scope} {p1 p2 p3 p4 : Pos}
inductive RsQ (X : V → List AO → Prop) (a : V) (σ₁ : List AO) : Prop
  | mk (i : Nat) (ball : V) (e : a = .ref i) (hi : σ₁[i]? = some (.excN ball)) (x : X ball (σ₁.set i (.exc ball)))
theorem EX_raise {e : Expr} {pos : Pos} {Q : AF → Loc → List AO → Prop} (F : XF B fI sc p1 p2 p3 p4) (h : EV B n X G m σ e (RsQ X)) : EX B n X G m σ (.Raise (some e) none pos) Q := fun A env fx μ s hf O => by
  obtain ⟨CE, N, nm, q, bs, sn, sub, ab, col, dd, k0, k1, k2, k3, k5, hC, _, _, _, _, _, _, _, _, _, _, _⟩ := F.ob
  show wpAny _ _ _ _ _ _
  simp only [arm_exec_Raise]
  refine wpAny_bind (wpAny_standAt ?_)
  show wpAny _ _ (raiseStmt env (some (do let v ← eval e env; standAt pos; pure v)) none) _ _ _
  unfold raiseStmt
  refine wpAny_bind (wpAny_bind (wpAny_mono (h A env fx μ s O) (fun v s₁ ⟨μ₁, σ₁, P₁, a, ha, i, ball, e1, hi, hX⟩ => wpAny_bind (wpAny_standAt (wpAny_pure ?_))) fun z_ z_ x => x.weaken))
  subst e1
  have O₁ := O.next P₁
  obtain ⟨hlt, rfl⟩ := VR_ref_of ha
  refine shut fun P_ o_ => ?_
  obtain ⟨o, ho, hc, hd, ⟨vs, hv, hsz, hv1⟩, rest⟩ := O₁.rel.obj i _ hi
  refine o_ ?_
  have P₂ : Post B (frs A) [] μ₁ σ₁ s₁ μ₁ (σ₁.set i (.exc ball)) s₁ := Post.recast O₁.rel hi ⟨o, ho, hc, hd, ⟨vs, hv⟩, rest⟩ id
  have hE : QE B (frs A) fx μ σ s X (.ref (μ₁.a i)) s₁ := ⟨i, ball, μ₁, _, rfl, by rw [List.getElem?_set_self hlt], (P₁.trans P₂).weaken, .inl ⟨o, vs, ho, hv, hsz, hv1⟩, hX⟩
  have hC₁ := B.X.keeps O₁.rel.base _ _ hC
  have hcB : (Value.ref B.excC :: [.ref CE, .type "Exception", .type "BaseException", .type "object"]).contains (.type "BaseException") = true := by rfl
  obtain ⟨oc, od, oda, osl⟩ := o
  dsimp only at hc hd hv
  subst hc hd hv
  obtain ⟨hp, g, d, tk, os⟩ := s₁
  have ho' : hp.get? (μ₁.a i) = some { cls := .ref B.excC, dict := some (μ₁.d i), data := .fields vs, slots := osl } := ho
  repeat (first | with_reducible refine wpAny_loadPart_at ho' ?_ | with_reducible refine wpAny_loadPart_at hC₁ ?_ | (with_reducible refine wpAny_isSubtype_exc hC₁ ?_; rw [hcB]) | wp_step)
  simp only [hv1]
  refine wpAny_pure ?_
  rw [if_neg (by decide)]
  exact wpAny_pure (wpAny_raiseNew_none O₁.hnd hE)
end
section
variable {prog : Program} {w : World} {A : Around} {E : Value → Shared → Prop} {s : Shared} {K : Frag} {x C : Addr} {ox : Obj} {od : Option Obj} {name : Str} {expr : Bool} {Q : Value → Shared → Prop} {cd : ClassData}
theorem exc_get {v : Value} (X : K.In s.heap) (I : InstAt s.heap x ox C od) (hga : findIn K (.ref C) "__getattribute__" = some (some (.builtin "BaseException.__getattribute__"))) (hgt : findIn K (.ref C) "__getattr__" = some none)
    (hc : clsIn K C = some cd) (hne : cd.mro.isEmpty = false) (hb : cd.mro.contains (.type "BaseException") = true) (hf : findObj K C od name = some (.value v)) (hh : handedIn v = true) (h : Q v { s with toks := s.toks + 1 }) :
    wpAny (model prog w) A (getAttr (.ref x) name expr) Q E s := by
  obtain ⟨hh', g, d, t, os⟩ := s
  have L0 := I.type (M := model prog w)
  have L1 := looks_findIn (M := model prog w) X hga
  have L2 := looks_findIn (M := model prog w) X hgt
  have L3 := looks_find (M := model prog w) X I hf
  have L4 : Looks (model prog w) hh' (isInstance (.ref x) (.type "BaseException")) true := I.type.andThen (looks_mroIn X (by unfold mroIn; rw [hc, Option.bind_some, if_neg (by rw [hne]; decide), hb]))
  unfold getAttr getAttrBy
  refine wpAny_bind (wpAny_mkText (wpAny_holding (wpAny_bind (L0.at (wpAny_bind (L1.at ?_))))))
  dsimp only
  rw [if_neg (by intro q; simp at q)]
  unfold getAttrByItsOwn
  refine wpAny_bind (L2.at ?_)
  refine wpAny_bind (wpAny_attempt (wpAny_holding ?_))
  have hcg : callGetattribute (.ref x) (.str name t) (.builtin "BaseException.__getattribute__") expr = boundAndCalled (.builtin "BaseException.__getattribute__") (.ref x) (.str name t) := by
    unfold callGetattribute; cases expr <;> rfl
  rw [hcg]
  unfold boundAndCalled
  rw [PySem.F.attrBase_Exception.ga.bind]
  refine wpAny_bind (wpAny_pure (wpAny_call ?_))
  refine codeAny_call_builtin PySem.F.attrBase_Exception.ga.plain PySem.F.entry_bexc_ga (@check_slot (model prog w) _ _ ⟨hh', g, d, t + 1, os⟩ "BaseException.__getattribute__" "BaseException" "__getattribute__" (.ref x) [.str name t] [] _ (by decide +kernel) (by decide +kernel) L4 (PySem.F.args_bexc_ga _ _) ?_)
  refine wpAny_bind (wpAny_pure (wpAny_bind (wpAny_pure (wpAny_bind (L0.at (wpAny_bind (L3.at ?_)))))))
  refine wpAny_pure ?_
  show wpAny _ _ (handedOut v) _ _ _
  rw [handedOut_of hh]; exact wpAny_pure h
end
section
variable {B : Bs} {n : Nat} {X X' : V → List AO → Prop} {G : Gs} {m : Loc} {σ : List AO} {fI : Addr} {sc : Scope} {p1 p2 p3 p4 : Pos}
theorem Ok.clear {A env fx μ s} (O : Ok B n G A env fx m μ σ s) : Ok B n G A env fx [] μ σ s :=
  { O with
    slots := let ⟨f, h, _⟩ := O.slots; ⟨f, h, fun z_ z_ q => by cases q⟩
    nod := .nil
    dbg := fun z_ q => by cases q }
theorem exc_ball {A : Around} {E : Value → Shared → Prop} {s : Shared} {μ : Mp} {i : Nat} {ball : V} {Q : Value → Shared → Prop} (F : XF B fI sc p1 p2 p3 p4) (hgt : findIn B.K (.ref B.excC) "__getattr__" = some none) (R : Rel B μ σ s.heap) (hi : σ[i]? = some (.exc ball))
    (h : ∀ b, VR μ σ.length s.heap ball b → Q b { s with toks := s.toks + 1 }) : wpAny (model B.prog B.w) A (getAttr (.ref (μ.a i)) "ball" true) Q E s := by
  refine shut fun P_ o_ => ?_
  obtain ⟨CE, N, nm, q, bs, sn, sub, ab, col, dd, k0, k1, k2, k3, k5, hC, _, _, _, _, _, _, _, _, _, _, _⟩ := F.ob
  obtain ⟨o, ho, hc, hd, ⟨vs, hv⟩, t, b, hs, ep, hdx, hb⟩ := R.obj i _ hi
  refine o_ ?_
  have hcls : clsIn B.K B.excC = some { name := nm, bases := bs, mro := .ref B.excC :: [.ref CE, .type "Exception", .type "BaseException", .type "object"], ns := N, qualname := q, hasDict := true, slotNames := sn, subclasses := sub, abstract := ab, collection := col, hasDel := false } := by unfold clsIn; rw [hC]
  have I : InstAt s.heap (μ.a i) o B.excC (some { cls := .type "dict", data := .dict #[⟨hs, .str "ball" t, b⟩] ep }) := ⟨ho, hc, by unfold notCls; rw [hv], by rw [hd]; exact hdx⟩
  have hl : lookIn "ball" { cls := .type "dict", data := .dict #[⟨hs, .str "ball" t, b⟩] ep } = some (some b) := by
    unfold lookIn
    simp [Value.isStr]
  refine exc_get (B.X.keeps R.base) I F.gaa hgt hcls rfl rfl (v := b) ?_ hb.handed (h b hb)
  unfold findObj
  rw [hcls, F.ga]
  rw [Option.bind_some]
  rw [show W.ownOf _ (some ({ cls := .type "dict", data := .dict #[⟨hs, .str "ball" t, b⟩] ep } : Obj)) "ball" = some (some b) by unfold W.ownOf; rw [if_pos rfl]; exact hl]
  rfl
theorem EX_try {e : Expr} {x nm : Str} {np rp hp cp ap np2 tp rp2 pos : Pos} {w : Str} {kk kt : Nat} {Q : AF → Loc → List AO → Prop} (F : XF B fI sc p1 p2 p3 p4) (hgt : findIn B.K (.ref B.excC) "__getattr__" = some none)
    (hx : x ∈ G.g) (hg : B.mg x = some (.ref B.excC)) (hl : nm ∈ G.l) (hm : (nm, none) ∈ m) (hu : ∀ v, ∃ m', Upd m nm v m' ∧ (nm, some v) ∈ m')
    (h : EV B n (fun ball σ' => Q (.ret (.tup [.str w, ball])) [] σ') G m σ e fun a σ₁ => Q (.ret a) m σ₁) :
    EX B n X G m σ (.Try [.Return (some e) rp] [.ExceptHandler (some (.Name x np)) (some nm) [.Return (some (.Tuple [.Constant (.str w) kk cp, .Attribute (.Name nm np2) "ball" ap] kt tp)) rp2] hp] [] [] pos) Q := fun A env fx μ s hf O => by
  refine shut fun P_ o_ => ?_
  obtain ⟨CE, N, nmm, q, bs, sn, sub, ab, col, dd, k0, k1, k2, k3, k5, hC, _, _, _, _, _, _, _, _, _, _, _⟩ := id F.ob
  refine o_ ?_
  refine wpAny_Try_except (wpAny_execs_cons (wpAny_Return_some (wpAny_mono (h A env fx μ s O) (fun v s₁ ⟨μ₁, σ₁, P₁, a, ha, q⟩ => ⟨μ₁, σ₁, P₁.weaken, .ret a, m, ha, O.next P₁, q⟩) fun ev s₁ hE => ?_)))
  refine wpAny_mono (hE.note O) (fun z_ s₂ q2 => wpAny_mono (q2.flight O) (fun z_ s₃ q3 => ?_) fun z_ z_ z => z) fun z_ z_ z => z
  refine shut fun P_ o_ => ?_
  obtain ⟨i, ball, μ₃, σ₃, rfl, hi₃, P₃, tr₃, hX₃⟩ := q3
  refine o_ ?_
  have O₃ := O.next P₃
  obtain ⟨gk, gd⟩ := O.gk x hx
  have hlt := idx_lt hi₃
  obtain ⟨o₃, ho₃, hc₃, _⟩ := O₃.rel.obj i _ hi₃
  refine wpAny_handleBy_cons (codeAny_handlers_test (Name_function_global O.kind gk (loadGlobal_global (mg := B.mg) (by rw [O.glob]; exact B.g.keeps O₃.rel.base) hg ?_) gd)) (by intro q; cases q)
  have hC₃ := B.X.keeps O₃.rel.base _ _ hC
  have q3 : QT B (frs A) [] μ σ s (fun ball σ' => Q (.ret (.tup [.str w, ball])) [] σ') (.ref (μ₃.a i)) s₃ := ⟨i, ball, μ₃, σ₃, rfl, hi₃, P₃, tr₃, hX₃⟩
  generalize hea : μ₃.a i = ea at q3 ho₃ ⊢
  refine shut fun P_ o_ => ?_
  obtain ⟨hh, g, d, tk, os⟩ := s₃
  refine o_ ?_
  refine wpAny_excMatches_sub_self hC₃ ho₃ hc₃ rfl (codeAny_handlers_suite_as ?_)
  refine wpAny_mono (q3.flight (A' := A.mark _) O) (fun z_ s₄ q4 => ?_) fun z_ z_ z => z
  refine shut fun P_ o_ => ?_
  obtain ⟨j, ball₄, μ₄, σ₄, e4, hi₄, P₄, _, hX₄⟩ := q4
  refine o_ ?_
  have O₄ := O.next P₄
  obtain ⟨m₅, u, hm₅⟩ := hu (.ref j)
  have hkl := O.lk nm hl
  have hv4 : VR μ₄ σ₄.length s₄.heap (.ref j) (.ref ea) := And.intro (idx_lt hi₄) e4
  refine wpAny_mono (W_store' (A' := A.mark _) O₄ (.inr hkl) u hv4) (fun _ s₅ ⟨P₅, O₅⟩ => ?_) fun z_ z_ z => z
  obtain ⟨f₅, ns₅, sl₅⟩ := O₅.slots
  have hv5 : VR μ₄ σ₄.length s₅.heap (.ref j) (.ref (μ₄.a j)) := VR_ref (idx_lt hi₄) rfl
  obtain ⟨d1, d2⟩ := O₅.dbg _ hm₅
  have hval : ∃ val, f₅ nm = some val ∧ VR μ₄ σ₄.length s₅.heap (.ref j) val := by
    rcases sl₅ nm _ hm₅ with ⟨_, z⟩ | ⟨z | z, _⟩
    · exact z _ rfl
    · rw [hkl] at z; cases z
    · rw [hkl] at z; cases z
  obtain ⟨val, hf5, hval⟩ := hval
  obtain ⟨-, rfl⟩ := VR_ref_of hval
  refine wpAny_execs_cons (wpAny_Return_some (wpAny_Tuple ?_))
  show wpAny _ _ (spliced (backTo tp [(false, eval (.Constant (.str w) kk cp) env), (false, eval (.Attribute (.Name nm np2) "ball" ap) env)])) _ _ _
  refine spliced_cons ?_
  show wpAny _ _ (eval (.Constant (.str w) kk cp) env) _ _ _
  refine wpAny_Constant_str ?_
  have ns₆ : ({ s₅ with toks := s₅.toks + 1 } : Shared).heap.Ns env.locals f₅ := ns₅
  refine spliced_cons ?_
  show wpAny _ _ (eval (.Attribute (.Name nm np2) "ball" ap) env) _ _ _
  refine Attribute_any_ (wpAny_Name (wpAny_loadName_local O.kind hkl ns₆ hf5 ?_) d1) ?_
  · refine exc_ball (s := { s₅ with toks := s₅.toks + 1 }) F hgt O₅.rel hi₄ fun b hb => ?_
    refine wpAny_pure ⟨by simp [sizeLine_eq], ?_⟩
    have kp : ∀ b' o, s₅.heap.get? b' = some o → (s₅.heap.push { cls := .type "tuple", data := .seq [.str w s₅.toks, b].toArray }).get? b' = some o := fun z_ z_ e => Heap.get?_push_of_some _ e
    have P₆ : Post B (frs A) fx μ₄ σ₄ s₅ μ₄ σ₄ { s₅ with heap := s₅.heap.push { cls := .type "tuple", data := .seq [.str w s₅.toks, b].toArray }, toks := s₅.toks + 1 + 1 } := Post.push O₅.rel _ _
    have O₆ : Ok B n G A env fx m₅ μ₄ σ₄ { s₅ with heap := s₅.heap.push { cls := .type "tuple", data := .seq [.str w s₅.toks, b].toArray }, toks := s₅.toks + 1 + 1 } := O₅.next (Post.push O₅.rel _ _)
    obtain ⟨f₆, ns₆, _⟩ := O₆.slots
    refine wpAny_nameGoes hkl ns₆ (by rw [O.kind]; rfl) fun h' m' hn' hs' => ?_
    refine shut fun P_ o_ => ?_
    obtain ⟨l1, l2, _⟩ := O₆.fxo _ O₆.fxl
    refine o_ ?_
    have hnew : ∃ o, h'.get? env.locals = some o ∧ (∀ items k, o.data ≠ .seq items k) ∧ ∀ vs, o.data ≠ .fields vs := by
      refine shut fun P_ o_ => ?_
      obtain ⟨o, es, ep, e, hd, _⟩ := hn'
      refine o_ ?_
      exact ⟨o, e, fun z_ z_ q => (by rw [hd] at q; cases q), fun z_ q => (by rw [hd] at q; cases q)⟩
    have P₇ : Post B (frs A) fx μ₄ σ₄ { s₅ with heap := s₅.heap.push { cls := .type "tuple", data := .seq [.str w s₅.toks, b].toArray }, toks := s₅.toks + 1 + 1 } μ₄ σ₄ { s₅ with heap := h', toks := s₅.toks + 1 + 1 + 1 } :=
      Post.own O₆.rel O₆.fxl l1 l2 (nt_ns ns₆) hs' (let ⟨o, e, _, h⟩ := hnew; ⟨o, e, h⟩)
    have tk₇ := P₇.tk O₆.rel O₆.nt
    have cellL : ∀ z c, env.cells.lookup z = some c → c ≠ env.locals := fun z c hz q => by
      refine shut fun P_ o_ => ?_
      obtain ⟨_, _, _, w', o, e, hd⟩ := O₆.cel z c hz
      obtain ⟨o', es, ep, e', hd', _⟩ := ns₆
      refine o_ ?_
      rw [q] at e; rw [e] at e'; cases e'; rw [hd] at hd'; cases hd'
    refine ⟨μ₄, σ₄, ((P₄.weaken.trans P₅).trans P₆).trans P₇, .ret (.tup [.str w, ball₄]), [], ?_, O₆.clear.turn P₇.rel hs' rfl (fun z_ => hnew) (fun z c hz => ?_) ⟨m', hn', fun z_ z_ q => by cases q⟩, hX₄⟩
    · show VR _ _ _ (.tup _) _
      refine VR_tup (items := [.str w s₅.toks, b]) (tk₇ _ _ ⟨_, Heap.get?_push_size _ rfl, rfl, 0, rfl⟩) ?_
      exact VRs.keeps tk₇ (Nat.le_refl _) (fun z_ z_ => rfl) (VRs.keeps (TK.of_keeps kp) (Nat.le_refl _) (fun z_ z_ => rfl) (VRs_cons VR_str (VRs_one hb)))
    · refine shut fun P_ o_ => ?_
      obtain ⟨_, _, _, w', o, e, hd⟩ := O₆.cel z c hz
      refine o_ ?_
      exact ⟨w', o, (hs'.2 c (cellL z c hz)).trans e, hd⟩
  · rfl
end
open PySem.SeqAt
theorem dictOf_any {p p' : Program} {w w' : World} {h : Heap} {a : Addr} {kvs : List (Int × Value)} (x : h.DictOf (intKind p w) a kvs) : h.DictOf (intKind p' w') a kvs := by
  obtain ⟨o, es, ep, e, c, d, k, ps, nd⟩ := x
  refine ⟨o, es, ep, e, c, d, k, ?_, nd⟩
  clear e d k nd
  generalize es.toList = l at ps
  induction ps with
  | nil => exact .nil
  | cons h h2 _ ih => exact .cons h h2 ih
section
variable {B : Bs} {n : Nat} {X : V → List AO → Prop} {σ : List AO} {μ : Mp} {N : Nat} {A : Around} {s : Shared} {Q : V → List AO → Prop}
theorem hits_of {l' : List (Int × V)} {kb : List (Int × Value)} (e' : kb.map (·.1) = l'.map (·.1)) (hv' : VRs μ N s.heap (l'.map (·.2)) (kb.map (·.2))) (hp' : ∀ p, p ∈ l' → pureV 2 p.2 = true) (hu : A.units + 3 < cLine) :
    ∀ {l : List (Int × V)} {ka : List (Int × Value)}, ka.map (·.1) = l.map (·.1) → VRs μ N s.heap (l.map (·.2)) (ka.map (·.2)) → (∀ p, p ∈ l → pureV 2 p.2 = true) → (∀ p, p ∈ l → at? l' p.1 = some p.2) → KeqHits A s kb ka true
  | [], ka, e, _, _, _ => by
    have : ka = [] := by simpa using e
    subst this; exact .nil
  | (k, x) :: l, ka, e, hv, hp, hs => by
    cases ka with
    | nil => cases e
    | cons q ka =>
      obtain ⟨k', v⟩ := q
      simp only [List.map_cons, List.cons.injEq] at e
      obtain ⟨rfl, e⟩ := e
      simp only [List.map_cons] at hv
      obtain ⟨v', r, hr, hv1, hv2⟩ := VRs_consO hv
      cases hr
      obtain ⟨y, hy1, hy2⟩ := (at_some e' hv').1 (hs _ (mI 0 rfl))
      have h1 := hp _ (mI 0 rfl)
      have := eqAt_pure 2 A _ _ _ _ h1 h1 hv1 hy2 hu
      rw [veq_iff.mpr rfl] at this
      exact .hit hy1 this (hits_of e' hv' hp' hu e hv2 (fun p hp' => hp p (.tail _ hp')) fun p hp' => hs p (.tail _ hp'))
theorem dict_rc {i j : Nat} {l l' : List (Int × V)} (O : OkC B n A μ σ s) (hi : σ[i]? = some (.dI l)) (hj : σ[j]? = some (.dI l')) (hp : ∀ p, p ∈ l → pureV 2 p.2 = true) (hp' : ∀ p, p ∈ l' → pureV 2 p.2 = true) (hlen : l.length = l'.length) (hs : ∀ p, p ∈ l → at? l' p.1 = some p.2) :
    RcAt A.in1 s (.ref (μ.a i)) (.ref (μ.a j)) true := fun prog w E Q h => by
  refine shut fun P_ o_ => ?_
  obtain ⟨ka, da, e, hv⟩ := O.rel.dI hi
  obtain ⟨kb, db, e', hv'⟩ := O.rel.dI hj
  refine o_ ?_
  have hu := O.units
  have h1 : ka.length = l.length := by have := congrArg List.length e; simpa using this
  have h2 : kb.length = l'.length := by have := congrArg List.length e'; simpa using this
  refine keq_eq (r := true) (O.rel.notSys (idx_lt hi)) (O.rel.notSys (idx_lt hj)) (dictOf_any da) (dictOf_any db) (by show A.units + 1 < cLine; unfold cLine; lia) (fun z_ => hits_of e' hv' hp' (by show A.units + 1 + 1 + 3 < cLine; unfold cLine; lia) e hv hp hs) ?_
  have : (ka.length == kb.length && true) = true := by simp [h1, h2, hlen]
  rw [this]; exact h
theorem told_items {w : Str} {i j : Nat} {l l' : List (Int × V)} (O : OkC B n A μ σ s) (hi : σ[i]? = some (.dI l)) (hj : σ[j]? = some (.dI l')) (hij : i ≠ j) (hp : ∀ p, p ∈ l → pureV 2 p.2 = true) (hp' : ∀ p, p ∈ l' → pureV 2 p.2 = true) (hlen : l.length = l'.length) (hs : ∀ p, p ∈ l → at? l' p.1 = some p.2)
    {us ws : List Value} (hv : VRs μ σ.length s.heap [.str w, .ref i] us) (hv' : VRs μ σ.length s.heap [.str w, .ref j] ws) :
    ∀ k (h1 : k < us.toArray.size) (h2 : k < ws.toArray.size), EqAt A.in1 s us.toArray[k] ws.toArray[k] true := fun k h1 h2 => by
  have hu := O.units
  obtain ⟨a, b, rfl, e1, e2⟩ := VRs_two hv
  obtain ⟨c, d, rfl, e3, e4⟩ := VRs_two hv'
  obtain ⟨t, rfl⟩ := VR_str_of e1
  obtain ⟨t', rfl⟩ := VR_str_of e3
  obtain ⟨-, rfl⟩ := VR_ref_of e2
  obtain ⟨-, rfl⟩ := VR_ref_of e4
  match k, h1, h2 with
  | 0, _, _ =>
    have := EqAt.str_str (A := A.in1) (s := s) w t w t'
    rw [beq_self_eq_true] at this
    exact this
  | 1, _, _ =>
    show EqAt A.in1 s (.ref (μ.a i)) (.ref (μ.a j)) true
    exact EqAt.of_refs (O.rel.inj i j (idx_lt hi) (idx_lt hj) hij).1 (dict_rc O hi hj hp hp' hlen hs)
  | k + 2, h, _ => exact absurd h (by simp)
theorem OP_eqTD {w : Str} {i j : Nat} {l l' : List (Int × V)} (hi : σ[i]? = some (.dI l)) (hj : σ[j]? = some (.dI l')) (hij : i ≠ j) (hp : ∀ p, p ∈ l → pureV 2 p.2 = true) (hp' : ∀ p, p ∈ l' → pureV 2 p.2 = true) (hlen : l.length = l'.length) (hs : ∀ p, p ∈ l → at? l' p.1 = some p.2)
    (h : Q (.bool true) σ) : OP2 B n X (.tup [.str w, .ref i]) (.tup [.str w, .ref j]) σ (compareOp .Eq) Q := fun A μ s va vb O e1 e2 => by
  have hu := O.units
  obtain ⟨x, us, rfl, ht, hv⟩ := VR_tup_of e1
  obtain ⟨y, ws, rfl, ht', hv'⟩ := VR_tup_of e2
  have key := RcAt.tuples (A := A) (e := fun z_ => true) ht ht' (by unfold cLine; lia) (told_items O hi hj hij hp hp' hlen hs hv hv')
  have : ((List.range (min us.toArray.size ws.toArray.size)).all (fun z_ => true) && us.toArray.size == ws.toArray.size) = true := by simp [VRs_length hv, VRs_length hv']
  rw [this] at key
  exact key _ _ _ _ (fin_same O.rel VR_bool h)
theorem OP_neTD {w : Str} {i j : Nat} {l l' : List (Int × V)} (hi : σ[i]? = some (.dI l)) (hj : σ[j]? = some (.dI l')) (hij : i ≠ j) (hp : ∀ p, p ∈ l → pureV 2 p.2 = true) (hp' : ∀ p, p ∈ l' → pureV 2 p.2 = true) (hlen : l.length = l'.length) (hs : ∀ p, p ∈ l → at? l' p.1 = some p.2)
    (h : Q (.bool false) σ) : OP2 B n X (.tup [.str w, .ref i]) (.tup [.str w, .ref j]) σ (compareOp .NotEq) Q := fun A μ s va vb O e1 e2 => by
  have hu := O.units
  obtain ⟨x, us, rfl, ht, hv⟩ := VR_tup_of e1
  obtain ⟨y, ws, rfl, ht', hv'⟩ := VR_tup_of e2
  have key := RcNeAt.tuples (A := A) (e := fun z_ => true) ht ht' (by unfold cLine; lia) (told_items O hi hj hij hp hp' hlen hs hv hv')
  have : (!((List.range (min us.toArray.size ws.toArray.size)).all (fun z_ => true) && us.toArray.size == ws.toArray.size)) = false := by simp [VRs_length hv, VRs_length hv']
  rw [this] at key
  exact key _ _ _ _ (fin_same O.rel VR_bool h)
end
noncomputable def fnB : Stmt → List Stmt
  | .FunctionDef _ _ b _ _ _ _ _ _ _ => b
  | .ClassDef _ _ _ b _ _ _ _ _ _ _ => b
  | .While _ b _ _ => b
  | .If _ b _ _ => b
  | .For _ _ b _ _ => b
  | _ => []
noncomputable def fnS : Stmt → Scope
  | .FunctionDef _ _ _ _ _ _ s _ _ _ => s
  | _ => default
noncomputable def top (k : Nat) : Stmt := PySem.Challenge.pw_rh0109_01.main.body.getD k (.Pass default)
noncomputable def meth (k j : Nat) : Stmt := (fnB (top k)).getD j (.Pass default)
structure PF (B : Bs) : Prop where
  f_fixed_atoms : FN B 60 [] [] (fnB (top 9)) (fnS (top 9))
  g_fixed_atoms : B.mg "fixed_atoms" = some (.ref 60)
  k_fixed_atoms : keepIn B.K (.ref 60) = true
  f_fixed_functors : FN B 67 [] [] (fnB (top 10)) (fnS (top 10))
  g_fixed_functors : B.mg "fixed_functors" = some (.ref 67)
  k_fixed_functors : keepIn B.K (.ref 67) = true
  f_Symbols___init__ : FN B 81 ["self"] [] (fnB (meth 11 0)) (fnS (meth 11 0))
  f_Symbols_atom : FN B 88 ["self", "text"] [] (fnB (meth 11 1)) (fnS (meth 11 1))
  f_Symbols_text : FN B 95 ["self", "number"] [] (fnB (meth 11 2)) (fnS (meth 11 2))
  f_Symbols_functor : FN B 102 ["self", "atom", "arity"] [] (fnB (meth 11 3)) (fnS (meth 11 3))
  f_Symbols_func : FN B 109 ["self", "text", "arity"] [] (fnB (meth 11 4)) (fnS (meth 11 4))
  f_Symbols_name : FN B 116 ["self", "functor"] [] (fnB (meth 11 5)) (fnS (meth 11 5))
  f_Symbols_arity : FN B 123 ["self", "functor"] [] (fnB (meth 11 6)) (fnS (meth 11 6))
  f_system_error : FN B 165 ["formal"] [] (fnB (top 13)) (fnS (top 13))
  g_system_error : B.mg "system_error" = some (.ref 165)
  k_system_error : keepIn B.K (.ref 165) = true
  f_formal_of : FN B 172 ["symbols", "name", "parts"] [] (fnB (top 14)) (fnS (top 14))
  g_formal_of : B.mg "formal_of" = some (.ref 172)
  k_formal_of : keepIn B.K (.ref 172) = true
  f_instantiation_error : FN B 179 ["symbols"] [] (fnB (top 15)) (fnS (top 15))
  g_instantiation_error : B.mg "instantiation_error" = some (.ref 179)
  k_instantiation_error : keepIn B.K (.ref 179) = true
  f_domain_error : FN B 186 ["symbols", "kind", "culprit"] [] (fnB (top 16)) (fnS (top 16))
  g_domain_error : B.mg "domain_error" = some (.ref 186)
  k_domain_error : keepIn B.K (.ref 186) = true
  f_is_digit : FN B 200 ["code"] [] (fnB (top 19)) (fnS (top 19))
  g_is_digit : B.mg "is_digit" = some (.ref 200)
  k_is_digit : keepIn B.K (.ref 200) = true
  f_is_small : FN B 207 ["code"] [] (fnB (top 20)) (fnS (top 20))
  g_is_small : B.mg "is_small" = some (.ref 207)
  k_is_small : keepIn B.K (.ref 207) = true
  f_is_capital : FN B 214 ["code"] [] (fnB (top 21)) (fnS (top 21))
  g_is_capital : B.mg "is_capital" = some (.ref 214)
  k_is_capital : keepIn B.K (.ref 214) = true
  f_is_alnum : FN B 221 ["code"] [] (fnB (top 22)) (fnS (top 22))
  g_is_alnum : B.mg "is_alnum" = some (.ref 221)
  k_is_alnum : keepIn B.K (.ref 221) = true
  f_Cells___init__ : FN B 237 ["self", "symbols", "max_heap"] [] (fnB (meth 34 0)) (fnS (meth 34 0))
  f_Cells_push : FN B 244 ["self", "cell"] [] (fnB (meth 34 1)) (fnS (meth 34 1))
  f_Cells_new_var : FN B 251 ["self"] [] (fnB (meth 34 2)) (fnS (meth 34 2))
  f_Cells_reserve : FN B 258 ["self", "count"] [] (fnB (meth 34 3)) (fnS (meth 34 3))
  f_Cells_deref : FN B 272 ["self", "cell"] [] (fnB (meth 34 5)) (fnS (meth 34 5))
  f_Cells_is_unbound : FN B 279 ["self", "cell"] [] (fnB (meth 34 6)) (fnS (meth 34 6))
  f_Cells_bind : FN B 286 ["self", "cell", "value"] [] (fnB (meth 34 7)) (fnS (meth 34 7))
  f_Cells_globalise : FN B 300 ["self", "cell"] [] (fnB (meth 34 9)) (fnS (meth 34 9))
  f_Cells_is_compound : FN B 328 ["self", "cell"] [] (fnB (meth 34 13)) (fnS (meth 34 13))
  f_Cells_functor_of : FN B 335 ["self", "cell"] [] (fnB (meth 34 14)) (fnS (meth 34 14))
  f_Cells_width : FN B 342 ["self", "cell"] [] (fnB (meth 34 15)) (fnS (meth 34 15))
  f_Cells_base : FN B 349 ["self", "cell"] [] (fnB (meth 34 16)) (fnS (meth 34 16))
  f_Cells_arg : FN B 356 ["self", "cell", "i"] [] (fnB (meth 34 17)) (fnS (meth 34 17))
  f_Cells_new_block : FN B 363 ["self", "f"] [] (fnB (meth 34 18)) (fnS (meth 34 18))
  f_Store_new_struct : FN B 384 ["self", "f", "cells"] [] (fnB (meth 35 0)) (fnS (meth 35 0))
  f_Store_build_list : FN B 392 ["self", "cells", "tail"] [.none] (fnB (meth 35 1)) (fnS (meth 35 1))
  f_Store_list_cells : FN B 399 ["self", "cell"] [] (fnB (meth 35 2)) (fnS (meth 35 2))
  f_Store_put_term : FN B 406 ["self", "term", "table"] [] (fnB (meth 35 3)) (fnS (meth 35 3))
  f_Store_whole_size : FN B 413 ["self", "cell", "sizes"] [] (fnB (meth 35 4)) (fnS (meth 35 4))
  f_Store_take_term : FN B 420 ["self", "cell", "table"] [] (fnB (meth 35 5)) (fnS (meth 35 5))
  f_is_variable_name : FN B 432 ["text"] [] (fnB (top 37)) (fnS (top 37))
  g_is_variable_name : B.mg "is_variable_name" = some (.ref 432)
  k_is_variable_name : keepIn B.K (.ref 432) = true
  f_chosen_names : FN B 439 ["m", "option", "value", "table"] [] (fnB (top 38)) (fnS (top 38))
  g_chosen_names : B.mg "chosen_names" = some (.ref 439)
  k_chosen_names : keepIn B.K (.ref 439) = true
  f_Areas___init__ : FN B 454 ["self", "symbols", "code", "max_heap", "occurs", "max_bits"] [.int 100000, .bool true, .int 4096] (fnB (meth 41 0)) (fnS (meth 41 0))
  f_Areas_reset : FN B 461 ["self"] [] (fnB (meth 41 1)) (fnS (meth 41 1))
  f_Areas_take : FN B 496 ["self", "cell"] [] (fnB (meth 41 6)) (fnS (meth 41 6))
  f_pair_cells : FN B 608 ["m", "names", "table"] [] (fnB (top 43)) (fnS (top 43))
  g_pair_cells : B.mg "pair_cells" = some (.ref 608)
  k_pair_cells : keepIn B.K (.ref 608) = true
  f_law_draw : FN B 615 ["pool", "limit"] [] (fnB (top 45)) (fnS (top 45))
  g_law_draw : B.mg "_law_draw" = some (.ref 615)
  k_law_draw : keepIn B.K (.ref 615) = true
  f_law_word : FN B 622 ["pool"] [] (fnB (top 46)) (fnS (top 46))
  g_law_word : B.mg "_law_word" = some (.ref 622)
  k_law_word : keepIn B.K (.ref 622) = true
  f_law_odd : FN B 629 ["pool", "word"] [] (fnB (top 47)) (fnS (top 47))
  g_law_odd : B.mg "_law_odd" = some (.ref 629)
  k_law_odd : keepIn B.K (.ref 629) = true
  f_law_entry : FN B 636 ["pool", "names"] [] (fnB (top 48)) (fnS (top 48))
  g_law_entry : B.mg "_law_entry" = some (.ref 636)
  k_law_entry : keepIn B.K (.ref 636) = true
  f_law_end : FN B 643 ["ties", "tree"] [] (fnB (top 49)) (fnS (top 49))
  g_law_end : B.mg "_law_end" = some (.ref 643)
  k_law_end : keepIn B.K (.ref 643) = true
  f_law_shown : FN B 648 ["tree", "ties", "seen"] [] (fnB (top 50)) (fnS (top 50))
  g_law_shown : B.mg "_law_shown" = some (.ref 648)
  k_law_shown : keepIn B.K (.ref 648) = true
  f_law_fits : FN B 653 ["word"] [] (fnB (top 51)) (fnS (top 51))
  g_law_fits : B.mg "_law_fits" = some (.ref 653)
  k_law_fits : keepIn B.K (.ref 653) = true
  f_law_flaw : FN B 660 ["names", "entry", "ties"] [] (fnB (top 52)) (fnS (top 52))
  g_law_flaw : B.mg "_law_flaw" = some (.ref 660)
  k_law_flaw : keepIn B.K (.ref 660) = true
  f_law_due : FN B 665 ["names", "entries", "end", "ties", "numbers", "shown"] [] (fnB (top 53)) (fnS (top 53))
  g_law_due : B.mg "_law_due" = some (.ref 665)
  k_law_due : keepIn B.K (.ref 665) = true
  f_law_told : FN B 672 ["m", "option", "value", "numbers"] [] (fnB (top 54)) (fnS (top 54))
  g_law_told : B.mg "_law_told" = some (.ref 672)
  k_law_told : keepIn B.K (.ref 672) = true
  f_law_list : FN B 679 ["entries", "end"] [] (fnB (top 55)) (fnS (top 55))
  g_law_list : B.mg "_law_list" = some (.ref 679)
  k_law_list : keepIn B.K (.ref 679) = true
  f_law : FN B 684 ["script"] [] (fnB (top 56)) (fnS (top 56))
  g_law : B.mg "law" = some (.ref 684)
  c_Symbols : CF B 154
  gc_Symbols : B.mg "Symbols" = some (.ref 154)
  kc_Symbols : keepIn B.K (.ref 154) = true
  mk_Symbols : makesIn B.K 154 = true
  in_Symbols : findIn B.K (.ref 154) "__init__" = some (some (.ref 81))
  it_Symbols : typeIn B.K (.ref 81) = some (.type "function")
  m_Symbols_atom : MF B 154 "atom" 88
  m_Symbols_text : MF B 154 "text" 95
  m_Symbols_functor : MF B 154 "functor" 102
  m_Symbols_func : MF B 154 "func" 109
  m_Symbols_arity : MF B 154 "arity" 123
  c_Store : CF B 423
  gc_Store : B.mg "Store" = some (.ref 423)
  kc_Store : keepIn B.K (.ref 423) = true
  mk_Store : makesIn B.K 423 = true
  in_Store : findIn B.K (.ref 423) "__init__" = some (some (.ref 237))
  it_Store : typeIn B.K (.ref 237) = some (.type "function")
  m_Store_push : MF B 423 "push" 244
  m_Store_new_var : MF B 423 "new_var" 251
  m_Store_reserve : MF B 423 "reserve" 258
  m_Store_deref : MF B 423 "deref" 272
  m_Store_is_unbound : MF B 423 "is_unbound" 279
  m_Store_bind : MF B 423 "bind" 286
  m_Store_globalise : MF B 423 "globalise" 300
  m_Store_is_compound : MF B 423 "is_compound" 328
  m_Store_functor_of : MF B 423 "functor_of" 335
  m_Store_width : MF B 423 "width" 342
  m_Store_base : MF B 423 "base" 349
  m_Store_arg : MF B 423 "arg" 356
  m_Store_new_block : MF B 423 "new_block" 363
  m_Store_new_struct : MF B 423 "new_struct" 384
  m_Store_build_list : MF B 423 "build_list" 392
  m_Store_list_cells : MF B 423 "list_cells" 399
  m_Store_put_term : MF B 423 "put_term" 406
  m_Store_whole_size : MF B 423 "whole_size" 413
  m_Store_take_term : MF B 423 "take_term" 420
  c_Areas : CF B 597
  gc_Areas : B.mg "Areas" = some (.ref 597)
  kc_Areas : keepIn B.K (.ref 597) = true
  mk_Areas : makesIn B.K 597 = true
  in_Areas : findIn B.K (.ref 597) "__init__" = some (some (.ref 454))
  it_Areas : typeIn B.K (.ref 454) = some (.type "function")
  m_Areas_reset : MF B 597 "reset" 461
  m_Areas_take : MF B 597 "take" 496
  a_Symbols_texts : findIn B.K (.ref 154) "texts" = some none
  t_Symbols_texts : takerIn B.K 154 "texts" = some none
  a_Symbols_atom_numbers : findIn B.K (.ref 154) "atom_numbers" = some none
  t_Symbols_atom_numbers : takerIn B.K 154 "atom_numbers" = some none
  a_Symbols_functors : findIn B.K (.ref 154) "functors" = some none
  t_Symbols_functors : takerIn B.K 154 "functors" = some none
  a_Symbols_functor_numbers : findIn B.K (.ref 154) "functor_numbers" = some none
  t_Symbols_functor_numbers : takerIn B.K 154 "functor_numbers" = some none
  a_Store_symbols : findIn B.K (.ref 423) "symbols" = some none
  t_Store_symbols : takerIn B.K 423 "symbols" = some none
  a_Store_max_heap : findIn B.K (.ref 423) "max_heap" = some none
  t_Store_max_heap : takerIn B.K 423 "max_heap" = some none
  a_Store_heap : findIn B.K (.ref 423) "heap" = some none
  t_Store_heap : takerIn B.K 423 "heap" = some none
  a_Store_stack : findIn B.K (.ref 423) "stack" = some none
  t_Store_stack : takerIn B.K 423 "stack" = some none
  t_Store_trail : takerIn B.K 423 "trail" = some none
  a_Store_hb : findIn B.K (.ref 423) "hb" = some none
  t_Store_hb : takerIn B.K 423 "hb" = some none
  t_Store_bb : takerIn B.K 423 "bb" = some none
  a_Areas_symbols : findIn B.K (.ref 597) "symbols" = some none
  t_Areas_symbols : takerIn B.K 597 "symbols" = some none
  t_Areas_code : takerIn B.K 597 "code" = some none
  a_Areas_max_heap : findIn B.K (.ref 597) "max_heap" = some none
  t_Areas_max_heap : takerIn B.K 597 "max_heap" = some none
  t_Areas_occurs : takerIn B.K 597 "occurs" = some none
  t_Areas_max_bits : takerIn B.K 597 "max_bits" = some none
  a_Areas_store : findIn B.K (.ref 597) "store" = some none
  t_Areas_store : takerIn B.K 597 "store" = some none
  t_Areas_x : takerIn B.K 597 "x" = some none
  t_Areas_p : takerIn B.K 597 "p" = some none
  t_Areas_cp : takerIn B.K 597 "cp" = some none
  t_Areas_e : takerIn B.K 597 "e" = some none
  t_Areas_b : takerIn B.K 597 "b" = some none
  t_Areas_b0 : takerIn B.K 597 "b0" = some none
  t_Areas_mode : takerIn B.K 597 "mode" = some none
  t_Areas_s : takerIn B.K 597 "s" = some none
  t_Areas_guard : takerIn B.K 597 "guard" = some none
  t_Areas_roots : takerIn B.K 597 "roots" = some none
  t_Areas_bags : takerIn B.K 597 "bags" = some none
  t_Areas_collect_wanted : takerIn B.K 597 "collect_wanted" = some none
  i_A_NIL : ∃ t, B.mg "A_NIL" = some (.int 0 t)
  i_A_SYSTEM : ∃ t, B.mg "A_SYSTEM" = some (.int 25 t)
  i_F_DOT : ∃ t, B.mg "F_DOT" = some (.int 0 t)
  i_F_EQUAL : ∃ t, B.mg "F_EQUAL" = some (.int 10 t)
  i_F_ERROR : ∃ t, B.mg "F_ERROR" = some (.int 16 t)
  i_REF : ∃ t, B.mg "REF" = some (.int 0 t)
  i_SRF : ∃ t, B.mg "SRF" = some (.int 1 t)
  i_STR : ∃ t, B.mg "STR" = some (.int 2 t)
  i_LIS : ∃ t, B.mg "LIS" = some (.int 3 t)
  i_CON : ∃ t, B.mg "CON" = some (.int 4 t)
  i_INT : ∃ t, B.mg "INT" = some (.int 5 t)
  i_FUN : ∃ t, B.mg "FUN" = some (.int 6 t)
  i_VISIT : ∃ t, B.mg "VISIT" = some (.int 0 t)
  i_BUILD : ∃ t, B.mg "BUILD" = some (.int 1 t)
  s_READ : ∃ t, B.mg "READ" = some (.str "read" t)
  t_VOID : ∃ t u, B.mg "VOID" = some (.ref 222) ∧ ∀ h, B.K.In h → h.IsTuple 222 #[.int 5 t, .int 0 u]
  x_exc : B.excC = 51
  g_exc : B.mg "PrologError" = some (.ref 51)
  k_exc : keepIn B.K (.ref 51) = true
  n_range : B.mg "range" = none
  n_len : B.mg "len" = none
  n_list : B.mg "list" = none
  n_tuple : B.mg "tuple" = none
  n_set : B.mg "set" = none
  n_isinstance : B.mg "isinstance" = none
  n_str : B.mg "str" = none
  n_abs : B.mg "abs" = none
  n_ord : B.mg "ord" = none
  n_sorted : B.mg "sorted" = none
section
variable {B : Bs} {n : Nat} {X : V → List AO → Prop} {σ : List AO} {Q : V → List AO → Prop}
theorem CA_is_digit (P : PF B) {c : Int} (h : Q (.bool (decide (48 ≤ c) && decide (c ≤ 57))) σ) : CA B (n + 1) X (.ref 200) [.int c] σ Q := by
  refine CA_fn (others := []) (G := ⟨[], [], []⟩) thruAll P.f_is_digit (by decide +kernel) rfl ?_
  refine EXs_last (EX_ret (EV_and ?_))
  refine EV_cmp (EV_int (EV_name (v := .int c) (mI 0 rfl) (OP_leI ⟨_, rfl, fun q => ?_, fun q => ?_⟩)))
  · refine EV_cmp (EV_name (v := .int c) (mI 0 rfl) (EV_int (OP_leI ?_)))
    rw [q] at h; simpa using h
  · rw [q] at h; simpa using h
theorem CA_is_small (P : PF B) {c : Int} (h : Q (.bool (decide (97 ≤ c) && decide (c ≤ 122))) σ) : CA B (n + 1) X (.ref 207) [.int c] σ Q := by
  refine CA_fn (others := []) (G := ⟨[], [], []⟩) thruAll P.f_is_small (by decide +kernel) rfl ?_
  refine EXs_last (EX_ret (EV_and ?_))
  refine EV_cmp (EV_int (EV_name (v := .int c) (mI 0 rfl) (OP_leI ⟨_, rfl, fun q => ?_, fun q => ?_⟩)))
  · refine EV_cmp (EV_name (v := .int c) (mI 0 rfl) (EV_int (OP_leI ?_)))
    rw [q] at h; simpa using h
  · rw [q] at h; simpa using h
theorem CA_is_capital (P : PF B) {c : Int} (h : Q (.bool (decide (65 ≤ c) && decide (c ≤ 90))) σ) : CA B (n + 1) X (.ref 214) [.int c] σ Q := by
  refine CA_fn (others := []) (G := ⟨[], [], []⟩) thruAll P.f_is_capital (by decide +kernel) rfl ?_
  refine EXs_last (EX_ret (EV_and ?_))
  refine EV_cmp (EV_int (EV_name (v := .int c) (mI 0 rfl) (OP_leI ⟨_, rfl, fun q => ?_, fun q => ?_⟩)))
  · refine EV_cmp (EV_name (v := .int c) (mI 0 rfl) (EV_int (OP_leI ?_)))
    rw [q] at h; simpa using h
  · rw [q] at h; simpa using h
noncomputable def alnum (c : Int) : Bool := (decide (97 ≤ c) && decide (c ≤ 122)) || (decide (65 ≤ c) && decide (c ≤ 90)) || (decide (48 ≤ c) && decide (c ≤ 57)) || c == 95
theorem CA_is_alnum (P : PF B) {c : Int} (h : Q (.bool (alnum c)) σ) : CA B (n + 2) X (.ref 221) [.int c] σ Q := by
  refine CA_fn (others := []) (G := ⟨["is_small", "is_capital", "is_digit"], [], []⟩) thruAll P.f_is_alnum (by decide +kernel) rfl ?_
  refine EXs_last (EX_ret (EV_or ?_))
  unfold alnum at h
  refine EV_call (mI 0 rfl) P.g_is_small P.k_is_small rfl (EV_name (v := .int c) (mI 0 rfl) (CA.op (CA_is_small P ⟨_, rfl, fun q => ?_, fun q => ?_⟩)))
  · rw [q] at h; simpa using h
  rw [q] at h
  refine EV_call (mI 1 rfl) P.g_is_capital P.k_is_capital rfl (EV_name (v := .int c) (mI 0 rfl) (CA.op (CA_is_capital P ⟨_, rfl, fun q => ?_, fun q => ?_⟩)))
  · rw [q] at h; simpa using h
  rw [q] at h
  refine EV_call (mI 2 rfl) P.g_is_digit P.k_is_digit rfl (EV_name (v := .int c) (mI 0 rfl) (CA.op (CA_is_digit P ⟨_, rfl, fun q => ?_, fun q => ?_⟩)))
  · rw [q] at h; simpa using h
  rw [q] at h
  exact EV_cmp (EV_name (v := .int c) (mI 0 rfl) (EV_int (OP_eqI (by simpa using h))))
end
theorem bt_len : bootBuiltins "len" = some (.builtin "len") := by decide +kernel
theorem bt_abs : bootBuiltins "abs" = some (.builtin "abs") := by decide +kernel
theorem bt_ord : bootBuiltins "ord" = some (.builtin "ord") := by decide +kernel
theorem bt_isinstance : bootBuiltins "isinstance" = some (.builtin "isinstance") := by decide +kernel
theorem bt_sorted : bootBuiltins "sorted" = some (.builtin "sorted") := by decide +kernel
theorem bt_range : bootBuiltins "range" = some (.type "range") := by decide +kernel
theorem bt_list : bootBuiltins "list" = some (.type "list") := by decide +kernel
theorem bt_tuple : bootBuiltins "tuple" = some (.type "tuple") := by decide +kernel
theorem bt_set : bootBuiltins "set" = some (.type "set") := by decide +kernel
theorem bt_str : bootBuiltins "str" = some (.type "str") := by decide +kernel
noncomputable def PoolAt (σ : List AO) : Prop := ∃ (script : List Int) (d a c : Int), σ[0]? = some (.list (script.map V.int)) ∧ script.length ≤ 63 ∧ σ[1]? = some (.list [.ref 0, .int d, .int a, .int c]) ∧ 0 ≤ d ∧ -1 ≤ a
noncomputable def Kp (D : List Nat) (σ σ' : List AO) : Prop := σ.length ≤ σ'.length ∧ ∀ i, i < σ.length → i ∉ D → σ'[i]? = σ[i]?
theorem Kp.refl {D : List Nat} {σ : List AO} : Kp D σ σ := ⟨Nat.le_refl _, fun z_ z_ z_ => rfl⟩
theorem Kp.trans {D : List Nat} {σ σ' σ'' : List AO} (a : Kp D σ σ') (b : Kp D σ' σ'') : Kp D σ σ'' :=
  ⟨Nat.le_trans a.1 b.1, fun i h d => (b.2 i (Nat.lt_of_lt_of_le h a.1) d).trans (a.2 i h d)⟩
theorem Kp.set {D : List Nat} {σ : List AO} {i : Nat} {o : AO} (h : i ∈ D) : Kp D σ (σ.set i o) :=
  ⟨by simp, fun j z_ hd => by rw [List.getElem?_set_ne]; intro q; subst q; exact hd h⟩
theorem Kp.app {D : List Nat} {σ t : List AO} : Kp D σ (σ ++ t) := ⟨by simp, fun j h z_ => List.getElem?_append_left h⟩
theorem Kp.mono {D D' : List Nat} {σ σ' : List AO} (a : Kp D σ σ') (h : ∀ i, i ∈ D → i ∈ D') : Kp D' σ σ' := ⟨a.1, fun i hi hd => a.2 i hi fun q => hd (h i q)⟩
theorem Kp.get {D : List Nat} {σ σ' : List AO} (a : Kp D σ σ') {i : Nat} {o : AO} (h : σ[i]? = some o) (hd : i ∉ D) : σ'[i]? = some o := (a.2 i (idx_lt h) hd).trans h
section
variable {B : Bs} {n : Nat} {X : V → List AO → Prop} {σ : List AO} {Q : V → List AO → Prop}
theorem OP_iaddI {x y : Int} (h : Q (.int (x + y)) σ) : OP2 B n X (.int x) (.int y) σ (inplaceOp .Add) Q := fun A μ s va vb O ha hb => by
  obtain ⟨t, rfl⟩ := VR_int_of ha; obtain ⟨u, rfl⟩ := VR_int_of hb
  show wpAny _ _ _ _ _ _
  with_reducible refine PyProof.Rows.iadd_int ?_
  exact fin_tok O.rel VR_int h
theorem set_get {σ : List AO} {i : Nat} {o o' : AO} (h : σ[i]? = some o) : (σ.set i o')[i]? = some o' := List.getElem?_set_self (idx_lt h)
theorem CA_draw (P : PF B) {limit : Int} (hp : PoolAt σ) (h0 : 0 < limit) (h1 : limit < 1000) (h : ∀ r σ', 0 ≤ r → r < limit → σ'.length = σ.length → Kp [1] σ σ' → PoolAt σ' → Q (.int r) σ') : CA B (n + 1) X (.ref 615) [.ref 1, .int limit] σ Q := by
  refine shut fun P_ o_ => ?_
  obtain ⟨script, d, a, c, s0, sl, s1, hd, ha⟩ := hp
  refine o_ ?_
  refine CA_fn (others := ["digit"]) (G := ⟨["len", "abs"], [], []⟩) thruAll P.f_law_draw (by decide +kernel) rfl ?_
  have npl : ∀ x : Int, Builtin.divisionGoesByPylong x limit = false := fun x => PyProof.noPylong_small (by lia -abstractProof)
  -- the end
  have rest : ∀ (d a c : Int) (σ' : List AO), σ'.length = σ.length → Kp [1] σ σ' → σ'[1]? = some (.list [.ref 0, .int d, .int a, .int c]) → 0 ≤ d → -1 ≤ a →
      EXs B n X ⟨["len", "abs"], [], []⟩ (m0 ["pool", "limit"] ([.ref 1, .int limit] ++ []) ["digit"]) σ' ((fnB (top 45)).drop 1) (FnQ Q) := by
    intro d a c σ' hl k s1 hd ha
    refine EXs_next (EX_assign (EV_bin (EV_sub (EV_name (v := .ref 1) (mI 0 rfl) (EV_int (SUB_list (k := 1) s1 (by decide) (by decide) rfl ?_))))))
    refine EV_name (v := .int limit) (mI 1 rfl) (OP_mod (by lia -abstractProof) ⟨_, uI 2 rfl, rfl, ?_⟩)
    refine EXs_next (EX_setitem (EV_bin (EV_sub (EV_name (v := .ref 1) (mI 0 rfl) (EV_int (SUB_list (k := 1) s1 (by decide) (by decide) rfl ?_))))))
    refine EV_name (v := .int limit) (mI 1 rfl) (OP_fdiv (by lia -abstractProof) (npl _) ?_)
    refine EV_name (v := .ref 1) (mI 0 rfl) (EV_int (OP_setL (k := 1) s1 (by simp) (by simp) ⟨rfl, ?_⟩))
    refine EXs_last (EX_ret (EV_name (v := .int (d.fmod limit)) (mI 2 rfl) ?_))
    refine h _ _ (Int.fmod_nonneg_of_pos _ h0) (Int.fmod_lt_of_pos _ h0) (by simp only [List.length_set, hl]) (k.trans (Kp.set (by simp))) ⟨script, d.fdiv limit, a, c, ?_, sl, ?_, Int.fdiv_nonneg hd (by lia -abstractProof), ha⟩
    · rw [List.getElem?_set_ne (by decide)]; exact k.get s0 (by decide)
    · exact set_get s1
  refine EXs_cons (EX_if (TE_cmp (EV_sub (EV_name (v := .ref 1) (mI 0 rfl) (EV_int (SUB_list (k := 1) s1 (by decide) (by decide) rfl ?_))))))
  refine EV_int (OP_eqI ⟨_, rfl, fun hb => ?_, fun hb => ?_⟩)
  · refine EXs_next (EX_augitem (EV_name (v := .ref 1) (mI 0 rfl) (EV_int (SUB_list (k := 2) s1 (by decide) (by decide) rfl ?_))))
    refine EV_int (OP_iaddI (OP_setL (k := 2) s1 (by simp) (by simp) ⟨rfl, ?_⟩))
    have s1' := set_get (o' := .list [.ref 0, .int d, .int (a + 1), .int c]) s1
    have s0' : (σ.set 1 (.list [.ref 0, .int d, .int (a + 1), .int c]))[0]? = some (.list (script.map V.int)) := by rw [List.getElem?_set_ne (by decide)]; exact s0
    have k' : Kp [1] σ (σ.set 1 (.list [.ref 0, .int d, .int (a + 1), .int c])) := Kp.set (by simp)
    have hl' : (σ.set 1 (.list [.ref 0, .int d, .int (a + 1), .int c])).length = σ.length := by simp
    show EXs B n X _ _ (σ.set 1 (.list [.ref 0, .int d, .int (a + 1), .int c])) _ _
    generalize σ.set 1 (.list [.ref 0, .int d, .int (a + 1), .int c]) = σ' at s1' s0' k' hl' ⊢
    refine EXs_cons (EX_if (TE_cmp (EV_sub (EV_name (v := .ref 1) (mI 0 rfl) (EV_int (SUB_list (k := 2) s1' (by decide) (by decide) rfl ?_))))))
    refine EV_callB (mI 0 rfl) P.n_len bt_len (by decide) (fun h => keeps_builtin _ _ h) rfl ?_
    refine EV_sub (EV_name (v := .ref 1) (mI 0 rfl) (EV_int (SUB_list (k := 0) s1' (by decide) (by decide) rfl ?_)))
    refine OP_lenL s0' (by simp; lia -abstractProof) (OP_geI ⟨_, rfl, fun hb2 => ?_, fun hb2 => ?_⟩)
    · refine EXs_next (EX_augitem (EV_name (v := .ref 1) (mI 0 rfl) (EV_int (SUB_list (k := 3) s1' (by decide) (by decide) rfl ?_))))
      refine EV_int (OP_iaddI (OP_setL (k := 3) s1' (by simp) (by simp) ⟨rfl, ?_⟩))
      have s1'' := set_get (o' := .list [.ref 0, .int d, .int (a + 1), .int (c + 1)]) s1'
      refine EXs_last (EX_ret (EV_bin (EV_sub (EV_name (v := .ref 1) (mI 0 rfl) (EV_int (SUB_list (k := 3) s1'' (by decide) (by decide) rfl ?_))))))
      refine EV_name (v := .int limit) (mI 1 rfl) (OP_mod (by lia -abstractProof) ⟨(fun q => by cases q), fun z_ => ⟨(fun q => by cases q), fun z_ => ?_⟩⟩)
      refine h _ _ (Int.fmod_nonneg_of_pos _ h0) (Int.fmod_lt_of_pos _ h0) (by simp only [List.length_set, hl']) (k'.trans (Kp.set (by simp))) ⟨script, d, a + 1, c + 1, ?_, sl, s1'', hd, by lia -abstractProof⟩
      rw [List.getElem?_set_ne (by decide)]; exact s0'
    · refine EXs_nil ⟨fun z_ => ?_, fun q => absurd rfl q⟩
      have hlt : a + 1 < script.length := by simpa using hb2
      obtain ⟨x, hx⟩ : ∃ x, script[(a + 1).toNat]? = some x := ⟨_, List.getElem?_eq_getElem (by lia -abstractProof)⟩
      refine EXs_last (EX_setitem ?_)
      refine EV_callB (mI 1 rfl) P.n_abs bt_abs (by decide) (fun h => keeps_builtin _ _ h) rfl ?_
      refine EV_sub (EV_sub (EV_name (v := .ref 1) (mI 0 rfl) (EV_int (SUB_list (k := 0) s1' (by decide) (by decide) rfl ?_))))
      refine EV_sub (EV_name (v := .ref 1) (mI 0 rfl) (EV_int (SUB_list (k := 2) s1' (by decide) (by decide) rfl ?_)))
      refine SUB_list (k := a + 1) (x := .int x) s0' (by lia -abstractProof) (by lia -abstractProof) (by simp only [List.getElem?_map, hx]; rfl) ?_
      refine OP_abs (EV_name (v := .ref 1) (mI 0 rfl) (EV_int (OP_setL (k := 1) s1' (by simp) (by simp) ?_)))
      refine ⟨fun z_ => rest _ (a + 1) c _ (by simp only [List.length_set, hl']) (k'.trans (Kp.set (by simp))) (set_get s1') (by split <;> lia -abstractProof) (by lia -abstractProof), fun q => absurd rfl q⟩
  · exact EXs_nil ⟨fun z_ => rest d a c σ rfl .refl s1 hd ha, fun q => absurd rfl q⟩
end
section
variable {B : Bs} {n : Nat} {X : V → List AO → Prop} {σ : List AO} {Q : V → List AO → Prop}
structure Dr (σ σ' : List AO) : Prop where
  len : σ'.length = σ.length
  kp : Kp [1] σ σ'
  pool : PoolAt σ'
theorem Dr.trans {σ σ' σ'' : List AO} (a : Dr σ σ') (b : Dr σ' σ'') : Dr σ σ'' := ⟨b.len.trans a.len, a.kp.trans b.kp, b.pool⟩
theorem Dr.refl (h : PoolAt σ) : Dr σ σ := ⟨rfl, .refl, h⟩
theorem EV_draw {G : Gs} {m : Loc} {p p1 p2 pos : Pos} {kk : Nat} {k : Int} (P : PF B) (hg : ("_law_draw" : Str) ∈ G.g) (hm : (("pool" : Str), some (V.ref 1)) ∈ m) (hp : PoolAt σ) (h0 : 0 < k) (h1 : k < 1000) (h : ∀ r σ', 0 ≤ r → r < k → Dr σ σ' → Q (.int r) σ') :
    EV B (n + 1) X G m σ (.Call (.Name "_law_draw" p) [.Name "pool" p1, .Constant (.int k) kk p2] [] pos) Q :=
  EV_call hg P.g_law_draw P.k_law_draw rfl (EV_name (v := .ref 1) hm (EV_int (CA.op (CA_draw P hp h0 h1 fun r σ' a b c d e => h r σ' a b ⟨c, d, e⟩))))
theorem item_len (x : Str) (k : Int) : (Txt.item x k).length = 1 := rfl
theorem CA_word (P : PF B) (hp : PoolAt σ) (h : ∀ w σ', w.length ≤ 4 → Dr σ σ' → Q (.str w) σ') : CA B (n + 2) X (.ref 622) [.ref 1] σ Q := by
  refine CA_fn (others := ["word", "_", "sign"]) (G := ⟨["_law_draw", "range"], [], []⟩) thruAll P.f_law_word (by decide +kernel) rfl ?_
  refine EXs_next (EX_assign (EV_sub (EV_str ?_)))
  refine EV_draw P (mI 0 rfl) (mI 0 rfl) hp (by decide) (by decide) fun r σ₁ r0 r1 d₁ => ?_
  refine SUB_str r0 (show r < ((4 : Nat) : Int) from r1) (by lia -abstractProof) ⟨_, uI 1 rfl, rfl, ?_⟩
  refine EXs_next (EX_for thruAll (fun (k : Nat) (m : Loc) (σ' : List AO) => ∃ (w : Str) (o : Option V) (o' : Option V), w.length ≤ 1 + k ∧ m = [(("pool" : Str), some (V.ref 1)), (("word" : Str), some (V.str w)), (("_" : Str), o), (("sign" : Str), o')] ∧ Dr σ σ') ?_)
  refine IE_range (mI 1 rfl) P.n_range bt_range (by decide) rfl ?_
  refine EV_draw P (mI 0 rfl) (mI 0 rfl) d₁.pool (by decide) (by decide) fun r2 σ₂ q0 q1 d₂ => .inl ⟨r2.toNat, by rw [Int.toNat_of_nonneg q0], by lia -abstractProof, ?_, fun z_ z_ z_ z_ z_ => trivial, ?_, ?_⟩
  · exact ⟨_, _, _, Nat.le_of_eq (item_len _ _), rfl, d₁.trans d₂⟩
  · rintro k m' σ' x hk ⟨w, o, o', hw, rfl, dd⟩
    have hk' : k < r2.toNat := by rw [← rng_length 0 1 r2.toNat]; exact (List.getElem?_eq_some_iff.mp hk).1
    refine ASG_name ⟨_, uI 2 rfl, ?_⟩
    refine EXs_next (EX_assign (EV_sub (EV_str ?_)))
    refine EV_draw P (mI 0 rfl) (mI 0 rfl) dd.pool (by decide) (by decide) fun r3 σ₃ t0 t1 d₃ => ?_
    refine SUB_str t0 (show r3 < ((8 : Nat) : Int) from t1) (by lia -abstractProof) ⟨_, uI 3 rfl, rfl, ?_⟩
    refine EXs_last (EX_assign (EV_bin (EV_name (v := .str w) (mI 1 rfl) (EV_name (v := .str _) (mI 3 rfl) (OP_addS ?_ ⟨_, uI 1 rfl, ?_⟩)))))
    · simp only [item_len, sizeLine_eq]; lia -abstractProof
    · refine ⟨_, _, _, ?_, rfl, dd.trans d₃⟩
      simp only [Str.length_append, item_len]; lia -abstractProof
  · rintro m' σ' ⟨w, o, o', hw, rfl, dd⟩
    refine ⟨rfl, EXs_last (EX_ret (EV_name (v := .str w) (mI 1 rfl) (h w _ ?_ dd)))⟩
    rw [rng_length] at hw
    lia -abstractProof
end
section
variable {B : Bs} {n : Nat} {X : V → List AO → Prop} {σ : List AO} {Q : V → List AO → Prop}
theorem CA_odd (P : PF B) {w : Str} (hw : w.length ≤ 4) (hp : PoolAt σ) (h : ∀ w' σ', w'.length ≤ 5 → Dr σ σ' → Q (.str w') σ') : CA B (n + 2) X (.ref 629) [.ref 1, .str w] σ Q := by
  refine CA_fn (others := ["sign", "odd"]) (G := ⟨["_law_draw"], [], []⟩) thruAll P.f_law_odd (by decide +kernel) rfl ?_
  refine EXs_next (EX_assign ?_)
  refine EV_draw P (mI 0 rfl) (mI 0 rfl) hp (by decide) (by decide) fun r σ₁ r0 r1 d₁ => ?_
  refine ⟨_, uI 2 rfl, rfl, ?_⟩
  refine EXs_cons (EX_if (TE_cmp (EV_name (v := .int r) (mI 2 rfl) (EV_int (OP_eqI ⟨_, rfl, fun hb => ?_, fun hb => ?_⟩)))))
  · refine EXs_last (EX_ret (EV_str ⟨fun q => (by cases q), fun z_ => h _ _ (by decide) d₁⟩))
  refine EXs_nil ⟨fun z_ => ?_, fun q => absurd rfl q⟩
  have hr : r ≠ 11 := by simpa using hb
  refine EXs_next (EX_assign (EV_sub (EV_str (EV_name (v := .int r) (mI 2 rfl) ?_))))
  refine SUB_str r0 (show r < ((11 : Nat) : Int) from by lia -abstractProof) (by lia -abstractProof) ⟨_, uI 3 rfl, rfl, ?_⟩
  refine EXs_last (EX_ret (EV_if (TE_cmp ?_)))
  refine EV_draw P (mI 0 rfl) (mI 0 rfl) d₁.pool (by decide) (by decide) fun r2 σ₂ q0 q1 d₂ => ?_
  refine EV_int (OP_eqI ⟨_, rfl, fun z_ => ?_, fun z_ => ?_⟩)
  · refine EV_bin (EV_name (v := .str _) (mI 3 rfl) (EV_name (v := .str w) (mI 1 rfl) (OP_addS ?_ ?_)))
    · simp only [item_len, sizeLine_eq]; lia -abstractProof
    · refine h _ _ ?_ (d₁.trans d₂)
      simp only [Str.length_append, item_len]; lia -abstractProof
  · refine EV_bin (EV_name (v := .str w) (mI 1 rfl) (EV_name (v := .str _) (mI 3 rfl) (OP_addS ?_ ?_)))
    · simp only [item_len, sizeLine_eq]; lia -abstractProof
    · refine h _ _ ?_ (d₁.trans d₂)
      simp only [Str.length_append, item_len]; lia -abstractProof
end
set_option genInjectivity false in
structure Sy where
  texts : List Str
  fs : List (List Int)
noncomputable def numL {K : Type} : List K → Nat → List (K × V)
  | [], _ => []
  | t :: r, k => (t, .int (k : Nat)) :: numL r (k + 1)
section
variable {K : Type} [DecidableEq K] {t : K} {l : List K} {k : Nat}
theorem numL_at [BEq K] [LawfulBEq K] : at? (numL l k) t = if t ∈ l then some (.int ((k + l.idxOf t : Nat) : Int)) else none := by
  induction l generalizing k with
  | nil => rfl
  | cons u r ih =>
    unfold numL at?
    by_cases e : u = t
    · subst e; simp
    · rw [List.find?_cons_of_neg (by simpa using e)]
      have := ih (k := k + 1)
      unfold at? at this
      have e2 : (u == t) = false := by simpa using e
      simp only [this, List.idxOf_cons, e2, cond_false]
      have e' : ¬ t = u := fun q => e q.symm
      simp only [List.mem_cons, e', false_or]
      split <;> simp <;> lia -abstractProof
theorem numL_len (l : List K) (k : Nat) : (numL l k).length = l.length := by
  induction l generalizing k with
  | nil => rfl
  | cons _ r ih => exact congrArg (· + 1) (ih (k + 1))
theorem numL_any [BEq K] [LawfulBEq K] : (numL l k).any (fun kv => decide (kv.1 = t)) = decide (t ∈ l) := by
  induction l generalizing k with
  | nil => simp [numL]
  | cons u r ih => simp only [numL, List.any_cons, ih]; simp [eq_comm]
theorem numL_app : numL (l ++ [t]) k = numL l k ++ [(t, .int ((k + l.length : Nat) : Int))] := by
  induction l generalizing k with
  | nil => rfl
  | cons u r ih =>
    show _ :: numL (r ++ [t]) (k + 1) = _ :: (numL r (k + 1) ++ _)
    rw [ih, show k + 1 + r.length = k + (u :: r).length by simp; lia -abstractProof]
theorem numL_mem {p : K × V} (h : p ∈ numL l k) : p.1 ∈ l := by
  induction l generalizing k with
  | nil => exact (List.not_mem_nil h).elim
  | cons u r ih =>
    rcases List.mem_cons.mp h with h | h
    · rw [h]; exact .head _
    · exact .tail _ (ih h)
end
noncomputable def Sy.atom (y : Sy) (t : Str) : Sy := if t ∈ y.texts then y else { y with texts := y.texts ++ [t] }
noncomputable def Sy.num (y : Sy) (t : Str) : Int := (y.texts.idxOf t : Nat)
noncomputable def Sy.functor (y : Sy) (k : List Int) : Sy := if k ∈ y.fs then y else { y with fs := y.fs ++ [k] }
noncomputable def Sy.fnum (y : Sy) (k : List Int) : Int := (y.fs.idxOf k : Nat)
noncomputable def Sy.func (y : Sy) (t : Str) (k : Int) : Sy := (y.atom t).functor [(y.atom t).num t, k]
noncomputable def syFs : List (Str × V) := [("texts", .ref 3), ("atom_numbers", .ref 4), ("functors", .ref 5), ("functor_numbers", .ref 6)]
structure SyAt (y : Sy) (σ : List AO) : Prop where
  o : σ[2]? = some (.inst 154 syFs)
  t : σ[3]? = some (.list (y.texts.map V.str))
  a : σ[4]? = some (.dS (numL y.texts 0))
  f : σ[5]? = some (.list (y.fs.map fun k => .tup (k.map V.int)))
  n : σ[6]? = some (.dT (numL y.fs 0))
  lt : y.texts.length ≤ 10000
  lf : y.fs.length ≤ 10000
section
variable {B : Bs} {n : Nat} {X : V → List AO → Prop} {σ : List AO} {Q : V → List AO → Prop}
theorem CA_atom (P : PF B) {y : Sy} {t : Str} (hy : SyAt y σ) (hl : y.texts.length < 10000) (h : ∀ σ', σ'.length = σ.length → Kp [3, 4] σ σ' → SyAt (y.atom t) σ' → Q (.int ((y.atom t).num t)) σ') : CA B (n + 1) X (.ref 88) [.ref 2, .str t] σ Q := by
  refine CA_fn (others := ["found", "number"]) (G := ⟨["len"], [], []⟩) thruAll P.f_Symbols_atom (by decide +kernel) rfl ?_
  refine EXs_next (EX_assign (EV_bmeth rfl (by decide) rfl ?_))
  refine EV_attr (EV_name (v := .ref 2) (mI 0 rfl) (OP_attr P.c_Symbols P.a_Symbols_atom_numbers hy.o (mI 1 rfl) ?_))
  refine ⟨"dict.get", GM_dS hy.a PySem.F.slot_dict_get PySem.F.type_dict_get, ?_⟩
  refine EV_name (v := .str t) (mI 1 rfl) (EV_un (EV_int (OP_neg (OP_getS hy.a ?_))))
  simp only [numL_at]
  by_cases ht : t ∈ y.texts
  · have ea : y.atom t = y := if_pos ht
    rw [ea] at h
    rw [if_pos ht]
    refine ⟨_, uI 2 rfl, rfl, ?_⟩
    refine EXs_cons (EX_if (TE_cmp (EV_name (v := .int _) (mI 2 rfl) (EV_int (OP_geI ⟨_, rfl, fun z_ => ?_, fun hb => absurd hb (by simp)⟩)))))
    refine EXs_last (EX_ret (EV_name (v := .int _) (mI 2 rfl) ⟨fun q => (by cases q), fun z_ => ?_⟩))
    have := h σ rfl .refl hy
    unfold Sy.num at this
    rw [Nat.zero_add]; exact this
  · have ea : y.atom t = { y with texts := y.texts ++ [t] } := if_neg ht
    rw [if_neg ht]
    refine ⟨_, uI 2 rfl, rfl, ?_⟩
    refine EXs_cons (EX_if (TE_cmp (EV_name (v := .int _) (mI 2 rfl) (EV_int (OP_geI ⟨_, rfl, fun hb => absurd hb (by decide), fun z_ => ?_⟩)))))
    refine EXs_nil ⟨fun z_ => ?_, fun q => absurd rfl q⟩
    refine EXs_next (EX_assign (EV_callB (mI 0 rfl) P.n_len bt_len (by decide) (fun h => keeps_builtin _ _ h) rfl ?_))
    refine EV_attr (EV_name (v := .ref 2) (mI 0 rfl) (OP_attr P.c_Symbols P.a_Symbols_texts hy.o (mI 0 rfl) ?_))
    refine OP_lenL hy.t (by simp; lia -abstractProof) ⟨_, uI 3 rfl, rfl, ?_⟩
    refine EXs_next (EX_expr (EV_append rfl rfl ?_))
    refine EV_attr (EV_name (v := .ref 2) (mI 0 rfl) (OP_attr P.c_Symbols P.a_Symbols_texts hy.o (mI 0 rfl) ?_))
    refine ⟨3, rfl, ⟨_, hy.t⟩, EV_name (v := .str t) (mI 1 rfl) ⟨_, hy.t, by simp; lia -abstractProof, rfl, ?_⟩⟩
    refine EXs_next (EX_setitem (EV_name (v := .int _) (mI 3 rfl) ?_))
    refine EV_attr (EV_name (v := .ref 2) (mI 0 rfl) (OP_attr P.c_Symbols P.a_Symbols_atom_numbers (by rw [List.getElem?_set_ne (by decide)]; exact hy.o) (mI 1 rfl) ?_))
    refine EV_name (v := .str t) (mI 1 rfl) (OP_setS (by rw [List.getElem?_set_ne (by decide)]; exact hy.a) (by rw [numL_len]; lia -abstractProof) ⟨rfl, ?_⟩)
    refine EXs_last (EX_ret (EV_name (v := .int _) (mI 3 rfl) ?_))
    have := h ((σ.set 3 (.list (y.texts.map V.str ++ [.str t]))).set 4 (.dS (put (numL y.texts 0) t (.int ((y.texts.map V.str).length : Nat))))) (by simp) ((Kp.set (by decide)).trans (Kp.set (by decide))) ?_
    · rw [ea] at this
      unfold Sy.num at this
      rw [List.idxOf_append, if_neg ht] at this
      simpa using this
    · rw [ea]
      refine ⟨?_, ?_, ?_, ?_, ?_, by simp; lia -abstractProof, hy.lf⟩
      · rw [List.getElem?_set_ne (by decide), List.getElem?_set_ne (by decide)]; exact hy.o
      · rw [List.getElem?_set_ne (by decide), set_get hy.t, List.map_append]; rfl
      · rw [set_get (o := .dS (numL y.texts 0)) (by rw [List.getElem?_set_ne (by decide)]; exact hy.a)]
        unfold put
        simp only [numL_any, decide_eq_false ht, numL_app]
        simp
      · rw [List.getElem?_set_ne (by decide), List.getElem?_set_ne (by decide)]; exact hy.f
      · rw [List.getElem?_set_ne (by decide), List.getElem?_set_ne (by decide)]; exact hy.n
theorem CA_functor (P : PF B) {y : Sy} {a k : Int} (hy : SyAt y σ) (hl : y.fs.length < 10000) (h : ∀ σ', σ'.length = σ.length → Kp [5, 6] σ σ' → SyAt (y.functor [a, k]) σ' → Q (.int ((y.functor [a, k]).fnum [a, k])) σ') : CA B (n + 1) X (.ref 102) [.ref 2, .int a, .int k] σ Q := by
  refine CA_fn (others := ["key", "found", "number"]) (G := ⟨["len"], [], []⟩) thruAll P.f_Symbols_functor (by decide +kernel) rfl ?_
  refine EXs_next (EX_assign (EV_tuple rfl (by decide) (EV_name (v := .int a) (mI 1 rfl) (EV_name (v := .int k) (mI 2 rfl) ⟨_, uI 3 rfl, rfl, ?_⟩))))
  refine EXs_next (EX_assign (EV_bmeth rfl (by decide) rfl ?_))
  refine EV_attr (EV_name (v := .ref 2) (mI 0 rfl) (OP_attr P.c_Symbols P.a_Symbols_functor_numbers hy.o (mI 3 rfl) ?_))
  refine ⟨"dict.get", GM_dT hy.n PySem.F.slot_dict_get PySem.F.type_dict_get, ?_⟩
  refine EV_name (v := .tup [.int a, .int k]) (mI 3 rfl) (EV_un (EV_int (OP_neg (OP_getT (k := [a, k]) hy.n ?_))))
  rw [numL_at]
  by_cases ht : [a, k] ∈ y.fs
  · have ea : y.functor [a, k] = y := if_pos ht
    rw [ea] at h
    rw [if_pos ht]
    refine ⟨_, uI 4 rfl, rfl, ?_⟩
    refine EXs_cons (EX_if (TE_cmp (EV_name (v := .int _) (mI 4 rfl) (EV_int (OP_geI ⟨_, rfl, fun z_ => ?_, fun hb => absurd hb (by simp)⟩)))))
    refine EXs_last (EX_ret (EV_name (v := .int _) (mI 4 rfl) ⟨fun q => (by cases q), fun z_ => ?_⟩))
    have := h σ rfl .refl hy
    unfold Sy.fnum at this
    rw [Nat.zero_add]; exact this
  · have ea : y.functor [a, k] = { y with fs := y.fs ++ [[a, k]] } := if_neg ht
    rw [if_neg ht]
    refine ⟨_, uI 4 rfl, rfl, ?_⟩
    refine EXs_cons (EX_if (TE_cmp (EV_name (v := .int _) (mI 4 rfl) (EV_int (OP_geI ⟨_, rfl, fun hb => absurd hb (by decide), fun z_ => ?_⟩)))))
    refine EXs_nil ⟨fun z_ => ?_, fun q => absurd rfl q⟩
    refine EXs_next (EX_assign (EV_callB (mI 0 rfl) P.n_len bt_len (by decide) (fun h => keeps_builtin _ _ h) rfl ?_))
    refine EV_attr (EV_name (v := .ref 2) (mI 0 rfl) (OP_attr P.c_Symbols P.a_Symbols_functors hy.o (mI 2 rfl) ?_))
    refine OP_lenL hy.f (by simp; lia -abstractProof) ⟨_, uI 5 rfl, rfl, ?_⟩
    refine EXs_next (EX_expr (EV_append rfl rfl ?_))
    refine EV_attr (EV_name (v := .ref 2) (mI 0 rfl) (OP_attr P.c_Symbols P.a_Symbols_functors hy.o (mI 2 rfl) ?_))
    refine ⟨5, rfl, ⟨_, hy.f⟩, EV_name (v := .tup [.int a, .int k]) (mI 3 rfl) ⟨_, hy.f, by simp; lia -abstractProof, rfl, ?_⟩⟩
    refine EXs_next (EX_setitem (EV_name (v := .int _) (mI 5 rfl) ?_))
    refine EV_attr (EV_name (v := .ref 2) (mI 0 rfl) (OP_attr P.c_Symbols P.a_Symbols_functor_numbers (by rw [List.getElem?_set_ne (by decide)]; exact hy.o) (mI 3 rfl) ?_))
    refine EV_name (v := .tup [.int a, .int k]) (mI 3 rfl) (OP_setT (k := [a, k]) (by rw [List.getElem?_set_ne (by decide)]; exact hy.n) (by rw [numL_len]; have := hy.lf; lia -abstractProof) ⟨rfl, ?_⟩)
    refine EXs_last (EX_ret (EV_name (v := .int _) (mI 5 rfl) ?_))
    have := h ((σ.set 5 (.list (y.fs.map (fun k => V.tup (k.map V.int)) ++ [.tup [.int a, .int k]]))).set 6 (.dT (put (numL y.fs 0) [a, k] (.int ((y.fs.map (fun k => V.tup (k.map V.int))).length : Nat))))) (by simp) ((Kp.set (by decide)).trans (Kp.set (by decide))) ?_
    · rw [ea] at this
      unfold Sy.fnum at this
      rw [List.idxOf_append, if_neg ht] at this
      simpa using this
    · rw [ea]
      refine ⟨?_, ?_, ?_, ?_, ?_, hy.lt, by simp; lia -abstractProof⟩
      · rw [List.getElem?_set_ne (by decide), List.getElem?_set_ne (by decide)]; exact hy.o
      · rw [List.getElem?_set_ne (by decide), List.getElem?_set_ne (by decide)]; exact hy.t
      · rw [List.getElem?_set_ne (by decide), List.getElem?_set_ne (by decide)]; exact hy.a
      · rw [List.getElem?_set_ne (by decide), set_get hy.f, List.map_append]; rfl
      · rw [set_get (o := .dT (numL y.fs 0)) (by rw [List.getElem?_set_ne (by decide)]; exact hy.n)]
        unfold put
        simp only [numL_any, decide_eq_false ht, numL_app]
        simp
end
theorem Sy.atom_len (y : Sy) (t : Str) : (y.atom t).texts.length ≤ y.texts.length + 1 := by unfold Sy.atom; split <;> simp
theorem Sy.atom_fs (y : Sy) (t : Str) : (y.atom t).fs = y.fs := by unfold Sy.atom; split <;> rfl
theorem Sy.functor_len (y : Sy) (k : List Int) : (y.functor k).fs.length ≤ y.fs.length + 1 := by unfold Sy.functor; split <;> simp
theorem Sy.functor_texts (y : Sy) (k : List Int) : (y.functor k).texts = y.texts := by unfold Sy.functor; split <;> rfl
section
variable {B : Bs} {n : Nat} {X : V → List AO → Prop} {σ : List AO} {Q : V → List AO → Prop}
theorem CA_func (P : PF B) {y : Sy} {t : Str} {k : Int} (hy : SyAt y σ) (hl : y.texts.length < 10000) (hf : y.fs.length < 10000) (h : ∀ σ', σ'.length = σ.length → Kp [3, 4, 5, 6] σ σ' → SyAt (y.func t k) σ' → Q (.int ((y.func t k).fnum [(y.atom t).num t, k])) σ') : CA B (n + 2) X (.ref 109) [.ref 2, .str t, .int k] σ Q := by
  refine CA_fn (others := []) (G := ⟨[], [], []⟩) thruAll P.f_Symbols_func (by decide +kernel) rfl ?_
  refine EXs_last (EX_ret (EV_imeth rfl (by decide) rfl (EV_name (v := .ref 2) (mI 0 rfl) ⟨2, 154, _, _, rfl, hy.o, P.c_Symbols, P.m_Symbols_functor, by decide, ?_⟩)))
  refine EV_imeth rfl (by decide) rfl (EV_name (v := .ref 2) (mI 0 rfl) ⟨2, 154, _, _, rfl, hy.o, P.c_Symbols, P.m_Symbols_atom, by decide, ?_⟩)
  refine EV_name (v := .str t) (mI 1 rfl) (CA.op (CA_atom P hy hl fun σ₁ e₁ k₁ y₁ => ?_))
  refine EV_name (v := .int k) (mI 2 rfl) (CA.op (CA_functor P y₁ (by rw [Sy.atom_fs]; exact hf) fun σ₂ e₂ k₂ y₂ => ?_))
  exact h σ₂ (by lia -abstractProof) ((k₁.mono (by decide)).trans (k₂.mono (by decide))) y₂
theorem CA_text (P : PF B) {y : Sy} {t : Str} {i : Nat} (hy : SyAt y σ) (hi : y.texts[i]? = some t) (h : Q (.str t) σ) : CA B (n + 1) X (.ref 95) [.ref 2, .int i] σ Q := by
  refine CA_fn (others := []) (G := ⟨[], [], []⟩) thruAll P.f_Symbols_text (by decide +kernel) rfl ?_
  refine EXs_last (EX_ret (EV_sub ?_))
  refine EV_attr (EV_name (v := .ref 2) (mI 0 rfl) (OP_attr P.c_Symbols P.a_Symbols_texts hy.o (mI 0 rfl) ?_))
  have := (List.getElem?_eq_some_iff.mp hi).1
  have := hy.lt
  refine EV_name (v := .int i) (mI 1 rfl) (SUB_list (k := i) (x := .str t) hy.t (by lia -abstractProof) (by lia -abstractProof) (by simp only [List.getElem?_map, Int.toNat_natCast, hi]; rfl) h)
theorem CA_name (P : PF B) {y : Sy} {a k : Int} {i : Nat} (hy : SyAt y σ) (hi : y.fs[i]? = some [a, k]) (h : Q (.int a) σ) : CA B (n + 1) X (.ref 116) [.ref 2, .int i] σ Q := by
  refine CA_fn (others := []) (G := ⟨[], [], []⟩) thruAll P.f_Symbols_name (by decide +kernel) rfl ?_
  refine EXs_last (EX_ret (EV_sub (EV_sub ?_)))
  refine EV_attr (EV_name (v := .ref 2) (mI 0 rfl) (OP_attr P.c_Symbols P.a_Symbols_functors hy.o (mI 2 rfl) ?_))
  have := (List.getElem?_eq_some_iff.mp hi).1
  have := hy.lf
  refine EV_name (v := .int i) (mI 1 rfl) (SUB_list (k := i) (x := .tup [.int a, .int k]) hy.f (by lia -abstractProof) (by lia -abstractProof) (by simp only [List.getElem?_map, Int.toNat_natCast, hi]; rfl) ?_)
  exact EV_int (SUB_tup (k := 0) (by decide) rfl h)
theorem CA_arity (P : PF B) {y : Sy} {a k : Int} {i : Nat} (hy : SyAt y σ) (hi : y.fs[i]? = some [a, k]) (h : Q (.int k) σ) : CA B (n + 1) X (.ref 123) [.ref 2, .int i] σ Q := by
  refine CA_fn (others := []) (G := ⟨[], [], []⟩) thruAll P.f_Symbols_arity (by decide +kernel) rfl ?_
  refine EXs_last (EX_ret (EV_sub (EV_sub ?_)))
  refine EV_attr (EV_name (v := .ref 2) (mI 0 rfl) (OP_attr P.c_Symbols P.a_Symbols_functors hy.o (mI 2 rfl) ?_))
  have := (List.getElem?_eq_some_iff.mp hi).1
  have := hy.lf
  refine EV_name (v := .int i) (mI 1 rfl) (SUB_list (k := i) (x := .tup [.int a, .int k]) hy.f (by lia -abstractProof) (by lia -abstractProof) (by simp only [List.getElem?_map, Int.toNat_natCast, hi]; rfl) ?_)
  exact EV_int (SUB_tup (k := 1) (by decide) rfl h)
end
section
variable {B : Bs} {n : Nat} {X : V → List AO → Prop} {G : Gs} {m : Loc} {σ : List AO} {Q : V → List AO → Prop}
noncomputable def cOf? : Expr → Option Const
  | .Constant c _ _ => some c
  | _ => none
noncomputable def tOf? : Expr → Option (List Expr)
  | .Tuple es _ _ => some es
  | _ => none
noncomputable def cV? : Const → Option V
  | .str x => some (.str x)
  | .int x => some (.int x)
  | _ => none
theorem nsm {α : Type} {a : α} {p : Prop} (h : none = some a) : p := nomatch h
theorem cOf_is {e : Expr} {c : Const} (h : cOf? e = some c) : ∃ k p, e = .Constant c k p := by
  cases e with
  | Constant c' k p => exact ⟨k, p, by rw [Option.some.inj h]⟩
  | _ => exact nsm h
theorem tOf_is {e : Expr} {es : List Expr} (h : tOf? e = some es) : ∃ k p, e = .Tuple es k p := by
  cases e with
  | Tuple c' k p => exact ⟨k, p, by rw [Option.some.inj h]⟩
  | _ => exact nsm h
structure Rdr (B : Bs) (n : Nat) (X : V → List AO → Prop) (G : Gs) (m : Loc) (σ : List AO) (f : Expr → Option V) : Prop where
  ev : ∀ e v (Q : V → List AO → Prop), f e = some v → Q v σ → EV B n X G m σ e Q
  st : ∀ e v r, f e = some v → noStar (e :: r) = noStar r
noncomputable def eachOf (f : Expr → Option V) : List Expr → Option (List V)
  | [] => some []
  | e :: r => (f e).bind fun x => (eachOf f r).map (x :: ·)
noncomputable def conOf (e : Expr) : Option V := (cOf? e).bind cV?
noncomputable def tupOf (f : Expr → Option V) (e : Expr) : Option V := (tOf? e).bind fun es => if es.length ≤ 1000 then (eachOf f es).map V.tup else none
theorem Rdr.con : Rdr B n X G m σ conOf := by
  refine ⟨fun e v Q h q => ?_, fun e v r h => ?_⟩ <;> refine shut fun P_ o_ => ?_ <;> obtain ⟨c, h1, h2⟩ := Option.bind_eq_some_iff.mp h <;> obtain ⟨k, p, ee⟩ := cOf_is h1 <;> refine o_ ?_ <;> rw [ee]
  · cases c with
    | str x => exact EV_str (Option.some.inj h2 ▸ q)
    | int x => exact EV_int (Option.some.inj h2 ▸ q)
    | _ => exact nsm h2
  · rfl
theorem Rdr.each {f : Expr → Option V} (R : Rdr B n X G m σ f) : ∀ {es : List Expr} {l : List V}, eachOf f es = some l → noStar es = true ∧ ∀ Q : List V → List AO → Prop, Q l σ → EVs B n X G m es σ Q
  | [], l, h => ⟨rfl, fun Q q => by cases h; exact q⟩
  | e :: r, l, h => by
    refine shut fun P_ o_ => ?_
    obtain ⟨x, h1, h2⟩ := Option.bind_eq_some_iff.mp h
    obtain ⟨l', h3, h4⟩ := Option.map_eq_some_iff.mp h2
    obtain ⟨a, b⟩ := R.each h3
    refine o_ ?_
    rw [← h4]
    exact ⟨(R.st e x r h1).trans a, fun Q q => R.ev e x _ h1 (b _ q)⟩
theorem Rdr.tup {f : Expr → Option V} (R : Rdr B n X G m σ f) : Rdr B n X G m σ (tupOf f) := by
  refine ⟨fun e v Q h q => ?_, fun e v r h => ?_⟩ <;> refine shut fun P_ o_ => ?_ <;> obtain ⟨es, h1, h2⟩ := Option.bind_eq_some_iff.mp h <;> obtain ⟨k, p, ee⟩ := tOf_is h1 <;> refine o_ ?_ <;> rw [ee]
  · by_cases hl : es.length ≤ 1000
    · rw [if_pos hl] at h2
      obtain ⟨l', h3, h4⟩ := Option.map_eq_some_iff.mp h2
      rw [← h4] at q
      exact EV_tuple (R.each h3).1 hl ((R.each h3).2 _ q)
    · rw [if_neg hl] at h2; exact nomatch h2
  · rfl
noncomputable def retE : Stmt → Expr
  | .Return (some e) _ => e
  | _ => default
noncomputable def stP : Stmt → Pos
  | .Return _ p => p
  | _ => default
noncomputable def atoms0 : List Str := (["[]", ".", "{}", "-", "+", "*", "/", ",", "|", ";", "->", "\\+", ":-", "?-", "-->", "!", "true", "fail", "false", "call", "=", "^", "error", "", "end_of_file", "system", "$VAR", "catch", "throw"] : List String).map Str.ofString
noncomputable def rows0 : List (Str × Int) := ([(".", 2), (",", 2), (";", 2), ("->", 2), ("\\+", 1), (":-", 2), (":-", 1), ("?-", 1), ("-->", 2), ("{}", 1), ("=", 2), ("^", 2), ("-", 1), ("-", 2), ("+", 2), ("/", 2), ("error", 2), ("$VAR", 1), ("catch", 3), ("throw", 1), ("!", 0), ("true", 0), ("fail", 0), ("false", 0), ("call", 1), ("call", 2), ("call", 3), ("call", 4), ("call", 5), ("call", 6), ("call", 7), ("call", 8)] : List (String × Int)).map fun p => (Str.ofString p.1, p.2)
theorem CA_fixed_atoms (P : PF B) (h : Q (.tup (atoms0.map V.str)) σ) : CA B (n + 1) X (.ref 60) [] σ Q := by
  refine CA_fn (others := []) (G := ⟨[], [], []⟩) thruAll P.f_fixed_atoms (by decide +kernel) rfl ?_
  have e1 : fnB (top 9) = [.Return (some (retE ((fnB (top 9)).getD 0 (.Pass default)))) (stP ((fnB (top 9)).getD 0 (.Pass default)))] := by kernel_rfl
  have e2 : tupOf conOf (retE ((fnB (top 9)).getD 0 (.Pass default))) = some (.tup (atoms0.map V.str)) := by kernel_rfl
  generalize retE ((fnB (top 9)).getD 0 (.Pass default)) = e at e1 e2
  generalize stP ((fnB (top 9)).getD 0 (.Pass default)) = p at e1
  rw [e1]
  refine EXs_last (EX_ret ?_)
  exact Rdr.con.tup.ev _ _ _ e2 h
theorem CA_fixed_functors (P : PF B) (h : Q (.tup (rows0.map fun x => V.tup [.str x.1, .int x.2])) σ) : CA B (n + 1) X (.ref 67) [] σ Q := by
  refine CA_fn (others := []) (G := ⟨[], [], []⟩) thruAll P.f_fixed_functors (by decide +kernel) rfl ?_
  have e1 : fnB (top 10) = [.Return (some (retE ((fnB (top 10)).getD 0 (.Pass default)))) (stP ((fnB (top 10)).getD 0 (.Pass default)))] := by kernel_rfl
  have e2 : tupOf (tupOf conOf) (retE ((fnB (top 10)).getD 0 (.Pass default))) = some (.tup (rows0.map fun x => V.tup [.str x.1, .int x.2])) := by kernel_rfl
  generalize retE ((fnB (top 10)).getD 0 (.Pass default)) = e at e1 e2
  generalize stP ((fnB (top 10)).getD 0 (.Pass default)) = p at e1
  rw [e1]
  refine EXs_last (EX_ret ?_)
  exact Rdr.con.tup.tup.ev _ _ _ e2 h
noncomputable def sy1 (k : Nat) : Sy := (atoms0.take k).foldl Sy.atom ⟨[], []⟩
noncomputable def sy2 (k : Nat) : Sy := (rows0.take k).foldl (fun y r => y.func r.1 r.2) (sy1 29)
theorem sy1_len : ∀ k, k ≤ 29 → (sy1 k).texts.length ≤ 100 := by decide +kernel
theorem sy2_len : ∀ k, k ≤ 32 → (sy2 k).texts.length ≤ 100 ∧ (sy2 k).fs.length ≤ 100 := by decide +kernel
noncomputable def sy0 : Sy := ⟨atoms0, (sy2 32).fs⟩
theorem sy2_end : sy2 32 = sy0 := by kernel_rfl
end
section
variable {B : Bs} {n : Nat} {X : V → List AO → Prop} {G : Gs} {m : Loc} {σ : List AO} {Q : V → List AO → Prop}
theorem sy1_succ {k : Nat} {t : Str} (h : atoms0[k]? = some t) : sy1 (k + 1) = (sy1 k).atom t := by
  unfold sy1; simp only [List.take_add_one, h, List.foldl_append]; rfl
theorem sy2_succ {k : Nat} {t : Str × Int} (h : rows0[k]? = some t) : sy2 (k + 1) = (sy2 k).func t.1 t.2 := by
  unfold sy2; simp only [List.take_add_one, h, List.foldl_append]; rfl
theorem sy1_fs : ∀ k, k ≤ 29 → (sy1 k).fs.length ≤ 100 := by decide +kernel
theorem CA_syInit (P : PF B) {a b : AO} (h : ∀ σ', Kp [2, 3, 4, 5, 6] [a, b] σ' → σ'.length = 7 → SyAt sy0 σ' → Q .none σ') : CA B (n + 3) X (.ref 81) [.ref 2] [a, b, .inst 154 []] Q := by
  refine CA_fn (others := ["text", "row"]) (G := ⟨["fixed_atoms", "fixed_functors"], [], []⟩) thruAll P.f_Symbols___init__ (by decide +kernel) rfl ?_
  have p1 : putf [] ("texts" : Str) (V.ref 3) = ([("texts", .ref 3)] : List (Str × V)) := rfl
  have p2 : putf [(("texts" : Str), V.ref 3)] ("atom_numbers" : Str) (V.ref 4) = ([("texts", .ref 3), ("atom_numbers", .ref 4)] : List (Str × V)) := by simp only [putf]; rw [if_neg (by decide +kernel)]
  have p3 : putf [(("texts" : Str), V.ref 3), ("atom_numbers", .ref 4)] ("functors" : Str) (V.ref 5) = ([("texts", .ref 3), ("atom_numbers", .ref 4), ("functors", .ref 5)] : List (Str × V)) := by simp only [putf]; rw [if_neg (by decide +kernel), if_neg (by decide +kernel)]
  have p4 : putf [(("texts" : Str), V.ref 3), ("atom_numbers", .ref 4), ("functors", .ref 5)] ("functor_numbers" : Str) (V.ref 6) = syFs := by simp only [putf]; rw [if_neg (by decide +kernel), if_neg (by decide +kernel), if_neg (by decide +kernel)]; rfl
  refine EXs_next (EX_setattr (EV_list rfl (by decide) (EV_name (v := .ref 2) (mI 0 rfl) (OP_setattr (i := 2) (fs := []) P.c_Symbols P.t_Symbols_texts rfl (by decide) ⟨rfl, ?_⟩))))
  show EXs B _ X _ _ [a, b, .inst 154 (putf [] ("texts" : Str) (V.ref 3)), .list []] _ _
  rw [p1]
  refine EXs_next (EX_setattr (EV_dS (EV_name (v := .ref 2) (mI 0 rfl) (OP_setattr (i := 2) (fs := [("texts", .ref 3)]) P.c_Symbols P.t_Symbols_atom_numbers rfl (by decide) ⟨rfl, ?_⟩))))
  show EXs B _ X _ _ [a, b, .inst 154 (putf [("texts", .ref 3)] ("atom_numbers" : Str) (V.ref 4)), .list [], .dS []] _ _
  rw [p2]
  refine EXs_next (EX_setattr (EV_list rfl (by decide) (EV_name (v := .ref 2) (mI 0 rfl) (OP_setattr (i := 2) (fs := [("texts", .ref 3), ("atom_numbers", .ref 4)]) P.c_Symbols P.t_Symbols_functors rfl (by decide) ⟨rfl, ?_⟩))))
  show EXs B _ X _ _ [a, b, .inst 154 (putf [("texts", .ref 3), ("atom_numbers", .ref 4)] ("functors" : Str) (V.ref 5)), .list [], .dS [], .list []] _ _
  rw [p3]
  refine EXs_next (EX_setattr (EV_dT (EV_name (v := .ref 2) (mI 0 rfl) (OP_setattr (i := 2) (fs := [("texts", .ref 3), ("atom_numbers", .ref 4), ("functors", .ref 5)]) P.c_Symbols P.t_Symbols_functor_numbers rfl (by decide) ⟨rfl, ?_⟩))))
  show EXs B _ X _ _ [a, b, .inst 154 (putf [("texts", .ref 3), ("atom_numbers", .ref 4), ("functors", .ref 5)] ("functor_numbers" : Str) (V.ref 6)), .list [], .dS [], .list [], .dT []] _ _
  rw [p4]
  have k0 : Kp [2, 3, 4, 5, 6] [a, b] ([a, b] ++ [.inst 154 syFs, .list [], .dS [], .list [], .dT []]) := Kp.app
  have y0 : SyAt (sy1 0) [a, b, .inst 154 syFs, .list [], .dS [], .list [], .dT []] := ⟨rfl, rfl, rfl, rfl, rfl, by decide, by decide⟩
  refine EXs_next (EX_for thruAll (fun (k : Nat) (m : Loc) (σ' : List AO) => ∃ (o : Option V), m = [(("self" : Str), some (V.ref 2)), (("text" : Str), o), (("row" : Str), none)] ∧ SyAt (sy1 k) σ' ∧ σ'.length = 7 ∧ Kp [2, 3, 4, 5, 6] [a, b] σ') (IE_of ?_))
  refine EV_call (mI 0 rfl) P.g_fixed_atoms P.k_fixed_atoms rfl (CA.op (CA_fixed_atoms P ⟨_, _, ITER_tup, ⟨_, rfl, y0, rfl, k0⟩, fun z_ z_ z_ z_ z_ => trivial, ?_, ?_⟩))
  · rintro k m' σ' x hx ⟨o, rfl, hy, hl, hk⟩
    rw [List.getElem?_map] at hx
    obtain ⟨t, ht, rfl⟩ := Option.map_eq_some_iff.mp hx
    have hk29 : k < 29 := (List.getElem?_eq_some_iff.mp ht).1
    have := sy1_len k (by lia -abstractProof)
    refine ASG_name ⟨_, uI 1 rfl, ?_⟩
    refine EXs_last (EX_expr (EV_imeth rfl (by decide) rfl (EV_name (v := .ref 2) (mI 0 rfl) ⟨2, 154, _, _, rfl, hy.o, P.c_Symbols, P.m_Symbols_atom, by decide, ?_⟩)))
    refine EV_name (v := .str t) (mI 1 rfl) (CA.op (CA_atom P hy (by lia -abstractProof) fun σ₁ e₁ k₁ y₁ => ?_))
    exact ⟨_, rfl, by rw [sy1_succ ht]; exact y₁, e₁.trans hl, hk.trans (k₁.mono (by decide))⟩
  · rintro m' σ' ⟨o, rfl, hy, hl, hk⟩
    refine ⟨rfl, EXs_last (EX_for thruAll (fun (k : Nat) (m : Loc) (σ' : List AO) => ∃ (o o' : Option V), m = [(("self" : Str), some (V.ref 2)), (("text" : Str), o), (("row" : Str), o')] ∧ SyAt (sy2 k) σ' ∧ σ'.length = 7 ∧ Kp [2, 3, 4, 5, 6] [a, b] σ') (IE_of ?_))⟩
    refine EV_call (mI 1 rfl) P.g_fixed_functors P.k_fixed_functors rfl (CA.op (CA_fixed_functors P ⟨_, _, ITER_tup, ⟨o, none, rfl, ?_, hl, hk⟩, fun z_ z_ z_ z_ z_ => trivial, ?_, ?_⟩))
    · rw [List.length_map] at hy; exact hy
    · rintro k m' σ' x hx ⟨o, o', rfl, hy, hl, hk⟩
      rw [List.getElem?_map] at hx
      obtain ⟨t, ht, rfl⟩ := Option.map_eq_some_iff.mp hx
      have hk32 : k < 32 := (List.getElem?_eq_some_iff.mp ht).1
      have := sy2_len k (by lia -abstractProof)
      refine ASG_name ⟨_, uI 2 rfl, ?_⟩
      refine EXs_last (EX_expr (EV_imeth rfl (by decide) rfl (EV_name (v := .ref 2) (mI 0 rfl) ⟨2, 154, _, _, rfl, hy.o, P.c_Symbols, P.m_Symbols_func, by decide, ?_⟩)))
      refine EV_sub (EV_name (v := .tup [.str t.1, .int t.2]) (mI 2 rfl) (EV_int (SUB_tup (k := 0) (by decide) rfl ?_)))
      refine EV_sub (EV_name (v := .tup [.str t.1, .int t.2]) (mI 2 rfl) (EV_int (SUB_tup (k := 1) (by decide) rfl ?_)))
      refine CA.op (CA_func P hy (by lia -abstractProof) (by lia -abstractProof) fun σ₁ e₁ k₁ y₁ => ?_)
      exact ⟨_, _, rfl, by rw [sy2_succ ht]; exact y₁, e₁.trans hl, hk.trans (k₁.mono (by decide))⟩
    · rintro m' σ' ⟨o, o', rfl, hy, hl, hk⟩
      rw [List.length_map] at hy
      have hy' : SyAt (sy2 32) σ' := hy
      rw [sy2_end] at hy'
      exact h _ hk hl hy'
end
noncomputable def XP (B : Bs) : Prop := ∃ fI sc p1 p2 p3 p4, XF B fI sc p1 p2 p3 p4 ∧ findIn B.K (.ref B.excC) "__getattr__" = some none
noncomputable def vA (n : Int) : V := .tup [.str "a", .int n]
noncomputable def vV (n : Int) : V := .tup [.str "v", .int n]
noncomputable def vI (n : Int) : V := .tup [.str "i", .int n]
noncomputable def vS (f : Int) (l : List V) : V := .tup [.str "s", .int f, .tup l]
noncomputable def vSys (formal : V) : V := vS 16 [formal, vA 25]
section
variable {B : Bs} {n : Nat} {X : V → List AO → Prop} {G : Gs} {m : Loc} {σ : List AO} {Q : V → List AO → Prop}
theorem CA_system_error (P : PF B) (x : XP B) {f : V} (h : Q (.ref σ.length) (σ ++ [.excN (vSys f)])) : CA B (n + 3) X (.ref 165) [f] σ Q := by
  refine shut fun P_ o_ => ?_
  obtain ⟨fI, sc, p1, p2, p3, p4, F, -⟩ := x
  obtain ⟨t1, g1⟩ := P.i_F_ERROR
  obtain ⟨t2, g2⟩ := P.i_A_SYSTEM
  refine o_ ?_
  refine CA_fn (others := []) (G := ⟨["PrologError", "F_ERROR", "A_SYSTEM"], [], []⟩) thruAll P.f_system_error (by decide +kernel) rfl ?_
  refine EXs_last (EX_ret (EV_call (mI 0 rfl) P.g_exc P.k_exc rfl ?_))
  refine EV_tuple rfl (by decide) (EV_str (EV_gint (mI 1 rfl) g1 ?_))
  refine EV_tuple rfl (by decide) (EV_name (v := f) (mI 0 rfl) ?_)
  refine EV_tuple rfl (by decide) (EV_str (EV_gint (mI 2 rfl) g2 ?_))
  have := CA_exc (n := n) (X := X) (σ := σ) (ball := vSys f) F h
  rw [P.x_exc] at this
  exact CA.op this
end
noncomputable abbrev Cl := Int × Int
noncomputable def cellV (c : Cl) : V := .tup [.int c.1, .int c.2]
noncomputable def storeFs : List (Str × V) := [("symbols", .ref 2), ("max_heap", .int 100000), ("heap", .ref 13), ("stack", .ref 14), ("trail", .ref 15), ("hb", .int 0), ("bb", .int 0)]
structure StAt (H : List Cl) (σ : List AO) : Prop where
  o : σ[12]? = some (.inst 423 storeFs)
  h : σ[13]? = some (.list (H.map cellV))
  s : σ[14]? = some (.list [])
  t : σ[15]? = some (.list [])
  lz : H.length ≤ 5000
theorem StAt.kp {H : List Cl} {σ σ' : List AO} {D : List Nat} (st : StAt H σ) (k : Kp D σ σ') (h : 12 ∉ D ∧ 13 ∉ D ∧ 14 ∉ D ∧ 15 ∉ D) : StAt H σ' :=
  ⟨k.get st.o h.1, k.get st.h h.2.1, k.get st.s h.2.2.1, k.get st.t h.2.2.2, st.lz⟩
theorem SyAt.kp {y : Sy} {σ σ' : List AO} {D : List Nat} (st : SyAt y σ) (k : Kp D σ σ') (h : 2 ∉ D ∧ 3 ∉ D ∧ 4 ∉ D ∧ 5 ∉ D ∧ 6 ∉ D) : SyAt y σ' :=
  ⟨k.get st.o h.1, k.get st.t h.2.1, k.get st.a h.2.2.1, k.get st.f h.2.2.2.1, k.get st.n h.2.2.2.2, st.lt, st.lf⟩
theorem StAt.put {H H' : List Cl} {σ : List AO} (st : StAt H σ) (hz : H'.length ≤ 5000) : StAt H' (σ.set 13 (.list (H'.map cellV))) :=
  ⟨by rw [List.getElem?_set_ne (by decide)]; exact st.o, set_get st.h, by rw [List.getElem?_set_ne (by decide)]; exact st.s, by rw [List.getElem?_set_ne (by decide)]; exact st.t, hz⟩
inductive Der (H : List Cl) : Cl → Cl → Prop
  | self {x : Int} (h0 : 0 ≤ x) (h : H[x.toNat]? = some (0, x)) : Der H (0, x) (0, x)
  | val {t x : Int} (h0 : t ≠ 0) (h1 : t ≠ 1) : Der H (t, x) (t, x)
  | step {x : Int} {c c' : Cl} (h0 : 0 ≤ x) (h : H[x.toNat]? = some c) (hne : c ≠ (0, x)) (d : Der H c c') : Der H (0, x) c'
noncomputable def whT : Stmt → Expr
  | .While t _ _ _ => t
  | _ => default
noncomputable def nth (b : List Stmt) (k : Nat) : Stmt := b.getD k (.Pass default)
section
variable {B : Bs} {n : Nat} {X : V → List AO → Prop} {σ : List AO} {Q : V → List AO → Prop} {G : Gs} {m : Loc}
theorem EV_fst {x : Str} {a : V} {r : List V} {p p1 pos : Pos} {k : Nat} (hm : (x, some (V.tup (a :: r))) ∈ m) (h : Q a σ) : EV B n X G m σ (.Subscript (.Name x p) (.Constant (.int 0) k p1) pos) Q :=
  EV_sub (EV_name hm (EV_int (SUB_tup (k := 0) (by decide) rfl h)))
theorem EV_snd {x : Str} {a b : V} {r : List V} {p p1 pos : Pos} {k : Nat} (hm : (x, some (V.tup (a :: b :: r))) ∈ m) (h : Q b σ) : EV B n X G m σ (.Subscript (.Name x p) (.Constant (.int 1) k p1) pos) Q :=
  EV_sub (EV_name hm (EV_int (SUB_tup (k := 1) (by decide) rfl h)))
theorem EV_trd {x : Str} {a b c : V} {r : List V} {p p1 pos : Pos} {k : Nat} (hm : (x, some (V.tup (a :: b :: c :: r))) ∈ m) (h : Q c σ) : EV B n X G m σ (.Subscript (.Name x p) (.Constant (.int 2) k p1) pos) Q :=
  EV_sub (EV_name hm (EV_int (SUB_tup (k := 2) (by decide) rfl h)))
theorem EV_heap (P : PF B) {H : List Cl} {x : Str} {p pos : Pos} (hm : (x, some (V.ref 12)) ∈ m) (st : StAt H σ) (h : Q (.ref 13) σ) : EV B n X G m σ (.Attribute (.Name x p) "heap" pos) Q :=
  EV_attr (EV_name hm (OP_attr P.c_Store P.a_Store_heap st.o (mI 2 rfl) h)) (fun z_ => rfl)
theorem EV_stack (P : PF B) {H : List Cl} {x : Str} {p pos : Pos} (hm : (x, some (V.ref 12)) ∈ m) (st : StAt H σ) (h : Q (.ref 14) σ) : EV B n X G m σ (.Attribute (.Name x p) "stack" pos) Q :=
  EV_attr (EV_name hm (OP_attr P.c_Store P.a_Store_stack st.o (mI 3 rfl) h)) (fun z_ => rfl)
theorem EV_maxh (P : PF B) {H : List Cl} {x : Str} {p pos : Pos} (hm : (x, some (V.ref 12)) ∈ m) (st : StAt H σ) (h : Q (.int 100000) σ) : EV B n X G m σ (.Attribute (.Name x p) "max_heap" pos) Q :=
  EV_attr (EV_name hm (OP_attr P.c_Store P.a_Store_max_heap st.o (mI 1 rfl) h)) (fun z_ => rfl)
theorem EV_symb (P : PF B) {H : List Cl} {x : Str} {p pos : Pos} (hm : (x, some (V.ref 12)) ∈ m) (st : StAt H σ) (h : Q (.ref 2) σ) : EV B n X G m σ (.Attribute (.Name x p) "symbols" pos) Q :=
  EV_attr (EV_name hm (OP_attr P.c_Store P.a_Store_symbols st.o (mI 0 rfl) h)) (fun z_ => rfl)
theorem EV_hb (P : PF B) {H : List Cl} {x : Str} {p pos : Pos} (hm : (x, some (V.ref 12)) ∈ m) (st : StAt H σ) (h : Q (.int 0) σ) : EV B n X G m σ (.Attribute (.Name x p) "hb" pos) Q :=
  EV_attr (EV_name hm (OP_attr P.c_Store P.a_Store_hb st.o (mI 5 rfl) h)) (fun z_ => rfl)
theorem SUB_cell {H : List Cl} {k : Int} {c : Cl} (st : StAt H σ) (h0 : 0 ≤ k) (hc : H[k.toNat]? = some c) (h : Q (cellV c) σ) : SUB B n X (.ref 13) (.int k) σ Q := by
  have := (List.getElem?_eq_some_iff.mp hc).1
  have := st.lz
  exact SUB_list (x := cellV c) st.h h0 (by lia -abstractProof) (by simp only [List.getElem?_map, hc]; rfl) h
theorem OP_setCell {H : List Cl} {k : Nat} {c : Cl} {Q : List AO → Prop} (st : StAt H σ) (hk : k < H.length) (h : Q (σ.set 13 (.list ((H.set k c).map cellV)))) :
    OPu B n X [.ref 13, .int k, cellV c] σ stI Q := by
  have := st.lz
  exact OP_setL st.h (by simpa using hk) (by simp; lia -abstractProof) (by rw [← List.map_set]; exact h)
theorem veq_cell {c d : Cl} : veqs [V.int c.1, .int c.2] [.int d.1, .int d.2] = decide (c = d) := by
  rw [Bool.eq_iff_iff, veqs_iff, decide_eq_true_iff]
  exact ⟨fun e => Prod.ext (V.int.inj (List.cons.inj e).1) (V.int.inj (List.cons.inj (List.cons.inj e).2).1), fun e => by rw [e]⟩
theorem OP_eqC {c d : Cl} (h : Q (.bool (decide (c = d))) σ) : OP2 B n X (cellV c) (cellV d) σ (compareOp .Eq) Q := by
  refine OP_eqV rfl rfl ?_
  rw [veq_cell]; exact h
theorem OP_neC {c d : Cl} (h : Q (.bool (!decide (c = d))) σ) : OP2 B n X (cellV c) (cellV d) σ (compareOp .NotEq) Q := by
  refine OP_neV rfl rfl ?_
  rw [veq_cell]; exact h
theorem EV_sm (P : PF B) {H : List Cl} {x name : Str} {f : Addr} {p apos pos : Pos} {es : List Expr} (hm : (x, some (V.ref 12)) ∈ m) (st : StAt H σ) (mf : MF B 423 name f) (hn : name ∉ storeFs.map (·.1)) (hs : noStar es = true) (hl : es.length < 20) (hline : (apos.endLine == pos.line) = true)
    (h : EVs B n X G m es σ fun l σ₂ => OPs B n X (.ref 12 :: l) σ₂ (fun vs => call (.ref f) vs) Q) : EV B n X G m σ (.Call (.Attribute (.Name x p) name apos) es [] pos) Q :=
  EV_imeth hs hl hline (EV_name (v := .ref 12) hm ⟨12, 423, _, _, rfl, st.o, P.c_Store, mf, hn, h⟩) (fun z_ => rfl)
theorem CA_deref (P : PF B) {H : List Cl} {c c' : Cl} (st : StAt H σ) (d : Der H c c') (h : Q (cellV c') σ) : CA B (n + 1) X (.ref 272) [.ref 12, cellV c] σ Q := by
  obtain ⟨t1, g1⟩ := P.i_REF
  obtain ⟨t2, g2⟩ := P.i_SRF
  refine CA_fn (others := ["tag", "found"]) (G := ⟨["REF", "SRF"], [], []⟩) thruAll P.f_Cells_deref (by decide +kernel) rfl ?_
  refine EXs_last (EX_while ?_)
  have key : ∀ c c', Der H c c' → Q (cellV c') σ → ∀ o o', LW B n X ⟨["REF", "SRF"], [], []⟩ (whT (nth (fnB (meth 34 5)) 0)) (fnB (nth (fnB (meth 34 5)) 0)) [(("self" : Str), some (V.ref 12)), (("cell" : Str), some (cellV c)), (("tag" : Str), o), (("found" : Str), o')] σ (FnQ Q) := by
    intro c c' d h
    induction d with
    | self h0 hx =>
      intro o o'
      refine LW_step thruAll (TE_val (EV_bool ⟨_, rfl, fun z_ => ?_, fun q => by cases q⟩))
      refine EXs_next (EX_assign (EV_fst (mI 1 rfl) ⟨_, (uI 2 rfl), rfl, ?_⟩))
      refine EXs_cons (EX_if (TE_cmp (EV_name (mI 2 rfl) (EV_gint (mI 0 rfl) g1 (OP_eqI ⟨_, rfl, fun z_ => ?_, fun q => absurd q (by simp)⟩)))))
      refine EXs_last (EX_assign (EV_sub (EV_heap P (mI 0 rfl) st (EV_snd (mI 1 rfl) (SUB_cell st h0 hx ⟨_, (uI 3 rfl), fun z_ => ?_, fun q => absurd rfl q⟩)))))
      refine EXs_cons (EX_if (TE_cmp (EV_name (v := cellV _) (mI 3 rfl) (EV_name (v := cellV _) (mI 1 rfl) (OP_eqC ⟨_, rfl, fun z_ => ?_, fun q => absurd q (by simp)⟩)))))
      refine EXs_last (EX_ret (EV_name (v := cellV _) (mI 1 rfl) ⟨fun q => (by cases q), fun z_ => h⟩))
    | @val t x h0 h1 =>
      intro o o'
      refine LW_step thruAll (TE_val (EV_bool ⟨_, rfl, fun z_ => ?_, fun q => by cases q⟩))
      refine EXs_next (EX_assign (EV_fst (mI 1 rfl) ⟨_, (uI 2 rfl), rfl, ?_⟩))
      refine EXs_cons (EX_if (TE_cmp (EV_name (mI 2 rfl) (EV_gint (mI 0 rfl) g1 (OP_eqI ⟨_, rfl, fun q => absurd q (by simpa using h0), fun z_ => ?_⟩)))))
      refine EXs_last (EX_if (TE_cmp (EV_name (mI 2 rfl) (EV_gint (mI 1 rfl) g2 (OP_eqI ⟨_, rfl, fun q => absurd q (by simpa using h1), fun z_ => ?_⟩)))))
      refine EXs_last (EX_ret (EV_name (v := cellV (t, x)) (mI 1 rfl) ⟨fun q => (by cases q), fun z_ => h⟩))
    | @step x c c' h0 hx hne d ih =>
      intro o o'
      refine LW_step thruAll (TE_val (EV_bool ⟨_, rfl, fun z_ => ?_, fun q => by cases q⟩))
      refine EXs_next (EX_assign (EV_fst (mI 1 rfl) ⟨_, (uI 2 rfl), rfl, ?_⟩))
      refine EXs_cons (EX_if (TE_cmp (EV_name (mI 2 rfl) (EV_gint (mI 0 rfl) g1 (OP_eqI ⟨_, rfl, fun z_ => ?_, fun q => absurd q (by simp)⟩)))))
      refine EXs_last (EX_assign (EV_sub (EV_heap P (mI 0 rfl) st (EV_snd (mI 1 rfl) (SUB_cell st h0 hx ⟨_, (uI 3 rfl), fun z_ => ?_, fun q => absurd rfl q⟩)))))
      refine EXs_cons (EX_if (TE_cmp (EV_name (v := cellV c) (mI 3 rfl) (EV_name (v := cellV (0, x)) (mI 1 rfl) (OP_eqC ⟨_, rfl, fun q => absurd q (by simpa using hne), fun z_ => ?_⟩)))))
      refine EXs_nil ⟨fun z_ => ?_, fun q => absurd rfl q⟩
      refine EXs_last (EX_assign (EV_name (v := cellV c) (mI 3 rfl) ⟨_, (uI 1 rfl), ih h _ _⟩))
  exact key c c' d h none none
end
noncomputable def selfs (h k : Nat) : List Cl := (List.range k).map fun i => (0, ((h + i : Nat) : Int))
theorem selfs_len (h k : Nat) : (selfs h k).length = k := by simp [selfs]
theorem selfs_succ (h k : Nat) : selfs h (k + 1) = selfs h k ++ [(0, ((h + k : Nat) : Int))] := by simp [selfs, List.range_succ]
theorem selfs_cons (h k : Nat) : selfs h (k + 1) = (0, (h : Int)) :: selfs (h + 1) k := by
  simp only [selfs, List.range_succ_eq_map, List.map_cons, List.map_map, Nat.add_zero, List.cons.injEq, true_and]
  exact List.map_congr_left fun i z_ => by simp only [Function.comp]; rw [show h + i.succ = h + 1 + i by lia]
theorem Der.ne1 {H : List Cl} {c c' : Cl} (d : Der H c c') : c'.1 ≠ 1 := by
  induction d with
  | self h0 h => simp
  | val h0 h1 => exact h1
  | step h0 h hne d ih => exact ih
theorem Der.done {H : List Cl} {c c' : Cl} (d : Der H c c') : Der H c' c' := by
  induction d with
  | self h0 h => exact .self h0 h
  | val h0 h1 => exact .val h0 h1
  | step h0 h hne d ih => exact ih
section
variable {B : Bs} {n : Nat} {X : V → List AO → Prop} {σ : List AO} {Q : V → List AO → Prop} {G : Gs} {m : Loc}
theorem EV_len {x : Expr} {p pos : Pos} (P : PF B) (hg : ("len" : Str) ∈ G.g) (hs : noStar [x] = true) (h : EV B n X G m σ x fun a σ₁ => OPs B n X [a] σ₁ (fun vs => call (.builtin "len") vs) Q) : EV B n X G m σ (.Call (.Name "len" p) [x] [] pos) Q :=
  EV_callB hg P.n_len bt_len (by decide) (fun h => keeps_builtin _ _ h) hs h
theorem CA_push (P : PF B) {H : List Cl} {c : Cl} (st : StAt H σ) (hz : H.length < 4900) (h : ∀ σ', Kp [13] σ σ' → σ'.length = σ.length → StAt (H ++ [c]) σ' → Q (.int H.length) σ') : CA B (n + 1) X (.ref 244) [.ref 12, cellV c] σ Q := by
  refine CA_fn (others := ["address"]) (G := ⟨["len"], [], []⟩) thruAll P.f_Cells_push (by decide +kernel) rfl ?_
  refine EXs_next (EX_assign (EV_len P (mI 0 rfl) rfl (EV_heap P (mI 0 rfl) st (OP_lenL st.h (by simp; lia) ⟨_, (uI 2 rfl), rfl, ?_⟩))))
  rw [List.length_map]
  refine EXs_cons (EX_if (TE_cmp (EV_name (mI 2 rfl) (EV_maxh P (mI 0 rfl) st (OP_geI ⟨_, rfl, fun q => absurd q (by simp; lia), fun z_ => ?_⟩)))))
  refine EXs_nil ⟨fun z_ => ?_, fun q => absurd rfl q⟩
  refine EXs_next (EX_expr (EV_append rfl rfl (EV_heap P (mI 0 rfl) st ⟨13, rfl, ⟨_, st.h⟩, EV_name (v := cellV c) (mI 1 rfl) ⟨_, st.h, by simp; lia, rfl, ?_⟩⟩)))
  refine EXs_last (EX_ret (EV_name (v := .int H.length) (mI 2 rfl) ?_))
  have e : H.map cellV ++ [cellV c] = (H ++ [c]).map cellV := by simp
  simp only [e]
  exact h _ (.set (by decide)) (by simp) (st.put (by simp; lia))
theorem CA_new_var (P : PF B) {H : List Cl} (st : StAt H σ) (hz : H.length < 4900) (h : ∀ σ', Kp [13] σ σ' → σ'.length = σ.length → StAt (H ++ [(0, (H.length : Int))]) σ' → Q (cellV (0, (H.length : Int))) σ') : CA B (n + 2) X (.ref 251) [.ref 12] σ Q := by
  obtain ⟨t1, g1⟩ := P.i_REF
  refine CA_fn (others := ["cell"]) (G := ⟨["REF", "len"], [], []⟩) thruAll P.f_Cells_new_var (by decide +kernel) rfl ?_
  refine EXs_next (EX_assign (EV_tuple rfl (by decide) (EV_gint (mI 0 rfl) g1 (EV_len P (mI 1 rfl) rfl (EV_heap P (mI 0 rfl) st (OP_lenL st.h (by simp; lia) ⟨_, (uI 1 rfl), rfl, ?_⟩))))))
  rw [List.length_map]
  refine EXs_next (EX_expr (EV_sm P (mI 0 rfl) st P.m_Store_push (by decide) rfl (by decide) rfl (EV_name (v := cellV (0, (H.length : Int))) (mI 1 rfl) (CA.op (CA_push P st hz fun σ' k e s' => ⟨rfl, ?_⟩)))))
  refine EXs_last (EX_ret (EV_name (v := cellV (0, (H.length : Int))) (mI 1 rfl) (h σ' k e s')))
theorem CA_reserve (P : PF B) {H : List Cl} {k : Nat} (st : StAt H σ) (hz : H.length + k < 4900) (h : ∀ σ', Kp [13] σ σ' → σ'.length = σ.length → StAt (H ++ selfs H.length k) σ' → Q (.int H.length) σ') : CA B (n + 1) X (.ref 258) [.ref 12, .int k] σ Q := by
  obtain ⟨t1, g1⟩ := P.i_REF
  refine CA_fn (others := ["first", "step"]) (G := ⟨["REF", "len", "range"], [], []⟩) thruAll P.f_Cells_reserve (by decide +kernel) rfl ?_
  refine EXs_next (EX_assign (EV_len P (mI 1 rfl) rfl (EV_heap P (mI 0 rfl) st (OP_lenL st.h (by simp; lia) ⟨_, (uI 2 rfl), rfl, ?_⟩))))
  rw [List.length_map]
  refine EXs_cons (EX_if (TE_cmp (EV_bin (EV_name (v := .int H.length) (mI 2 rfl) (EV_name (v := .int k) (mI 1 rfl) (OP_add (EV_maxh P (mI 0 rfl) st (OP_gtI ⟨_, rfl, fun q => absurd q (by simp; lia), fun z_ => ?_⟩))))))))
  refine EXs_nil ⟨fun z_ => ?_, fun q => absurd rfl q⟩
  refine EXs_next (EX_for thruAll (fun (j : Nat) (m : Loc) (σ' : List AO) => ∃ o, m = [(("self" : Str), some (V.ref 12)), (("count" : Str), some (V.int k)), (("first" : Str), some (V.int H.length)), (("step" : Str), o)] ∧ (j ≤ k → Kp [13] σ σ' ∧ σ'.length = σ.length ∧ StAt (H ++ selfs H.length j) σ')) ?_)
  refine IE_range (mI 2 rfl) P.n_range bt_range (by decide) rfl (EV_name (v := .int k) (mI 1 rfl) (.inl ⟨k, rfl, by lia, ?_, fun z_ z_ z_ z_ z_ => trivial, ?_, ?_⟩))
  · exact ⟨none, rfl, fun z_ => ⟨.refl, rfl, by simpa [selfs] using st⟩⟩
  · rintro j m' σ' x hj ⟨o, rfl, hh⟩
    have hjk : j < k := by rw [← rng_length 0 1 k]; exact (List.getElem?_eq_some_iff.mp hj).1
    rw [rng_get 0 1 k j hjk] at hj
    cases hj
    obtain ⟨kp, el, s'⟩ := hh (by lia)
    refine ASG_name ⟨_, (uI 3 rfl), ?_⟩
    refine EXs_last (EX_expr (EV_append rfl rfl (EV_heap P (mI 0 rfl) s' ⟨13, rfl, ⟨_, s'.h⟩, ?_⟩)))
    refine EV_tuple rfl (by decide) (EV_gint (mI 0 rfl) g1 (EV_bin (EV_name (v := .int H.length) (mI 2 rfl) (EV_name (v := .int (0 + j * 1)) (mI 3 rfl) (OP_add ⟨_, s'.h, by simp [selfs_len]; lia, ?_⟩)))))
    refine ⟨_, rfl, fun z_ => ?_⟩
    have e : (H ++ selfs H.length j).map cellV ++ [.tup [.int 0, .int ((H.length : Int) + (0 + j * 1))]] = (H ++ selfs H.length (j + 1)).map cellV := by
      rw [selfs_succ, ← List.append_assoc, List.map_append (l₂ := [_])]
      congr 1
      show _ = [V.tup [.int 0, .int ((H.length + j : Nat) : Int)]]
      rw [show (H.length : Int) + (0 + j * 1) = ((H.length + j : Nat) : Int) by lia]
    rw [e]
    exact ⟨kp.trans (.set (by decide)), by simpa using el, s'.put (by simp [selfs_len]; lia)⟩
  · rintro m' σ' ⟨o, rfl, hh⟩
    rw [rng_length] at hh
    obtain ⟨kp, el, s'⟩ := hh (by lia)
    refine ⟨rfl, ?_⟩
    refine EXs_last (EX_ret (EV_name (v := .int H.length) (mI 2 rfl) (h σ' kp el s')))
theorem CA_is_unbound (P : PF B) {H : List Cl} {c : Cl} (st : StAt H σ) (d : Der H c c) (h : Q (.bool (c.1 == 0)) σ) : CA B (n + 1) X (.ref 279) [.ref 12, cellV c] σ Q := by
  obtain ⟨t1, g1⟩ := P.i_REF
  obtain ⟨t2, g2⟩ := P.i_SRF
  refine CA_fn (others := []) (G := ⟨["REF", "SRF"], [], []⟩) thruAll P.f_Cells_is_unbound (by decide +kernel) rfl ?_
  obtain ⟨t, x⟩ := c
  have d1 := d.ne1
  by_cases e : t = 0
  · subst e
    have hx : 0 ≤ x ∧ H[x.toNat]? = some (0, x) := by
      cases d with
      | self h0 h => exact ⟨h0, h⟩
      | val h0 h1 => exact absurd rfl h0
      | step h0 h hne d =>
        have := d.done
        exfalso
        revert hne h
        have key : ∀ c c' : Cl, Der H c c' → c' = (0, x) → ∀ {z}, H[x.toNat]? = some z → z ≠ (0, x) → False := by
          intro c c' d
          induction d with
          | self h0 h => intro e z hz hne; cases e; rw [h] at hz; cases hz; exact hne rfl
          | val h0 h1 => intro e; cases e; exact absurd rfl h0
          | step h0 h hne d ih => exact ih
        exact fun hx hne => key _ _ d rfl hx hne
    refine EXs_cons (EX_if (TE_cmp (EV_fst (mI 1 rfl) (EV_gint (mI 0 rfl) g1 (OP_eqI ⟨_, rfl, fun z_ => ?_, fun q => absurd q (by simp)⟩)))))
    refine EXs_last (EX_ret (EV_cmp (EV_sub (EV_heap P (mI 0 rfl) st (EV_snd (mI 1 rfl) (SUB_cell st hx.1 hx.2 (EV_name (v := cellV (0, x)) (mI 1 rfl) (OP_eqC ⟨fun q => (by cases q), fun z_ => ?_⟩))))))))
    simpa using h
  · rw [show (((t, x) : Cl).1 == 0) = false by simpa using e] at h
    refine EXs_cons (EX_if (TE_cmp (EV_fst (mI 1 rfl) (EV_gint (mI 0 rfl) g1 (OP_eqI ⟨_, rfl, fun q => absurd q (by simpa using e), fun z_ => ?_⟩)))))
    refine EXs_nil ⟨fun z_ => ?_, fun q => absurd rfl q⟩
    refine EXs_cons (EX_if (TE_cmp (EV_fst (mI 1 rfl) (EV_gint (mI 1 rfl) g2 (OP_eqI ⟨_, rfl, fun q => absurd q (by simpa using d1), fun z_ => ?_⟩)))))
    refine EXs_nil ⟨fun z_ => ?_, fun q => absurd rfl q⟩
    refine EXs_last (EX_ret (EV_bool h))
theorem CA_bind (P : PF B) {H : List Cl} {k : Nat} {c : Cl} (st : StAt H σ) (hk : k < H.length) (h : ∀ σ', Kp [13] σ σ' → σ'.length = σ.length → StAt (H.set k c) σ' → Q .none σ') : CA B (n + 1) X (.ref 286) [.ref 12, cellV (0, (k : Int)), cellV c] σ Q := by
  obtain ⟨t1, g1⟩ := P.i_REF
  refine CA_fn (others := ["place"]) (G := ⟨["REF"], [], []⟩) thruAll P.f_Cells_bind (by decide +kernel) rfl ?_
  refine EXs_next (EX_assign (EV_snd (mI 1 rfl) ⟨_, (uI 3 rfl), rfl, ?_⟩))
  refine EXs_last (EX_if (TE_cmp (EV_fst (mI 1 rfl) (EV_gint (mI 0 rfl) g1 (OP_eqI ⟨_, rfl, fun z_ => ?_, fun q => absurd q (by simp)⟩)))))
  refine EXs_next (EX_setitem (EV_name (v := cellV c) (mI 2 rfl) (EV_heap P (mI 0 rfl) st (EV_name (v := .int k) (mI 3 rfl) (OP_setCell st hk ⟨rfl, ?_⟩)))))
  have s' : StAt (H.set k c) (σ.set 13 (.list ((H.set k c).map cellV))) := st.put (by have := st.lz; simpa using this)
  refine EXs_last (EX_if (TE_cmp (EV_name (v := .int k) (mI 3 rfl) (EV_hb P (mI 0 rfl) s' (OP_ltI ⟨_, rfl, fun q => absurd q (by simp), fun z_ => ?_⟩)))))
  exact EXs_nil (h _ (.set (by decide)) (by simp) s')
theorem CA_globalise (P : PF B) {H : List Cl} {c c' : Cl} (st : StAt H σ) (d : Der H c c') (h : Q (cellV c') σ) : CA B (n + 2) X (.ref 300) [.ref 12, cellV c] σ Q := by
  obtain ⟨t2, g2⟩ := P.i_SRF
  refine CA_fn (others := ["fresh"]) (G := ⟨["SRF"], [], []⟩) thruAll P.f_Cells_globalise (by decide +kernel) rfl ?_
  refine EXs_next (EX_assign (EV_sm P (mI 0 rfl) st P.m_Store_deref (by decide) rfl (by decide) rfl (EV_name (v := cellV c) (mI 1 rfl) (CA.op (CA_deref P st d ⟨_, (uI 1 rfl), rfl, ?_⟩)))))
  have d1 := d.ne1
  refine EXs_cons (EX_if (TE_cmp (EV_fst (mI 1 rfl) (EV_gint (mI 0 rfl) g2 (OP_eqI ⟨_, rfl, fun q => absurd q (by simpa using d1), fun z_ => ?_⟩)))))
  refine EXs_nil ⟨fun z_ => ?_, fun q => absurd rfl q⟩
  refine EXs_last (EX_ret (EV_name (v := cellV c') (mI 1 rfl) h))
theorem CA_is_compound (P : PF B) {c : Cl} (h : Q (.bool (c.1 == 2 || c.1 == 3)) σ) : CA B (n + 1) X (.ref 328) [.ref 12, cellV c] σ Q := by
  obtain ⟨t1, g1⟩ := P.i_STR
  obtain ⟨t2, g2⟩ := P.i_LIS
  refine CA_fn (others := []) (G := ⟨["STR", "LIS"], [], []⟩) thruAll P.f_Cells_is_compound (by decide +kernel) rfl ?_
  refine EXs_last (EX_ret (EV_or (EV_cmp (EV_fst (mI 1 rfl) (EV_gint (mI 0 rfl) g1 (OP_eqI ⟨_, rfl, fun q => ?_, fun q => ?_⟩))))))
  · rw [q] at h; exact h
  · rw [q] at h
    refine EV_cmp (EV_fst (mI 1 rfl) (EV_gint (mI 1 rfl) g2 (OP_eqI h)))
end
noncomputable def Ar (y : Sy) (f k : Int) : Prop := ∃ (i : Nat) (a : Int), f = i ∧ y.fs[i]? = some [a, k]
theorem fill_step {A cs S : List Cl} {j : Nat} {c : Cl} (hl : S.length = cs.length) (hj : cs[j]? = some c) : (A ++ (cs.take j ++ S.drop j)).set (A.length + j) c = A ++ (cs.take (j + 1) ++ S.drop (j + 1)) := by
  have hj' := (List.getElem?_eq_some_iff.mp hj).1
  have lt : (cs.take j).length = j := by simp; lia -abstractProof
  rw [List.set_append_right _ _ (by lia -abstractProof), show A.length + j - A.length = j by lia -abstractProof, List.set_append_right _ _ (by lia -abstractProof), lt, Nat.sub_self, List.take_add_one, hj, List.append_assoc]
  congr 2
  have : S.drop j = S[j] :: S.drop (j + 1) := List.drop_eq_getElem_cons (by lia -abstractProof)
  rw [this]; rfl
section
variable {B : Bs} {n : Nat} {X : V → List AO → Prop} {σ : List AO} {Q : V → List AO → Prop} {G : Gs} {m : Loc}
theorem CA_functor_of2 (P : PF B) {H : List Cl} {x : Int} {f : Int} (st : StAt H σ) (h0 : 0 ≤ x) (hx : H[x.toNat]? = some (6, f)) (h : Q (.int f) σ) : CA B (n + 1) X (.ref 335) [.ref 12, cellV (2, x)] σ Q := by
  obtain ⟨t1, g1⟩ := P.i_STR
  refine CA_fn (others := ["tag"]) (G := ⟨["STR"], [], []⟩) thruAll P.f_Cells_functor_of (by decide +kernel) rfl ?_
  refine EXs_next (EX_assign (EV_fst (mI 1 rfl) ⟨_, (uI 2 rfl), rfl, ?_⟩))
  refine EXs_cons (EX_if (TE_cmp (EV_name (mI 2 rfl) (EV_gint (mI 0 rfl) g1 (OP_eqI ⟨_, rfl, fun z_ => ?_, fun q => absurd q (by simp)⟩)))))
  refine EXs_last (EX_ret (EV_sub (EV_sub (EV_heap P (mI 0 rfl) st (EV_snd (mI 1 rfl) (SUB_cell st h0 hx (EV_int (SUB_tup (k := 1) (by decide) rfl ⟨fun q => (by cases q), fun z_ => h⟩))))))))
theorem CA_functor_of3 (P : PF B) {x : Int} (h : Q (.int 0) σ) : CA B (n + 1) X (.ref 335) [.ref 12, cellV (3, x)] σ Q := by
  obtain ⟨t1, g1⟩ := P.i_STR
  obtain ⟨t2, g2⟩ := P.i_LIS
  obtain ⟨t3, g3⟩ := P.i_F_DOT
  refine CA_fn (others := ["tag"]) (G := ⟨["STR", "LIS", "F_DOT"], [], []⟩) thruAll P.f_Cells_functor_of (by decide +kernel) rfl ?_
  refine EXs_next (EX_assign (EV_fst (mI 1 rfl) ⟨_, (uI 2 rfl), rfl, ?_⟩))
  refine EXs_cons (EX_if (TE_cmp (EV_name (mI 2 rfl) (EV_gint (mI 0 rfl) g1 (OP_eqI ⟨_, rfl, fun q => absurd q (by simp), fun z_ => ?_⟩)))))
  refine EXs_nil ⟨fun z_ => ?_, fun q => absurd rfl q⟩
  refine EXs_cons (EX_if (TE_cmp (EV_name (mI 2 rfl) (EV_gint (mI 1 rfl) g2 (OP_eqI ⟨_, rfl, fun z_ => ?_, fun q => absurd q (by simp)⟩)))))
  refine EXs_last (EX_ret (EV_gint (mI 2 rfl) g3 ⟨fun q => (by cases q), fun z_ => h⟩))
theorem CA_width2 (P : PF B) {H : List Cl} {y : Sy} {x f k : Int} (st : StAt H σ) (hy : SyAt y σ) (h0 : 0 ≤ x) (hx : H[x.toNat]? = some (6, f)) (ha : Ar y f k) (h : Q (.int k) σ) : CA B (n + 2) X (.ref 342) [.ref 12, cellV (2, x)] σ Q := by
  obtain ⟨t1, g1⟩ := P.i_STR
  obtain ⟨t2, g2⟩ := P.i_LIS
  refine shut fun P_ o_ => ?_
  obtain ⟨i, a, rfl, hi⟩ := ha
  refine o_ ?_
  refine CA_fn (others := ["tag"]) (G := ⟨["STR", "LIS"], [], []⟩) thruAll P.f_Cells_width (by decide +kernel) rfl ?_
  refine EXs_next (EX_assign (EV_fst (mI 1 rfl) ⟨_, (uI 2 rfl), rfl, ?_⟩))
  refine EXs_cons (EX_if (TE_cmp (EV_name (mI 2 rfl) (EV_gint (mI 1 rfl) g2 (OP_eqI ⟨_, rfl, fun q => absurd q (by simp), fun z_ => ?_⟩)))))
  refine EXs_nil ⟨fun z_ => ?_, fun q => absurd rfl q⟩
  refine EXs_cons (EX_if (TE_cmp (EV_name (mI 2 rfl) (EV_gint (mI 0 rfl) g1 (OP_eqI ⟨_, rfl, fun z_ => ?_, fun q => absurd q (by simp)⟩)))))
  refine EXs_last (EX_ret (EV_imeth rfl (by decide) rfl (EV_symb P (mI 0 rfl) st ⟨2, 154, _, _, rfl, hy.o, P.c_Symbols, P.m_Symbols_arity, by decide, ?_⟩)))
  refine EV_sub (EV_sub (EV_heap P (mI 0 rfl) st (EV_snd (mI 1 rfl) (SUB_cell st h0 hx (EV_int (SUB_tup (k := 1) (by decide) rfl (CA.op (CA_arity P hy hi ⟨fun q => (by cases q), fun z_ => h⟩))))))))
theorem CA_width3 (P : PF B) {x : Int} (h : Q (.int 2) σ) : CA B (n + 1) X (.ref 342) [.ref 12, cellV (3, x)] σ Q := by
  obtain ⟨t2, g2⟩ := P.i_LIS
  refine CA_fn (others := ["tag"]) (G := ⟨["LIS"], [], []⟩) thruAll P.f_Cells_width (by decide +kernel) rfl ?_
  refine EXs_next (EX_assign (EV_fst (mI 1 rfl) ⟨_, (uI 2 rfl), rfl, ?_⟩))
  refine EXs_cons (EX_if (TE_cmp (EV_name (mI 2 rfl) (EV_gint (mI 0 rfl) g2 (OP_eqI ⟨_, rfl, fun z_ => ?_, fun q => absurd q (by simp)⟩)))))
  refine EXs_last (EX_ret (EV_int ⟨fun q => (by cases q), fun z_ => h⟩))
theorem CA_base2 (P : PF B) {x : Int} (h : Q (.int (x + 1)) σ) : CA B (n + 1) X (.ref 349) [.ref 12, cellV (2, x)] σ Q := by
  obtain ⟨t2, g2⟩ := P.i_LIS
  refine CA_fn (others := []) (G := ⟨["LIS"], [], []⟩) thruAll P.f_Cells_base (by decide +kernel) rfl ?_
  refine EXs_cons (EX_if (TE_cmp (EV_fst (mI 1 rfl) (EV_gint (mI 0 rfl) g2 (OP_eqI ⟨_, rfl, fun q => absurd q (by simp), fun z_ => ?_⟩)))))
  refine EXs_nil ⟨fun z_ => ?_, fun q => absurd rfl q⟩
  refine EXs_last (EX_ret (EV_bin (EV_snd (mI 1 rfl) (EV_int (OP_add h)))))
theorem CA_base3 (P : PF B) {x : Int} (h : Q (.int x) σ) : CA B (n + 1) X (.ref 349) [.ref 12, cellV (3, x)] σ Q := by
  obtain ⟨t2, g2⟩ := P.i_LIS
  refine CA_fn (others := []) (G := ⟨["LIS"], [], []⟩) thruAll P.f_Cells_base (by decide +kernel) rfl ?_
  refine EXs_cons (EX_if (TE_cmp (EV_fst (mI 1 rfl) (EV_gint (mI 0 rfl) g2 (OP_eqI ⟨_, rfl, fun z_ => ?_, fun q => absurd q (by simp)⟩)))))
  refine EXs_last (EX_ret (EV_snd (mI 1 rfl) ⟨fun q => (by cases q), fun z_ => h⟩))
theorem CA_arg (P : PF B) {H : List Cl} {x i : Int} {c : Cl} (st : StAt H σ) (h0 : 0 ≤ x + i) (hx : H[(x + i).toNat]? = some c) (h : Q (cellV c) σ) : CA B (n + 2) X (.ref 356) [.ref 12, cellV (2, x), .int i] σ Q := by
  refine CA_fn (others := []) (G := ⟨[], [], []⟩) thruAll P.f_Cells_arg (by decide +kernel) rfl ?_
  refine EXs_last (EX_ret (EV_sub (EV_heap P (mI 0 rfl) st (EV_bin (EV_bin (EV_sm P (mI 0 rfl) st P.m_Store_base (by decide) rfl (by decide) rfl (EV_name (v := cellV (2, x)) (mI 1 rfl) (CA.op (CA_base2 P ?_)))))))))
  have e : x + 1 + i - 1 = x + i := by lia -abstractProof
  refine EV_name (v := .int i) (mI 2 rfl) (OP_add (EV_int (OP_sub (SUB_cell st (by lia -abstractProof) (by rw [e]; exact hx) h))))
theorem CA_new_block0 (P : PF B) {H : List Cl} (st : StAt H σ) (hz : H.length < 4800) (h : ∀ σ', Kp [13] σ σ' → σ'.length = σ.length → StAt (H ++ selfs H.length 2) σ' → Q (cellV (3, (H.length : Int))) σ') : CA B (n + 3) X (.ref 363) [.ref 12, .int 0] σ Q := by
  obtain ⟨t2, g2⟩ := P.i_LIS
  obtain ⟨t3, g3⟩ := P.i_F_DOT
  refine CA_fn (others := ["start"]) (G := ⟨["LIS", "F_DOT"], [], []⟩) thruAll P.f_Cells_new_block (by decide +kernel) rfl ?_
  refine EXs_cons (EX_if (TE_cmp (EV_name (v := .int 0) (mI 1 rfl) (EV_gint (mI 1 rfl) g3 (OP_eqI ⟨_, rfl, fun z_ => ?_, fun q => absurd q (by decide)⟩)))))
  refine EXs_last (EX_ret (EV_tuple rfl (by decide) (EV_gint (mI 0 rfl) g2 (EV_sm P (mI 0 rfl) st P.m_Store_reserve (by decide) rfl (by decide) rfl (EV_int (CA.op (CA_reserve (k := 2) P st (by lia -abstractProof) fun σ' k e s' => ⟨fun q => (by cases q), fun z_ => h σ' k e s'⟩)))))))
theorem CA_new_block (P : PF B) {H : List Cl} {y : Sy} {f : Int} {k : Nat} (st : StAt H σ) (hy : SyAt y σ) (hf : f ≠ 0) (ha : Ar y f k) (hz : H.length + k < 4800) (h : ∀ σ', Kp [13] σ σ' → σ'.length = σ.length → StAt (H ++ (6, f) :: selfs (H.length + 1) k) σ' → Q (cellV (2, (H.length : Int))) σ') : CA B (n + 3) X (.ref 363) [.ref 12, .int f] σ Q := by
  obtain ⟨t2, g2⟩ := P.i_STR
  obtain ⟨t3, g3⟩ := P.i_F_DOT
  obtain ⟨t4, g4⟩ := P.i_FUN
  obtain ⟨i, a, rfl, hi⟩ := ha
  refine CA_fn (others := ["start"]) (G := ⟨["STR", "F_DOT", "FUN"], [], []⟩) thruAll P.f_Cells_new_block (by decide +kernel) rfl ?_
  refine EXs_cons (EX_if (TE_cmp (EV_name (v := .int i) (mI 1 rfl) (EV_gint (mI 1 rfl) g3 (OP_eqI ⟨_, rfl, fun q => absurd q (by simpa using hf), fun z_ => ?_⟩)))))
  refine EXs_nil ⟨fun z_ => ?_, fun q => absurd rfl q⟩
  refine EXs_next (EX_assign (EV_sm P (mI 0 rfl) st P.m_Store_reserve (by decide) rfl (by decide) rfl (EV_bin (EV_int (EV_imeth rfl (by decide) rfl (EV_symb P (mI 0 rfl) st ⟨2, 154, _, _, rfl, hy.o, P.c_Symbols, P.m_Symbols_arity, by decide, ?_⟩))))))
  refine EV_name (v := .int i) (mI 1 rfl) (CA.op (CA_arity P hy hi (OP_add ?_)))
  show OPs B _ X [.ref 12, .int (1 + (k : Int))] _ _ _
  rw [show (1 : Int) + k = ((k + 1 : Nat) : Int) by lia -abstractProof]
  refine CA.op (CA_reserve (k := k + 1) P st (by lia -abstractProof) fun σ₁ k₁ e₁ s₁ => ⟨_, (uI 2 rfl), rfl, ?_⟩)
  refine EXs_next (EX_setitem (EV_tuple rfl (by decide) (EV_gint (mI 2 rfl) g4 (EV_name (v := .int i) (mI 1 rfl) (EV_heap P (mI 0 rfl) s₁ (EV_name (v := .int H.length) (mI 2 rfl) (OP_setCell (c := (6, (i : Int))) s₁ (by simp [selfs_len]) ⟨rfl, ?_⟩)))))))
  have e : (H ++ selfs H.length (k + 1)).set H.length (6, (i : Int)) = H ++ (6, (i : Int)) :: selfs (H.length + 1) k := by
    rw [List.set_append_right _ _ (Nat.le_refl _), Nat.sub_self, selfs_cons]; rfl
  rw [e]
  refine EXs_last (EX_ret (EV_tuple rfl (by decide) (EV_gint (mI 0 rfl) g2 (EV_name (v := .int H.length) (mI 2 rfl) (h _ (k₁.trans (.set (by decide))) (by simpa using e₁) (s₁.put (by simp [selfs_len]; lia -abstractProof)))))))
end
theorem fill0 (f : Int) (H cs : List Cl) : H ++ (6, f) :: selfs (H.length + 1) cs.length = (H ++ [(6, f)]) ++ (cs.take 0 ++ (selfs (H.length + 1) cs.length).drop 0) := by simp
noncomputable def lstA (h : Nat) : List Cl → List Cl
  | [] => []
  | v :: r => v :: (3, ((h + 2 : Nat) : Int)) :: lstA (h + 2) r
noncomputable def lst (h : Nat) : List Cl → List Cl
  | [] => []
  | [v] => [v, (4, 0)]
  | v :: r => v :: (3, ((h + 2 : Nat) : Int)) :: lst (h + 2) r
theorem lstA_len (h : Nat) (l : List Cl) : (lstA h l).length = 2 * l.length := by
  induction l generalizing h with
  | nil => rfl
  | cons v r ih => exact congrArg (· + 2) (ih (h + 2))
theorem lstA_app (h : Nat) (l : List Cl) (v : Cl) : lstA h (l ++ [v]) = lstA h l ++ [v, (3, ((h + 2 * l.length + 2 : Nat) : Int))] := by
  induction l generalizing h with
  | nil => rfl
  | cons u r ih =>
    show u :: _ :: lstA (h + 2) (r ++ [v]) = u :: _ :: (lstA (h + 2) r ++ _)
    simp only [ih (h + 2), show h + 2 * (u :: r).length + 2 = h + 2 + 2 * r.length + 2 by simp; lia -abstractProof]
theorem lst_close : ∀ (h : Nat) (l : List Cl), l ≠ [] → (lstA h l).set (2 * l.length - 1) (4, 0) = lst h l
  | h, [], q => absurd rfl q
  | h, [v], _ => rfl
  | h, v :: w :: r, _ => by
    show (v :: (3, ((h + 2 : Nat) : Int)) :: lstA (h + 2) (w :: r)).set _ _ = v :: (3, ((h + 2 : Nat) : Int)) :: lst (h + 2) (w :: r)
    simp only [show 2 * (v :: w :: r).length - 1 = (2 * (w :: r).length - 1) + 1 + 1 by simp; lia -abstractProof, List.set_cons_succ, List.set_cons_succ, lst_close (h + 2) (w :: r) (by simp)]
inductive LC (H : List Cl) : Cl → List Cl → Cl → List Int → Prop
  | nil {c : Cl} (h : c.1 ≠ 3) : LC H c [] c []
  | cons {x x' y y' t : Cl} {p : Int} {items : List Cl} {ads : List Int} (h0 : 0 ≤ p) (hx : H[p.toNat]? = some x) (dx : Der H x x') (hy : H[(p + 1).toNat]? = some y) (dy : Der H y y') (r : LC H y' items t ads) (no : p ∉ ads) : LC H (3, p) (x' :: items) t (p :: ads)
section
variable {B : Bs} {n : Nat} {X : V → List AO → Prop} {σ : List AO} {Q : V → List AO → Prop} {G : Gs} {m : Loc}
theorem EV_set (P : PF B) {p pos : Pos} (hg : ("set" : Str) ∈ G.g) (h : Q (.ref σ.length) (σ ++ [.set (fun z_ => false) 0])) : EV B n X G m σ (.Call (.Name "set" p) [] [] pos) Q :=
  EV_callB hg P.n_set bt_set (by decide) (fun h => keeps_type _ _ h) rfl (OP_set0 h)
theorem get_app {σ : List AO} {o : AO} : (σ ++ [o])[σ.length]? = some o := by simp
theorem CA_new_struct (P : PF B) {H : List Cl} {y : Sy} {f : Int} {i : Nat} {cs : List (Cl × Cl)} (st : StAt H σ) (hy : SyAt y σ) (hf : f ≠ 0) (ha : Ar y f cs.length) (hz : H.length + cs.length < 4800) (hne : cs ≠ [])
    (hi : σ[i]? = some (.list (cs.map fun p => cellV p.1))) (hi13 : i ≠ 13) (hd : ∀ p, p ∈ cs → Der H p.1 p.2)
    (h : ∀ σ', Kp [13] σ σ' → StAt (H ++ (6, f) :: cs.map (·.2)) σ' → Q (cellV (2, (H.length : Int))) σ') : CA B (n + 4) X (.ref 384) [.ref 12, .int f, .ref i] σ Q := by
  refine CA_fn (others := ["values", "cell", "made", "place", "value"]) (G := ⟨["len"], [], []⟩) thruAll P.f_Store_new_struct (by decide +kernel) rfl ?_
  have hl := st.lz
  refine EXs_cons (EX_if (TE_cmp (EV_len P (mI 0 rfl) rfl (EV_name (v := .ref i) (mI 2 rfl) (OP_lenL hi (by simp; lia -abstractProof) (EV_int (OP_eqI ⟨_, rfl, fun q => absurd q (by simp; lia -abstractProof), fun z_ => ?_⟩)))))))
  refine EXs_nil ⟨fun z_ => ?_, fun q => absurd rfl q⟩
  refine EXs_next (EX_assign (EV_list rfl (by decide) ⟨_, (uI 3 rfl), rfl, ?_⟩))
  have h13 : 15 < σ.length := idx_lt st.t
  have hil := idx_lt hi
  have csl : ∀ k, (cs.map (·.2)).take k = (cs.take k).map (·.2) := fun k => by simp only [List.map_take]
  refine EXs_next (EX_for thruAll (fun (j : Nat) (m : Loc) (σ' : List AO) => ∃ o, m = [(("self" : Str), some (V.ref 12)), (("f" : Str), some (V.int f)), (("cells" : Str), some (V.ref i)), (("values" : Str), some (V.ref σ.length)), (("cell" : Str), o), (("made" : Str), none), (("place" : Str), none), (("value" : Str), none)] ∧ Kp [] σ σ' ∧ σ'[σ.length]? = some (.list (((cs.map (·.2)).take j).map cellV))) ?_)
  refine IE_of (EV_name (v := .ref i) (mI 2 rfl) ⟨_, _, ITER_list (by rw [List.getElem?_append_left hil]; exact hi), ?_, ?_, ?_, ?_⟩)
  · exact ⟨none, rfl, .app, by simp⟩
  · rintro k m' σ' _ ⟨o, rfl, kp, hv⟩
    exact kp.get hi List.not_mem_nil
  · rintro k m' σ' x hx ⟨o, rfl, kp, hv⟩
    rw [List.getElem?_map] at hx
    obtain ⟨p, hp, rfl⟩ := Option.map_eq_some_iff.mp hx
    have s' := st.kp kp (by decide)
    refine ASG_name ⟨_, (uI 4 rfl), ?_⟩
    refine EXs_last (EX_expr (EV_append rfl rfl (EV_name (v := .ref σ.length) (mI 3 rfl) ⟨_, rfl, ⟨_, hv⟩, ?_⟩)))
    refine EV_sm P (mI 0 rfl) s' P.m_Store_globalise (by decide) rfl (by decide) rfl (EV_name (v := cellV p.1) (mI 4 rfl) (CA.op (CA_globalise P s' (hd p (List.mem_of_getElem? hp)) ⟨_, hv, by simp; lia -abstractProof, ?_⟩)))
    refine ⟨_, rfl, ⟨by simpa using kp.1, fun q hq z_ => ?_⟩, ?_⟩
    · rw [List.getElem?_set_ne (by lia -abstractProof)]; exact kp.2 q hq List.not_mem_nil
    · simp only [set_get hv, List.take_add_one, List.getElem?_map, hp]; simp
  rintro m' σ₁ ⟨o, rfl, k₁, hv⟩
  rw [List.length_map, ← List.length_map (f := fun p : Cl × Cl => p.2), List.take_length] at hv
  refine ⟨rfl, ?_⟩
  have s₁ := st.kp k₁ (by decide)
  have y₁ := hy.kp k₁ (by decide)
  refine EXs_next (EX_assign (EV_sm P (mI 0 rfl) s₁ P.m_Store_new_block (by decide) rfl (by decide) rfl (EV_name (v := .int f) (mI 1 rfl) (CA.op (CA_new_block (n := n) P s₁ y₁ hf ha (by lia -abstractProof) fun σ₂ k₂ e₂ s₂ => ⟨_, (uI 5 rfl), rfl, ?_⟩)))))
  refine EXs_next (EX_assign (EV_sm P (mI 0 rfl) s₂ P.m_Store_base (by decide) rfl (by decide) rfl (EV_name (v := cellV (2, (H.length : Int))) (mI 5 rfl) (CA.op (CA_base2 P ⟨_, (uI 6 rfl), rfl, ?_⟩)))))
  have hv₂ := k₂.get hv (by simp; lia -abstractProof)
  have k12 : Kp [13] σ σ₂ := (k₁.mono (by decide)).trans k₂
  rw [← List.length_map (f := fun p : Cl × Cl => p.2), fill0] at s₂
  refine EXs_next (EX_for thruAll (fun (j : Nat) (m : Loc) (σ' : List AO) => ∃ o : Option V × Option V, m = [(("self" : Str), some (V.ref 12)), (("f" : Str), some (V.int f)), (("cells" : Str), some (V.ref i)), (("values" : Str), some (V.ref σ.length)), (("cell" : Str), o.1), (("made" : Str), some (cellV (2, (H.length : Int)))), (("place" : Str), some (V.int ((H.length + 1 + j : Nat) : Int))), (("value" : Str), o.2)] ∧ Kp [13] σ₂ σ' ∧
      StAt ((H ++ [(6, f)]) ++ ((cs.map (·.2)).take j ++ (selfs (H.length + 1) (cs.map (·.2)).length).drop j)) σ') ?_)
  refine IE_of (EV_name (v := .ref σ.length) (mI 3 rfl) ⟨_, _, ITER_list hv₂, ?_, ?_, ?_, ?_⟩)
  · exact ⟨⟨o, none⟩, rfl, .refl, s₂⟩
  · rintro k m' σ' _ ⟨o, rfl, kp, _⟩
    exact kp.get hv₂ (by simp; lia -abstractProof)
  · rintro k m' σ' x hx ⟨o, rfl, kp, s'⟩
    rw [List.getElem?_map] at hx
    obtain ⟨c, hc, rfl⟩ := Option.map_eq_some_iff.mp hx
    have hk : k < (cs.map (·.2)).length := (List.getElem?_eq_some_iff.mp hc).1
    have hk' : k < cs.length := by simpa using hk
    refine ASG_name ⟨_, (uI 7 rfl), ?_⟩
    refine EXs_next (EX_setitem (EV_name (v := cellV c) (mI 7 rfl) (EV_heap P (mI 0 rfl) s' (EV_name (v := .int ((H.length + 1 + k : Nat) : Int)) (mI 6 rfl) (OP_setCell s' (by simp [selfs_len]; lia -abstractProof) ⟨rfl, ?_⟩)))))
    have fs := fill_step (A := H ++ [(6, f)]) (selfs_len (H.length + 1) (cs.map (·.2)).length) hc
    have el : (H ++ [((6, f) : Cl)]).length + k = H.length + 1 + k := by simp
    rw [el] at fs
    simp only [fs]
    refine EXs_last (EX_aug (mI 6 rfl) (EV_int (OP_iaddI ⟨_, (uI 6 rfl), ?_⟩)))
    refine ⟨⟨o.1, some (cellV c)⟩, rfl, kp.trans (.set (by decide)), s'.put ?_⟩
    simp [selfs_len]; lia -abstractProof
  rintro m' σ₃ ⟨o, rfl, k₃, s₃⟩
  rw [List.length_map, List.take_length, ← List.length_map (f := cellV), List.length_map, List.drop_eq_nil_of_le (by rw [selfs_len]; exact Nat.le_refl _), List.append_nil] at s₃
  refine ⟨rfl, ?_⟩
  refine EXs_last (EX_ret (EV_name (v := cellV (2, (H.length : Int))) (mI 5 rfl) (h _ (k12.trans k₃) (by simpa using s₃))))
end
theorem lst_step {H S : List Cl} {vs : List Cl} {j : Nat} {v : Cl} (hS : S.length = 2 * vs.length) (hj : vs[j]? = some v) :
    ((H ++ (lstA H.length (vs.take j) ++ S.drop (2 * j))).set (H.length + 2 * j) v).set (H.length + 2 * j + 1) (3, ((H.length + 2 * j + 2 : Nat) : Int)) = H ++ (lstA H.length (vs.take (j + 1)) ++ S.drop (2 * (j + 1))) := by
  have hj' := (List.getElem?_eq_some_iff.mp hj).1
  have lt : (lstA H.length (vs.take j)).length = 2 * j := by rw [lstA_len]; simp; lia
  have lv : (vs.take j).length = j := by simp; lia
  rw [List.set_append_right _ _ (by lia), show H.length + 2 * j - H.length = 2 * j by lia, List.set_append_right _ _ (by lia), show H.length + 2 * j + 1 - H.length = 2 * j + 1 by lia,
    List.set_append_right (s := lstA H.length (vs.take j)) _ _ (by lia), lt, Nat.sub_self, List.set_append_right _ _ (by lia), lt, show 2 * j + 1 - 2 * j = 1 by lia, List.take_add_one, hj, Option.toList_some, lstA_app, lv, List.append_assoc]
  congr 2
  rw [List.drop_eq_getElem_cons (i := 2 * j) (by lia), List.drop_eq_getElem_cons (i := 2 * j + 1) (by lia), show 2 * (j + 1) = 2 * j + 1 + 1 by lia]
  rfl
section
variable {B : Bs} {n : Nat} {X : V → List AO → Prop} {σ : List AO} {Q : V → List AO → Prop} {G : Gs} {m : Loc}
theorem CA_build_list (P : PF B) {H : List Cl} {i : Nat} {cs : List (Cl × Cl)} (st : StAt H σ) (hz : H.length + 2 * cs.length < 4800)
    (hi : σ[i]? = some (.list (cs.map fun p => cellV p.1))) (hi13 : i ≠ 13) (hd : ∀ p, p ∈ cs → Der H p.1 p.2)
    (h : ∀ σ', Kp [13] σ σ' → (cs = [] → StAt H σ' → Q (cellV (4, 0)) σ') ∧ (cs ≠ [] → StAt (H ++ lst H.length (cs.map (·.2))) σ' → Q (cellV (3, (H.length : Int))) σ')) : CA B (n + 4) X (.ref 392) [.ref 12, .ref i] σ Q := by
  obtain ⟨t1, g1⟩ := P.i_CON
  obtain ⟨t2, g2⟩ := P.i_LIS
  obtain ⟨t3, g3⟩ := P.i_A_NIL
  refine CA_fn (others := ["end", "values", "cell", "start", "place", "value"]) (G := ⟨["CON", "LIS", "A_NIL", "len"], [], []⟩) thruAll P.f_Store_build_list (by decide +kernel) rfl ?_
  have hl := st.lz
  refine EXs_next (EX_if (TE_cmp (EV_name (v := .none) (mI 2 rfl) (EV_none (OP_isN ⟨_, rfl, fun z_ => ?_, fun q => by cases q⟩)))))
  refine EXs_last (EX_assign (EV_tuple rfl (by decide) (EV_gint (mI 0 rfl) g1 (EV_gint (mI 2 rfl) g3 ⟨_, (uI 3 rfl), rfl, ?_⟩))))
  refine EXs_next (EX_assign (EV_list rfl (by decide) ⟨_, (uI 4 rfl), rfl, ?_⟩))
  have h13 : 15 < σ.length := idx_lt st.t
  have hil := idx_lt hi
  refine EXs_next (EX_for thruAll (fun (j : Nat) (m : Loc) (σ' : List AO) => ∃ o, m = [(("self" : Str), some (V.ref 12)), (("cells" : Str), some (V.ref i)), (("tail" : Str), some V.none), (("end" : Str), some (cellV (4, 0))), (("values" : Str), some (V.ref σ.length)), (("cell" : Str), o), (("start" : Str), none), (("place" : Str), none), (("value" : Str), none)] ∧ Kp [] σ σ' ∧ σ'[σ.length]? = some (.list (((cs.map (·.2)).take j).map cellV))) ?_)
  refine IE_of (EV_name (v := .ref i) (mI 1 rfl) ⟨_, _, ITER_list (by rw [List.getElem?_append_left hil]; exact hi), ?_, ?_, ?_, ?_⟩)
  · exact ⟨none, rfl, .app, by simp⟩
  · rintro k m' σ' _ ⟨o, rfl, kp, hv⟩
    exact kp.get hi List.not_mem_nil
  · rintro k m' σ' x hx ⟨o, rfl, kp, hv⟩
    rw [List.getElem?_map] at hx
    obtain ⟨p, hp, rfl⟩ := Option.map_eq_some_iff.mp hx
    have s' := st.kp kp (by decide)
    refine ASG_name ⟨_, (uI 5 rfl), ?_⟩
    refine EXs_last (EX_expr (EV_append rfl rfl (EV_name (v := .ref σ.length) (mI 4 rfl) ⟨_, rfl, ⟨_, hv⟩, ?_⟩)))
    refine EV_sm P (mI 0 rfl) s' P.m_Store_globalise (by decide) rfl (by decide) rfl (EV_name (v := cellV p.1) (mI 5 rfl) (CA.op (CA_globalise P s' (hd p (List.mem_of_getElem? hp)) ⟨_, hv, by simp; lia, ?_⟩)))
    refine ⟨_, rfl, ⟨by simpa using kp.1, fun q hq z_ => ?_⟩, ?_⟩
    · rw [List.getElem?_set_ne (by lia)]; exact kp.2 q hq List.not_mem_nil
    · simp only [set_get hv, List.take_add_one, List.getElem?_map, hp]; simp
  rintro m' σ₁ ⟨o, rfl, k₁, hv⟩
  rw [List.length_map, ← List.length_map (f := fun p : Cl × Cl => p.2), List.take_length] at hv
  refine ⟨rfl, ?_⟩
  have s₁ := st.kp k₁ (by decide)
  have vl : (cs.map (·.2)).length = cs.length := by simp
  generalize cs.map (·.2) = vs at hv vl h
  refine EXs_cons (EX_if (TE_cmp (EV_len P (mI 3 rfl) rfl (EV_name (v := .ref σ.length) (mI 4 rfl) (OP_lenL hv (by simp; lia) (EV_int (OP_eqI ⟨_, rfl, fun q => ?_, fun q => ?_⟩)))))))
  · refine EXs_last (EX_ret (EV_name (v := cellV (4, 0)) (mI 3 rfl) ⟨fun q => (by cases q), fun z_ => ?_⟩))
    have : vs.length = 0 := by simpa using q
    exact (h _ (k₁.mono (by decide))).1 (List.length_eq_zero_iff.mp (by lia)) s₁
  have hv0 : vs.length ≠ 0 := by simpa using q
  refine EXs_nil ⟨fun z_ => ?_, fun q => absurd rfl q⟩
  refine EXs_next (EX_assign (EV_sm P (mI 0 rfl) s₁ P.m_Store_reserve (by decide) rfl (by decide) rfl (EV_bin (EV_int (EV_len P (mI 3 rfl) rfl (EV_name (v := .ref σ.length) (mI 4 rfl) (OP_lenL hv (by simp; lia) ?_)))))))
  simp only [List.length_map]
  refine OP_mul ?_ ?_
  · exact IntMulOk.of_left (by decide +kernel)
  show OPs B _ X [.ref 12, .int (2 * (vs.length : Int))] _ _ _
  rw [show 2 * (vs.length : Int) = ((2 * vs.length : Nat) : Int) by lia]
  refine CA.op (CA_reserve P s₁ (by lia) fun σ₂ k₂ e₂ s₂ => ⟨_, (uI 6 rfl), rfl, ?_⟩)
  refine EXs_next (EX_assign (EV_name (v := .int H.length) (mI 6 rfl) ⟨_, (uI 7 rfl), rfl, ?_⟩))
  have hv₂ := k₂.get hv (by simp; lia)
  have k12 : Kp [13] σ σ₂ := (k₁.mono (by decide)).trans k₂
  refine EXs_next (EX_for thruAll (fun (j : Nat) (m : Loc) (σ' : List AO) => ∃ o' : Option V, m = [(("self" : Str), some (V.ref 12)), (("cells" : Str), some (V.ref i)), (("tail" : Str), some V.none), (("end" : Str), some (cellV (4, 0))), (("values" : Str), some (V.ref σ.length)), (("cell" : Str), o), (("start" : Str), some (V.int H.length)), (("place" : Str), some (V.int ((H.length + 2 * j : Nat) : Int))), (("value" : Str), o')] ∧ Kp [13] σ₂ σ' ∧
      StAt (H ++ (lstA H.length (vs.take j) ++ (selfs H.length (2 * vs.length)).drop (2 * j))) σ') ?_)
  refine IE_of (EV_name (v := .ref σ.length) (mI 4 rfl) ⟨_, _, ITER_list hv₂, ?_, ?_, ?_, ?_⟩)
  · exact ⟨none, rfl, .refl, by simpa [lstA] using s₂⟩
  · rintro k m' σ' _ ⟨o, rfl, kp, _⟩
    exact kp.get hv₂ (by simp; lia)
  · rintro k m' σ' x hx ⟨o', rfl, kp, s'⟩
    rw [List.getElem?_map] at hx
    obtain ⟨c, hc, rfl⟩ := Option.map_eq_some_iff.mp hx
    have hk : k < vs.length := (List.getElem?_eq_some_iff.mp hc).1
    refine ASG_name ⟨_, (uI 8 rfl), ?_⟩
    refine EXs_next (EX_setitem (EV_name (v := cellV c) (mI 8 rfl) (EV_heap P (mI 0 rfl) s' (EV_name (v := .int ((H.length + 2 * k : Nat) : Int)) (mI 7 rfl) (OP_setCell s' (by simp [selfs_len, lstA_len]; lia) ⟨rfl, ?_⟩)))))
    have ll : (H ++ (lstA H.length (vs.take k) ++ (selfs H.length (2 * vs.length)).drop (2 * k))).length = H.length + 2 * vs.length := by simp [selfs_len, lstA_len]; lia
    have s'' : StAt _ _ := s'.put (H' := (H ++ (lstA H.length (vs.take k) ++ (selfs H.length (2 * vs.length)).drop (2 * k))).set (H.length + 2 * k) c) (by simp only [List.length_set, ll]; lia)
    refine EXs_next (EX_setitem (EV_tuple rfl (by decide) (EV_gint (mI 1 rfl) g2 (EV_bin (EV_name (v := .int ((H.length + 2 * k : Nat) : Int)) (mI 7 rfl) (EV_int (OP_add (EV_heap P (mI 0 rfl) s'' (EV_bin (EV_name (v := .int ((H.length + 2 * k : Nat) : Int)) (mI 7 rfl) (EV_int (OP_add ?_))))))))))))
    refine OP_setCell (k := H.length + 2 * k + 1) (c := (3, ((H.length + 2 * k + 2 : Nat) : Int))) s'' (by simp only [List.length_set, ll]; lia) ⟨rfl, ?_⟩
    rw [lst_step (by rw [selfs_len]) hc]
    refine EXs_last (EX_aug (mI 7 rfl) (EV_int (OP_iaddI ⟨_, (uI 7 rfl), ?_⟩)))
    refine ⟨some (cellV c), rfl, kp.trans ((Kp.set (by decide)).trans (.set (by decide))), s''.put ?_⟩
    simp [selfs_len, lstA_len]; lia
  rintro m' σ₃ ⟨o', rfl, k₃, s₃⟩
  rw [List.length_map, List.take_length, List.drop_eq_nil_of_le (by rw [selfs_len]; exact Nat.le_refl _), List.append_nil] at s₃
  refine ⟨rfl, ?_⟩
  have e1 : ((H.length + 2 * (vs.map cellV).length : Nat) : Int) - 1 = ((H.length + (2 * vs.length - 1) : Nat) : Int) := by simp; lia
  refine EXs_next (EX_setitem (EV_name (v := cellV (4, 0)) (mI 3 rfl) (EV_heap P (mI 0 rfl) s₃ (EV_bin (EV_name (v := .int ((H.length + 2 * (vs.map cellV).length : Nat) : Int)) (mI 7 rfl) (EV_int (OP_sub ?_)))))))
  simp only [e1]
  refine OP_setCell s₃ (by simp [lstA_len]; lia) ⟨rfl, ?_⟩
  rw [List.set_append_right _ _ (by lia), show H.length + (2 * vs.length - 1) - H.length = 2 * vs.length - 1 by lia, lst_close _ _ (by intro q; simp [q] at hv0)]
  refine EXs_last (EX_ret (EV_tuple rfl (by decide) (EV_gint (mI 1 rfl) g2 (EV_name (v := .int H.length) (mI 6 rfl) ?_))))
  refine (h _ ((k12.trans k₃).trans (.set (by decide)))).2 (by intro q; rw [q] at vl; simp at vl; exact hv0 (by simp [vl])) (s₃.put ?_)
  rw [← lst_close _ _ (by intro q; simp [q] at hv0)]
  simp [lstA_len]; lia
end
section
variable {B : Bs} {n : Nat} {X : V → List AO → Prop} {σ : List AO} {Q : V → List AO → Prop} {G : Gs} {m : Loc}
theorem CA_list_cells (P : PF B) {H : List Cl} {c₀ c t : Cl} {items : List Cl} {ads : List Int} (st : StAt H σ) (d₀ : Der H c₀ c) (lc : LC H c items t ads) (hz : items.length ≤ 1000)
    (h : ∀ σ', Kp [] σ σ' → σ'[σ.length]? = some (.list (items.map cellV)) → Q (.tup [.ref σ.length, cellV t]) σ') : CA B (n + 2) X (.ref 399) [.ref 12, cellV c₀] σ Q := by
  obtain ⟨t1, g1⟩ := P.i_LIS
  refine CA_fn (others := ["found", "seen"]) (G := ⟨["LIS", "set"], [], []⟩) thruAll P.f_Store_list_cells (by decide +kernel) rfl ?_
  refine EXs_next (EX_assign (EV_list rfl (by decide) ⟨_, (uI 2 rfl), rfl, ?_⟩))
  refine EXs_next (EX_assign (EV_set P (mI 1 rfl) ⟨_, (uI 3 rfl), rfl, ?_⟩))
  have kA : Kp [] σ (σ ++ [AO.list []] ++ [.set (fun z_ => false) 0]) := Kp.app.trans .app
  refine EXs_next (EX_assign (EV_sm P (mI 0 rfl) (st.kp kA (by simp)) P.m_Store_deref (by decide) rfl (by decide) rfl (EV_name (v := cellV c₀) (mI 1 rfl) (CA.op (CA_deref P (st.kp kA (by simp)) d₀ ⟨_, (uI 1 rfl), rfl, ?_⟩)))))
  refine EXs_next (EX_while ?_)
  have key : ∀ c items t ads, LC H c items t ads → ∀ σ' (S : Int → Bool) (cnt : Nat) (done : List Cl), Kp [] σ σ' → σ'[σ.length]? = some (.list (done.map cellV)) → σ'[σ.length + 1]? = some (.set S cnt) → (∀ p, p ∈ ads → S p = false) →
      cnt + items.length ≤ 2000 → done.length + items.length ≤ 2000 → (∀ σ', Kp [] σ σ' → σ'[σ.length]? = some (.list ((done ++ items).map cellV)) → Q (.tup [.ref σ.length, cellV t]) σ') →
      LW B (n + 1) X ⟨["LIS", "set"], [], []⟩ (whT (nth (fnB (meth 35 2)) 3)) (fnB (nth (fnB (meth 35 2)) 3)) [(("self" : Str), some (V.ref 12)), (("cell" : Str), some (cellV c)), (("found" : Str), some (V.ref σ.length)), (("seen" : Str), some (V.ref (σ ++ [AO.list []]).length))] σ'
        (Nx B (n + 1) X ⟨["LIS", "set"], [], []⟩ ((fnB (meth 35 2)).drop 4) (FnQ Q)) := by
    intro c items t ads lc
    have e1 : (σ ++ [AO.list []]).length = σ.length + 1 := by simp
    rw [e1]
    induction lc with
    | @nil c hc =>
      intro σ' S cnt done kp hf hs _ _ _ h
      refine LW_step thruAll (TE_and ?_)
      refine TE_cmp (EV_fst (mI 1 rfl) (EV_gint (mI 0 rfl) g1 (OP_eqI ⟨_, rfl, fun q => absurd q (by simpa using hc), fun z_ => ⟨fun q => (by cases q), fun z_ => ⟨rfl, ?_⟩⟩⟩)))
      refine EXs_last (EX_ret (EV_tuple rfl (by decide) (EV_name (v := .ref σ.length) (mI 2 rfl) (EV_name (v := cellV c) (mI 1 rfl) (h _ kp (by simpa using hf))))))
    | @cons x x' y y' t p items ads h0 hx dx hy dy r no ih =>
      intro σ' S cnt done kp hf hs hS z1 z2 h
      have s' := st.kp kp (by simp)
      simp only [List.length_cons] at z1 z2
      refine LW_step thruAll (TE_and ?_)
      refine TE_cmp (EV_fst (mI 1 rfl) (EV_gint (mI 0 rfl) g1 (OP_eqI ⟨_, rfl, fun z_ => ?_, fun q => absurd q (by simp)⟩)))
      refine TE_cmp (EV_snd (mI 1 rfl) (EV_name (v := .ref (σ.length + 1)) (mI 3 rfl) (OP_ninSet hs ⟨_, rfl, fun z_ => ?_, fun q => absurd q (by rw [hS p (by simp)]; simp)⟩)))
      refine ⟨fun z_ => ?_, fun q => by cases q⟩
      refine EXs_next (EX_expr (EV_bmeth rfl (by decide) rfl (EV_name (v := .ref (σ.length + 1)) (mI 3 rfl) ⟨"set.add", GM_set hs PySem.F.slot_set_add PySem.F.type_set_add, ?_⟩)))
      refine EV_snd (mI 1 rfl) (OP_addSet hs (by lia -abstractProof) ⟨rfl, ?_⟩)
      have k2 : Kp [] σ (σ'.set (σ.length + 1) (.set (fun k' => S k' || decide (k' = p)) (if S p then cnt else cnt + 1))) :=
        ⟨by simpa using kp.1, fun q hq z_ => by rw [List.getElem?_set_ne (by lia -abstractProof)]; exact kp.2 q hq (by simp)⟩
      have f2 : (σ'.set (σ.length + 1) (.set (fun k' => S k' || decide (k' = p)) (if S p then cnt else cnt + 1)))[σ.length]? = some (.list (done.map cellV)) := by rw [List.getElem?_set_ne (by lia -abstractProof)]; exact hf
      have g2 := set_get (o' := .set (fun k' => S k' || decide (k' = p)) (if S p then cnt else cnt + 1)) hs
      have s2 := st.kp k2 (by simp)
      generalize σ'.set (σ.length + 1) (.set (fun k' => S k' || decide (k' = p)) (if S p then cnt else cnt + 1)) = σ₂ at k2 f2 g2 s2 ⊢
      refine EXs_next (EX_expr (EV_append rfl rfl (EV_name (v := .ref σ.length) (mI 2 rfl) ⟨_, rfl, ⟨_, f2⟩, ?_⟩)))
      refine EV_sm P (mI 0 rfl) s2 P.m_Store_deref (by decide) rfl (by decide) rfl (EV_sub (EV_heap P (mI 0 rfl) s2 (EV_snd (mI 1 rfl) (SUB_cell s2 h0 hx (CA.op (CA_deref P s2 dx ⟨_, f2, by simp; lia -abstractProof, rfl, ?_⟩))))))
      have k3 : Kp [] σ (σ₂.set σ.length (.list (done.map cellV ++ [cellV x']))) :=
        ⟨by simpa using k2.1, fun q hq z_ => by rw [List.getElem?_set_ne (by lia -abstractProof)]; exact k2.2 q hq (by simp)⟩
      have f3 := set_get (o' := .list (done.map cellV ++ [cellV x'])) f2
      have g3 : (σ₂.set σ.length (.list (done.map cellV ++ [cellV x'])))[σ.length + 1]? = some (.set (fun k' => S k' || decide (k' = p)) (if S p then cnt else cnt + 1)) := by rw [List.getElem?_set_ne (by lia -abstractProof)]; exact g2
      have s3 := st.kp k3 (by simp)
      generalize σ₂.set σ.length (.list (done.map cellV ++ [cellV x'])) = σ₃ at k3 f3 g3 s3 ⊢
      refine EXs_last (EX_assign (EV_sm P (mI 0 rfl) s3 P.m_Store_deref (by decide) rfl (by decide) rfl (EV_sub (EV_heap P (mI 0 rfl) s3 (EV_bin (EV_snd (mI 1 rfl) (EV_int (OP_add (SUB_cell s3 (by lia -abstractProof) hy (CA.op (CA_deref P s3 dy ⟨_, (uI 1 rfl), ?_⟩)))))))))))
      refine ih σ₃ (fun k' => S k' || decide (k' = p)) _ (done ++ [x']) k3 (by rw [f3]; simp) g3 (fun q hq => ?_) (by split <;> lia -abstractProof) (by simp; lia -abstractProof) (by simpa using h)
      have : q ≠ p := fun e => no (e ▸ hq)
      simp [hS q (by simp [hq]), this]
  exact key c items t ads lc _ (fun z_ => false) 0 [] kA (by simp) (by simp) (fun z_ z_ => rfl) (by lia -abstractProof) (by simp; lia -abstractProof) (by simpa using h)
end
section
variable {B : Bs} {n : Nat} {X : V → List AO → Prop} {σ : List AO} {Q : V → List AO → Prop} {G : Gs} {m : Loc}
theorem Kp.setN {D : List Nat} {σ σ' : List AO} {i : Nat} {o : AO} (k : Kp D σ σ') (h : σ.length ≤ i) : Kp D σ (σ'.set i o) :=
  ⟨by simpa using k.1, fun q hq hd => by rw [List.getElem?_set_ne (by lia -abstractProof)]; exact k.2 q hq hd⟩
theorem SyAt.setN {y : Sy} {σ : List AO} {i : Nat} {o : AO} (s : SyAt y σ) (h : 6 < i) : SyAt y (σ.set i o) :=
  ⟨by rw [List.getElem?_set_ne (by lia -abstractProof)]; exact s.o, by rw [List.getElem?_set_ne (by lia -abstractProof)]; exact s.t, by rw [List.getElem?_set_ne (by lia -abstractProof)]; exact s.a, by rw [List.getElem?_set_ne (by lia -abstractProof)]; exact s.f, by rw [List.getElem?_set_ne (by lia -abstractProof)]; exact s.n, s.lt, s.lf⟩
theorem StAt.setN {H : List Cl} {σ : List AO} {i : Nat} {o : AO} (s : StAt H σ) (h : 15 < i) : StAt H (σ.set i o) :=
  ⟨by rw [List.getElem?_set_ne (by lia -abstractProof)]; exact s.o, by rw [List.getElem?_set_ne (by lia -abstractProof)]; exact s.h, by rw [List.getElem?_set_ne (by lia -abstractProof)]; exact s.s, by rw [List.getElem?_set_ne (by lia -abstractProof)]; exact s.t, s.lz⟩
theorem SyAt.len {y : Sy} (hy : SyAt y σ) : 6 < σ.length := idx_lt hy.n
theorem CA_formal_of (P : PF B) {y : Sy} {w nm : Str} {l : List V} (hy : SyAt y σ) (z1 : y.texts.length < 9000) (z2 : y.fs.length < 9000)
    (h : ∀ σ', Kp [3, 4, 5, 6] σ σ' → SyAt ((y.atom w).func nm 2) σ' → Q (vS (((y.atom w).func nm 2).fnum [((y.atom w).atom nm).num nm, 2]) [vA ((y.atom w).num w), .tup l]) σ') : CA B (n + 3) X (.ref 172) [.ref 2, .str nm, .tup [.str w, .tup l]] σ Q := by
  refine CA_fn (others := ["args", "part"]) (G := ⟨["isinstance", "str", "len", "tuple"], [], []⟩) thruAll P.f_formal_of (by decide +kernel) rfl ?_
  refine EXs_next (EX_assign (EV_list rfl (by decide) ⟨_, (uI 3 rfl), rfl, ?_⟩))
  have l6 := hy.len
  have za := Sy.atom_len y w
  refine EXs_next (EX_for thruAll (fun (j : Nat) (m : Loc) (σ' : List AO) => ∃ o, m = [(("symbols" : Str), some (V.ref 2)), (("name" : Str), some (V.str nm)), (("parts" : Str), some (.tup [.str w, .tup l])), (("args" : Str), some (V.ref σ.length)), (("part" : Str), o)] ∧ Kp [3, 4, 5, 6] σ σ' ∧
     (j = 0 → σ'[σ.length]? = some (.list []) ∧ SyAt y σ') ∧ (j = 1 → σ'[σ.length]? = some (.list [vA ((y.atom w).num w)]) ∧ SyAt (y.atom w) σ') ∧ (j = 2 → σ'[σ.length]? = some (.list [vA ((y.atom w).num w), .tup l]) ∧ SyAt (y.atom w) σ')) ?_)
  refine IE_of (EV_name (v := .tup [.str w, .tup l]) (mI 2 rfl) ⟨_, _, ITER_tup, ?_, fun z_ z_ z_ z_ z_ => trivial, ?_, ?_⟩)
  · exact ⟨none, rfl, .app, fun z_ => ⟨by simp, hy.kp (D := []) .app (by decide)⟩, (fun q => by cases q), (fun q => by cases q)⟩
  · rintro k m' σ' x hx ⟨o, rfl, kp, h0, h1, -⟩
    have hk : k < 2 := (List.getElem?_eq_some_iff.mp hx).1
    refine ASG_name ⟨_, (uI 4 rfl), ?_⟩
    rcases (by lia -abstractProof : k = 0 ∨ k = 1) with rfl | rfl
    · cases hx
      obtain ⟨hl, hy'⟩ := h0 rfl
      refine EXs_last (EX_expr (EV_append rfl rfl (EV_name (v := .ref σ.length) (mI 3 rfl) ⟨_, rfl, ⟨_, hl⟩, ?_⟩)))
      refine EV_if (TE_val (EV_callB (mI 0 rfl) P.n_isinstance bt_isinstance (by decide) (fun h => keeps_builtin _ _ h) rfl (EV_name (v := .str w) (mI 4 rfl) (EV_ty (mI 1 rfl) P.n_str bt_str (by decide) (OP_isStr ⟨_, rfl, fun z_ => ?_, fun q => by cases q⟩)))))
      refine EV_tuple rfl (by decide) (EV_str (EV_imeth rfl (by decide) rfl (EV_name (v := .ref 2) (mI 0 rfl) ⟨2, 154, _, _, rfl, hy'.o, P.c_Symbols, P.m_Symbols_atom, by decide, ?_⟩)))
      refine EV_name (v := .str w) (mI 4 rfl) (CA.op (CA_atom P hy' (by lia -abstractProof) fun σ₁ e₁ k₁ y₁ => ⟨_, k₁.get hl (by simp; lia -abstractProof), by simp, ?_⟩))
      have hl₁ := k₁.get hl (by simp; lia -abstractProof)
      exact ⟨_, rfl, (kp.trans (k₁.mono (by decide))).setN (Nat.le_refl _), (fun q => by cases q), (fun z_ => ⟨set_get hl₁, y₁.setN l6⟩), nofun⟩
    · cases hx
      obtain ⟨hl, hy'⟩ := h1 rfl
      refine EXs_last (EX_expr (EV_append rfl rfl (EV_name (v := .ref σ.length) (mI 3 rfl) ⟨_, rfl, ⟨_, hl⟩, ?_⟩)))
      refine EV_if (TE_val (EV_callB (mI 0 rfl) P.n_isinstance bt_isinstance (by decide) (fun h => keeps_builtin _ _ h) rfl (EV_name (v := .tup l) (mI 4 rfl) (EV_ty (mI 1 rfl) P.n_str bt_str (by decide) (OP_isStrT ⟨_, rfl, (fun q => by cases q), fun z_ => ?_⟩)))))
      refine EV_name (v := .tup l) (mI 4 rfl) ⟨_, hl, by simp, ?_⟩
      exact ⟨_, rfl, kp.setN (Nat.le_refl _), nofun, nofun, (fun z_ => ⟨set_get hl, hy'.setN l6⟩)⟩
  · rintro m' σ' ⟨o, rfl, kp, -, -, h2⟩
    obtain ⟨hl, hy'⟩ := h2 rfl
    refine ⟨rfl, ?_⟩
    refine EXs_last (EX_ret (EV_tuple rfl (by decide) (EV_str (EV_imeth rfl (by decide) rfl (EV_name (v := .ref 2) (mI 0 rfl) ⟨2, 154, _, _, rfl, hy'.o, P.c_Symbols, P.m_Symbols_func, by decide, ?_⟩)))))
    refine EV_name (v := .str nm) (mI 1 rfl) (EV_len P (mI 2 rfl) rfl (EV_name (v := .ref σ.length) (mI 3 rfl) (OP_lenL hl (by simp) (CA.op (CA_func P hy' (by lia -abstractProof) (by rw [Sy.atom_fs]; lia -abstractProof) fun σ₁ e₁ k₁ y₁ => ?_)))))
    have hl₁ := k₁.get hl (by simp; lia -abstractProof)
    refine EV_callB (mI 3 rfl) P.n_tuple bt_tuple (by decide) (fun h => keeps_type _ _ h) rfl (EV_name (v := .ref σ.length) (mI 3 rfl) (OP_tupleL hl₁ (by simp) (h _ (kp.trans k₁) y₁)))
theorem CA_inst_err (P : PF B) (x : XP B) {y : Sy} (hy : SyAt y σ) (z1 : y.texts.length < 9000)
    (h : ∀ σ', Kp [3, 4, 5, 6] σ σ' → SyAt (y.atom "instantiation_error") σ' → Q (.ref σ'.length) (σ' ++ [.excN (vSys (vA ((y.atom "instantiation_error").num "instantiation_error")))])) : CA B (n + 4) X (.ref 179) [.ref 2] σ Q := by
  refine CA_fn (others := []) (G := ⟨["system_error"], [], []⟩) thruAll P.f_instantiation_error (by decide +kernel) rfl ?_
  refine EXs_last (EX_ret (EV_call (mI 0 rfl) P.g_system_error P.k_system_error rfl (EV_tuple rfl (by decide) (EV_str (EV_imeth rfl (by decide) rfl (EV_name (v := .ref 2) (mI 0 rfl) ⟨2, 154, _, _, rfl, hy.o, P.c_Symbols, P.m_Symbols_atom, by decide, ?_⟩))))))
  refine EV_str (CA.op (CA_atom P hy (by lia -abstractProof) fun σ₁ e₁ k₁ y₁ => ?_))
  exact CA.op (CA_system_error P x (h σ₁ (k₁.mono (by decide)) y₁))
theorem CA_dom_err (P : PF B) (x : XP B) {y : Sy} {w : Str} {l : List V} (hy : SyAt y σ) (z1 : y.texts.length < 9000) (z2 : y.fs.length < 9000)
    (h : ∀ σ', Kp [3, 4, 5, 6] σ σ' → SyAt ((y.atom w).func "domain_error" 2) σ' → Q (.ref σ'.length) (σ' ++ [.excN (vSys (vS (((y.atom w).func "domain_error" 2).fnum [((y.atom w).atom "domain_error").num "domain_error", 2]) [vA ((y.atom w).num w), .tup l]))])) : CA B (n + 4) X (.ref 186) [.ref 2, .str w, .tup l] σ Q := by
  refine CA_fn (others := []) (G := ⟨["system_error", "formal_of"], [], []⟩) thruAll P.f_domain_error (by decide +kernel) rfl ?_
  refine EXs_last (EX_ret (EV_call (mI 0 rfl) P.g_system_error P.k_system_error rfl (EV_call (mI 1 rfl) P.g_formal_of P.k_formal_of rfl (EV_name (v := .ref 2) (mI 0 rfl) (EV_str ?_)))))
  refine EV_tuple rfl (by decide) (EV_name (v := .str w) (mI 1 rfl) (EV_name (v := .tup l) (mI 2 rfl) (CA.op (CA_formal_of P hy z1 z2 fun σ₁ k₁ y₁ => ?_))))
  exact CA.op (CA_system_error P x (h σ₁ k₁ y₁))
end
noncomputable def fits (x : Str) : Bool := match x.cps.toList with
  | [] => false
  | c :: r => (c == 95 || (decide (65 ≤ (c : Int)) && decide ((c : Int) ≤ 90))) && (c :: r).all fun (c : Nat) => alnum c
theorem str_nil {x : Str} (h : x.cps.toList = []) : x = "" := by
  obtain ⟨a⟩ := x
  have : a = #[] := by simpa using h
  subst this; decide +kernel
theorem str_ne {x : Str} {c : Nat} {r : List Nat} (h : x.cps.toList = c :: r) : (x == ("" : Str)) = false ∧ 0 < x.length ∧ Txt.item x 0 = ⟨#[c]⟩ := by
  obtain ⟨a⟩ := x
  have : a = (c :: r).toArray := by simpa using congrArg List.toArray h
  subst this
  refine ⟨?_, ?_, ?_⟩
  · rw [beq_eq_false_iff_ne]; intro e
    have e2 := congrArg (fun s : Str => s.cps.size) e
    have : ("" : Str).cps.size = 0 := by decide +kernel
    simp only [this] at e2
    simp at e2
  · show 0 < (c :: r).toArray.size
    simp
  · have h1 : 0 < Str.length ⟨(c :: r).toArray⟩ := by show 0 < (c :: r).toArray.size; simp
    simp [Txt.item, Txt.charAt, seqIndex?, h1]
noncomputable def headsS : Str := "ABCDEFGHIJKLMNOPQRSTUVWXYZ_"
noncomputable def signsS : Str := headsS ++ "abcdefghijklmnopqrstuvwxyz0123456789"
theorem headsS_mem (c : Nat) : decide (c ∈ headsS.cps.toList) = (c == 95 || (decide (65 ≤ (c : Int)) && decide ((c : Int) ≤ 90))) := by
  by_cases h : c < 200
  · have : ∀ c, c < 200 → decide (c ∈ headsS.cps.toList) = (c == 95 || (decide (65 ≤ (c : Int)) && decide ((c : Int) ≤ 90))) := by decide +kernel
    exact this c h
  · have : ∀ x ∈ headsS.cps.toList, x < 200 := by decide +kernel
    simp only [decide_eq_false (fun q => h (this c q))]
    have e1 : (c == 95) = false := by simp; omega
    have e2 : decide ((c : Int) ≤ 90) = false := by simp; omega
    simp only [e1, e2]; simp
theorem signsS_mem (c : Nat) : decide (c ∈ signsS.cps.toList) = alnum c := by
  by_cases h : c < 200
  · have : ∀ c, c < 200 → decide (c ∈ signsS.cps.toList) = alnum (c : Nat) := by decide +kernel
    exact this c h
  · have : ∀ x ∈ signsS.cps.toList, x < 200 := by decide +kernel
    simp only [decide_eq_false (fun q => h (this c q))]
    unfold alnum
    have e1 : ((c : Int) == 95) = false := by simp; omega
    have e2 : decide ((c : Int) ≤ 122) = false := by simp; omega
    have e3 : decide ((c : Int) ≤ 90) = false := by simp; omega
    have e4 : decide ((c : Int) ≤ 57) = false := by simp; omega
    simp only [e1, e2, e3, e4]; simp
theorem us_ne (c : Nat) : ((⟨#[c]⟩ : Str) != ("_" : Str)) = !(c == 95) := by
  have e : ("_" : Str) = ⟨#[95]⟩ := by decide +kernel
  rw [e]
  by_cases h : c = 95
  · subst h; rfl
  · have : (⟨#[c]⟩ : Str) ≠ ⟨#[95]⟩ := by intro q; injection q with q; simp at q; exact h q
    unfold bne; rw [beq_eq_false_iff_ne.mpr this]; simp [h]
section
variable {B : Bs} {n : Nat} {X : V → List AO → Prop} {σ : List AO} {Q : V → List AO → Prop} {G : Gs} {m : Loc}
theorem CA_is_variable_name (P : PF B) {x : Str} (h : Q (.bool (fits x)) σ) : CA B (n + 3) X (.ref 432) [.str x] σ Q := by
  refine CA_fn (others := ["letter"]) (G := ⟨["is_capital", "is_alnum", "ord"], [], []⟩) thruAll P.f_is_variable_name (by decide +kernel) rfl ?_
  cases hx : x.cps.toList with
  | nil =>
    have := str_nil hx
    have hf : fits x = false := by unfold fits; rw [hx]
    rw [hf] at h
    refine EXs_cons (EX_if (TE_cmp (EV_name (v := .str x) (mI 0 rfl) (EV_str (OP_eqS ⟨_, rfl, fun z_ => ?_, fun q => absurd q (by rw [this]; simp)⟩)))))
    refine EXs_last (EX_ret (EV_bool ⟨fun q => (by cases q), fun z_ => h⟩))
  | cons c r =>
    obtain ⟨n1, n2, n3⟩ := str_ne hx
    refine EXs_cons (EX_if (TE_cmp (EV_name (v := .str x) (mI 0 rfl) (EV_str (OP_eqS ⟨_, rfl, fun q => absurd q (by rw [n1]; simp), fun z_ => ?_⟩)))))
    refine EXs_nil ⟨fun z_ => ?_, fun q => absurd rfl q⟩
    have hf : fits x = ((c == 95 || (decide (65 ≤ (c : Int)) && decide ((c : Int) ≤ 90))) && (c :: r).all fun (c : Nat) => alnum c) := by unfold fits; rw [hx]
    have rest : (c == 95 || (decide (65 ≤ (c : Int)) && decide ((c : Int) ≤ 90))) = true → EXs B (n + 2) X ⟨["is_capital", "is_alnum", "ord"], [], []⟩ (m0 ["text"] ([.str x] ++ []) ["letter"]) σ ((fnB (top 37)).drop 2) (FnQ Q) := by
      intro h1
      rw [h1, Bool.true_and] at hf
      refine EXs_cons (EX_for thruAll (fun (j : Nat) (m : Loc) (σ' : List AO) => ∃ o, m = [(("text" : Str), some (V.str x)), (("letter" : Str), o)] ∧ σ' = σ ∧ ((c :: r).take j).all (fun (c : Nat) => alnum c) = true) ?_)
      refine IE_of (EV_name (v := .str x) (mI 0 rfl) ⟨_, _, ITER_str, ?_, fun z_ z_ z_ z_ z_ => trivial, ?_, ?_⟩)
      · exact ⟨none, rfl, rfl, rfl⟩
      · rintro k m' σ' z hz ⟨o, rfl, rfl, ha⟩
        unfold chrs at hz
        rw [hx, List.getElem?_map] at hz
        obtain ⟨d, hd, rfl⟩ := Option.map_eq_some_iff.mp hz
        refine ASG_name ⟨_, (uI 1 rfl), ?_⟩
        refine EXs_last (EX_if (TE_not (TE_val (EV_call (mI 1 rfl) P.g_is_alnum P.k_is_alnum rfl (EV_callB (mI 2 rfl) P.n_ord bt_ord (by decide) (fun h => keeps_builtin _ _ h) rfl (EV_name (v := .str ⟨#[d]⟩) (mI 1 rfl) (OP_ord rfl (CA.op (CA_is_alnum P ⟨_, rfl, fun q => ?_, fun q => ?_⟩)))))))))
        · refine EXs_last (EX_ret (EV_bool ⟨fun q => (by cases q), fun z_ => ?_⟩))
          have : fits x = false := by
            rw [hf, Bool.eq_false_iff]; intro hall
            rw [List.all_eq_true] at hall
            have := hall d (List.mem_of_getElem? hd)
            rw [this] at q; cases q
          rw [this] at h; exact h
        · refine EXs_nil ⟨_, rfl, rfl, ?_⟩
          rw [List.take_add_one, hd, List.all_append, ha]
          have : alnum d = true := by simpa using q
          simp [this]
      · rintro m' σ' ⟨o, rfl, rfl, ha⟩
        have e : (chrs x).length = (c :: r).length := by unfold chrs; simp only [hx, List.length_map]
        rw [e, List.take_length] at ha
        rw [hf, ha] at h
        refine ⟨fun z_ => ?_, fun q => absurd rfl q⟩
        refine EXs_last (EX_ret (EV_bool h))
    refine EXs_cons (EX_if (TE_and (TE_cmp (EV_sub (EV_name (v := .str x) (mI 0 rfl) (EV_int (SUB_str (by decide) (by omega) (by decide) (EV_str (OP_neS ?_)))))))))
    simp only [n3, us_ne]
    refine ⟨_, rfl, fun q => ?_, fun q => ⟨(fun q => by cases q), fun z_ => EXs_nil ⟨fun z_ => rest ?_, fun q => absurd rfl q⟩⟩⟩
    · refine TE_not (TE_val (EV_call (mI 0 rfl) P.g_is_capital P.k_is_capital rfl (EV_callB (mI 2 rfl) P.n_ord bt_ord (by decide) (fun h => keeps_builtin _ _ h) rfl (EV_sub (EV_name (v := .str x) (mI 0 rfl) (EV_int (SUB_str (by decide) (by omega) (by decide) ?_)))))))
      simp only [n3]
      refine OP_ord rfl (CA.op (CA_is_capital P ⟨_, rfl, fun q2 => ⟨(fun z_ => ?_), (fun q => by cases q)⟩, fun q2 => ⟨(fun q => by cases q), fun z_ => ?_⟩⟩))
      · have : fits x = false := by
          rw [hf]
          have e1 : (c == 95) = false := by simpa using q
          have e2 : (decide (65 ≤ (c : Int)) && decide ((c : Int) ≤ 90)) = false := by revert q2; cases (decide (65 ≤ (c : Int)) && decide ((c : Int) ≤ 90)) <;> simp
          simp only [e1, e2]; rfl
        rw [this] at h
        refine EXs_last (EX_ret (EV_bool ⟨fun q => (by cases q), fun z_ => h⟩))
      · refine EXs_nil ⟨fun z_ => rest ?_, fun q => absurd rfl q⟩
        have e2 : (decide (65 ≤ (c : Int)) && decide ((c : Int) ≤ 90)) = true := by revert q2; cases (decide (65 ≤ (c : Int)) && decide ((c : Int) ≤ 90)) <;> simp
        rw [e2]; simp
    · have e1 : (c == 95) = true := by simpa using q
      rw [e1]; rfl
theorem CA_fits (P : PF B) {x : Str} (hz : x.length ≤ 1000) (h : ∀ σ', Kp [] σ σ' → Q (.bool (fits x)) σ') : CA B (n + 1) X (.ref 653) [.str x] σ Q := by
  refine CA_fn (others := ["heads", "signs"]) (G := ⟨[], ["signs"], []⟩) thruAll P.f_law_fits (by decide +kernel) rfl ?_
  refine EXs_next (EX_assign (EV_str ⟨_, (uI 1 rfl), rfl, ?_⟩))
  refine EXs_next (EX_assign (EV_bin (EV_name (v := .str headsS) (mI 1 rfl) (EV_str (OP_addS (by rw [sizeLine_eq]; decide +kernel) ⟨_, (uI 2 rfl), rfl, ?_⟩)))))
  refine EXs_last (EX_ret (EV_and ?_))
  cases hx : x.cps.toList with
  | nil =>
    have := str_nil hx
    have hf : fits x = false := by unfold fits; rw [hx]
    rw [hf] at h
    refine EV_cmp (EV_name (v := .str x) (mI 0 rfl) (EV_str (OP_neS ⟨_, rfl, fun q => absurd q (by rw [this]; simp), fun z_ => h _ .refl⟩)))
  | cons c r =>
    obtain ⟨n1, n2, n3⟩ := str_ne hx
    have hf : fits x = ((c == 95 || (decide (65 ≤ (c : Int)) && decide ((c : Int) ≤ 90))) && (c :: r).all fun (c : Nat) => alnum c) := by unfold fits; simp only [hx]
    refine EV_cmp (EV_name (v := .str x) (mI 0 rfl) (EV_str (OP_neS ⟨_, rfl, fun z_ => ?_, fun q => absurd q (by unfold bne; rw [n1]; simp)⟩)))
    refine EV_cmp (EV_sub (EV_name (v := .str x) (mI 0 rfl) (EV_int (SUB_str (by decide) (by lia -abstractProof) (by decide) (EV_name (v := .str headsS) (mI 1 rfl) (OP_inS ?_))))))
    rw [n3, StrLaws.found_one, headsS_mem]
    refine ⟨_, rfl, fun q => ?_, fun q => ?_⟩
    · rw [q, Bool.true_and] at hf
      refine EV_cmp (EV_comp ⟨[], [], []⟩ [(("signs" : Str), some (V.str signsS))] (by decide +kernel) (by decide) rfl (subC (mI 2 rfl) subN) (fun k acc σ' => σ' = σ ∧ acc.length ≤ k ∧ acc.isEmpty = ((c :: r).take k).all fun (c : Nat) => alnum c) ?_)
      have hlen : (chrs x).length = (c :: r).length := by unfold chrs; rw [hx, List.length_map]
      have hlen2 : (c :: r).length = x.length := by rw [← hx]; rfl
      refine IE_of (EV_name (v := .str x) (mI 0 rfl) ⟨_, _, ITER_str, by lia -abstractProof, ⟨rfl, by simp, rfl⟩, fun z_ z_ z_ z_ z_ => trivial, ?_, ?_⟩)
      · rintro k acc σ' a ha ⟨rfl, hl, he⟩
        unfold chrs at ha
        rw [hx, List.getElem?_map] at ha
        obtain ⟨d, hd, rfl⟩ := Option.map_eq_some_iff.mp ha
        refine TE_cmp (EV_name (v := .str ⟨#[d]⟩) (mI 0 rfl) (EV_name (v := .str signsS) (mI 1 rfl) (OP_ninS ?_)))
        simp only [StrLaws.found_one, signsS_mem]
        refine ⟨_, rfl, fun q => ?_, fun q => ⟨rfl, by lia -abstractProof, ?_⟩⟩
        · refine EV_name (v := .str ⟨#[d]⟩) (mI 0 rfl) ⟨rfl, by simp; lia -abstractProof, ?_⟩
          simp only [List.take_add_one, hd, List.all_append]
          have : alnum d = false := by simpa using q
          simp [this]
        · simp only [List.take_add_one, hd, List.all_append, he]
          have : alnum d = true := by simpa using q
          simp [this]
      · rintro acc σ' ⟨rfl, hl, he⟩
        rw [hlen, List.take_length] at he
        refine EV_list rfl (by decide) (OP_eqL0 (l := acc) (by rw [List.getElem?_append_left (by simp)]; exact get_app) get_app (by lia -abstractProof) ?_)
        simp only [he, ← hf]
        exact h _ (Kp.app.trans .app)
    · rw [q, Bool.false_and] at hf
      rw [hf] at h
      exact h _ .refl
end
inductive T where
  | v (k : Int)
  | a (n : Int)
  | i (n : Int)
  | s1 (f : Int) (x : T)
  | s2 (f : Int) (x y : T)
open scoped Classical
noncomputable def T.toV : T → V
  | .v k => vV k
  | .a n => vA n
  | .i n => vI n
  | .s1 f x => vS f [x.toV]
  | .s2 f x y => vS f [x.toV, y.toV]
noncomputable def T.dep : T → Nat
  | .s1 _ x => x.dep + 1
  | .s2 _ x y => max x.dep y.dep + 1
  | _ => 0
theorem selfNe {s : Str} {p : Prop} (q : (s == s) = false) : p := Bool.noConfusion (q.symm.trans (beq_self_eq_true s))
theorem selfNe2 {s : Str} {p : Prop} (q : (s != s) = true) : p := absurd rfl (bne_iff_ne.mp q)
theorem pure_int {d : Nat} {i : Int} : pureV d (.int i) = true := by cases d <;> rfl
theorem pure_str {d : Nat} {i : Str} : pureV d (.str i) = true := by cases d <;> rfl
theorem pure1 {d : Nat} {a : V} (h : pureV d a = true) : pureV (d + 1) (.tup [a]) = true := by show (pureV d a && true) = true; rw [h]; rfl
theorem pure2 {d : Nat} {a b : V} (h : pureV d a = true) (h' : pureV d b = true) : pureV (d + 1) (.tup [a, b]) = true := by show (pureV d a && (pureV d b && true)) = true; rw [h, h']; rfl
theorem pureS {d n : Nat} {f : Int} {l : List V} (hd : 2 * n + 3 ≤ d) (h : pureV (d - 2 + 1) (.tup l) = true) : pureV d (.tup [.str "s", .int f, .tup l]) = true := by
  rw [show d = d - 2 + 1 + 1 by lia -abstractProof]
  show (pureV (d - 2 + 1) (.str "s") && (pureV (d - 2 + 1) (.int f) && (pureV (d - 2 + 1) (.tup l) && true))) = true
  rw [h, pure_int, pure_str]; rfl
theorem T.pure : ∀ (t : T) (d : Nat), 2 * t.dep + 1 ≤ d → pureV d t.toV = true
  | .v k, d, h => by rw [show d = d - 1 + 1 by lia -abstractProof]; exact pure2 pure_str pure_int
  | .a k, d, h => by rw [show d = d - 1 + 1 by lia -abstractProof]; exact pure2 pure_str pure_int
  | .i k, d, h => by rw [show d = d - 1 + 1 by lia -abstractProof]; exact pure2 pure_str pure_int
  | .s1 f x, d, h => by
    have h : 2 * (x.dep + 1) + 1 ≤ d := h
    exact pureS (n := x.dep) h (pure1 (T.pure x _ (by lia -abstractProof)))
  | .s2 f x y, d, h => by
    have h : 2 * (max x.dep y.dep + 1) + 1 ≤ d := h
    exact pureS (n := x.dep) (by lia -abstractProof) (pure2 (T.pure x _ (by lia -abstractProof)) (T.pure y _ (by lia -abstractProof)))
noncomputable def ks : Nat → Str
  | 0 => "v"
  | 1 => "a"
  | 2 => "i"
  | _ => "s"
theorem ks_ne : ∀ i, i < 4 → ∀ j, j < 4 → ks i = ks j → i = j := by decide +kernel
theorem tup2i {a b c d : V} {l r : List V} (h : V.tup (a :: b :: l) = .tup (c :: d :: r)) : a = c ∧ b = d ∧ l = r :=
  ⟨(List.cons.inj (V.tup.inj h)).1, (List.cons.inj (List.cons.inj (V.tup.inj h)).2).1, (List.cons.inj (List.cons.inj (V.tup.inj h)).2).2⟩
theorem ksne {i j : Nat} {b d : V} {l r : List V} {p : Prop} (hi : i < 4) (hj : j < 4) (n : i ≠ j) (h : V.tup (.str (ks i) :: b :: l) = .tup (.str (ks j) :: d :: r)) : p :=
  absurd (ks_ne i hi j hj (V.str.inj (tup2i h).1)) n
theorem T.inj : ∀ {t u : T}, t.toV = u.toV → t = u := by
  have c0 : 0 < 4 := by decide
  have c1 : 1 < 4 := by decide
  have c2 : 2 < 4 := by decide
  have c3 : 3 < 4 := by decide
  intro t
  induction t with
  | v k =>
    intro u h
    cases u with
    | v j => rw [V.int.inj (tup2i h).2.1]
    | a j => exact ksne c0 c1 (by decide) h
    | i j => exact ksne c0 c2 (by decide) h
    | s1 f x => exact ksne c0 c3 (by decide) h
    | s2 f x y => exact ksne c0 c3 (by decide) h
  | a k =>
    intro u h
    cases u with
    | a j => rw [V.int.inj (tup2i h).2.1]
    | v j => exact ksne c1 c0 (by decide) h
    | i j => exact ksne c1 c2 (by decide) h
    | s1 f x => exact ksne c1 c3 (by decide) h
    | s2 f x y => exact ksne c1 c3 (by decide) h
  | i k =>
    intro u h
    cases u with
    | i j => rw [V.int.inj (tup2i h).2.1]
    | a j => exact ksne c2 c1 (by decide) h
    | v j => exact ksne c2 c0 (by decide) h
    | s1 f x => exact ksne c2 c3 (by decide) h
    | s2 f x y => exact ksne c2 c3 (by decide) h
  | s1 f x ih =>
    intro u h
    cases u with
    | s1 g z => rw [V.int.inj (tup2i h).2.1, ih (List.cons.inj (V.tup.inj (List.cons.inj (tup2i h).2.2).1)).1]
    | s2 g z w => exact absurd (List.cons.inj (V.tup.inj (List.cons.inj (tup2i h).2.2).1)).2 (List.cons_ne_nil _ _).symm
    | a j => exact ksne c3 c1 (by decide) h
    | v j => exact ksne c3 c0 (by decide) h
    | i j => exact ksne c3 c2 (by decide) h
  | s2 f x y ih1 ih2 =>
    intro u h
    cases u with
    | s2 g z w => rw [V.int.inj (tup2i h).2.1, ih1 (tup2i (List.cons.inj (tup2i h).2.2).1).1, ih2 (tup2i (List.cons.inj (tup2i h).2.2).1).2.1]
    | s1 g z => exact absurd (List.cons.inj (V.tup.inj (List.cons.inj (tup2i h).2.2).1)).2 (List.cons_ne_nil _ _)
    | a j => exact ksne c3 c1 (by decide) h
    | v j => exact ksne c3 c0 (by decide) h
    | i j => exact ksne c3 c2 (by decide) h
theorem T.tupV : ∀ (t : T), ∃ l, t.toV = .tup l
  | .v _ => ⟨_, rfl⟩
  | .a _ => ⟨_, rfl⟩
  | .i _ => ⟨_, rfl⟩
  | .s1 .. => ⟨_, rfl⟩
  | .s2 .. => ⟨_, rfl⟩
inductive En (ties : List T) : T → T → Prop
  | self {k : Int} (h0 : 0 ≤ k) (h : ties[k.toNat]? = some (.v k)) : En ties (.v k) (.v k)
  | val {t : T} (h : ∀ k, t ≠ .v k) : En ties t t
  | step {k : Int} {t t' : T} (h0 : 0 ≤ k) (h : ties[k.toNat]? = some t) (hne : t ≠ .v k) (d : En ties t t') : En ties (.v k) t'
noncomputable def T.leaf : T → Prop
  | .v _ => True
  | .a _ => True
  | .i _ => True
  | _ => False
theorem veq_T {t u : T} {l r : List V} (hl : t.toV = .tup l) (hr : u.toV = .tup r) : veqs l r = decide (t = u) := by
  rw [Bool.eq_iff_iff, veqs_iff, decide_eq_true_iff]
  exact ⟨fun e => T.inj (by rw [hl, hr, e]), fun e => V.tup.inj (by rw [← hl, ← hr, e])⟩
section
variable {B : Bs} {n : Nat} {X : V → List AO → Prop} {σ : List AO} {Q : V → List AO → Prop} {G : Gs} {m : Loc}
theorem OP_neT {t u : T} (h1 : t.dep ≤ 19) (h2 : u.dep ≤ 19) (h : Q (.bool (!decide (t = u))) σ) : OP2 B n X t.toV u.toV σ (compareOp .NotEq) Q := by
  obtain ⟨l, hl⟩ := t.tupV
  obtain ⟨r, hr⟩ := u.tupV
  have p1 := T.pure t 40 (by lia -abstractProof)
  have p2 := T.pure u 40 (by lia -abstractProof)
  have e := veq_T hl hr
  rw [hl] at p1; rw [hr] at p2
  rw [hl, hr]
  exact OP_neV p1 p2 (by rw [e]; exact h)
theorem OP_eqT {t u : T} (h1 : t.dep ≤ 19) (h2 : u.dep ≤ 19) (h : Q (.bool (decide (t = u))) σ) : OP2 B n X t.toV u.toV σ (compareOp .Eq) Q := by
  obtain ⟨l, hl⟩ := t.tupV
  obtain ⟨r, hr⟩ := u.tupV
  have p1 := T.pure t 40 (by lia -abstractProof)
  have p2 := T.pure u 40 (by lia -abstractProof)
  have e := veq_T hl hr
  rw [hl] at p1; rw [hr] at p2
  rw [hl, hr]
  exact OP_eqV p1 p2 (by rw [e]; exact h)
noncomputable def T.kind : T → Str
  | .v _ => "v"
  | .a _ => "a"
  | .i _ => "i"
  | _ => "s"
theorem EV_kind {t : T} {x : Str} {p p1 pos : Pos} {k : Nat} (hm : (x, some t.toV) ∈ m) (h : Q (.str t.kind) σ) : EV B n X G m σ (.Subscript (.Name x p) (.Constant (.int 0) k p1) pos) Q := by
  cases t <;> exact EV_fst hm h
structure TiesAt (ties : List T) (σ : List AO) : Prop where
  o : σ[7]? = some (.list (ties.map T.toV))
  five : ties.length = 5
  leaf : ∀ t, t ∈ ties → t.dep = 0
theorem CA_end (P : PF B) {ties : List T} {t t' : T} (ht : TiesAt ties σ) (d : En ties t t') (h : Q t'.toV σ) : CA B (n + 1) X (.ref 643) [.ref 7, t.toV] σ Q := by
  refine CA_fn (others := []) (G := ⟨[], [], []⟩) thruAll P.f_law_end (by decide +kernel) rfl ?_
  refine EXs_next (EX_while ?_)
  have key : ∀ t t', En ties t t' → Q t'.toV σ → LW B n X ⟨[], [], []⟩ (whT (nth (fnB (top 49)) 0)) (fnB (nth (fnB (top 49)) 0)) [(("ties" : Str), some (V.ref 7)), (("tree" : Str), some t.toV)] σ
      (Nx B n X ⟨[], [], []⟩ ((fnB (top 49)).drop 1) (FnQ Q)) := by
    intro t t' d h
    induction d with
    | @self k h0 hk =>
      refine LW_step thruAll (TE_and ?_)
      refine TE_cmp (EV_kind (mI 1 rfl) (EV_str (OP_eqS ⟨_, rfl, fun z_ => ?_, selfNe⟩)))
      have hl := (List.getElem?_eq_some_iff.mp hk).1
      have := ht.five
      refine TE_cmp (EV_sub (EV_name (v := .ref 7) (mI 0 rfl) (EV_snd (mI 1 rfl) (SUB_list (x := T.toV (.v k)) ht.o h0 (by lia -abstractProof) (by simp only [List.getElem?_map, hk]; rfl) (EV_name (v := T.toV (.v k)) (mI 1 rfl) (OP_neT (by simp [T.dep]) (by simp [T.dep]) ⟨_, rfl, fun q => absurd q (by simp), fun z_ => ⟨fun q => (by cases q), fun z_ => ⟨rfl, ?_⟩⟩⟩))))))
      refine EXs_last (EX_ret (EV_name (v := T.toV (.v k)) (mI 1 rfl) h))
    | @val t ht =>
      refine LW_step thruAll (TE_and ?_)
      have hk : (t.kind == ("v" : Str)) = false := by
        cases t with
        | v k => exact absurd rfl (ht k)
        | a k => show (("a" : Str) == "v") = false; decide +kernel
        | i k => show (("i" : Str) == "v") = false; decide +kernel
        | s1 f x => show (("s" : Str) == "v") = false; decide +kernel
        | s2 f x y => show (("s" : Str) == "v") = false; decide +kernel
      refine TE_cmp (EV_kind (mI 1 rfl) (EV_str (OP_eqS ⟨_, rfl, fun q => absurd q (by rw [hk]; simp), fun z_ => ⟨fun q => (by cases q), fun z_ => ⟨rfl, ?_⟩⟩⟩)))
      refine EXs_last (EX_ret (EV_name (v := t.toV) (mI 1 rfl) h))
    | @step k t t' h0 hk hne d ih =>
      have hl := (List.getElem?_eq_some_iff.mp hk).1
      have := ht.five
      refine LW_step thruAll (TE_and ?_)
      refine TE_cmp (EV_kind (t := .v k) (mI 1 rfl) (EV_str (OP_eqS ⟨_, rfl, fun z_ => ?_, selfNe⟩)))
      refine TE_cmp (EV_sub (EV_name (v := .ref 7) (mI 0 rfl) (EV_snd (mI 1 rfl) (SUB_list (x := t.toV) ht.o h0 (by lia -abstractProof) (by simp only [List.getElem?_map, hk]; rfl) (EV_name (v := T.toV (.v k)) (mI 1 rfl) (OP_neT (by rw [ht.leaf t (List.mem_of_getElem? hk)]; lia -abstractProof) (by simp [T.dep]) ⟨_, rfl, fun z_ => ?_, fun q => absurd q (by simpa using hne)⟩))))))
      refine ⟨fun z_ => ?_, fun q => by cases q⟩
      refine EXs_last (EX_assign (EV_sub (EV_name (v := .ref 7) (mI 0 rfl) (EV_snd (mI 1 rfl) (SUB_list (x := t.toV) ht.o h0 (by lia -abstractProof) (by simp only [List.getElem?_map, hk]; rfl) ⟨_, (uI 1 rfl), ?_⟩)))))
      exact ih h
  exact key t t' d h
end
structure RT (ties : List T) (R : Int → T) : Prop where
  en : ∀ k, 0 ≤ k → k < 5 → En ties (.v k) (R k)
  good : ∀ k, 0 ≤ k → k < 5 → (∃ j, 0 ≤ j ∧ j < 5 ∧ R k = .v j ∧ R j = .v j) ∨ ∃ n, R k = .i n
noncomputable def T.wf : T → Prop
  | .v k => 0 ≤ k ∧ k < 5
  | .s1 _ x => x.wf
  | .s2 _ x y => x.wf ∧ y.wf
  | _ => True
noncomputable def endT (R : Int → T) : T → T
  | .v k => R k
  | t => t
theorem RT.end {ties : List T} {R : Int → T} (r : RT ties R) {t : T} (h : t.wf) : En ties t (endT R t) := by
  cases t with
  | v k => exact r.en k h.1 h.2
  | a k => exact .val (by simp)
  | i k => exact .val (by simp)
  | s1 f x => exact .val (by simp)
  | s2 f x y => exact .val (by simp)
noncomputable def seeN (seen : List Int) (j : Int) : List Int := if j ∈ seen then seen else seen ++ [j]
noncomputable def shV : T → List Int → T × List Int
  | .v j, s => (.v ((seeN s j).idxOf j : Nat), seeN s j)
  | t, s => (t, s)
noncomputable def sh (R : Int → T) : T → List Int → T × List Int
  | .v k, s => shV (R k) s
  | .a n, s => (.a n, s)
  | .i n, s => (.i n, s)
  | .s1 f x, s => (.s1 f (sh R x s).1, (sh R x s).2)
  | .s2 f x y, s => (.s2 f (sh R x s).1 (sh R y (sh R x s).2).1, (sh R y (sh R x s).2).2)
theorem idxOf_le : ∀ {l : List Int} {j : Int} {p : Nat} (h1 : p < l.length), l[p] = j → l.idxOf j ≤ p
  | x :: l, j, 0, _, e => by have : x = j := e; subst this; simp
  | x :: l, j, p + 1, h1, e => by
    rw [List.idxOf_cons]
    have := idxOf_le (l := l) (j := j) (p := p) (by simpa using h1) (by simpa using e)
    cases x == j <;> simp <;> omega
theorem any_mem (l : List Int) (j : Int) : l.any (· == j) = decide (j ∈ l) := by
  rw [Bool.eq_iff_iff, List.any_eq_true, decide_eq_true_eq]
  exact ⟨fun ⟨x, hx, e⟩ => by rw [beq_iff_eq] at e; exact e ▸ hx, fun h => ⟨j, h, by simp⟩⟩
theorem seeN_len (s : List Int) (j : Int) : (seeN s j).length ≤ s.length + 1 := by unfold seeN; split <;> simp
theorem seeN_mem (s : List Int) (j : Int) : j ∈ seeN s j := by unfold seeN; split <;> simp_all
noncomputable def T.sz : T → Nat
  | .s1 _ x => 1 + x.sz
  | .s2 _ x y => 1 + x.sz + y.sz
  | _ => 1
theorem sh_len (R : Int → T) (t : T) (s : List Int) : (sh R t s).2.length ≤ s.length + t.sz := by
  induction t generalizing s with
  | v k =>
    show (shV (R k) s).2.length ≤ s.length + 1
    cases R k with
    | v j => exact seeN_len s j
    | _ => exact Nat.le_succ _
  | a _ => exact Nat.le_succ _
  | i _ => exact Nat.le_succ _
  | s1 f x ih =>
    have := ih s
    show (sh R x s).2.length ≤ s.length + (1 + x.sz)
    omega
  | s2 f x y ih ih2 =>
    have := ih s
    have := ih2 (sh R x s).2
    show (sh R y (sh R x s).2).2.length ≤ s.length + (1 + x.sz + y.sz)
    omega
section
variable {B : Bs} {n : Nat} {X : V → List AO → Prop} {σ : List AO} {Q : V → List AO → Prop} {G : Gs} {m : Loc}
theorem TiesAt.kp {ties : List T} {σ σ' : List AO} {D : List Nat} (t : TiesAt ties σ) (k : Kp D σ σ') (h : 7 ∉ D) : TiesAt ties σ' := ⟨k.get t.o h, t.five, t.leaf⟩
theorem shown_tail (P : PF B) {ties : List T} {R : Int → T} (r : RT ties R) {sn : Nat} (hsn : sn ≠ 7) : ∀ (t : T) (X : V → List AO → Prop) (N : Nat), t.dep + 2 ≤ N → ∀ (σ : List AO) (seen : List Int) (Q : V → List AO → Prop), t.wf → TiesAt ties σ → σ[sn]? = some (.list (seen.map V.int)) → seen.length + t.sz ≤ 5000 →
    (∀ σ', Kp [sn] σ σ' → σ'[sn]? = some (.list ((sh R t seen).2.map V.int)) → Q (sh R t seen).1.toV σ') → CA B N X (.ref 648) [t.toV, .ref 7, .ref sn] σ Q := by
  intro t
  induction t with
  | v k =>
    intro X N hN σ seen Q hw ht hs hz h
    obtain ⟨n, rfl⟩ : ∃ n, N = n + 2 := ⟨N - 2, by lia -abstractProof⟩
    refine CA_fn (others := []) (G := ⟨["_law_end", "tuple"], ["ties", "seen"], []⟩) thruAll P.f_law_shown (by decide +kernel) rfl ?_
    refine EXs_next (EX_assign (EV_call (mI 0 rfl) P.g_law_end P.k_law_end rfl (EV_name (v := .ref 7) (mI 1 rfl) (EV_name (v := T.toV (.v k)) (mI 0 rfl) (CA.op (CA_end P ht (r.en k hw.1 hw.2) ⟨_, uI 0 rfl, rfl, ?_⟩))))))
    simp only [T.sz] at hz
    rcases r.good k hw.1 hw.2 with ⟨j, j0, j5, hj, -⟩ | ⟨i, hi⟩
    · have es : sh R (.v k) seen = (.v ((seeN seen j).idxOf j : Nat), seeN seen j) := by show shV (R k) seen = _; rw [hj]; rfl
      rw [es] at h
      rw [hj]
      have last : ∀ σ', Kp [sn] σ σ' → σ'[sn]? = some (.list ((seeN seen j).map V.int)) → EXs B (n + 1) X ⟨["_law_end", "tuple"], ["ties", "seen"], []⟩ [(("tree" : Str), some (T.toV (.v j))), (("ties" : Str), some (V.ref 7)), (("seen" : Str), some (V.ref sn))] σ' ((fnB (nth (fnB (top 50)) 1)).drop 1)
          (Cn B (n + 1) X ⟨["_law_end", "tuple"], ["ties", "seen"], []⟩ ((fnB (top 50)).drop 2) (FnQ Q)) := by
        intro σ' kp hs'
        refine EXs_last (EX_ret (EV_tuple rfl (by decide) (EV_str (EV_bmeth rfl (by decide) rfl (EV_name (v := .ref sn) (mI 2 rfl) ⟨"list.index", GM_list hs' PySem.F.slot_list_index PySem.F.type_list_index, ?_⟩)))))
        have hm := seeN_mem seen j
        have hlen := seeN_len seen j
        refine EV_snd (mI 0 rfl) (OP_indexL (j := (seeN seen j).idxOf j) hs' (by lia -abstractProof) (List.idxOf_lt_length_of_mem hm) (by rw [List.getElem?_eq_getElem (List.idxOf_lt_length_of_mem hm), List.getElem_idxOf]) (fun p hp q => ?_) ⟨fun q => (by cases q), fun z_ => h σ' kp hs'⟩)
        exact absurd hp (Nat.not_lt.mpr (by
          have hpl := (List.getElem?_eq_some_iff.mp q)
          obtain ⟨h1, h2⟩ := hpl
          exact idxOf_le h1 h2))
      refine EXs_cons (EX_if (TE_cmp (EV_kind (t := .v j) (mI 0 rfl) (EV_str (OP_eqS ⟨_, rfl, fun z_ => ?_, selfNe⟩)))))
      refine EXs_cons (EX_if (TE_cmp (EV_snd (mI 0 rfl) (EV_name (v := .ref sn) (mI 2 rfl) (OP_ninL hs ⟨_, rfl, fun q => ?_, fun q => ?_⟩)))))
      · have hn : j ∉ seen := by rw [any_mem] at q; simpa using q
        refine EXs_last (EX_expr (EV_append rfl rfl (EV_name (v := .ref sn) (mI 2 rfl) ⟨sn, rfl, ⟨_, hs⟩, EV_snd (mI 0 rfl) ⟨_, hs, by simp; lia -abstractProof, fun z_ => ?_, fun q => absurd rfl q⟩⟩)))
        refine last _ (.set (by simp)) ?_
        rw [set_get hs]
        unfold seeN; rw [if_neg hn]; simp
      · have hn : j ∈ seen := by rw [any_mem] at q; simpa using q
        refine EXs_nil ⟨fun z_ => last _ .refl ?_, fun q => absurd rfl q⟩
        rw [hs]; unfold seeN; rw [if_pos hn]
    · have es : sh R (.v k) seen = (.i i, seen) := by show shV (R k) seen = _; rw [hi]; rfl
      rw [es] at h
      rw [hi]
      refine EXs_cons (EX_if (TE_cmp (EV_kind (t := .i i) (mI 0 rfl) (EV_str (OP_eqS ⟨_, rfl, fun q => absurd q (by show ¬ (("i" : Str) == "v") = true; decide +kernel), fun z_ => ?_⟩)))))
      refine EXs_nil ⟨fun z_ => ?_, fun q => absurd rfl q⟩
      refine EXs_cons (EX_if (TE_cmp (EV_kind (t := .i i) (mI 0 rfl) (EV_str (OP_eqS ⟨_, rfl, fun q => absurd q (by show ¬ (("i" : Str) == "s") = true; decide +kernel), fun z_ => ?_⟩)))))
      refine EXs_nil ⟨fun z_ => ?_, fun q => absurd rfl q⟩
      refine EXs_last (EX_ret (EV_name (v := T.toV (.i i)) (mI 0 rfl) (h σ .refl hs)))
  | a k =>
    intro X N hN σ seen Q hw ht hs hz h
    obtain ⟨n, rfl⟩ : ∃ n, N = n + 2 := ⟨N - 2, by lia -abstractProof⟩
    refine CA_fn (others := []) (G := ⟨["_law_end", "tuple"], ["ties", "seen"], []⟩) thruAll P.f_law_shown (by decide +kernel) rfl ?_
    refine EXs_next (EX_assign (EV_call (mI 0 rfl) P.g_law_end P.k_law_end rfl (EV_name (v := .ref 7) (mI 1 rfl) (EV_name (v := T.toV (.a k)) (mI 0 rfl) (CA.op (CA_end P ht (.val (by simp)) ⟨_, uI 0 rfl, rfl, ?_⟩))))))
    refine EXs_cons (EX_if (TE_cmp (EV_kind (t := .a k) (mI 0 rfl) (EV_str (OP_eqS ⟨_, rfl, fun q => absurd q (by show ¬ (("a" : Str) == "v") = true; decide +kernel), fun z_ => ?_⟩)))))
    refine EXs_nil ⟨fun z_ => ?_, fun q => absurd rfl q⟩
    refine EXs_cons (EX_if (TE_cmp (EV_kind (t := .a k) (mI 0 rfl) (EV_str (OP_eqS ⟨_, rfl, fun q => absurd q (by show ¬ (("a" : Str) == "s") = true; decide +kernel), fun z_ => ?_⟩)))))
    refine EXs_nil ⟨fun z_ => ?_, fun q => absurd rfl q⟩
    refine EXs_last (EX_ret (EV_name (v := T.toV (.a k)) (mI 0 rfl) (h σ .refl hs)))
  | i k =>
    intro X N hN σ seen Q hw ht hs hz h
    obtain ⟨n, rfl⟩ : ∃ n, N = n + 2 := ⟨N - 2, by lia -abstractProof⟩
    refine CA_fn (others := []) (G := ⟨["_law_end", "tuple"], ["ties", "seen"], []⟩) thruAll P.f_law_shown (by decide +kernel) rfl ?_
    refine EXs_next (EX_assign (EV_call (mI 0 rfl) P.g_law_end P.k_law_end rfl (EV_name (v := .ref 7) (mI 1 rfl) (EV_name (v := T.toV (.i k)) (mI 0 rfl) (CA.op (CA_end P ht (.val (by simp)) ⟨_, uI 0 rfl, rfl, ?_⟩))))))
    refine EXs_cons (EX_if (TE_cmp (EV_kind (t := .i k) (mI 0 rfl) (EV_str (OP_eqS ⟨_, rfl, fun q => absurd q (by show ¬ (("i" : Str) == "v") = true; decide +kernel), fun z_ => ?_⟩)))))
    refine EXs_nil ⟨fun z_ => ?_, fun q => absurd rfl q⟩
    refine EXs_cons (EX_if (TE_cmp (EV_kind (t := .i k) (mI 0 rfl) (EV_str (OP_eqS ⟨_, rfl, fun q => absurd q (by show ¬ (("i" : Str) == "s") = true; decide +kernel), fun z_ => ?_⟩)))))
    refine EXs_nil ⟨fun z_ => ?_, fun q => absurd rfl q⟩
    refine EXs_last (EX_ret (EV_name (v := T.toV (.i k)) (mI 0 rfl) (h σ .refl hs)))
  | s1 f x ih =>
    intro X N hN σ seen Q hw ht hs hz h
    simp only [T.dep] at hN
    simp only [T.sz] at hz
    obtain ⟨n, rfl⟩ : ∃ n, N = n + 2 := ⟨N - 2, by lia -abstractProof⟩
    refine CA_fn (others := []) (G := ⟨["_law_end", "tuple"], ["ties", "seen"], []⟩) thruAll P.f_law_shown (by decide +kernel) rfl ?_
    refine EXs_next (EX_assign (EV_call (mI 0 rfl) P.g_law_end P.k_law_end rfl (EV_name (v := .ref 7) (mI 1 rfl) (EV_name (v := T.toV (.s1 f x)) (mI 0 rfl) (CA.op (CA_end P ht (.val (by simp)) ⟨_, uI 0 rfl, rfl, ?_⟩))))))
    refine EXs_cons (EX_if (TE_cmp (EV_kind (t := .s1 f x) (mI 0 rfl) (EV_str (OP_eqS ⟨_, rfl, fun q => absurd q (by show ¬ (("s" : Str) == "v") = true; decide +kernel), fun z_ => ?_⟩)))))
    refine EXs_nil ⟨fun z_ => ?_, fun q => absurd rfl q⟩
    refine EXs_cons (EX_if (TE_cmp (EV_kind (t := .s1 f x) (mI 0 rfl) (EV_str (OP_eqS ⟨_, rfl, fun z_ => ?_, selfNe⟩)))))
    refine EXs_last (EX_ret (EV_tuple rfl (by decide) (EV_str (EV_snd (mI 0 rfl) (EV_callB (mI 1 rfl) P.n_tuple bt_tuple (by decide) (fun h => keeps_type _ _ h) rfl ?_)))))
    refine EV_comp (cap := ["ties", "seen"]) ⟨["_law_shown"], [], []⟩ [(("ties" : Str), some (V.ref 7)), (("seen" : Str), some (V.ref sn))] (by decide +kernel) (by decide) rfl (subC (mI 1 rfl) (subC (mI 2 rfl) subN))
      (fun k acc σ' => Kp [sn] σ σ' ∧ (k = 0 → acc = [] ∧ σ'[sn]? = some (.list (seen.map V.int))) ∧ (k = 1 → acc = [(sh R x seen).1.toV] ∧ σ'[sn]? = some (.list ((sh R x seen).2.map V.int)))) ?_
    refine IE_of (EV_trd (mI 0 rfl) ⟨_, _, ITER_tup, by simp, ⟨.refl, fun z_ => ⟨rfl, hs⟩, by simp⟩, fun z_ z_ z_ z_ z_ => trivial, ?_, ?_⟩)
    · rintro k acc σ' a ha ⟨kp, h0, -⟩
      have hk : k < 1 := (List.getElem?_eq_some_iff.mp ha).1
      obtain rfl : k = 0 := by lia -abstractProof
      cases ha
      obtain ⟨rfl, hs'⟩ := h0 rfl
      refine ⟨fun z_ => ?_, fun q => by cases q⟩
      refine EV_call (mI 0 rfl) P.g_law_shown P.k_law_shown rfl (EV_name (v := x.toV) (mI 0 rfl) (EV_name (v := .ref 7) (mI 1 rfl) (EV_name (v := .ref sn) (mI 2 rfl) (CA.op (ih NoX (n + 1) (by lia -abstractProof) σ' seen _ hw (ht.kp kp (by simpa using hsn.symm)) hs' (by lia -abstractProof) fun σ'' kp' hs'' => ?_)))))
      exact ⟨kp.trans kp', by simp, fun z_ => ⟨rfl, hs''⟩⟩
    · rintro acc σ' ⟨kp, -, h1⟩
      obtain ⟨rfl, hs'⟩ := h1 rfl
      refine OP_tupleL get_app (by simp) ⟨fun q => (by cases q), fun z_ => ?_⟩
      exact h _ (kp.trans .app) (by rw [List.getElem?_append_left (idx_lt hs')]; exact hs')
  | s2 f x y ih1 ih2 =>
    intro X N hN σ seen Q hw ht hs hz h
    simp only [T.dep] at hN
    simp only [T.sz] at hz
    obtain ⟨n, rfl⟩ : ∃ n, N = n + 2 := ⟨N - 2, by lia -abstractProof⟩
    refine CA_fn (others := []) (G := ⟨["_law_end", "tuple"], ["ties", "seen"], []⟩) thruAll P.f_law_shown (by decide +kernel) rfl ?_
    refine EXs_next (EX_assign (EV_call (mI 0 rfl) P.g_law_end P.k_law_end rfl (EV_name (v := .ref 7) (mI 1 rfl) (EV_name (v := T.toV (.s2 f x y)) (mI 0 rfl) (CA.op (CA_end P ht (.val (by simp)) ⟨_, uI 0 rfl, rfl, ?_⟩))))))
    refine EXs_cons (EX_if (TE_cmp (EV_kind (t := .s2 f x y) (mI 0 rfl) (EV_str (OP_eqS ⟨_, rfl, fun q => absurd q (by show ¬ (("s" : Str) == "v") = true; decide +kernel), fun z_ => ?_⟩)))))
    refine EXs_nil ⟨fun z_ => ?_, fun q => absurd rfl q⟩
    refine EXs_cons (EX_if (TE_cmp (EV_kind (t := .s2 f x y) (mI 0 rfl) (EV_str (OP_eqS ⟨_, rfl, fun z_ => ?_, selfNe⟩)))))
    refine EXs_last (EX_ret (EV_tuple rfl (by decide) (EV_str (EV_snd (mI 0 rfl) (EV_callB (mI 1 rfl) P.n_tuple bt_tuple (by decide) (fun h => keeps_type _ _ h) rfl ?_)))))
    have zx := sh_len R x seen
    refine EV_comp (cap := ["ties", "seen"]) ⟨["_law_shown"], [], []⟩ [(("ties" : Str), some (V.ref 7)), (("seen" : Str), some (V.ref sn))] (by decide +kernel) (by decide) rfl (subC (mI 1 rfl) (subC (mI 2 rfl) subN))
      (fun k acc σ' => Kp [sn] σ σ' ∧ (k = 0 → acc = [] ∧ σ'[sn]? = some (.list (seen.map V.int))) ∧ (k = 1 → acc = [(sh R x seen).1.toV] ∧ σ'[sn]? = some (.list ((sh R x seen).2.map V.int))) ∧ (k = 2 → acc = [(sh R x seen).1.toV, (sh R y (sh R x seen).2).1.toV] ∧ σ'[sn]? = some (.list ((sh R y (sh R x seen).2).2.map V.int)))) ?_
    refine IE_of (EV_trd (mI 0 rfl) ⟨_, _, ITER_tup, by simp, ⟨.refl, fun z_ => ⟨rfl, hs⟩, by simp, by simp⟩, fun z_ z_ z_ z_ z_ => trivial, ?_, ?_⟩)
    · rintro k acc σ' a ha ⟨kp, h0, h1, -⟩
      have hk : k < 2 := (List.getElem?_eq_some_iff.mp ha).1
      rcases (by lia -abstractProof : k = 0 ∨ k = 1) with rfl | rfl
      · cases ha
        obtain ⟨rfl, hs'⟩ := h0 rfl
        refine ⟨fun z_ => ?_, fun q => by cases q⟩
        refine EV_call (mI 0 rfl) P.g_law_shown P.k_law_shown rfl (EV_name (v := x.toV) (mI 0 rfl) (EV_name (v := .ref 7) (mI 1 rfl) (EV_name (v := .ref sn) (mI 2 rfl) (CA.op (ih1 NoX (n + 1) (by lia -abstractProof) σ' seen _ hw.1 (ht.kp kp (by simpa using hsn.symm)) hs' (by lia -abstractProof) fun σ'' kp' hs'' => ?_)))))
        exact ⟨kp.trans kp', by simp, fun z_ => ⟨rfl, hs''⟩, by simp⟩
      · cases ha
        obtain ⟨rfl, hs'⟩ := h1 rfl
        refine ⟨fun z_ => ?_, fun q => by cases q⟩
        refine EV_call (mI 0 rfl) P.g_law_shown P.k_law_shown rfl (EV_name (v := y.toV) (mI 0 rfl) (EV_name (v := .ref 7) (mI 1 rfl) (EV_name (v := .ref sn) (mI 2 rfl) (CA.op (ih2 NoX (n + 1) (by lia -abstractProof) σ' _ _ hw.2 (ht.kp kp (by simpa using hsn.symm)) hs' (by lia -abstractProof) fun σ'' kp' hs'' => ?_)))))
        exact ⟨kp.trans kp', by simp, by simp, fun z_ => ⟨rfl, hs''⟩⟩
    · rintro acc σ' ⟨kp, -, -, h1⟩
      obtain ⟨rfl, hs'⟩ := h1 rfl
      refine OP_tupleL get_app (by simp) ⟨fun q => (by cases q), fun z_ => ?_⟩
      exact h _ (kp.trans .app) (by rw [List.getElem?_append_left (idx_lt hs')]; exact hs')
end
noncomputable def Sy.tx (y : Sy) (n : Int) : Str := (y.texts[n.toNat]?).getD ""
structure YOk (y : Sy) : Prop where
  len : ∀ t, t ∈ y.texts → t.length ≤ 1000
  nd : y.texts.Nodup
  nf : y.fs.Nodup
noncomputable def LeafOk (y : Sy) : T → Prop
  | .v k => 0 ≤ k ∧ k < 5
  | .a n => 0 ≤ n ∧ n.toNat < y.texts.length
  | .i _ => True
  | _ => False
noncomputable def RightOk : T → Prop
  | .v k => 0 ≤ k ∧ k < 5
  | .a n => n = 0
  | _ => False
noncomputable def EntOk (y : Sy) : T → Prop
  | .v k => 0 ≤ k ∧ k < 5
  | .a _ => True
  | .s2 f l r => (f = 10 ∨ f = 13) ∧ LeafOk y l ∧ RightOk r
  | _ => False
noncomputable def lwW : T → Str
  | .v _ => "lacks"
  | _ => "wrong"
noncomputable def adW (p : Int → Bool) : T → Str
  | .v _ => "lacks"
  | .a n => if p n then "" else "wrong"
  | _ => "wrong"
theorem adW3 (p : Int → Bool) (t : T) : adW p t = "" ∨ adW p t = "lacks" ∨ adW p t = "wrong" := by
  cases t with
  | v k => exact .inr (.inl rfl)
  | a n =>
    cases h : p n with
    | true => exact .inl (if_pos h)
    | false => exact .inr (.inr (if_neg (by rw [h]; exact Bool.false_ne_true)))
  | _ => exact .inr (.inr rfl)
noncomputable def flawE (y : Sy) (R : Int → T) : T → Str
  | .v k => lwW (R k)
  | .s2 f l _ => if f = 10 then adW (fun n => fits (y.tx n)) (endT R l) else "wrong"
  | _ => "wrong"
theorem LeafOk.wf {y : Sy} {t : T} (h : LeafOk y t) : t.wf := by cases t <;> first | exact h | exact trivial | exact h.elim
theorem RightOk.wf {t : T} (h : RightOk t) : t.wf := by cases t <;> first | exact h | exact trivial | exact h.elim
theorem EntOk.wf {y : Sy} {t : T} (h : EntOk y t) : t.wf := by
  cases t with
  | v k => exact h
  | s2 f l r => exact ⟨h.2.1.wf, h.2.2.wf⟩
  | s1 f x => exact h.elim
  | a n => exact trivial
  | i n => exact trivial
theorem LeafOk.dep {y : Sy} {t : T} (h : LeafOk y t) : t.dep = 0 := by cases t <;> first | rfl | exact h.elim
theorem RightOk.dep {t : T} (h : RightOk t) : t.dep = 0 := by cases t <;> first | rfl | exact h.elim
theorem EntOk.dep {y : Sy} {t : T} (h : EntOk y t) : t.dep ≤ 1 := by
  cases t with
  | s2 f l r => show max l.dep r.dep + 1 ≤ _; rw [h.2.1.dep, h.2.2.dep]; decide
  | s1 f x => exact h.elim
  | v _ => exact Nat.zero_le _
  | a _ => exact Nat.zero_le _
  | i _ => exact Nat.zero_le _
noncomputable def listT (es : List T) (e : T) : T := es.foldr (fun x acc => .s2 0 x acc) e
section
variable {B : Bs} {n : Nat} {X : V → List AO → Prop} {σ : List AO} {Q : V → List AO → Prop} {G : Gs} {m : Loc}
theorem CA_textI (P : PF B) {y : Sy} {t : Str} {i : Int} (hy : SyAt y σ) (h0 : 0 ≤ i) (hi : y.texts[i.toNat]? = some t) (h : Q (.str t) σ) : CA B (n + 1) X (.ref 95) [.ref 2, .int i] σ Q := by
  obtain ⟨k, rfl⟩ := Int.eq_ofNat_of_zero_le h0
  exact CA_text P hy hi h
theorem kne {a b : Str} (h : (a == b) = false) : ¬ (a == b) = true := by rw [h]; simp
theorem CA_flaw (P : PF B) {y : Sy} {ties : List T} {R : Int → T} {e : T} (hy : SyAt y σ) (yo : YOk y) (ht : TiesAt ties σ) (r : RT ties R) (he : EntOk y e) (h : ∀ σ', Kp [] σ σ' → Q (.str (flawE y R e)) σ') : CA B (n + 2) X (.ref 660) [.ref 2, e.toV, .ref 7] σ Q := by
  obtain ⟨t1, g1⟩ := P.i_F_EQUAL
  refine CA_fn (others := ["left"]) (G := ⟨["_law_end", "F_EQUAL", "_law_fits"], [], []⟩) thruAll P.f_law_flaw (by decide +kernel) rfl ?_
  refine EXs_next (EX_assign (EV_call (mI 0 rfl) P.g_law_end P.k_law_end rfl (EV_name (v := .ref 7) (mI 2 rfl) (EV_name (v := e.toV) (mI 1 rfl) (CA.op (CA_end P ht (r.end he.wf) ⟨_, (uI 1 rfl), rfl, ?_⟩))))))
  have wrong : ∀ u : T, (∀ k, u ≠ .v k) → (∀ f l r, u ≠ .s2 f l r) → (∀ f l, u ≠ .s1 f l) → flawE y R e = "wrong" → EXs B (n + 1) X ⟨["_law_end", "F_EQUAL", "_law_fits"], [], []⟩ [(("names" : Str), some (V.ref 2)), (("entry" : Str), some u.toV), (("ties" : Str), some (V.ref 7)), (("left" : Str), none)] σ ((fnB (top 52)).drop 1) (FnQ Q) := by
    intro u h1 h2 h3 hf
    have k1 : (u.kind == ("v" : Str)) = false ∧ (u.kind != ("s" : Str)) = true := by
      cases u with
      | v k => exact absurd rfl (h1 k)
      | s2 f l r => exact absurd rfl (h2 f l r)
      | s1 f l => exact absurd rfl (h3 f l)
      | a n => exact ⟨(by show (("a" : Str) == "v") = false; decide +kernel), (by show (("a" : Str) != "s") = true; decide +kernel)⟩
      | i n => exact ⟨(by show (("i" : Str) == "v") = false; decide +kernel), (by show (("i" : Str) != "s") = true; decide +kernel)⟩
    rw [hf] at h
    refine EXs_cons (EX_if (TE_cmp (EV_kind (t := u) (mI 1 rfl) (EV_str (OP_eqS ⟨_, rfl, fun q => absurd q (kne k1.1), fun z_ => ?_⟩)))))
    refine EXs_nil ⟨fun z_ => ?_, fun q => absurd rfl q⟩
    refine EXs_cons (EX_if (TE_or (TE_cmp (EV_kind (t := u) (mI 1 rfl) (EV_str (OP_neS ⟨_, rfl, fun z_ => ⟨fun z_ => ?_, fun q => by cases q⟩, fun q => absurd k1.2 (by rw [q]; simp)⟩))))))
    refine EXs_last (EX_ret (EV_str ⟨fun q => (by cases q), fun z_ => h _ .refl⟩))
  have lacks : ∀ k, flawE y R e = "lacks" → EXs B (n + 1) X ⟨["_law_end", "F_EQUAL", "_law_fits"], [], []⟩ [(("names" : Str), some (V.ref 2)), (("entry" : Str), some (T.v k).toV), (("ties" : Str), some (V.ref 7)), (("left" : Str), none)] σ ((fnB (top 52)).drop 1) (FnQ Q) := by
    intro k hf
    rw [hf] at h
    refine EXs_cons (EX_if (TE_cmp (EV_kind (t := .v k) (mI 1 rfl) (EV_str (OP_eqS ⟨_, rfl, fun z_ => ?_, selfNe⟩)))))
    refine EXs_last (EX_ret (EV_str ⟨fun q => (by cases q), fun z_ => h _ .refl⟩))
  cases e with
  | v k =>
    show EXs B _ X _ [(("names" : Str), some (V.ref 2)), (("entry" : Str), some (R k).toV), (("ties" : Str), some (V.ref 7)), (("left" : Str), none)] _ _ _
    rcases r.good k he.1 he.2 with ⟨j, -, -, hj, -⟩ | ⟨i, hi⟩
    · rw [hj]; exact lacks j (congrArg lwW hj)
    · rw [hi]; exact wrong (.i i) (by simp) (by simp) (by simp) (congrArg lwW hi)
  | a k => exact wrong (.a k) (by simp) (by simp) (by simp) rfl
  | i k => exact he.elim
  | s1 f x => exact he.elim
  | s2 f l rr =>
    obtain ⟨hf0, hl, hr⟩ := he
    refine EXs_cons (EX_if (TE_cmp (EV_kind (t := .s2 f l rr) (mI 1 rfl) (EV_str (OP_eqS ⟨_, rfl, fun q => absurd q (by show ¬ (("s" : Str) == "v") = true; decide +kernel), fun z_ => ?_⟩)))))
    refine EXs_nil ⟨fun z_ => ?_, fun q => absurd rfl q⟩
    refine EXs_cons (EX_if (TE_or (TE_cmp (EV_kind (t := .s2 f l rr) (mI 1 rfl) (EV_str (OP_neS ⟨_, rfl, selfNe2, fun z_ => ?_⟩))))))
    refine TE_cmp (EV_snd (mI 1 rfl) (EV_gint (mI 1 rfl) g1 (OP_neI ⟨_, rfl, fun q => ⟨fun z_ => ?_, fun q => by cases q⟩, fun q => ⟨fun q => (by cases q), fun z_ => ?_⟩⟩)))
    · have hf : f ≠ 10 := by simpa using q
      rw [show flawE y R (.s2 f l rr) = "wrong" from if_neg hf] at h
      refine EXs_last (EX_ret (EV_str ⟨fun q => (by cases q), fun z_ => h _ .refl⟩))
    have hf : f = 10 := by simpa using q
    subst hf
    refine EXs_nil ⟨fun z_ => ?_, fun q => absurd rfl q⟩
    refine EXs_next (EX_assign (EV_call (mI 0 rfl) P.g_law_end P.k_law_end rfl (EV_name (v := .ref 7) (mI 2 rfl) (EV_sub (EV_trd (mI 1 rfl) (EV_int (SUB_tup (k := 0) (x := l.toV) (by decide) rfl (CA.op (CA_end P ht (r.end hl.wf) ⟨_, (uI 3 rfl), rfl, ?_⟩)))))))))
    have fw : ∀ u, endT R l = u → (∀ n, u ≠ .a n) → (∀ k, u ≠ .v k) → flawE y R (.s2 10 l rr) = "wrong" := by
      intro u hu h1 h2
      show adW _ (endT R l) = _
      rw [hu]
      cases u with
      | a n => exact absurd rfl (h1 n)
      | v k => exact absurd rfl (h2 k)
      | _ => rfl
    have leftW : ∀ u : T, endT R l = u → (∀ n, u ≠ .a n) → (∀ k, u ≠ .v k) → EXs B (n + 1) X ⟨["_law_end", "F_EQUAL", "_law_fits"], [], []⟩ [(("names" : Str), some (V.ref 2)), (("entry" : Str), some (T.s2 10 l rr).toV), (("ties" : Str), some (V.ref 7)), (("left" : Str), some u.toV)] σ ((fnB (top 52)).drop 4) (FnQ Q) := by
      intro u hu h1 h2
      have k1 : (u.kind == ("v" : Str)) = false ∧ (u.kind == ("a" : Str)) = false := by
        cases u with
        | v k => exact absurd rfl (h2 k)
        | a k => exact absurd rfl (h1 k)
        | s2 f l r => exact ⟨(by show (("s" : Str) == "v") = false; decide +kernel), (by show (("s" : Str) == "a") = false; decide +kernel)⟩
        | s1 f l => exact ⟨(by show (("s" : Str) == "v") = false; decide +kernel), (by show (("s" : Str) == "a") = false; decide +kernel)⟩
        | i n => exact ⟨(by show (("i" : Str) == "v") = false; decide +kernel), (by show (("i" : Str) == "a") = false; decide +kernel)⟩
      rw [fw u hu h1 h2] at h
      refine EXs_cons (EX_if (TE_cmp (EV_kind (t := u) (mI 3 rfl) (EV_str (OP_eqS ⟨_, rfl, fun q => absurd q (kne k1.1), fun z_ => ?_⟩)))))
      refine EXs_nil ⟨fun z_ => ?_, fun q => absurd rfl q⟩
      refine EXs_last (EX_ret (EV_if (TE_and (TE_cmp (EV_kind (t := u) (mI 3 rfl) (EV_str (OP_eqS ⟨_, rfl, fun q => absurd q (kne k1.2), fun z_ => ⟨fun q => (by cases q), fun z_ => EV_str (h _ .refl)⟩⟩)))))))
    cases l with
    | v k =>
      rcases r.good k hl.1 hl.2 with ⟨j, -, -, hj, -⟩ | ⟨i, hi⟩
      · have eu : endT R (.v k) = .v j := hj
        rw [eu]
        rw [show flawE y R (.s2 10 (.v k) rr) = "lacks" from congrArg (adW _) eu] at h
        refine EXs_cons (EX_if (TE_cmp (EV_kind (t := .v j) (mI 3 rfl) (EV_str (OP_eqS ⟨_, rfl, fun z_ => ?_, selfNe⟩)))))
        refine EXs_last (EX_ret (EV_str ⟨fun q => (by cases q), fun z_ => h _ .refl⟩))
      · have eu : endT R (.v k) = .i i := hi
        rw [eu]
        exact leftW _ eu (by simp) (by simp)
    | i k => exact leftW (.i k) rfl (by simp) (by simp)
    | s1 f x => exact hl.elim
    | s2 f x z => exact hl.elim
    | a k =>
      obtain ⟨k0, k1⟩ := hl
      refine EXs_cons (EX_if (TE_cmp (EV_kind (t := .a k) (mI 3 rfl) (EV_str (OP_eqS ⟨_, rfl, fun q => absurd q (by show ¬ (("a" : Str) == "v") = true; decide +kernel), fun z_ => ?_⟩)))))
      refine EXs_nil ⟨fun z_ => ?_, fun q => absurd rfl q⟩
      refine EXs_last (EX_ret (EV_if (TE_and (TE_cmp (EV_kind (t := .a k) (mI 3 rfl) (EV_str (OP_eqS ⟨_, rfl, fun z_ => ?_, selfNe⟩)))))))
      have hk : y.texts[k.toNat]? = some (y.tx k) := by unfold Sy.tx; rw [List.getElem?_eq_getElem k1]; rfl
      refine TE_val (EV_call (mI 2 rfl) P.g_law_fits P.k_law_fits rfl (EV_imeth rfl (by decide) rfl (EV_name (v := .ref 2) (mI 0 rfl) ⟨2, 154, _, _, rfl, hy.o, P.c_Symbols, P.m_Symbols_text, by decide, ?_⟩)))
      refine EV_snd (mI 3 rfl) ?_
      refine CA.op (CA_textI P hy k0 hk ?_)
      refine CA.op (CA_fits P (yo.len _ (List.mem_of_getElem? hk)) fun σ₁ k₁ => ⟨_, rfl, fun q => ⟨fun z_ => ?_, fun q => by cases q⟩, fun q => ⟨fun q => (by cases q), fun z_ => ?_⟩⟩)
      · rw [show flawE y R (.s2 10 (.a k) rr) = "" from if_pos q] at h
        refine EV_str (h _ k₁)
      · rw [show flawE y R (.s2 10 (.a k) rr) = "wrong" from if_neg (by show ¬ fits (y.tx k) = true; rw [q]; exact Bool.false_ne_true)] at h
        refine EV_str (h _ k₁)
end
noncomputable def EndOk : T → Prop
  | .v k => 0 ≤ k ∧ k < 5
  | .a n => n = 0
  | .i _ => True
  | _ => False
theorem EndOk.wf {t : T} (h : EndOk t) : t.wf := by cases t <;> first | exact h | exact trivial | exact h.elim
noncomputable def endFlaw (R : Int → T) (e : T) : Str := adW (fun n => decide (n = 0)) (endT R e)
noncomputable def flawsL (y : Sy) (R : Int → T) (e : T) (es : List T) : List Str := endFlaw R e :: es.map (flawE y R)
theorem flaw3 (y : Sy) (R : Int → T) (e : T) : flawE y R e = "" ∨ flawE y R e = "lacks" ∨ flawE y R e = "wrong" := by
  cases e with
  | v k =>
    show lwW (R k) = _ ∨ lwW (R k) = _ ∨ lwW (R k) = _
    cases R k with
    | v _ => exact .inr (.inl rfl)
    | _ => exact .inr (.inr rfl)
  | s2 f l r =>
    by_cases h : f = 10
    · rw [show flawE y R (.s2 f l r) = adW _ (endT R l) from if_pos h]; exact adW3 _ _
    · exact .inr (.inr (if_neg h))
  | _ => exact .inr (.inr rfl)
theorem endFlaw3 (R : Int → T) (e : T) : endFlaw R e = "" ∨ endFlaw R e = "lacks" ∨ endFlaw R e = "wrong" := by
  exact adW3 _ _
theorem ne_lacks : ¬ (("lacks" : Str) = "") := by decide +kernel
theorem ne_wrong : ¬ (("wrong" : Str) = "") := by decide +kernel
theorem ne_lw : ¬ (("lacks" : Str) = "wrong") := by decide +kernel
theorem flaw_ok {y : Sy} {R : Int → T} {ties : List T} (r : RT ties R) {e : T} (he : EntOk y e) (h : flawE y R e = "") : ∃ n rr, e = .s2 10 (.a n) rr ∧ fits (y.tx n) = true ∧ 0 ≤ n ∧ n.toNat < y.texts.length ∧ RightOk rr := by
  cases e with
  | v k =>
    have h : lwW (R k) = "" := h
    cases hr : R k with
    | v _ => rw [hr] at h; exact absurd h ne_lacks
    | _ => rw [hr] at h; exact absurd h ne_wrong
  | a k => exact absurd h ne_wrong
  | i k => exact he.elim
  | s1 f x => exact he.elim
  | s2 f l rr =>
    by_cases hf : f = 10
    · rw [show flawE y R (.s2 f l rr) = adW (fun n => fits (y.tx n)) (endT R l) from if_pos hf] at h
      rw [hf]
      cases l with
      | v k =>
        have h : adW (fun n => fits (y.tx n)) (R k) = "" := h
        rcases r.good k he.2.1.1 he.2.1.2 with ⟨j, -, -, hj, -⟩ | ⟨i, hi⟩
        · rw [hj] at h; exact absurd h ne_lacks
        · rw [hi] at h; exact absurd h ne_wrong
      | a n =>
        cases hfit : fits (y.tx n) with
        | true => exact ⟨n, rr, rfl, hfit, he.2.1.1, he.2.1.2, he.2.2⟩
        | false => exact absurd ((if_neg (by show ¬ fits (y.tx n) = true; rw [hfit]; exact Bool.false_ne_true) : adW (fun n => fits (y.tx n)) (.a n) = "wrong").symm.trans h) ne_wrong
      | i n => exact absurd h ne_wrong
      | s1 f x => exact he.2.1.elim
      | s2 f x z => exact he.2.1.elim
    · exact absurd ((if_neg hf : flawE y R (.s2 f l rr) = "wrong").symm.trans h) ne_wrong
theorem numL_keys (l : List Int) (k : Nat) : (numL l k).map (fun p => V.int p.1) = l.map V.int := by
  induction l generalizing k with
  | nil => rfl
  | cons u t ih => show _ :: _ = _ :: _; rw [ih (k + 1)]
noncomputable def keptL (fw : Int → Option Str) : List Int → Nat → List (Int × V)
  | [], _ => []
  | r :: t, k => (match fw r with | some w => [((k : Nat), V.str w)] | none => []) ++ keptL fw t (k + 1)
theorem keptL_app (fw : Int → Option Str) (r : Int) : ∀ (l : List Int) (k : Nat), keptL fw (l ++ [r]) k = keptL fw l k ++ (match fw r with | some w => [(((k + l.length : Nat) : Int), V.str w)] | none => []) := by
  intro l_
  induction l_ with
  | nil =>
    intro k
    simp [keptL]
  | cons u t ih =>
    intro k
    show _ ++ keptL fw (t ++ [r]) (k + 1) = (_ ++ keptL fw t (k + 1)) ++ _
    simp only [ih (k + 1), List.append_assoc, show k + 1 + t.length = k + (u :: t).length by simp; lia -abstractProof]
theorem keptL_lt (fw : Int → Option Str) : ∀ (l : List Int) (k : Nat) (p : Int × V), p ∈ keptL fw l k → (k : Int) ≤ p.1 ∧ p.1 < ((k + l.length : Nat) : Int) ∧ ∃ w, p.2 = .str w := by
  intro l_
  induction l_ with
  | nil =>
    intro k p h
    simp [keptL] at h
  | cons u t ih =>
    intro k p h
    rcases List.mem_append.mp h with h | h
    · split at h
      · simp at h; subst h; exact ⟨by simp, by simp; lia -abstractProof, _, rfl⟩
      · simp at h
    · obtain ⟨a, b, c⟩ := ih (k + 1) p h
      exact ⟨by lia -abstractProof, by simp at b ⊢; lia -abstractProof, c⟩
theorem keptL_len (fw : Int → Option Str) : ∀ (l : List Int) (k : Nat), (keptL fw l k).length ≤ l.length := by
  intro l_
  induction l_ with
  | nil =>
    intro k
    simp [keptL]
  | cons u t ih =>
    intro k
    have := ih (k + 1)
    simp only [keptL, List.length_append, List.length_cons]
    split <;> simp <;> lia -abstractProof
theorem put_new {l : List (Int × V)} {k : Int} {v : V} (h : ∀ p, p ∈ l → p.1 ≠ k) : put l k v = l ++ [(k, v)] := by
  unfold put
  rw [if_neg]
  intro q
  rw [List.any_eq_true] at q
  obtain ⟨p, hp, e⟩ := q
  exact h p hp (by simpa using e)
noncomputable def rightT : T → T
  | .s2 _ _ r => r
  | t => t
noncomputable def lnum : T → Int
  | .s2 _ (.a n) _ => n
  | _ => 0
noncomputable def wordsL (y : Sy) (R : Int → T) (es : List T) (root : Int) : List Str := (es.filter fun e => decide (endT R (rightT e) = .v root)).map fun e => y.tx (lnum e)
noncomputable def fwL (y : Sy) (R : Int → T) (es : List T) (root : Int) : Option Str := (wordsL y R es root).head?
theorem Kp.thaw {D : List Nat} {σ σ' : List AO} {i : Nat} {o : AO} (k : Kp (i :: D) σ σ') (h : σ[i]? = some o) (h' : i < σ'.length) : Kp D σ (σ'.set i o) :=
  ⟨by simpa using k.1, fun j hj hd => by
    by_cases e : j = i
    · subst e; simp only [List.getElem?_set_self h', h]
    · rw [List.getElem?_set_ne (fun q => e q.symm)]; exact k.2 j hj (by simp [e, hd])⟩
section
variable {B : Bs} {n : Nat} {X : V → List AO → Prop} {σ : List AO} {Q : V → List AO → Prop} {G : Gs} {m : Loc}
theorem CA_list (P : PF B) {i : Nat} {es : List T} {e : T} (hi : σ[i]? = some (.list (es.map T.toV))) (hz : es.length ≤ 1000) (h : ∀ σ', Kp [] σ σ' → Q (listT es e).toV σ') : CA B (n + 1) X (.ref 679) [.ref i, e.toV] σ Q := by
  obtain ⟨t1, g1⟩ := P.i_F_DOT
  refine CA_fn (others := ["entry"]) (G := ⟨["F_DOT"], [], []⟩) thruAll P.f_law_list (by decide +kernel) rfl ?_
  refine EXs_next (EX_for thruAll (fun (j : Nat) (m : Loc) (σ' : List AO) => ∃ o, m = [(("entries" : Str), some (V.ref i)), (("end" : Str), some ((es.reverse.take j).foldl (fun acc x => T.s2 0 x acc) e).toV), (("entry" : Str), o)] ∧ σ' = σ ++ [.list (es.map T.toV).reverse]) ?_)
  refine IE_of (EV_sliceRev (EV_name (v := .ref i) (mI 0 rfl) (EV_un (EV_int (OP_neg ⟨i, _, rfl, rfl, hi, by simp; lia -abstractProof, _, _, ITER_list get_app, ?_, ?_, ?_, ?_⟩)))))
  · exact ⟨none, rfl, rfl⟩
  · rintro k m' σ' _ ⟨o, rfl, rfl⟩
    exact get_app
  · rintro k m' σ' x hx ⟨o, rfl, rfl⟩
    rw [← List.map_reverse, List.getElem?_map] at hx
    obtain ⟨t, ht, rfl⟩ := Option.map_eq_some_iff.mp hx
    refine ASG_name ⟨_, (uI 2 rfl), ?_⟩
    refine EXs_last (EX_assign (EV_tuple rfl (by decide) (EV_str (EV_gint (mI 0 rfl) g1 (EV_tuple rfl (by decide) (EV_name (v := t.toV) (mI 2 rfl) (EV_name (v := T.toV _) (mI 1 rfl) ⟨_, (uI 1 rfl), some t.toV, ?_, rfl⟩)))))))
    simp only [List.take_add_one, ht, Option.toList_some, List.foldl_append]
    rfl
  · rintro m' σ' ⟨o, rfl, rfl⟩
    refine ⟨rfl, ?_⟩
    refine EXs_last (EX_ret (EV_name (v := T.toV _) (mI 1 rfl) ?_))
    have : (es.reverse.take (es.map T.toV).reverse.length).foldl (fun acc x => T.s2 0 x acc) e = listT es e := by
      rw [List.length_reverse, List.length_map, ← List.length_reverse, List.take_length, List.foldl_reverse]; rfl
    rw [this]
    exact h _ .app
end
noncomputable def dueInst (y : Sy) : Sy := y.atom "instantiation_error"
noncomputable def dueDom (y : Sy) : Sy := ((y.atom "instantiation_error").func "domain_error" 2).atom "write_option"
noncomputable def fInst (y : Sy) : V := vA ((dueInst y).num "instantiation_error")
noncomputable def fDom (y : Sy) (sv : V) : V := vS (((dueInst y).func "domain_error" 2).fnum [((dueInst y).atom "domain_error").num "domain_error", 2]) [vA ((dueDom y).num "write_option"), sv]
theorem Sy.func_len (y : Sy) (t : Str) (k : Int) : (y.func t k).texts.length ≤ y.texts.length + 1 ∧ (y.func t k).fs.length ≤ y.fs.length + 1 := by
  unfold Sy.func
  rw [Sy.functor_texts]
  have h1 := y.atom_len t
  have h2 := (y.atom t).functor_len [(y.atom t).num t, k]
  rw [Sy.atom_fs] at h2
  exact ⟨h1, h2⟩
noncomputable def notNil (x : Str) : Bool := x != ("" : Str)
noncomputable def dueFl (y : Sy) (R : Int → T) (e : T) (es : List T) : List Str := (flawsL y R e es).filter notNil
theorem endFlaw_v {R : Int → T} {e : T} (h : ((endT R e).kind == ("v" : Str)) = true) : endFlaw R e = "lacks" := by
  unfold endFlaw
  revert h
  cases endT R e with
  | v k => exact fun z_ => rfl
  | a k => exact fun h => absurd h (by show ¬ (("a" : Str) == "v") = true; decide +kernel)
  | i k => exact fun h => absurd h (by show ¬ (("i" : Str) == "v") = true; decide +kernel)
  | s1 f x => exact fun h => absurd h (by show ¬ (("s" : Str) == "v") = true; decide +kernel)
  | s2 f x z => exact fun h => absurd h (by show ¬ (("s" : Str) == "v") = true; decide +kernel)
theorem endFlaw_a {R : Int → T} {e : T} (h : ((endT R e).kind == ("v" : Str)) = false) : endFlaw R e = if endT R e = .a 0 then "" else "wrong" := by
  unfold endFlaw
  revert h
  cases endT R e with
  | v k => exact fun h => absurd h (by show ¬ (("v" : Str) == "v") = false; decide +kernel)
  | a k =>
    intro _
    by_cases hk : k = 0
    · rw [hk, if_pos rfl]; rfl
    · rw [if_neg fun q => hk (T.a.inj q)]; exact if_neg fun q => hk (of_decide_eq_true q)
  | _ => exact fun z_ => congrArg Str.ofString (if_neg fun q => T.noConfusion q).symm
theorem RightOk.toEnd {t : T} (h : RightOk t) : EndOk t := by cases t <;> first | exact h | exact h.elim
theorem end_dep {ties : List T} {R : Int → T} {e : T} (r : RT ties R) (hend : EndOk e) : (endT R e).dep = 0 := by
  cases e with
  | v k =>
    rcases r.good k hend.1 hend.2 with ⟨j, -, -, hj, -⟩ | ⟨i, hi⟩
    · show (R k).dep = 0; rw [hj]; rfl
    · show (R k).dep = 0; rw [hi]; rfl
  | a k => rfl
  | i k => rfl
  | s1 f x => exact hend.elim
  | s2 f x z => exact hend.elim
noncomputable def wdL (y : Sy) (R : Int → T) (es : List T) (root : Int) (k : Nat) : List V := ((es.take k).filter fun e => decide (endT R (rightT e) = .v root)).map fun e => V.str (y.tx (lnum e))
section
variable {y : Sy} {R : Int → T} {es : List T} {root : Int} {k : Nat} {x : T}
theorem wd_yes (hx : es[k]? = some x) (hc : endT R (rightT x) = .v root) : wdL y R es root k ++ [V.str (y.tx (lnum x))] = wdL y R es root (k + 1) := by
  unfold wdL
  rw [List.take_add_one, hx, List.filter_append, List.map_append]; simp [hc]
theorem wd_no (hx : es[k]? = some x) (hc : ¬ endT R (rightT x) = .v root) : wdL y R es root k = wdL y R es root (k + 1) := by
  unfold wdL
  rw [List.take_add_one, hx, List.filter_append, List.map_append]; simp [hc]
theorem wd_all : wdL y R es root es.length = (wordsL y R es root).map V.str := by simp [wdL, wordsL, Function.comp_def]
theorem kept_yes {rs : List Int} {fw : Int → Option Str} {w : Str} (hr : rs[k]? = some root) (h : fw root = some w) : put (keptL fw (rs.take k) 0) (k : Int) (.str w) = keptL fw (rs.take (k + 1)) 0 := by
  have lk : (rs.take k).length = k := by have := (List.getElem?_eq_some_iff.mp hr).1; rw [List.length_take]; lia -abstractProof
  rw [List.take_add_one, hr, Option.toList_some, keptL_app, lk, Nat.zero_add, h]
  refine put_new fun p hp => ?_
  have := (keptL_lt _ _ _ p hp).2.1
  rw [lk] at this
  lia -abstractProof
theorem kept_no {rs : List Int} {fw : Int → Option Str} (hr : rs[k]? = some root) (h : fw root = none) : keptL fw (rs.take k) 0 = keptL fw (rs.take (k + 1)) 0 := by
  rw [List.take_add_one, hr, Option.toList_some, keptL_app, h, List.append_nil]
end
section
variable {B : Bs} {n : Nat} {X : V → List AO → Prop} {σ : List AO} {Q : V → List AO → Prop} {G : Gs} {m : Loc}
noncomputable abbrev duG : Gs := ⟨["_law_end", "A_NIL", "F_ERROR", "A_SYSTEM"], ["names", "ties", "root"], []⟩
noncomputable def duL (ei : Nat) (ev lv sv : V) (fi : Nat) (o8 o9 o10 o11 : Option V) : Loc := [(("names" : Str), some (V.ref 2)), (("entries" : Str), some (V.ref ei)), (("end" : Str), some ev), (("ties" : Str), some (V.ref 7)), (("numbers" : Str), some (V.ref 8)), (("shown" : Str), some sv), (("last" : Str), some lv), (("flaws" : Str), some (V.ref fi)), (("formal" : Str), o8), (("kept" : Str), o9), (("root" : Str), o10), (("words" : Str), o11)]
noncomputable def duB : List Stmt := fnB (nth (fnB (top 53)) 6)
structure KA (σ : List AO) (f : Nat → List V) (k : Nat) (acc : List V) (σ' : List AO) : Prop where
  kp : Kp [] σ σ'
  e : acc = f k
section
variable {y : Sy} {ties : List T} {R : Int → T} {ei fi d ep : Nat} {es : List T} {ev lv sv : V} {rs : List Int} {root : Int} {o8 o9 o11 : Option V} {Qx : AF → Loc → List AO → Prop}
theorem due_words (P : PF B) (hy : SyAt y σ) (ht : TiesAt ties σ) (r : RT ties R) (hei : σ[ei]? = some (.list (es.map T.toV))) (zes : es.length ≤ 1000) (hes : ∀ x, x ∈ es → EntOk y x) (hall : ∀ x, x ∈ es → flawE y R x = "")
    (k : ∀ σ', Kp [] σ σ' → EXs B (n + 3) X duG (duL ei ev lv sv fi o8 o9 (some (.int root)) (some (.ref σ'.length))) (σ' ++ [AO.list ((wordsL y R es root).map V.str)]) (duB.drop 1) Qx) :
    EXs B (n + 3) X duG (duL ei ev lv sv fi o8 o9 (some (.int root)) o11) σ duB Qx := by
  refine EXs_next (EX_comp (cap := ["ties", "names", "root"]) ⟨["_law_end"], [], []⟩ [(("ties" : Str), some (V.ref 7)), (("names" : Str), some (V.ref 2)), (("root" : Str), some (V.int root))] (by decide +kernel) (by decide) rfl (subC (mI 3 rfl) (subC (mI 0 rfl) (subC (mI 10 rfl) subN))) (KA σ (wdL y R es root)) ?_)
  refine IE_of (EV_name (v := .ref ei) (mI 1 rfl) ⟨_, _, ITER_list hei, by rw [List.length_map]; lia -abstractProof, ⟨.refl, rfl⟩, fun z_ z_ z_ z_ I => I.kp.get hei List.not_mem_nil, ?_, ?_⟩)
  · intro j acc σ'' a ha I
    rw [List.getElem?_map] at ha
    refine shut fun P_ o_ => ?_
    obtain ⟨x, hx, ea⟩ := Option.map_eq_some_iff.mp ha
    obtain ⟨nn, rr, ex, -, n0, n1, hrr⟩ := flaw_ok r (hes x (List.mem_of_getElem? hx)) (hall x (List.mem_of_getElem? hx))
    refine o_ ?_
    clear P_ o_ ha k hall hes
    rw [ex] at hx ea
    rw [← ea, I.e]
    have hru := end_dep r hrr.toEnd
    have hk : y.texts[nn.toNat]? = some (y.tx nn) := by unfold Sy.tx; rw [List.getElem?_eq_getElem n1]; rfl
    refine TE_cmp (EV_call (mI 0 rfl) P.g_law_end P.k_law_end rfl (EV_name (v := .ref 7) (mI 1 rfl) (EV_sub (EV_trd (mI 0 rfl) (EV_int (SUB_tup (k := 1) (x := rr.toV) (by decide) rfl (CA.op (CA_end P (ht.kp I.kp (by simp)) (r.end hrr.wf) ?_))))))))
    refine EV_tuple rfl (by decide) (EV_str (EV_name (v := .int root) (mI 3 rfl) (OP_eqT (u := .v root) (by lia -abstractProof) (Nat.zero_le _) ⟨_, rfl, fun q => ?_, fun q => ?_⟩)))
    · refine EV_imeth rfl (by decide) rfl (EV_name (v := .ref 2) (mI 2 rfl) ⟨2, 154, _, _, rfl, (hy.kp I.kp (by simp)).o, P.c_Symbols, P.m_Symbols_text, by decide, ?_⟩)
      exact EV_sub (EV_sub (EV_trd (mI 0 rfl) (EV_int (SUB_tup (k := 0) (x := T.toV (.a nn)) (by decide) rfl (EV_int (SUB_tup (k := 1) (x := .int nn) (by decide) rfl (CA.op (CA_textI P (hy.kp I.kp (by simp)) n0 hk ⟨I.kp, wd_yes (x := .s2 10 (.a nn) rr) hx (of_decide_eq_true q)⟩))))))))
    · exact ⟨I.kp, wd_no (x := .s2 10 (.a nn) rr) hx (of_decide_eq_false q)⟩
  intro acc σ'' I
  rw [List.length_map] at I
  rw [I.e, wd_all]
  exact ⟨_, (uI 11 rfl), rfl, k _ I.kp⟩
inductive DuI (y : Sy) (R : Int → T) (ei fi d ep : Nat) (es : List T) (ev lv sv : V) (rs : List Int) (σ : List AO) (k : Nat) (m : Loc) (σ' : List AO) : Prop
  | mk (o o' : Option V) (em : m = duL ei ev lv sv fi none (some (.ref d)) o o') (kp : Kp [8] σ σ') (h8 : σ'[8]? = some (.dF (numL rs 0) ep)) (hd : σ'[d]? = some (.dI (keptL (fwL y R es) (rs.take k) 0)))
theorem due_keep {k wi : Nat} {σ' : List AO} (hroot : rs[k]? = some root) (nd : rs.Nodup) (hrs : rs.length ≤ 100) (hdl : σ.length ≤ d) (h8l : 8 < σ.length) (hwz : (wordsL y R es root).length ≤ 1000) (kp : Kp [8] σ σ') (hw : σ'[wi]? = some (.list ((wordsL y R es root).map V.str))) (h8 : σ'[8]? = some (.dF (numL rs 0) ep)) (hd : σ'[d]? = some (.dI (keptL (fwL y R es) (rs.take k) 0)))
    (fin : ∀ m' σ'', DuI y R ei fi d ep es ev lv sv rs σ (k + 1) m' σ'' → Qx .nxt m' σ'') :
    EXs B (n + 3) X duG (duL ei ev lv sv fi none (some (.ref d)) (some (.int root)) (some (.ref wi))) σ' (duB.drop 1) Qx := by
  have kl := (Kp.app (σ := σ') (D := []) (t := [AO.list []]))
  refine EXs_last (EX_if (TE_cmp (EV_name (v := .ref wi) (mI 11 rfl) (EV_list rfl (by decide) (OP_neL0 (l := (wordsL y R es root).map V.str) (kl.get hw List.not_mem_nil) get_app (by rw [List.length_map]; lia -abstractProof) ⟨_, rfl, fun q => ?_, fun q => ?_⟩)))))
  · have h8' := kl.get h8 List.not_mem_nil
    have hd' := kl.get hd List.not_mem_nil
    have hw' := kl.get hw List.not_mem_nil
    have k6 := kp.trans (kl.mono (D' := [8]) nofun)
    have hx : rs.idxOf root = k := by
      obtain ⟨h1, h2⟩ := List.getElem?_eq_some_iff.mp hroot
      rw [← h2]; exact nd.idxOf_getElem k h1
    have hmem := List.mem_of_getElem? hroot
    have lk : (rs.take k).length ≤ 100 := by rw [List.length_take]; lia -abstractProof
    clear kp hw h8 hd kl
    generalize σ' ++ [AO.list []] = σ₁ at h8' hd' hw' k6 ⊢
    cases hwl : wordsL y R es root with
    | nil => rw [hwl] at q; exact nomatch q
    | cons w wt =>
      have ef : fwL y R es root = some w := by unfold fwL; rw [hwl]; rfl
      rw [hwl] at hw'
      refine EXs_last (EX_setitem (EV_sub (EV_name (v := .ref wi) (mI 11 rfl) (EV_int (SUB_list (k := 0) (x := .str w) hw' (by decide) (by decide) rfl ?_)))))
      refine EV_name (v := .ref d) (mI 9 rfl) (EV_sub (EV_name (v := .ref 8) (mI 4 rfl) (EV_name (v := .int root) (mI 10 rfl) (SUB_dF (x := .int (k : Nat)) h8' ?_ ?_))))
      · rw [numL_at, if_pos hmem, Nat.zero_add, hx]
      refine OP_setI hd' (by have := keptL_len (fwL y R es) (rs.take k) 0; lia -abstractProof) (fin _ _ ⟨_, _, rfl, k6.setN hdl, ?_, ?_⟩)
      · rw [List.getElem?_set_ne (by lia -abstractProof)]; exact h8'
      · rw [set_get hd', kept_yes hroot ef]
  · have hq : wordsL y R es root = [] := by simpa using q
    have ef : fwL y R es root = none := by unfold fwL; rw [hq]; rfl
    exact EXs_nil (fin _ _ ⟨_, _, rfl, kp.trans (kl.mono nofun), kl.get h8 List.not_mem_nil, by rw [← kept_no hroot ef]; exact kl.get hd List.not_mem_nil⟩)
theorem due_kept (P : PF B) {σ' : List AO} (hy : SyAt y σ) (ht : TiesAt ties σ) (r : RT ties R) (hei : σ[ei]? = some (.list (es.map T.toV))) (zes : es.length ≤ 1000) (hes : ∀ x, x ∈ es → EntOk y x) (hall : ∀ x, x ∈ es → flawE y R x = "") (hnum : σ[8]? = some (.dI (numL rs 0))) (hrs : rs.length ≤ 100) (nd : rs.Nodup) (he9 : ei ≠ 8) (kp : Kp [] σ σ')
    (h0 : ∀ σ' d, Kp [] σ σ' → σ.length ≤ d → σ'[d]? = some (.dI (keptL (fwL y R es) rs 0)) → Q (.tup [.str "names", .ref d]) σ') :
    EXs B (n + 3) X duG (duL ei ev lv sv fi none none none none) σ' ((fnB (top 53)).drop 5) (FnQ Q) := by
  refine EXs_next (EX_assign (EV_dI ⟨_, (uI 9 rfl), rfl, ?_⟩))
  have k5 := kp.trans (.app (t := [.dI []]))
  have hd5 : (σ' ++ [.dI []])[σ'.length]? = some (.dI []) := get_app
  have hdl := kp.1
  have h8l := idx_lt hnum
  generalize σ' ++ [.dI []] = σ₅ at k5 hd5 ⊢
  generalize σ'.length = d at hd5 hdl ⊢
  clear kp σ'
  refine EXs_next (EX_forE thruAll (IE_dict (EV_name (v := .ref 8) (mI 4 rfl) ⟨8, _, rfl, k5.get hnum List.not_mem_nil, fun ep => ⟨DuI y R ei fi d ep es ev lv sv rs σ, ⟨none, none, rfl, (k5.mono nofun).trans (.set (.head _)), set_get (k5.get hnum List.not_mem_nil), by rw [List.getElem?_set_ne (by lia -abstractProof)]; exact hd5⟩, ?_, ?_, ?_⟩⟩)))
  · intro k m' σ' _ I
    cases I with
    | mk _ _ _ _ h _ => exact h
  · intro k m' σ' x hx I
    refine shut fun P_ o_ => ?_
    rw [numL_keys, List.getElem?_map] at hx
    obtain ⟨root, hroot, ex⟩ := Option.map_eq_some_iff.mp hx
    obtain ⟨o, o', em, kp, h8, hd⟩ := I
    refine o_ ?_
    rw [← ex, em]
    refine ASG_name ⟨_, (uI 10 rfl), ?_⟩
    refine due_words P (hy.kp kp (by simp)) (ht.kp kp (by simp)) r (kp.get hei (by simpa using he9)) zes hes hall fun σ'' k2 => ?_
    have k3 := k2.trans (.app (t := [AO.list ((wordsL y R es root).map V.str)]))
    exact due_keep hroot nd hrs hdl h8l (Nat.le_trans (by unfold wordsL; rw [List.length_map]; exact List.length_filter_le _ _) zes) (kp.trans (k3.mono nofun)) get_app (k3.get h8 List.not_mem_nil) (k3.get hd List.not_mem_nil) fun z_ z_ h => h
  · intro m' σ' I
    refine shut fun P_ o_ => ?_
    obtain ⟨o, o', em, kp, h8, hd⟩ := I
    refine o_ ?_
    rw [List.length_map, numL_len, List.take_length] at hd
    rw [em]
    refine ⟨rfl, EXs_thaw h8 ?_⟩
    exact EXs_last (EX_ret (EV_tuple rfl (by decide) (EV_str (EV_name (v := .ref d) (mI 9 rfl) (h0 _ d (kp.thaw hnum (idx_lt h8)) hdl (by rw [List.getElem?_set_ne (by lia -abstractProof)]; exact hd))))))
theorem due_bad (P : PF B) {f0 : Str} {ft : List Str} {σ₄ : List AO} (hy : SyAt y σ) (z1 : y.texts.length < 9000) (z2 : y.fs.length < 9000) (k4 : Kp [] σ σ₄) (hf : σ₄[fi]? = some (.list ((f0 :: ft).map V.str))) (hfi : 6 < fi) (hf0 : f0 = "lacks" ∨ f0 = "wrong")
    (h1 : f0 = "lacks" → ∀ σ', Kp [3, 4, 5, 6] σ σ' → SyAt (dueInst y) σ' → Q (.tup [.str "error", vSys (fInst y)]) σ')
    (h2 : f0 = "wrong" → ∀ σ', Kp [3, 4, 5, 6] σ σ' → SyAt (dueDom y) σ' → Q (.tup [.str "error", vSys (fDom y sv)]) σ') :
    EXs B (n + 3) X duG (duL ei ev lv sv fi none none none none) σ₄ (fnB (nth (fnB (top 53)) 4)) (Cn B (n + 3) X duG ((fnB (top 53)).drop 5) (FnQ Q)) := by
  obtain ⟨t2, g2⟩ := P.i_F_ERROR
  obtain ⟨t3, g3⟩ := P.i_A_SYSTEM
  have z3 := Sy.atom_len y "instantiation_error"
  refine EXs_next (EX_assign (EV_tuple rfl (by decide) (EV_str (EV_imeth rfl (by decide) rfl (EV_name (v := .ref 2) (mI 0 rfl) ⟨2, 154, _, _, rfl, (hy.kp k4 (by simp)).o, P.c_Symbols, P.m_Symbols_atom, by decide, ?_⟩)))))
  refine EV_str (CA.op (CA_atom P (hy.kp k4 (by simp)) (by lia -abstractProof) fun σ₅ e5 k5 y5 => ⟨_, (uI 8 rfl), rfl, ?_⟩))
  have k05 : Kp [3, 4, 5, 6] σ σ₅ := (k4.mono nofun).trans (k5.mono (by simp))
  have hf5 := k5.get hf (by simp; lia -abstractProof)
  clear k4 k5 hf hy
  rcases hf0 with e | e
  · rw [e] at hf5
    refine EXs_cons (EX_if (TE_cmp (EV_sub (EV_name (v := .ref fi) (mI 7 rfl) (EV_int (SUB_list (k := 0) (x := .str "lacks") hf5 (by decide) (by decide) rfl (EV_str (OP_eqS ⟨_, rfl, fun q => absurd q (by decide +kernel), fun z_ => ?_⟩))))))))
    refine EXs_nil ⟨fun z_ => ?_, fun q => absurd rfl q⟩
    exact EXs_last (EX_ret (EV_tuple rfl (by decide) (EV_str (EV_tuple rfl (by decide) (EV_str (EV_gint (mI 2 rfl) g2 (EV_tuple rfl (by decide) (EV_name (v := fInst y) (mI 8 rfl) (EV_tuple rfl (by decide) (EV_str (EV_gint (mI 3 rfl) g3 ⟨nofun, fun z_ => h1 e σ₅ k05 y5⟩)))))))))))
  · rw [e] at hf5
    have z4 := Sy.func_len (dueInst y) "domain_error" 2
    have z5 : (y.atom "instantiation_error").fs.length = y.fs.length := by rw [Sy.atom_fs]
    refine EXs_cons (EX_if (TE_cmp (EV_sub (EV_name (v := .ref fi) (mI 7 rfl) (EV_int (SUB_list (k := 0) (x := .str "wrong") hf5 (by decide) (by decide) rfl (EV_str (OP_eqS ⟨_, rfl, fun z_ => ?_, fun q => absurd q (by simp)⟩))))))))
    refine EXs_last (EX_assign (EV_tuple rfl (by decide) (EV_str (EV_imeth rfl (by decide) rfl (EV_name (v := .ref 2) (mI 0 rfl) ⟨2, 154, _, _, rfl, y5.o, P.c_Symbols, P.m_Symbols_func, by decide, ?_⟩)))))
    refine EV_str (EV_int (CA.op (CA_func P y5 (by show (y.atom _).texts.length < _; lia -abstractProof) (by show (y.atom _).fs.length < _; lia -abstractProof) fun σ₆ e6 k6 y6 => ?_)))
    refine EV_tuple rfl (by decide) (EV_tuple rfl (by decide) (EV_str (EV_imeth rfl (by decide) rfl (EV_name (v := .ref 2) (mI 0 rfl) ⟨2, 154, _, _, rfl, y6.o, P.c_Symbols, P.m_Symbols_atom, by decide, ?_⟩))))
    refine EV_str (CA.op (CA_atom P y6 (by unfold dueInst at z4; lia -abstractProof) fun σ₇ e7 k7 y7 => ?_))
    refine EV_name (v := sv) (mI 5 rfl) ⟨_, (uI 8 rfl), fun z_ => ?_, fun q => absurd rfl q⟩
    exact EXs_last (EX_ret (EV_tuple rfl (by decide) (EV_str (EV_tuple rfl (by decide) (EV_str (EV_gint (mI 2 rfl) g2 (EV_tuple rfl (by decide) (EV_name (v := fDom y sv) (mI 8 rfl) (EV_tuple rfl (by decide) (EV_str (EV_gint (mI 3 rfl) g3 ⟨nofun, fun z_ => h2 e σ₇ ((k05.trans k6).trans (k7.mono (by simp))) y7⟩)))))))))))
end
noncomputable def flE (y : Sy) (R : Int → T) (es : List T) (k : Nat) : List V := (es.take k).map fun x => V.str (flawE y R x)
noncomputable def flF (l : List Str) (k : Nat) : List V := ((l.take k).filter notNil).map V.str
theorem flE_next {y : Sy} {R : Int → T} {es : List T} {k : Nat} {x : T} (hx : es[k]? = some x) : flE y R es k ++ [V.str (flawE y R x)] = flE y R es (k + 1) := by
  unfold flE; rw [List.take_add_one, hx]; simp
theorem flF_next {l : List Str} {k : Nat} {x : Str} (hx : l[k]? = some x) : flF l (k + 1) = if notNil x then flF l k ++ [V.str x] else flF l k := by
  unfold flF
  rw [List.take_add_one, hx, List.filter_append, List.map_append]
  cases h : notNil x <;> simp [h]
theorem dueFl_of {y : Sy} {R : Int → T} {e : T} {es : List T} {x : Str} (hx : x ∈ dueFl y R e es) : x = "lacks" ∨ x = "wrong" := by
  unfold dueFl at hx
  rw [List.mem_filter] at hx
  obtain ⟨hx, hn⟩ := hx
  have hn' : x ≠ "" := by simpa [notNil] using hn
  rcases List.mem_cons.mp hx with hx | hx
  · rcases endFlaw3 R e with q | q | q
    · rw [q] at hx; exact absurd hx hn'
    · exact .inl (hx.trans q)
    · exact .inr (hx.trans q)
  · obtain ⟨z, -, rfl⟩ := List.mem_map.mp hx
    rcases flaw3 y R z with q | q | q
    · exact absurd q hn'
    · exact .inl q
    · exact .inr q
theorem dueFl_nil {y : Sy} {R : Int → T} {e : T} {es : List T} (q : dueFl y R e es = []) (x : T) (hx : x ∈ es) : flawE y R x = "" := by
  unfold dueFl at q
  rw [List.filter_eq_nil_iff] at q
  have := q (flawE y R x) (List.mem_cons_of_mem _ (List.mem_map.mpr ⟨x, hx, rfl⟩))
  simpa [notNil] using this
theorem due_fl (P : PF B) {y : Sy} {ties : List T} {R : Int → T} {ei : Nat} {es : List T} {e : T} {ev lv sv : V} (hy : SyAt y σ) (yo : YOk y) (ht : TiesAt ties σ) (r : RT ties R) (hei : σ[ei]? = some (.list (es.map T.toV))) (zes : es.length ≤ 1000) (hes : ∀ x, x ∈ es → EntOk y x)
    {Qx : AF → Loc → List AO → Prop} (h : ∀ σ' fi, Kp [] σ σ' → 6 < fi → σ'[fi]? = some (.list ((dueFl y R e es).map V.str)) → EXs B (n + 3) X duG (duL ei ev lv sv fi none none none none) σ' ((fnB (top 53)).drop 4) Qx) :
    EXs B (n + 3) X duG (duL ei ev lv sv σ.length none none none none) (σ ++ [.list [.str (endFlaw R e)]]) ((fnB (top 53)).drop 2) Qx := by
  have k1 : Kp [] σ (σ ++ [.list [.str (endFlaw R e)]]) := .app
  have hf1 : (σ ++ [.list [.str (endFlaw R e)]])[σ.length]? = some (.list [.str (endFlaw R e)]) := get_app
  generalize σ ++ [.list [.str (endFlaw R e)]] = σ₁ at k1 hf1 ⊢
  have l6 := hy.len
  have hei1 := k1.get hei List.not_mem_nil
  refine EXs_next (EX_aug (mI 7 rfl) ?_)
  refine EV_comp (cap := ["ties", "names"]) ⟨["_law_flaw"], [], []⟩ [(("ties" : Str), some (V.ref 7)), (("names" : Str), some (V.ref 2))] (by decide +kernel) (by decide) rfl (subC (mI 3 rfl) (subC (mI 0 rfl) subN)) (KA σ₁ (flE y R es)) ?_
  refine IE_of (EV_name (v := .ref ei) (mI 1 rfl) ⟨_, _, ITER_list hei1, by rw [List.length_map]; lia -abstractProof, ⟨.refl, rfl⟩, fun z_ z_ z_ z_ I => I.kp.get hei1 List.not_mem_nil, ?_, ?_⟩)
  · intro k acc σ' a ha I
    rw [List.getElem?_map] at ha
    refine shut fun P_ o_ => ?_
    obtain ⟨x, hx, ea⟩ := Option.map_eq_some_iff.mp ha
    refine o_ ?_
    rw [← ea]
    refine ⟨fun z_ => ?_, nofun⟩
    have kp := k1.trans I.kp
    exact EV_call (mI 0 rfl) P.g_law_flaw P.k_law_flaw rfl (EV_name (v := .ref 2) (mI 2 rfl) (EV_name (v := x.toV) (mI 0 rfl) (EV_name (v := .ref 7) (mI 1 rfl) (CA.op (CA_flaw P (hy.kp kp (by simp)) yo (ht.kp kp (by simp)) r (hes x (List.mem_of_getElem? hx)) fun σ'' kp' => ⟨I.kp.trans kp', by rw [I.e]; exact flE_next hx⟩)))))
  intro acc σ₂ I
  rw [List.length_map] at I
  have k2 := I.kp
  rw [I.e]
  have hf2 := k2.get hf1 List.not_mem_nil
  refine OP_iaddL (i := σ.length) (by rw [List.getElem?_append_left (idx_lt hf2)]; exact hf2) get_app (by simp) (by unfold flE; simp; lia -abstractProof) ⟨_, (uI 7 rfl), rfl, ?_⟩
  have e3 : [V.str (endFlaw R e)] ++ flE y R es es.length = (flawsL y R e es).map V.str := by simp [flawsL, flE, Function.comp_def]
  rw [e3]
  have k3 : Kp [] σ ((σ₂ ++ [AO.list (flE y R es es.length)]).set σ.length (.list ((flawsL y R e es).map V.str))) := ((k1.trans k2).trans .app).setN (Nat.le_refl _)
  have hf3 : ((σ₂ ++ [AO.list (flE y R es es.length)]).set σ.length (.list ((flawsL y R e es).map V.str)))[σ.length]? = some (.list ((flawsL y R e es).map V.str)) := set_get (by rw [List.getElem?_append_left (idx_lt hf2)]; exact hf2)
  generalize (σ₂ ++ [AO.list (flE y R es es.length)]).set σ.length (.list ((flawsL y R e es).map V.str)) = σ₃ at k3 hf3 ⊢
  have zl : (flawsL y R e es).length ≤ 1001 := by simp [flawsL]; lia -abstractProof
  clear I k2 hf2 e3 hf1 hei1 k1
  refine EXs_next (EX_comp (cap := []) ⟨[], [], []⟩ [] (by decide +kernel) (by decide) rfl subN (KA σ₃ (flF (flawsL y R e es))) ?_)
  refine IE_of (EV_name (v := .ref σ.length) (mI 7 rfl) ⟨_, _, ITER_list hf3, by rw [List.length_map]; lia -abstractProof, ⟨.refl, rfl⟩, fun z_ z_ z_ z_ I => I.kp.get hf3 List.not_mem_nil, ?_, ?_⟩)
  · intro k acc σ' a ha I
    rw [List.getElem?_map] at ha
    refine shut fun P_ o_ => ?_
    obtain ⟨x, hx, ea⟩ := Option.map_eq_some_iff.mp ha
    refine o_ ?_
    rw [← ea, I.e]
    refine TE_cmp (EV_name (v := .str x) (mI 0 rfl) (EV_str (OP_neS ⟨_, rfl, fun q => EV_name (v := .str x) (mI 0 rfl) ⟨I.kp, ?_⟩, fun q => ⟨I.kp, ?_⟩⟩)))
    · rw [flF_next hx, if_pos (c := notNil x = true) q]
    · rw [flF_next hx, if_neg (by unfold notNil; rw [q]; exact nofun)]
  intro acc σ' I
  rw [List.length_map] at I
  rw [I.e]
  have e4 : flF (flawsL y R e es) (flawsL y R e es).length = (dueFl y R e es).map V.str := by unfold flF; rw [List.take_length]; rfl
  rw [e4]
  exact ⟨_, (uI 7 rfl), rfl, h _ _ ((k3.trans I.kp).trans .app) (by have := k3.1; have := I.kp.1; lia -abstractProof) get_app⟩
theorem CA_due (P : PF B) {y : Sy} {ties : List T} {R : Int → T} {ei : Nat} {es : List T} {e : T} {rs : List Int} {sv : V} (hy : SyAt y σ) (yo : YOk y) (z1 : y.texts.length < 9000) (z2 : y.fs.length < 9000) (ht : TiesAt ties σ) (r : RT ties R)
    (hei : σ[ei]? = some (.list (es.map T.toV))) (zes : es.length ≤ 1000) (hes : ∀ x, x ∈ es → EntOk y x) (hend : EndOk e) (hnum : σ[8]? = some (.dI (numL rs 0))) (hrs : rs.length ≤ 100) (nd : rs.Nodup) (he9 : ei ≠ 8)
    (h0 : dueFl y R e es = [] → ∀ σ' d, Kp [] σ σ' → σ.length ≤ d → σ'[d]? = some (.dI (keptL (fwL y R es) rs 0)) → Q (.tup [.str "names", .ref d]) σ')
    (h1 : ∀ t, dueFl y R e es = ("lacks" : Str) :: t → ∀ σ', Kp [3, 4, 5, 6] σ σ' → SyAt (dueInst y) σ' → Q (.tup [.str "error", vSys (fInst y)]) σ')
    (h2 : ∀ t, dueFl y R e es = ("wrong" : Str) :: t → ∀ σ', Kp [3, 4, 5, 6] σ σ' → SyAt (dueDom y) σ' → Q (.tup [.str "error", vSys (fDom y sv)]) σ') :
    CA B (n + 4) X (.ref 665) [.ref 2, .ref ei, e.toV, .ref 7, .ref 8, sv] σ Q := by
  obtain ⟨t1, g1⟩ := P.i_A_NIL
  refine CA_fn (others := ["last", "flaws", "formal", "kept", "root", "words"]) (G := duG) thruAll P.f_law_due (by decide +kernel) rfl ?_
  refine EXs_next (EX_assign (EV_call (mI 0 rfl) P.g_law_end P.k_law_end rfl (EV_name (v := .ref 7) (mI 3 rfl) (EV_name (v := e.toV) (mI 2 rfl) (CA.op (CA_end P ht (r.end hend.wf) ⟨_, (uI 6 rfl), rfl, ?_⟩))))))
  have hu := end_dep r hend
  have step2 : EXs B (n + 3) X duG (duL ei e.toV (endT R e).toV sv σ.length none none none none) (σ ++ [.list [.str (endFlaw R e)]]) ((fnB (top 53)).drop 2) (FnQ Q) := by
    refine due_fl P hy yo ht r hei zes hes fun σ₄ fi k4 hfi hf4 => ?_
    have zf : (dueFl y R e es).length ≤ 1001 := Nat.le_trans (List.length_filter_le _ _) (by simp [flawsL]; lia -abstractProof)
    have kl := (Kp.app (σ := σ₄) (D := []) (t := [AO.list []]))
    refine EXs_cons (EX_if (TE_cmp (EV_name (v := .ref fi) (mI 7 rfl) (EV_list rfl (by decide) (OP_neL0 (l := (dueFl y R e es).map V.str) (kl.get hf4 List.not_mem_nil) get_app (by rw [List.length_map]; lia -abstractProof) ⟨_, rfl, fun q => ?_, fun q => ?_⟩)))))
    · cases hd : dueFl y R e es with
      | nil => rw [hd] at q; exact nomatch q
      | cons f0 ft =>
        rw [hd] at hf4
        exact due_bad P hy z1 z2 (k4.trans kl) (kl.get hf4 List.not_mem_nil) hfi (dueFl_of (by rw [hd]; exact List.Mem.head ft)) (fun q => h1 ft (by rw [hd, q])) (fun q => h2 ft (by rw [hd, q]))
    · have q' : dueFl y R e es = [] := by simpa using q
      exact EXs_nil ⟨fun z_ => due_kept P hy ht r hei zes hes (dueFl_nil q') hnum hrs nd he9 (k4.trans kl) (h0 q'), fun q => absurd rfl q⟩
  refine EXs_next (EX_assign (EV_list rfl (by decide) (EV_if (TE_cmp (EV_kind (t := endT R e) (mI 6 rfl) (EV_str (OP_eqS ⟨_, rfl, fun q => ?_, fun q => ?_⟩)))))))
  · rw [endFlaw_v q] at step2
    exact EV_str ⟨_, (uI 7 rfl), rfl, step2⟩
  · rw [endFlaw_a q] at step2
    refine EV_if (TE_cmp (EV_name (v := (endT R e).toV) (mI 6 rfl) (EV_tuple rfl (by decide) (EV_str (EV_gint (mI 1 rfl) g1 (OP_eqT (u := .a 0) (by lia -abstractProof) (Nat.zero_le _) ⟨_, rfl, fun q => ?_, fun q => ?_⟩))))))
    · rw [if_pos (of_decide_eq_true q)] at step2
      exact EV_str ⟨_, (uI 7 rfl), rfl, step2⟩
    · rw [if_neg (of_decide_eq_false q)] at step2
      exact EV_str ⟨_, (uI 7 rfl), rfl, step2⟩
end
structure YI (y : Sy) (k : Nat) : Prop where
  ext : ∃ l, y.texts = atoms0 ++ l ∧ l.length ≤ k ∧ ∀ t, t ∈ l → t.length ≤ 1000
  nd : y.texts.Nodup
  fs : y.fs = sy0.fs
theorem YI.ok {y : Sy} {k : Nat} (h : YI y k) : YOk y := by
  refine ⟨?_, h.nd, by rw [h.fs]; decide +kernel⟩
  obtain ⟨l, e, -, hl⟩ := h.ext
  intro t ht
  rw [e] at ht
  rcases List.mem_append.mp ht with q | q
  · have : ∀ t ∈ atoms0, t.length ≤ 1000 := by decide +kernel
    exact this t q
  · exact hl t q
theorem YI.sz {y : Sy} {k : Nat} (h : YI y k) : y.texts.length ≤ 29 + k ∧ y.fs.length = 32 := by
  refine shut fun P_ o_ => ?_
  obtain ⟨l, e, hl, -⟩ := h.ext
  refine o_ ?_
  refine ⟨by rw [e, List.length_append]; have : atoms0.length = 29 := by decide +kernel
             lia -abstractProof, by rw [h.fs]; decide +kernel⟩
theorem YI.atom {y : Sy} {k : Nat} (h : YI y k) {w : Str} (hw : w.length ≤ 1000) : YI (y.atom w) (k + 1) := by
  obtain ⟨l, e, hl, hl2⟩ := h.ext
  unfold Sy.atom
  split
  · exact ⟨⟨l, e, by lia -abstractProof, hl2⟩, h.nd, h.fs⟩
  · rename_i hn
    refine ⟨⟨l ++ [w], by simp [e], by simp; lia -abstractProof, fun t ht => ?_⟩, ?_, h.fs⟩
    · rcases List.mem_append.mp ht with q | q
      · exact hl2 t q
      · simp at q; rw [q]; exact hw
    · rw [List.nodup_append]
      exact ⟨h.nd, by simp, fun a ha b hb => by simp at hb; rintro rfl; exact hn (hb ▸ ha)⟩
theorem Sy.num_lt (y : Sy) (w : Str) : 0 ≤ (y.atom w).num w ∧ ((y.atom w).num w).toNat < (y.atom w).texts.length := by
  unfold Sy.num
  refine ⟨by lia -abstractProof, ?_⟩
  simp only [Int.toNat_natCast]
  refine List.idxOf_lt_length_of_mem ?_
  unfold Sy.atom; split <;> simp_all
theorem YI.minus {y : Sy} {k : Nat} (h : YI y k) : y.func "-" 2 = y ∧ (y.func "-" 2).fnum [(y.atom "-").num "-", 2] = 13 := by
  refine shut fun P_ o_ => ?_
  obtain ⟨l, e, hl, hl2⟩ := h.ext
  refine o_ ?_
  have m0 : ("-" : Str) ∈ atoms0 := by decide +kernel
  have e1 : y.atom "-" = y := by
    unfold Sy.atom; rw [if_pos (by rw [e]; exact List.mem_append_left _ m0)]
  have e2 : y.num "-" = 3 := by
    unfold Sy.num; rw [e, List.idxOf_append, if_pos m0]
    have : atoms0.idxOf ("-" : Str) = 3 := by decide +kernel
    rw [this]; rfl
  have m1 : [(3 : Int), 2] ∈ sy0.fs := by decide +kernel
  have e3 : y.func "-" 2 = y := by
    unfold Sy.func; rw [e1, e2]; unfold Sy.functor; rw [if_pos (by rw [h.fs]; exact m1)]
  refine ⟨e3, ?_⟩
  rw [e3, e1, e2]; unfold Sy.fnum; rw [h.fs]
  have : sy0.fs.idxOf [3, 2] = 13 := by decide +kernel
  rw [this]; rfl
theorem LeafOk.mono {y y' : Sy} {t : T} (h : LeafOk y t) (hl : y.texts.length ≤ y'.texts.length) : LeafOk y' t := by
  cases t with
  | a n => exact ⟨h.1, Nat.lt_of_lt_of_le h.2 hl⟩
  | v k => exact h
  | i k => exact h
  | s1 f x => exact h.elim
  | s2 f x z => exact h.elim
theorem EntOk.mono {y y' : Sy} {t : T} (h : EntOk y t) (hl : y.texts.length ≤ y'.texts.length) : EntOk y' t := by
  cases t with
  | a n => exact h
  | v k => exact h
  | i k => exact h
  | s1 f x => exact h.elim
  | s2 f x z => exact ⟨h.1, h.2.1.mono hl, h.2.2⟩
theorem PoolAt.kp {σ σ' : List AO} {D : List Nat} (p : PoolAt σ) (k : Kp D σ σ') (h : 0 ∉ D ∧ 1 ∉ D) : PoolAt σ' := by
  obtain ⟨s, d, a, c, h0, hl, h1, hd, ha⟩ := p
  exact ⟨s, d, a, c, k.get h0 h.1, hl, k.get h1 h.2, hd, ha⟩
structure Rd (σ σ' : List AO) : Prop where
  len : σ'.length = σ.length
  kp : Kp [1, 3, 4, 5, 6] σ σ'
  pool : PoolAt σ'
theorem Rd.trans {σ σ' σ'' : List AO} (a : Rd σ σ') (b : Rd σ' σ'') : Rd σ σ'' := ⟨b.len.trans a.len, a.kp.trans b.kp, b.pool⟩
theorem Dr.rd {σ σ' : List AO} (d : Dr σ σ') : Rd σ σ' := ⟨d.len, d.kp.mono (by decide), d.pool⟩
theorem SyAt.dr {y : Sy} {σ σ' : List AO} (s : SyAt y σ) (d : Dr σ σ') : SyAt y σ' := s.kp d.kp (by decide)
section
variable {B : Bs} {n : Nat} {X : V → List AO → Prop} {σ : List AO} {Q : V → List AO → Prop} {G : Gs} {m : Loc}
theorem CA_entry (P : PF B) {y : Sy} {k : Nat} (hp : PoolAt σ) (hy : SyAt y σ) (yi : YI y k) (hk : k ≤ 100) (h : ∀ e y' σ', Rd σ σ' → SyAt y' σ' → YI y' (k + 1) → y.texts.length ≤ y'.texts.length → EntOk y' e → Q e.toV σ') : CA B (n + 3) X (.ref 636) [.ref 1, .ref 2] σ Q := by
  obtain ⟨t1, gnil⟩ := P.i_A_NIL
  refine shut fun P_ o_ => ?_
  obtain ⟨t2, g2⟩ := P.i_F_EQUAL
  refine o_ ?_
  refine CA_fn (others := ["form", "word", "target", "left", "right"]) (G := ⟨["_law_draw", "_law_word", "_law_odd", "A_NIL", "F_EQUAL"], [], []⟩) thruAll P.f_law_entry (by decide +kernel) rfl ?_
  refine EXs_next (EX_assign (EV_draw P (mI 0 rfl) (mI 0 rfl) hp (by decide) (by decide) fun form σ₁ f0 f1 d₁ => ⟨_, (uI 2 rfl), rfl, ?_⟩))
  refine EXs_next (EX_assign (EV_call (mI 1 rfl) P.g_law_word P.k_law_word rfl (EV_name (v := .ref 1) (mI 0 rfl) (CA.op (CA_word P d₁.pool fun word σ₂ wl d₂ => ⟨_, (uI 3 rfl), rfl, ?_⟩)))))
  refine EXs_next (EX_assign (EV_draw P (mI 0 rfl) (mI 0 rfl) d₂.pool (by decide) (by decide) fun target σ₃ g0 g1 d₃ => ⟨_, (uI 4 rfl), rfl, ?_⟩))
  have d03 : Dr σ σ₃ := (d₁.trans d₂).trans d₃
  have y3 := hy.dr d03
  clear d₁ d₂ d₃
  have yz := yi.sz
  refine EXs_cons (EX_if (TE_cmp (EV_name (v := .int form) (mI 2 rfl) (EV_int (OP_eqI ⟨_, rfl, fun q => ?_, fun q => ?_⟩)))))
  · refine EXs_last (EX_ret (EV_tuple rfl (by decide) (EV_str (EV_draw P (mI 0 rfl) (mI 0 rfl) d03.pool (by decide) (by decide) fun v σ₄ v0 v1 d₄ => ⟨fun q => (by cases q), fun z_ => ?_⟩))))
    refine shut fun P_ o_ => ?_
    obtain ⟨⟨l, e, hl, hl2⟩, nd, fs⟩ := yi
    refine o_ ?_
    exact h (.v v) y σ₄ (d03.trans d₄).rd (y3.dr d₄) ⟨⟨l, e, by lia -abstractProof, hl2⟩, nd, fs⟩ (Nat.le_refl _) ⟨v0, v1⟩
  refine EXs_nil ⟨fun z_ => ?_, fun q => absurd rfl q⟩
  have main : ∀ (word : Str) (σ₃ : List AO), word.length ≤ 5 → Dr σ σ₃ → EXs B (n + 2) X ⟨["_law_draw", "_law_word", "_law_odd", "A_NIL", "F_EQUAL"], [], []⟩ [(("pool" : Str), some (V.ref 1)), (("names" : Str), some (V.ref 2)), (("form" : Str), some (V.int form)), (("word" : Str), some (V.str word)), (("target" : Str), some (V.int target)), (("left" : Str), none), (("right" : Str), none)] σ₃ ((fnB (top 48)).drop 5) (FnQ Q) := by
    intro word σ₃ wl d03
    have y3 := hy.dr d03
    refine EXs_next (EX_assign (EV_tuple rfl (by decide) (EV_str (EV_imeth rfl (by decide) rfl (EV_name (v := .ref 2) (mI 1 rfl) ⟨2, 154, _, _, rfl, y3.o, P.c_Symbols, P.m_Symbols_atom, by decide, ?_⟩)))))
    refine EV_name (v := .str word) (mI 3 rfl) (CA.op (CA_atom P y3 (by lia -abstractProof) fun σ₄ e4 k4 y4 => ⟨_, (uI 5 rfl), rfl, ?_⟩))
    have yi4 : YI (y.atom word) (k + 1) := yi.atom (by lia -abstractProof)
    have yl4 : y.texts.length ≤ (y.atom word).texts.length := by unfold Sy.atom; split <;> simp
    have nl := y.num_lt word
    have rd4 : Rd σ σ₄ := ⟨e4.trans d03.len, (d03.kp.mono (by decide)).trans (k4.mono (by decide)), d03.pool.kp k4 (by decide)⟩
    generalize (y.atom word).num word = num at nl ⊢
    generalize y.atom word = y' at y4 yi4 yl4 nl ⊢
    refine EXs_cons (EX_if (TE_cmp (EV_name (v := .int form) (mI 2 rfl) (EV_int (OP_eqI ⟨_, rfl, fun q => ?_, fun q => ?_⟩)))))
    · refine EXs_last (EX_ret (EV_name (v := T.toV (.a num)) (mI 5 rfl) ⟨fun q => (by cases q), fun z_ => h (.a num) y' σ₄ rd4 y4 yi4 yl4 trivial⟩))
    refine EXs_nil ⟨fun z_ => ?_, fun q => absurd rfl q⟩
    have last : ∀ (l : T) (σ₅ : List AO), LeafOk y' l → Rd σ σ₅ → SyAt y' σ₅ → EXs B (n + 2) X ⟨["_law_draw", "_law_word", "_law_odd", "A_NIL", "F_EQUAL"], [], []⟩ [(("pool" : Str), some (V.ref 1)), (("names" : Str), some (V.ref 2)), (("form" : Str), some (V.int form)), (("word" : Str), some (V.str word)), (("target" : Str), some (V.int target)), (("left" : Str), some l.toV), (("right" : Str), none)] σ₅ ((fnB (top 48)).drop 8) (FnQ Q) := by
      intro l σ₅ hl rd5 y5
      have fin : ∀ rr : T, RightOk rr → EXs B (n + 2) X ⟨["_law_draw", "_law_word", "_law_odd", "A_NIL", "F_EQUAL"], [], []⟩ [(("pool" : Str), some (V.ref 1)), (("names" : Str), some (V.ref 2)), (("form" : Str), some (V.int form)), (("word" : Str), some (V.str word)), (("target" : Str), some (V.int target)), (("left" : Str), some l.toV), (("right" : Str), some rr.toV)] σ₅ ((fnB (top 48)).drop 9) (FnQ Q) := by
        intro rr hrr
        refine EXs_last (EX_ret (EV_tuple rfl (by decide) (EV_str (EV_if (TE_cmp (EV_name (v := .int form) (mI 2 rfl) (EV_int (OP_eqI ⟨_, rfl, fun q => ?_, fun q => ?_⟩))))))))
        · have mi := yi4.minus
          have z := yi4.sz
          refine EV_imeth rfl (by decide) rfl (EV_name (v := .ref 2) (mI 1 rfl) ⟨2, 154, _, _, rfl, y5.o, P.c_Symbols, P.m_Symbols_func, by decide, ?_⟩)
          refine EV_str (EV_int (CA.op (CA_func P y5 (by lia -abstractProof) (by lia -abstractProof) fun σ₆ e6 k6 y6 => ?_)))
          simp only [mi.2]
          rw [mi.1] at y6
          refine EV_tuple rfl (by decide) (EV_name (v := l.toV) (mI 5 rfl) (EV_name (v := rr.toV) (mI 6 rfl) ?_))
          exact h (.s2 13 l rr) y' σ₆ (rd5.trans ⟨e6, k6.mono (by decide), rd5.pool.kp k6 (by decide)⟩) y6 yi4 yl4 ⟨.inr rfl, hl, hrr⟩
        · refine EV_gint (mI 4 rfl) g2 (EV_tuple rfl (by decide) (EV_name (v := l.toV) (mI 5 rfl) (EV_name (v := rr.toV) (mI 6 rfl) ?_)))
          exact h (.s2 10 l rr) y' σ₅ rd5 y5 yi4 yl4 ⟨.inl rfl, hl, hrr⟩
      refine EXs_next (EX_assign (EV_if (TE_cmp (EV_name (v := .int target) (mI 4 rfl) (EV_int (OP_ltI ⟨_, rfl, fun q => ?_, fun q => ?_⟩))))))
      · refine EV_tuple rfl (by decide) (EV_str (EV_name (v := .int target) (mI 4 rfl) ⟨_, (uI 6 rfl), rfl, fin (.v target) ⟨g0, by simpa using q⟩⟩))
      · refine EV_tuple rfl (by decide) (EV_str (EV_gint (mI 3 rfl) gnil ⟨_, (uI 6 rfl), rfl, fin (.a 0) rfl⟩))
    refine EXs_next (EX_if (TE_cmp (EV_name (v := .int form) (mI 2 rfl) (EV_int (OP_eqI ⟨_, rfl, fun q => ?_, fun q => ?_⟩)))))
    · refine EXs_last (EX_assign (EV_tuple rfl (by decide) (EV_str (EV_draw P (mI 0 rfl) (mI 0 rfl) rd4.pool (by decide) (by decide) fun v σ₅ v0 v1 d₅ => ⟨_, (uI 5 rfl), rfl, last (.v v) σ₅ ⟨v0, v1⟩ (rd4.trans d₅.rd) (y4.dr d₅)⟩))))
    refine EXs_last (EX_if (TE_cmp (EV_name (v := .int form) (mI 2 rfl) (EV_int (OP_eqI ⟨_, rfl, fun q => ?_, fun q => ?_⟩)))))
    · refine EXs_last (EX_assign (EV_tuple rfl (by decide) (EV_str (EV_name (v := .int target) (mI 4 rfl) ⟨_, (uI 5 rfl), rfl, last (.i target) σ₄ trivial rd4 y4⟩))))
    · exact EXs_nil ⟨rfl, last (.a num) σ₄ nl rd4 y4⟩
  refine EXs_next (EX_if (TE_cmp (EV_name (v := .int form) (mI 2 rfl) (EV_int (OP_eqI ⟨_, rfl, fun q => ?_, fun q => ?_⟩)))))
  · refine EXs_last (EX_assign (EV_call (mI 2 rfl) P.g_law_odd P.k_law_odd rfl (EV_name (v := .ref 1) (mI 0 rfl) (EV_name (v := .str word) (mI 3 rfl) (CA.op (CA_odd P wl d03.pool fun w' σ₄ wl' d₄ => ⟨_, (uI 3 rfl), rfl, main w' σ₄ wl' (d03.trans d₄)⟩))))))
  · exact EXs_nil ⟨rfl, main word σ₃ (by lia -abstractProof) d03⟩
end
noncomputable def cellOf : T → Cl
  | .v j => (0, j)
  | .a n => (4, n)
  | .i n => (5, n)
  | _ => (4, 0)
noncomputable def blkC (f : Int) (p : Nat) : Cl := (if f = 0 then 3 else 2, (p : Int))
noncomputable def blkB (f : Int) (p : Nat) : Nat := if f = 0 then p else p + 1
noncomputable def blkH (f : Int) (h k : Nat) : List Cl := if f = 0 then selfs h k else (6, f) :: selfs (h + 1) k
inductive Rep (H : List Cl) (R : Int → T) : Cl → T → List Nat → Prop
  | v {k : Int} {c : Cl} (d : Der H c (cellOf (R k))) : Rep H R c (.v k) []
  | a {n : Int} : Rep H R (4, n) (.a n) []
  | i {n : Int} : Rep H R (5, n) (.i n) []
  | s1 {f : Int} {x : T} {p : Nat} {c : Cl} {L : List Nat} (hf : f = 0 ∨ H[p]? = some (6, f)) (h1 : H[blkB f p]? = some c) (r : Rep H R c x L) : Rep H R (blkC f p) (.s1 f x) (p :: L)
  | s2 {f : Int} {x y : T} {p : Nat} {c d : Cl} {L M : List Nat} (hf : f = 0 ∨ H[p]? = some (6, f)) (h1 : H[blkB f p]? = some c) (h2 : H[blkB f p + 1]? = some d) (r : Rep H R c x L) (r' : Rep H R d y M) : Rep H R (blkC f p) (.s2 f x y) (p :: (L ++ M))
inductive Reps (H : List Cl) (R : Int → T) : List (Nat × T) → List Nat → Prop
  | nil : Reps H R [] []
  | cons {a : Nat} {t : T} {c : Cl} {L M : List Nat} {r : List (Nat × T)} (h : H[a]? = some c) (x : Rep H R c t L) (y : Reps H R r M) : Reps H R ((a, t) :: r) (L ++ M)
theorem Reps.split {H : List Cl} {R : Int → T} {a b : List (Nat × T)} {M : List Nat} (h : Reps H R (a ++ b) M) : ∃ M1 M2, M = M1 ++ M2 ∧ Reps H R a M1 ∧ Reps H R b M2 := by
  induction a generalizing M with
  | nil => exact ⟨[], M, rfl, .nil, h⟩
  | cons u a ih =>
    cases h with
    | cons h x y =>
      obtain ⟨M1, M2, rfl, h1, h2⟩ := ih y
      exact ⟨_, M2, (List.append_assoc ..).symm, .cons h x h1, h2⟩
noncomputable def fl (pl : Nat) : List T → List (Nat × T)
  | [] => []
  | t :: r => (pl, t) :: fl (pl + 1) r
theorem fl_ge (p : Nat) (ks : List T) (a : Nat) (h : a ∈ (fl p ks).map (·.1)) : p ≤ a := by
  induction ks generalizing p with
  | nil => exact (List.not_mem_nil h).elim
  | cons t r ih =>
    rcases List.mem_cons.mp h with h | h
    · exact Nat.le_of_eq h.symm
    · exact Nat.le_of_succ_le (ih (p + 1) h)
noncomputable def psz (l : List (Nat × T)) : Nat := (l.map fun p => p.2.sz).sum
noncomputable def adr (l : List (Nat × T)) : List Nat := l.map (·.1)
structure HT (R : Int → T) (H : List Cl) : Prop where
  five : ∃ H5 : List Cl, H5.length = 5 ∧ (∀ i, i < 5 → H[i]? = H5[i]?) ∧ ∀ k, 0 ≤ k → k < 5 → Der H5 (0, k) (cellOf (R k))
theorem Der.mono {H H' : List Cl} {c c' : Cl} (d : Der H c c') (h : ∀ (i : Nat) (z : Cl), H[i]? = some z → H'[i]? = some z) : Der H' c c' := by
  induction d with
  | self h0 hx => exact .self h0 (h _ _ hx)
  | val h0 h1 => exact .val h0 h1
  | step h0 hx hne d ih => exact .step h0 (h _ _ hx) hne ih
theorem HT.der {R : Int → T} {H : List Cl} (t : HT R H) {k : Int} (h0 : 0 ≤ k) (h5 : k < 5) : Der H (0, k) (cellOf (R k)) := by
  obtain ⟨H5, l5, e, d⟩ := t.five
  refine (d k h0 h5).mono fun i z hz => ?_
  have : i < 5 := by have := (List.getElem?_eq_some_iff.mp hz).1; lia -abstractProof
  rw [e i this]; exact hz
theorem HT.agree {R : Int → T} {H H' : List Cl} (t : HT R H) (h : ∀ i, i < 5 → H'[i]? = H[i]?) : HT R H' := by
  obtain ⟨H5, l5, e, d⟩ := t.five
  exact ⟨H5, l5, fun i hi => (h i hi).trans (e i hi), d⟩
structure Inv (R : Int → T) (made : Cl) (tree : T) (H : List Cl) (pend : List (Nat × T)) : Prop where
  nd : (adr pend).Nodup
  lt : ∀ a, a ∈ adr pend → 5 ≤ a ∧ a < H.length
  ht : HT R H
  five : 5 ≤ H.length
  wf : ∀ p, p ∈ pend → p.2.wf
  go : ∀ (H' : List Cl) (M : List Nat), (∀ b, b < H.length → b ∉ adr pend → H'[b]? = H[b]?) → Reps H' R pend M → M.Nodup → (∀ b, b ∈ M → H.length ≤ b) → ∃ L, Rep H' R made tree L ∧ L.Nodup
theorem Inv.done {R : Int → T} {made : Cl} {tree : T} {H : List Cl} (i : Inv R made tree H []) : ∃ L, Rep H R made tree L ∧ L.Nodup :=
  i.go H [] (fun z_ z_ z_ => rfl) .nil List.nodup_nil (by simp)
theorem Inv.leaf {R : Int → T} {made : Cl} {tree : T} {H : List Cl} {a : Nat} {t : T} {rest : List (Nat × T)} (i : Inv R made tree H ((a, t) :: rest)) (hl : t.dep = 0) : Inv R made tree (H.set a (cellOf t)) rest := by
  have ha := i.lt a (by simp [adr])
  have hnd := i.nd
  simp only [adr, List.map_cons, List.nodup_cons] at hnd
  have ht : HT R (H.set a (cellOf t)) := i.ht.agree fun j hj => List.getElem?_set_ne (by lia -abstractProof)
  refine ⟨hnd.2, fun b hb => by rw [List.length_set]; exact i.lt b (by simp [adr] at hb ⊢; exact .inr hb), ht, by simpa using i.five, fun p hp => i.wf p (by simp [hp]), fun H' M ag rs nd ge => ?_⟩
  rw [List.length_set] at ag ge
  have hA : H'[a]? = some (cellOf t) := by rw [ag a ha.2 hnd.1]; exact List.getElem?_set_self ha.2
  have ht' : HT R H' := i.ht.agree fun j hj => by
    have h5 := i.five
    rw [ag j (by lia -abstractProof) (fun q => by have := i.lt j (by simp [adr] at q ⊢; exact .inr q); lia -abstractProof)]
    exact List.getElem?_set_ne (by lia -abstractProof)
  refine i.go H' M (fun b hb hn => ?_) ?_ nd ge
  · simp only [adr, List.map_cons, List.mem_cons, not_or] at hn
    rw [ag b hb hn.2]; exact List.getElem?_set_ne (fun q => hn.1 q.symm)
  · have hwf := i.wf (a, t) (by simp)
    have hr : Rep H' R (cellOf t) t [] := by
      clear hA ht ag
      cases t with
      | v k => exact .v (ht'.der hwf.1 hwf.2)
      | a n => exact .a
      | i n => exact .i
      | s1 f x => first | exact absurd rfl hl | exact (Nat.succ_ne_zero _ hl).elim
      | s2 f x y => first | exact absurd rfl hl | exact (Nat.succ_ne_zero _ hl).elim
    exact .cons (L := []) hA hr rs
theorem blkH_len (f : Int) (h k : Nat) : (blkH f h k).length = k + if f = 0 then 0 else 1 := by
  unfold blkH; split <;> simp [selfs_len]
theorem blkB_lt (f : Int) (h k j : Nat) (hj : j < k) : blkB f h + j < h + (blkH f h k).length ∧ h ≤ blkB f h + j := by
  rw [blkH_len]; unfold blkB; split <;> lia -abstractProof
theorem adr_app (a b : List (Nat × T)) : adr (a ++ b) = adr a ++ adr b := by simp [adr]
theorem psz_app (a b : List (Nat × T)) : psz (a ++ b) = psz a + psz b := by simp [psz]
noncomputable def T.kids : T → List T
  | .s1 _ x => [x]
  | .s2 _ x y => [x, y]
  | _ => []
noncomputable def T.fct : T → Int
  | .s1 f _ => f
  | .s2 f _ _ => f
  | _ => 0
theorem Inv.block {R : Int → T} {made : Cl} {tree : T} {H : List Cl} {a : Nat} {t : T} {rest : List (Nat × T)} (i : Inv R made tree H ((a, t) :: rest)) (hl : t.dep ≠ 0) :
    Inv R made tree ((H ++ blkH t.fct H.length t.kids.length).set a (blkC t.fct H.length)) (rest ++ fl (blkB t.fct H.length) t.kids) := by
  have ha := i.lt a (by simp [adr])
  have hnd := i.nd
  simp only [adr, List.map_cons, List.nodup_cons] at hnd
  have hfl : ∀ b, b ∈ adr (fl (blkB t.fct H.length) t.kids) → H.length ≤ b ∧ b < (H ++ blkH t.fct H.length t.kids.length).length := by
    intro b hb
    rw [List.length_append]
    cases t with
    | s1 f x =>
      simp [T.kids, fl, adr] at hb
      have := blkB_lt f H.length 1 0 (by lia -abstractProof)
      subst hb; exact ⟨this.2, this.1⟩
    | s2 f x y =>
      simp [T.kids, fl, adr] at hb
      have h0 := blkB_lt f H.length 2 0 (by lia -abstractProof)
      have h1 := blkB_lt f H.length 2 1 (by lia -abstractProof)
      rcases hb with hb | hb <;> subst hb
      · exact ⟨h0.2, h0.1⟩
      · exact ⟨h1.2, h1.1⟩
    | v k => first | exact absurd rfl hl | exact (Nat.succ_ne_zero _ hl).elim
    | a n => first | exact absurd rfl hl | exact (Nat.succ_ne_zero _ hl).elim
    | i n => first | exact absurd rfl hl | exact (Nat.succ_ne_zero _ hl).elim
  have flnd : (adr (fl (blkB t.fct H.length) t.kids)).Nodup := by
    clear hfl hl i
    cases t <;> simp [T.kids, fl, adr]
  have hwf := i.wf (a, t) (by simp)
  have hB : ∀ j, j < H.length → j ≠ a → ((H ++ blkH t.fct H.length t.kids.length).set a (blkC t.fct H.length))[j]? = H[j]? := fun j hj hn => by
    rw [List.getElem?_set_ne (fun q => hn q.symm), List.getElem?_append_left hj]
  have ht : HT R ((H ++ blkH t.fct H.length t.kids.length).set a (blkC t.fct H.length)) := i.ht.agree fun j hj => hB j (by have := i.five; lia -abstractProof) (by lia -abstractProof)
  refine ⟨?_, ?_, ht, by simp only [List.length_set, List.length_append]; have := i.five; lia -abstractProof, ?_, fun H' M ag rs nd ge => ?_⟩
  · rw [adr_app, List.nodup_append]
    refine ⟨hnd.2, flnd, fun b hb c hc => ?_⟩
    have h1 := i.lt b (by simp [adr] at hb ⊢; exact .inr hb)
    have h2 := hfl c hc
    lia -abstractProof
  · intro b hb
    rw [adr_app, List.mem_append] at hb
    rw [List.length_set]
    clear ha hl
    rcases hb with hb | hb
    · have := i.lt b (by simp [adr] at hb ⊢; exact .inr hb)
      rw [List.length_append]; lia -abstractProof
    · have := hfl b hb
      have h5 := i.five
      lia -abstractProof
  · intro p hp
    clear hfl ht hB flnd
    rcases List.mem_append.mp hp with hp | hp
    · exact i.wf p (by simp [hp])
    · clear hl
      cases t with
      | s1 f x => simp [T.kids, fl] at hp; subst hp; exact hwf
      | s2 f x y => simp [T.kids, fl] at hp; rcases hp with rfl | rfl; exact hwf.1; exact hwf.2
      | v k => simp [T.kids, fl] at hp
      | a k => simp [T.kids, fl] at hp
      | i k => simp [T.kids, fl] at hp
  · rw [List.length_set, List.length_append] at ag ge
    clear flnd ht hwf
    obtain ⟨M1, M2, rfl, r1, r2⟩ := rs.split
    have hAn : a ∉ adr (rest ++ fl (blkB t.fct H.length) t.kids) := by
      rw [adr_app, List.mem_append]
      rintro (q | q)
      · exact hnd.1 q
      · have := hfl a q; lia -abstractProof
    have hA : H'[a]? = some (blkC t.fct H.length) := by
      rw [ag a (by lia -abstractProof) hAn]; exact List.getElem?_set_self (by rw [List.length_append]; lia -abstractProof)
    have hH : t.fct = 0 ∨ H'[H.length]? = some (6, t.fct) := by
      by_cases q : t.fct = 0
      · exact .inl q
      · refine .inr ?_
        rw [ag H.length (by rw [blkH_len, if_neg q]; lia -abstractProof), List.getElem?_set_ne (by lia -abstractProof), List.getElem?_append_right (Nat.le_refl _), Nat.sub_self]
        · unfold blkH; rw [if_neg q]; rfl
        · rw [adr_app, List.mem_append]
          rintro (q2 | q2)
          · have := i.lt H.length (by simp [adr] at q2 ⊢; exact .inr q2); lia -abstractProof
          · have := fl_ge _ _ _ q2
            unfold blkB at this; rw [if_neg q] at this; lia -abstractProof
    have hrep : Rep H' R (blkC t.fct H.length) t (H.length :: M2) := by
      clear hAn hA
      cases t with
      | s1 f x =>
        cases r2 with
        | cons h x y => cases y; rw [List.append_nil]; exact .s1 hH h x
      | s2 f x y =>
        cases r2 with
        | cons h x y => cases y with
          | cons h' x' y' => cases y'; rw [List.append_nil]; exact .s2 hH h h' x x'
      | v k => first | exact absurd rfl hl | exact (Nat.succ_ne_zero _ hl).elim
      | a n => first | exact absurd rfl hl | exact (Nat.succ_ne_zero _ hl).elim
      | i n => first | exact absurd rfl hl | exact (Nat.succ_ne_zero _ hl).elim
    rw [List.nodup_append] at nd
    refine i.go H' ((H.length :: M2) ++ M1) (fun b hb hn => ?_) (.cons hA hrep r1) ?_ ?_
    · simp only [adr, List.map_cons, List.mem_cons, not_or] at hn
      rw [ag b (by lia -abstractProof), hB b hb hn.1]
      rw [adr_app, List.mem_append]
      rintro (q | q)
      · exact hn.2 q
      · have := hfl b q; lia -abstractProof
    · rw [List.cons_append, List.nodup_cons, List.nodup_append]
      have hlen : 0 < (blkH t.fct H.length t.kids.length).length := by
        have : 0 < t.kids.length := by cases t <;> simp [T.dep, T.kids] at hl ⊢
        simp only [blkH_len]; lia -abstractProof
      refine ⟨fun q => ?_, nd.2.1, nd.1, fun b hb c hc => fun e => nd.2.2 c hc b hb e.symm⟩
      rcases List.mem_append.mp q with q | q
      · have := ge _ (List.mem_append_right _ q); lia -abstractProof
      · have := ge _ (List.mem_append_left _ q); lia -abstractProof
    · intro b hb
      rcases List.mem_append.mp hb with q | q
      · rcases List.mem_cons.mp q with q | q
        · lia -abstractProof
        · have := ge _ (List.mem_append_right _ q); lia -abstractProof
      · have := ge _ (List.mem_append_left _ q); lia -abstractProof
noncomputable def T.ok (y : Sy) : T → Prop
  | .v k => 0 ≤ k ∧ k < 5
  | .s1 f x => f ≠ 0 ∧ Ar y f 1 ∧ x.ok y
  | .s2 f x z => Ar y f 2 ∧ x.ok y ∧ z.ok y
  | _ => True
theorem T.ok.wf {y : Sy} {t : T} (h : t.ok y) : t.wf := by
  induction t with
  | v _ => exact h
  | a _ => exact trivial
  | i _ => exact trivial
  | s1 _ x ih => exact ih h.2.2
  | s2 _ x z ih ih2 => exact ⟨ih h.2.1, ih2 h.2.2⟩
theorem T.toV_s {t : T} (h : t.dep ≠ 0) : t.toV = .tup [.str "s", .int t.fct, .tup (t.kids.map T.toV)] := by
  cases t <;> first | rfl | exact absurd rfl h
theorem T.ok.s {y : Sy} {t : T} (h : t.ok y) (hd : t.dep ≠ 0) : Ar y t.fct t.kids.length ∧ (t.fct = 0 → t.kids.length = 2) ∧ (∀ x, x ∈ t.kids → x.ok y) ∧ t.kids ≠ [] ∧ t.sz = 1 + (t.kids.map T.sz).sum ∧ t.kids.length ≤ 2 := by
  cases t with
  | s1 f x => exact ⟨h.2.1, fun q => absurd q h.1, by simpa [T.kids] using h.2.2, by simp [T.kids], by simp [T.kids, T.sz], by simp [T.kids]⟩
  | s2 f x z => exact ⟨h.1, fun z_ => rfl, by simpa [T.kids] using h.2, by simp [T.kids], by simp [T.kids, T.sz]; lia -abstractProof, by simp [T.kids]⟩
  | v k => exact absurd rfl hd
  | a k => exact absurd rfl hd
  | i k => exact absurd rfl hd
theorem psz_fl (b : Nat) (ks : List T) : psz (fl b ks) = (ks.map T.sz).sum := by
  induction ks generalizing b with
  | nil => rfl
  | cons t r ih =>
    have := ih (b + 1)
    simp only [psz, fl, List.map_cons, List.sum_cons] at this ⊢
    lia -abstractProof
theorem T.sz_pos (t : T) : 1 ≤ t.sz := by cases t <;> simp [T.sz] <;> lia -abstractProof
theorem psz_cons (a : Nat) (t : T) (l : List (Nat × T)) : psz ((a, t) :: l) = t.sz + psz l := by simp [psz]
theorem mem_fl {b : Nat} {ks : List T} {p : Nat × T} (h : p ∈ fl b ks) : p.2 ∈ ks := by
  induction ks generalizing b with
  | nil => exact (List.not_mem_nil h).elim
  | cons t r ih =>
    rcases List.mem_cons.mp h with h | h
    · rw [h]; exact .head _
    · exact .tail _ (ih h)
noncomputable def flw (l : List (Nat × List T)) : List (Nat × T) := l.flatMap fun e => fl e.1 e.2
noncomputable def wv (e : Nat × List T) : V := .tup [.int (e.1 : Nat), .tup (e.2.map T.toV)]
noncomputable def cellsT : List (Int × V) := [(0, cellV (0, 0)), (1, cellV (0, 1)), (2, cellV (0, 2)), (3, cellV (0, 3)), (4, cellV (0, 4))]
theorem cellsT_at {k : Int} (h0 : 0 ≤ k) (h5 : k < 5) : at? cellsT k = some (cellV (0, k)) := by
  rcases (by lia -abstractProof : k = 0 ∨ k = 1 ∨ k = 2 ∨ k = 3 ∨ k = 4) with rfl | rfl | rfl | rfl | rfl <;> rfl
theorem flw_app (a b : List (Nat × List T)) : flw (a ++ b) = flw a ++ flw b := by simp [flw]
section
variable {B : Bs} {n : Nat} {X : V → List AO → Prop} {σ : List AO} {Q : V → List AO → Prop} {G : Gs} {m : Loc}
theorem CA_newb (P : PF B) {H : List Cl} {y : Sy} {f : Int} {k : Nat} (st : StAt H σ) (hy : SyAt y σ) (ha : Ar y f k) (h0 : f = 0 → k = 2) (hz : H.length + k < 4750) (h : ∀ σ', Kp [13] σ σ' → σ'.length = σ.length → StAt (H ++ blkH f H.length k) σ' → Q (cellV (blkC f H.length)) σ') : CA B (n + 3) X (.ref 363) [.ref 12, .int f] σ Q := by
  by_cases hf : f = 0
  · have := h0 hf
    subst hf; subst this
    exact CA_new_block0 P st (by lia -abstractProof) fun σ' k e s' => h σ' k e s'
  · have e1 : blkC f H.length = (2, (H.length : Int)) := by unfold blkC; rw [if_neg hf]
    have e2 : blkH f H.length k = (6, f) :: selfs (H.length + 1) k := by unfold blkH; rw [if_neg hf]
    rw [e1] at h; rw [e2] at h
    exact CA_new_block P st hy hf ha (by lia -abstractProof) h
theorem CA_baseB (P : PF B) {f : Int} {p : Nat} (h : Q (.int (blkB f p : Nat)) σ) : CA B (n + 1) X (.ref 349) [.ref 12, cellV (blkC f p)] σ Q := by
  by_cases hf : f = 0
  · subst hf; exact CA_base3 P h
  · have e1 : blkC f p = (2, (p : Int)) := by unfold blkC; rw [if_neg hf]
    have e2 : blkB f p = p + 1 := by unfold blkB; rw [if_neg hf]
    rw [e1]; rw [e2] at h
    exact CA_base2 P h
noncomputable abbrev pkG : Gs := ⟨["SRF", "CON", "INT", "list", "len"], [], []⟩
noncomputable def pkW : Stmt := nth (fnB (meth 35 3)) 8
noncomputable def pkB : List Stmt := fnB (nth (fnB pkW) 2)
noncomputable def pkL (tV : V) (made : Cl) (wi : Nat) (ok okd : Option V) (at_ : V) (o1 o2 o3 o4 : Option V) : Loc := [(("self" : Str), some (V.ref 12)), (("term" : Str), some tV), (("table" : Str), some (V.ref 19)), (("k" : Str), ok), (("kind" : Str), okd), (("made" : Str), some (cellV made)), (("waiting" : Str), some (V.ref wi)), (("at" : Str), some at_), (("place" : Str), o1), (("items" : Str), o2), (("item" : Str), o3), (("inner" : Str), o4)]
structure PS (R : Int → T) (made : Cl) (tree : T) (y : Sy) (Z wi : Nat) (σ : List AO) (W : List V) (F : List (Nat × T)) (H : List Cl) (σ' : List AO) : Prop where
  kp : Kp [13] σ σ'
  st : StAt H σ'
  hw : σ'[wi]? = some (.list W)
  inv : Inv R made tree H F
  ok : ∀ p, p ∈ F → p.2.ok y
  z1 : H.length + 3 * psz F ≤ Z
  z2 : W.length + psz F ≤ 4000
section
variable {y : Sy} {R : Int → T} {made : Cl} {tree t : T} {wi Z a : Nat} {tV at_ : V} {ok o2 o4 : Option V} {H : List Cl} {σ' : List AO} {W : List V} {F : List (Nat × T)} {Qx : AF → Loc → List AO → Prop}
theorem pk_leaf (P : PF B) (st : StAt H σ) (h19 : σ[19]? = some (.dI cellsT)) (ha : a < H.length) (hd : t.dep = 0) (htok : t.ok y) (k : EXs B (n + 3) X pkG (pkL tV made wi ok (some (.str t.kind)) at_ (some (.int (a : Nat))) o2 (some t.toV) o4) (σ.set 13 (.list ((H.set a (cellOf t)).map cellV))) (pkB.drop 2) Qx) :
    EXs B (n + 3) X pkG (pkL tV made wi ok (some (.str t.kind)) at_ (some (.int (a : Nat))) o2 (some t.toV) o4) σ (pkB.drop 1) Qx := by
  obtain ⟨t1, g1⟩ := P.i_CON
  obtain ⟨t2, g2⟩ := P.i_INT
  cases t with
  | v k₀ =>
    refine EXs_next (EX_if (TE_cmp (EV_name (v := .str "v") (mI 4 rfl) (EV_str (OP_eqS ⟨_, rfl, fun z_ => ?_, fun q => absurd q (by decide)⟩)))))
    refine EXs_last (EX_if (TE_cmp (EV_snd (mI 10 rfl) (EV_name (v := .ref 19) (mI 2 rfl) (OP_inI h19 ⟨_, rfl, fun z_ => ?_, fun q => absurd q (by rw [cellsT_at htok.1 htok.2]; exact nofun)⟩)))))
    exact EXs_last (EX_setitem (EV_sub (EV_name (v := .ref 19) (mI 2 rfl) (EV_snd (mI 10 rfl) (SUB_dI h19 (cellsT_at htok.1 htok.2) (EV_heap P (mI 0 rfl) st (EV_name (v := .int (a : Nat)) (mI 8 rfl) (OP_setCell st ha ⟨rfl, k⟩))))))))
  | a k₀ =>
    refine EXs_next (EX_if (TE_cmp (EV_name (v := .str "a") (mI 4 rfl) (EV_str (OP_eqS ⟨_, rfl, fun q => absurd q (by decide +kernel), fun z_ => ?_⟩)))))
    refine EXs_last (EX_if (TE_cmp (EV_name (v := .str "a") (mI 4 rfl) (EV_str (OP_eqS ⟨_, rfl, fun z_ => ?_, fun q => absurd q (by decide)⟩)))))
    exact EXs_last (EX_setitem (EV_tuple rfl (by decide) (EV_gint (mI 1 rfl) g1 (EV_snd (mI 10 rfl) (EV_heap P (mI 0 rfl) st (EV_name (v := .int (a : Nat)) (mI 8 rfl) (OP_setCell (c := (4, k₀)) st ha ⟨rfl, k⟩)))))))
  | i k₀ =>
    refine EXs_next (EX_if (TE_cmp (EV_name (v := .str "i") (mI 4 rfl) (EV_str (OP_eqS ⟨_, rfl, fun q => absurd q (by decide +kernel), fun z_ => ?_⟩)))))
    refine EXs_last (EX_if (TE_cmp (EV_name (v := .str "i") (mI 4 rfl) (EV_str (OP_eqS ⟨_, rfl, fun q => absurd q (by decide +kernel), fun z_ => ?_⟩)))))
    refine EXs_last (EX_if (TE_cmp (EV_name (v := .str "i") (mI 4 rfl) (EV_str (OP_eqS ⟨_, rfl, fun z_ => ?_, fun q => absurd q (by decide)⟩)))))
    exact EXs_last (EX_setitem (EV_tuple rfl (by decide) (EV_gint (mI 2 rfl) g2 (EV_snd (mI 10 rfl) (EV_heap P (mI 0 rfl) st (EV_name (v := .int (a : Nat)) (mI 8 rfl) (OP_setCell (c := (5, k₀)) st ha ⟨rfl, k⟩)))))))
  | s1 f x => cases hd
  | s2 f x z => cases hd
theorem pk_blk (P : PF B) (hy : SyAt y σ) (hwi : 19 < wi) (st : StAt H σ) (hw : σ[wi]? = some (.list W)) (zw : W.length ≤ 4000) (zH : H.length + 3 ≤ 4740) (ha : a < H.length) (hd : t.dep ≠ 0) (htok : t.ok y)
    (k : ∀ σ₂ o4, Kp [13, wi] σ σ₂ → StAt ((H ++ blkH t.fct H.length t.kids.length).set a (blkC t.fct H.length)) σ₂ → σ₂[wi]? = some (.list (W ++ [wv (blkB t.fct H.length, t.kids)])) → EXs B (n + 3) X pkG (pkL tV made wi ok (some (.str t.kind)) at_ (some (.int (a : Nat))) o2 (some t.toV) o4) σ₂ (pkB.drop 2) Qx) :
    EXs B (n + 3) X pkG (pkL tV made wi ok (some (.str t.kind)) at_ (some (.int (a : Nat))) o2 (some t.toV) o4) σ (pkB.drop 1) Qx := by
  obtain ⟨ar, ar0, -, -, -, kl2⟩ := htok.s hd
  have hkd : t.kind = "s" := by cases t <;> first | rfl | exact absurd rfl hd
  rw [T.toV_s hd] at k ⊢
  rw [hkd] at k ⊢
  clear hkd hd htok
  refine EXs_next (EX_if (TE_cmp (EV_name (v := .str "s") (mI 4 rfl) (EV_str (OP_eqS ⟨_, rfl, fun q => absurd q (by decide +kernel), fun z_ => ?_⟩)))))
  refine EXs_last (EX_if (TE_cmp (EV_name (v := .str "s") (mI 4 rfl) (EV_str (OP_eqS ⟨_, rfl, fun q => absurd q (by decide +kernel), fun z_ => ?_⟩)))))
  refine EXs_last (EX_if (TE_cmp (EV_name (v := .str "s") (mI 4 rfl) (EV_str (OP_eqS ⟨_, rfl, fun q => absurd q (by decide +kernel), fun z_ => ?_⟩)))))
  refine EXs_next (EX_assign (EV_sm P (mI 0 rfl) st P.m_Store_new_block (by decide) rfl (by decide) rfl (EV_snd (mI 10 rfl) (CA.op (CA_newb (n := n) P st hy ar ar0 (by lia -abstractProof) fun σ₃ k3 e3 s3 => ⟨_, (uI 11 rfl), rfl, ?_⟩)))))
  have hw3 := k3.get hw (by simp; lia -abstractProof)
  refine EXs_next (EX_setitem (EV_name (v := cellV (blkC t.fct H.length)) (mI 11 rfl) (EV_heap P (mI 0 rfl) s3 (EV_name (v := .int (a : Nat)) (mI 8 rfl) (OP_setCell s3 (by rw [List.length_append]; lia -abstractProof) ⟨rfl, ?_⟩)))))
  have s4 := s3.put (H' := (H ++ blkH t.fct H.length t.kids.length).set a (blkC t.fct H.length)) (by rw [List.length_set]; exact s3.lz)
  have k4 := (k3.trans (.set (o := .list (((H ++ blkH t.fct H.length t.kids.length).set a (blkC t.fct H.length)).map cellV)) (by decide : 13 ∈ [13])))
  have hw4 : (σ₃.set 13 (.list (((H ++ blkH t.fct H.length t.kids.length).set a (blkC t.fct H.length)).map cellV)))[wi]? = some (.list W) := by rw [List.getElem?_set_ne (by lia -abstractProof)]; exact hw3
  refine EXs_last (EX_expr (EV_append rfl rfl (EV_name (v := .ref wi) (mI 6 rfl) ⟨wi, rfl, ⟨_, hw4⟩, ?_⟩)))
  refine EV_tuple rfl (by decide) (EV_sm P (mI 0 rfl) s4 P.m_Store_base (by decide) rfl (by decide) rfl (EV_name (v := cellV (blkC t.fct H.length)) (mI 11 rfl) (CA.op (CA_baseB P (EV_trd (mI 10 rfl) ⟨_, hw4, by lia -abstractProof, rfl, ?_⟩)))))
  exact k _ _ ((k4.mono (by simp)).trans (.set (by simp))) (s4.setN (by lia -abstractProof)) (set_get hw4)
end
section
variable {y : Sy} {R : Int → T} {made : Cl} {tree : T} {wi Z : Nat} {tV : V}
theorem pk_turn (P : PF B) (hZ : Z ≤ 4700) (hy : SyAt y σ) (h19 : σ[19]? = some (.dI cellsT)) (hwi : σ.length ≤ wi) (h20 : 20 ≤ σ.length) {t : T} {a : Nat} {at_ : V} {ok okd o2 o4 : Option V} {H : List Cl} {σ' : List AO} {W : List V} {F : List (Nat × T)} {Qx : AF → Loc → List AO → Prop} (S : PS R made tree y Z wi σ W ((a, t) :: F) H σ')
    (fin : ∀ okd o4 (new : List (Nat × List T)) H₂ σ₂, PS R made tree y Z wi σ (W ++ new.map wv) (F ++ flw new) H₂ σ₂ → (∀ e, e ∈ new → e.2 ≠ []) → psz (F ++ flw new) + 1 ≤ psz ((a, t) :: F) → EXs B (n + 3) X pkG (pkL tV made wi ok okd at_ (some (.int (a : Nat))) o2 (some t.toV) o4) σ₂ (pkB.drop 2) Qx) :
    EXs B (n + 3) X pkG (pkL tV made wi ok okd at_ (some (.int (a : Nat))) o2 (some t.toV) o4) σ' pkB Qx := by
  obtain ⟨kp, st, hw, inv, hok, z1, z2⟩ := S
  have ha := inv.lt a (.head _)
  have htok : t.ok y := hok (a, t) (.head _)
  have hok' : ∀ p, p ∈ F → p.2.ok y := fun p hp => hok p (.tail _ hp)
  have tp := t.sz_pos
  rw [psz_cons] at z1 z2
  clear hok
  refine EXs_next (EX_assign (EV_kind (t := t) (mI 10 rfl) ⟨_, (uI 4 rfl), rfl, ?_⟩))
  show EXs B (n + 3) X pkG (pkL tV made wi ok (some (.str t.kind)) at_ (some (.int (a : Nat))) o2 (some t.toV) o4) σ' (pkB.drop 1) Qx
  by_cases hd : t.dep = 0
  · have f := fin (some (.str t.kind)) o4 [] _ (σ'.set 13 (.list ((H.set a (cellOf t)).map cellV))) ⟨kp.trans (.set (by decide)), st.put (by rw [List.length_set]; exact st.lz), by rw [List.getElem?_set_ne (by lia -abstractProof), List.map_nil, List.append_nil]; exact hw, by rw [show flw [] = [] from rfl, List.append_nil]; exact inv.leaf hd, by rw [show flw [] = [] from rfl, List.append_nil]; exact hok', by rw [show flw [] = [] from rfl, List.append_nil, List.length_set]; lia -abstractProof, by rw [show flw [] = [] from rfl, List.append_nil, List.map_nil, List.append_nil]; lia -abstractProof⟩ nofun (by rw [show flw [] = [] from rfl, List.append_nil, psz_cons]; lia -abstractProof)
    clear fin
    exact pk_leaf P st (kp.get h19 (by decide)) ha.2 hd htok f
  · obtain ⟨-, -, kok, kne0, szk, kl2⟩ := htok.s hd
    have wf := inv.block hd
    have pk := psz_fl (blkB t.fct H.length) t.kids
    have bl2 : (blkH t.fct H.length t.kids.length).length ≤ 3 := by rw [blkH_len]; split <;> lia -abstractProof
    have ef : flw [(blkB t.fct H.length, t.kids)] = fl (blkB t.fct H.length) t.kids := by simp [flw]
    refine pk_blk P (hy.kp kp (by decide)) (by lia -abstractProof) st hw (by lia -abstractProof) (by lia -abstractProof) ha.2 hd htok fun σ₂ o4 k2 s2 h2 => ?_
    refine fin _ _ [(blkB t.fct H.length, t.kids)] _ σ₂ ⟨⟨Nat.le_trans kp.1 k2.1, fun i hi hn => (k2.2 i (Nat.lt_of_lt_of_le hi kp.1) fun q => ?_).trans (kp.2 i hi hn)⟩, s2, h2, by rw [ef]; exact wf, fun p hp => ?_, by rw [ef, psz_app, pk, List.length_set, List.length_append]; lia -abstractProof, by rw [ef, psz_app, pk, List.length_append]; show W.length + 1 + (psz F + (t.kids.map T.sz).sum) ≤ 4000; lia -abstractProof⟩ (fun e he => by rw [List.mem_singleton.mp he]; exact kne0) (by rw [ef, psz_app, pk, psz_cons]; lia -abstractProof)
    · rcases List.mem_cons.mp q with q | q
      · exact hn (q ▸ .head _)
      · rw [List.mem_singleton.mp q] at hi; lia -abstractProof
    · rw [ef] at hp
      rcases List.mem_append.mp hp with hp | hp
      · exact hok' p hp
      · exact kok _ (mem_fl hp)
inductive PkI (R : Int → T) (made : Cl) (tree : T) (y : Sy) (Z wi : Nat) (σ : List AO) (tV : V) (ok : Option V) (at_ : V) (W : List V) (pl : Nat) (ks : List T) (rest : List (Nat × List T)) (N j : Nat) (m : Loc) (σ' : List AO) : Prop
  | mk (okd o3 o4 : Option V) (H' : List Cl) (new : List (Nat × List T)) (e : m = pkL tV made wi ok okd at_ (some (.int ((pl + j : Nat) : Int))) (some (.tup (ks.map T.toV))) o3 o4) (S : PS R made tree y Z wi σ (W ++ new.map wv) (fl (pl + j) (ks.drop j) ++ flw (rest ++ new)) H' σ') (hne : ∀ e, e ∈ new → e.2 ≠ []) (q : psz (fl (pl + j) (ks.drop j) ++ flw (rest ++ new)) + j ≤ N + 1)
theorem put_key (P : PF B) (hZ : Z ≤ 4700) (hy : SyAt y σ) (h19 : σ[19]? = some (.dI cellsT)) (hwi : σ.length ≤ wi) (h20 : 20 ≤ σ.length)
    (h : ∀ H' σ' L, Kp [13] σ σ' → StAt H' σ' → HT R H' → Rep H' R made tree L → L.Nodup → H'.length ≤ Z → Q (cellV made) σ') :
    ∀ (N : Nat) (todo : List (Nat × List T)) (done : List V) (H : List Cl) (σ' : List AO) (ok okd o1 o2 o3 o4 : Option V), psz (flw todo) ≤ N → (∀ e, e ∈ todo → e.2 ≠ []) → PS R made tree y Z wi σ (done ++ todo.map wv) (flw todo) H σ' →
      LW B (n + 3) X pkG (whT pkW) (fnB pkW) (pkL tV made wi ok okd (.int (done.length : Nat)) o1 o2 o3 o4) σ' (Nx B (n + 3) X pkG ((fnB (meth 35 3)).drop 9) (FnQ Q)) := by
  intro N
  induction N with
  | zero =>
    intro todo done H σ' ok okd o1 o2 o3 o4 hN hne S
    match todo, hN, hne, S with
    | [], _, _, ⟨kp, st, hw, inv, _, z1, z2⟩ =>
      rw [List.map_nil, List.append_nil] at hw z2
      refine LW_step thruAll ?_
      refine TE_cmp (EV_name (v := .int (done.length : Nat)) (mI 7 rfl) (EV_len P (mI 4 rfl) rfl (EV_name (v := .ref wi) (mI 6 rfl) (OP_lenL hw (by lia -abstractProof) (OP_ltI ⟨_, rfl, fun q => absurd (of_decide_eq_true q) (Int.lt_irrefl _), fun z_ => ⟨rfl, ?_⟩⟩)))))
      refine shut fun P_ o_ => ?_
      obtain ⟨L, r, nd⟩ := inv.done
      refine o_ ?_
      exact EXs_last (EX_ret (EV_name (v := cellV made) (mI 5 rfl) (h H σ' L kp st inv.ht r nd (by lia -abstractProof))))
    | (pl, x :: r) :: t, hN, _, _ => exact absurd hN (by have := T.sz_pos x; simp only [flw, List.flatMap_cons, fl, List.cons_append, psz_cons]; lia -abstractProof)
    | (pl, []) :: t, _, hne, _ => exact absurd rfl (hne (pl, []) (.head _))
  | succ N ih =>
    intro todo done H σ' ok okd o1 o2 o3 o4 hN hne S
    match todo, hN, hne, S with
    | [], _, _, S =>
      exact ih [] done H σ' ok okd o1 o2 o3 o4 (Nat.zero_le _) nofun S
    | (pl, ks) :: rest, hN, hne, S =>
      have hks := hne (pl, ks) (.head _)
      have z2 := S.z2
      rw [List.length_append, List.length_map, List.length_cons] at z2
      refine LW_step thruAll ?_
      refine TE_cmp (EV_name (v := .int (done.length : Nat)) (mI 7 rfl) (EV_len P (mI 4 rfl) rfl (EV_name (v := .ref wi) (mI 6 rfl) (OP_lenL S.hw (by rw [List.length_append, List.length_map, List.length_cons]; lia -abstractProof) (OP_ltI ⟨_, rfl, fun z_ => ?_, fun q => absurd (of_decide_eq_false q) (by rw [List.length_append, List.length_map, List.length_cons]; lia -abstractProof)⟩)))))
      refine EXs_next (EX_assign2 (EV_sub (EV_name (v := .ref wi) (mI 6 rfl) (EV_name (v := .int (done.length : Nat)) (mI 7 rfl) (SUB_list (x := wv (pl, ks)) S.hw (by lia -abstractProof) (by lia -abstractProof) (by rw [Int.toNat_natCast, List.getElem?_append_right (Nat.le_refl _), Nat.sub_self]; rfl) ⟨.int (pl : Nat), .tup (ks.map T.toV), rfl, _, _, (uI 8 rfl), (uI 9 rfl), rfl, ?_⟩)))))
      refine EXs_next (EX_aug (mI 7 rfl) (EV_int (OP_iaddI ⟨_, (uI 7 rfl), rfl, ?_⟩)))
      refine EXs_last (EX_for thruAll (PkI R made tree y Z wi σ tV ok (.int ((done.length + 1 : Nat) : Int)) (done ++ ((pl, ks) :: rest).map wv) pl ks rest N) ?_)
      refine IE_of (EV_name (v := .tup (ks.map T.toV)) (mI 9 rfl) ⟨_, _, ITER_tup, ⟨okd, o3, o4, H, [], rfl, ?_, nofun, ?_⟩, fun z_ z_ z_ z_ z_ => trivial, ?_, ?_⟩)
      · rw [List.append_nil, List.map_nil, List.append_nil]; exact S
      · rw [List.append_nil]; exact hN
      · intro j m' σ'' x hx I
        rw [List.getElem?_map] at hx
        refine shut fun P_ o_ => ?_
        obtain ⟨t, ht, ex⟩ := Option.map_eq_some_iff.mp hx
        obtain ⟨okd, o3, o4, H', new, em, S', hne', q1⟩ := I
        have hj : j < ks.length := (List.getElem?_eq_some_iff.mp ht).1
        have hdr : ks.drop j = t :: ks.drop (j + 1) := by
          rw [List.drop_eq_getElem_cons hj]; congr 1; exact (List.getElem?_eq_some_iff.mp ht).2
        refine o_ ?_
        rw [← ex, em]
        rw [hdr] at S' q1
        refine ASG_name ⟨_, (uI 10 rfl), ?_⟩
        refine pk_turn (F := fl (pl + j + 1) (ks.drop (j + 1)) ++ flw (rest ++ new)) P hZ hy h19 hwi h20 S' fun okd o4 new₂ H₂ σ₂ S₂ hne₂ q₂ => ?_
        have ef : fl (pl + j + 1) (ks.drop (j + 1)) ++ flw (rest ++ new) ++ flw new₂ = fl (pl + (j + 1)) (ks.drop (j + 1)) ++ flw (rest ++ (new ++ new₂)) := by rw [List.append_assoc, ← flw_app, List.append_assoc]; rfl
        have ew : done ++ ((pl, ks) :: rest).map wv ++ new.map wv ++ new₂.map wv = done ++ ((pl, ks) :: rest).map wv ++ (new ++ new₂).map wv := by rw [List.map_append, List.append_assoc]
        have q1' : psz ((pl + j, t) :: (fl (pl + j + 1) (ks.drop (j + 1)) ++ flw (rest ++ new))) + j ≤ N + 1 := q1
        rw [ew, ef] at S₂
        rw [ef] at q₂
        exact EXs_last (EX_aug (mI 8 rfl) (EV_int (OP_iaddI ⟨_, (uI 8 rfl), okd, _, o4, H₂, new ++ new₂, rfl, S₂, fun e he => (List.mem_append.mp he).elim (hne' e) (hne₂ e), by lia -abstractProof⟩)))
      · intro m' σ'' I
        refine shut fun P_ o_ => ?_
        obtain ⟨okd, o3, o4, H', new, em, S', hne', q1⟩ := I
        refine o_ ?_
        rw [em]
        rw [List.length_map, List.drop_length] at S' q1
        have hkl : 1 ≤ ks.length := Nat.pos_of_ne_zero fun q => hks (List.eq_nil_of_length_eq_zero q)
        have := ih (rest ++ new) (done ++ [wv (pl, ks)]) H' σ'' ok okd (some (V.int ((pl + (ks.map T.toV).length : Nat) : Int))) (some (.tup (ks.map T.toV))) o3 o4 (by have : psz (flw (rest ++ new)) + ks.length ≤ N + 1 := q1; lia -abstractProof) (fun e he => (List.mem_append.mp he).elim (fun h => hne e (.tail _ h)) (hne' e)) (by
          have e : done ++ ((pl, ks) :: rest).map wv ++ new.map wv = done ++ [wv (pl, ks)] ++ (rest ++ new).map wv := by simp
          rw [e] at S'; exact S')
        rw [List.length_append] at this
        exact this
end
end
theorem Inv.start {R : Int → T} {H : List Cl} {f : Int} {x : T} (hf : f ≠ 0) (ht : HT R H) (h5 : 5 ≤ H.length) (wf : x.wf) : Inv R (blkC f H.length) (.s1 f x) (H ++ blkH f H.length 1) (flw [(blkB f H.length, [x])]) := by
  have eb : blkB f H.length = H.length + 1 := by unfold blkB; rw [if_neg hf]
  have el : (H ++ blkH f H.length 1).length = H.length + 2 := by rw [List.length_append, blkH_len, if_neg hf]
  have ht' : HT R (H ++ blkH f H.length 1) := ht.agree fun j hj => List.getElem?_append_left (by lia -abstractProof)
  refine ⟨by simp [flw, fl, adr], ?_, ht', by lia -abstractProof, ?_, ?_⟩
  · intro a ha
    simp [flw, fl, adr] at ha
    subst ha; rw [el, eb]; lia -abstractProof
  · intro p hp
    simp [flw, fl] at hp
    subst hp; exact wf
  · intro H' M ag rs nd ge
    have eq : flw [(blkB f H.length, [x])] = [(blkB f H.length, x)] := rfl
    rw [eq] at ag rs
    cases rs with
    | cons h r z =>
      cases z
      rw [List.append_nil] at nd ge
      refine ⟨_, .s1 (.inr ?_) h r, List.nodup_cons.mpr ⟨fun q => ?_, nd⟩⟩
      · rw [ag H.length (by lia -abstractProof) (by simp [adr, eb]), List.getElem?_append_right (Nat.le_refl _), Nat.sub_self]
        unfold blkH; rw [if_neg hf]; rfl
      · have := ge _ q; lia -abstractProof
noncomputable def pm0 (tV : V) (ok : Option V) : Loc := [(("self" : Str), some (V.ref 12)), (("term" : Str), some tV), (("table" : Str), some (V.ref 19)), (("k" : Str), ok), (("kind" : Str), none), (("made" : Str), none), (("waiting" : Str), none), (("at" : Str), none), (("place" : Str), none), (("items" : Str), none), (("item" : Str), none), (("inner" : Str), none)]
section
variable {B : Bs} {n : Nat} {X : V → List AO → Prop} {σ : List AO} {Q : V → List AO → Prop} {G : Gs} {m : Loc}
theorem CA_put_term (P : PF B) {H : List Cl} {y : Sy} {R : Int → T} {f : Int} {x : T} {Z : Nat} (st : StAt H σ) (hy : SyAt y σ) (h19 : σ[19]? = some (.dI cellsT)) (ht : HT R H) (h5 : 5 ≤ H.length) (hok : (T.s1 f x).ok y) (hZ : Z ≤ 4600) (hz : H.length + 2 + 3 * x.sz ≤ Z) (hz2 : x.sz ≤ 3000)
    (h : ∀ H' σ' L, Kp [13] σ σ' → StAt H' σ' → HT R H' → Rep H' R (blkC f H.length) (.s1 f x) L → L.Nodup → H'.length ≤ Z → Q (cellV (blkC f H.length)) σ') : CA B (n + 4) X (.ref 406) [.ref 12, (T.s1 f x).toV, .ref 19] σ Q := by
  obtain ⟨t0, g0⟩ := P.i_SRF
  refine CA_fn (others := ["k", "kind", "made", "waiting", "at", "place", "items", "item", "inner"]) (G := ⟨["SRF", "CON", "INT", "list", "len"], [], []⟩) thruAll P.f_Store_put_term (by decide +kernel) rfl ?_
  have l19 : 19 < σ.length := idx_lt h19
  refine EXs_next (EX_for thruAll (fun (j : Nat) (m : Loc) (σ' : List AO) => ∃ ok : Option V, m = pm0 (T.s1 f x).toV ok ∧ σ' = σ ++ [.list (cellsT.map fun p => V.int p.1)]) ?_)
  refine IE_of (EV_callB (mI 3 rfl) P.n_list bt_list (by decide) (fun h => keeps_type _ _ h) rfl (EV_name (v := .ref 19) (mI 2 rfl) (OP_listI h19 (by decide) ⟨_, _, ITER_list get_app, ⟨none, rfl, rfl⟩, ?_, ?_, ?_⟩)))
  · rintro k m' σ' _ ⟨o, rfl, rfl⟩
    exact get_app
  · rintro k m' σ' z hz ⟨o, rfl, rfl⟩
    have hz' : z ∈ cellsT.map fun p => V.int p.1 := List.mem_of_getElem? hz
    obtain ⟨j, j0, j5, rfl⟩ : ∃ j : Int, 0 ≤ j ∧ j < 5 ∧ z = .int j := by
      simp [cellsT] at hz'
      rcases hz' with rfl | rfl | rfl | rfl | rfl <;> exact ⟨_, by decide, by decide, rfl⟩
    refine ASG_name ⟨_, (uI 3 rfl), ?_⟩
    refine EXs_last (EX_if (TE_cmp (EV_sub (EV_sub (EV_name (v := .ref 19) (mI 2 rfl) (EV_name (v := .int j) (mI 3 rfl) (SUB_dI ((Kp.app (D := [])).get h19 List.not_mem_nil) (cellsT_at j0 j5) (EV_int (SUB_tup (k := 0) (x := .int 0) (by decide) rfl (EV_gint (mI 0 rfl) g0 (OP_eqI ⟨_, rfl, fun q => absurd q (by decide), fun z_ => ?_⟩)))))))))))
    exact EXs_nil ⟨_, rfl, rfl⟩
  rintro m' σ' ⟨ok, rfl, rfl⟩
  refine ⟨rfl, ?_⟩
  have k1 : Kp [13] σ (σ ++ [.list (cellsT.map fun p => V.int p.1)]) := .app
  have st1 : StAt H (σ ++ [.list (cellsT.map fun p => V.int p.1)]) := st.kp (D := []) .app (by decide)
  generalize σ ++ [.list (cellsT.map fun p => V.int p.1)] = σ₁ at k1 st1 ⊢
  refine EXs_next (EX_assign (EV_kind (t := .s1 f x) (mI 1 rfl) ⟨_, (uI 4 rfl), rfl, ?_⟩))
  refine EXs_cons (EX_if (TE_cmp (EV_name (v := .str "s") (mI 4 rfl) (EV_str (OP_eqS ⟨_, rfl, fun q => absurd q (by decide +kernel), fun z_ => ?_⟩)))))
  refine EXs_nil ⟨fun z_ => ?_, fun q => absurd rfl q⟩
  refine EXs_cons (EX_if (TE_cmp (EV_name (v := .str "s") (mI 4 rfl) (EV_str (OP_eqS ⟨_, rfl, fun q => absurd q (by decide +kernel), fun z_ => ?_⟩)))))
  refine EXs_nil ⟨fun z_ => ?_, fun q => absurd rfl q⟩
  refine EXs_cons (EX_if (TE_cmp (EV_name (v := .str "s") (mI 4 rfl) (EV_str (OP_eqS ⟨_, rfl, fun q => absurd q (by decide +kernel), fun z_ => ?_⟩)))))
  refine EXs_nil ⟨fun z_ => ?_, fun q => absurd rfl q⟩
  refine EXs_next (EX_assign (EV_sm P (mI 0 rfl) st1 P.m_Store_new_block (by decide) rfl (by decide) rfl (EV_snd (mI 1 rfl) (CA.op (CA_newb (n := n) (k := 1) P st1 (hy.kp k1 (by decide)) hok.2.1 (fun q => absurd q hok.1) (by lia -abstractProof) fun σ₂ k2 e2 s2 => ⟨_, (uI 5 rfl), rfl, ?_⟩)))))
  refine EXs_next (EX_assign (EV_list rfl (by decide) (EV_tuple rfl (by decide) (EV_sm P (mI 0 rfl) s2 P.m_Store_base (by decide) rfl (by decide) rfl (EV_name (v := cellV (blkC f H.length)) (mI 5 rfl) (CA.op (CA_baseB P (EV_trd (mI 1 rfl) ⟨_, (uI 6 rfl), rfl, ?_⟩))))))))
  refine EXs_next (EX_assign (EV_int ⟨_, (uI 7 rfl), rfl, ?_⟩))
  refine EXs_next (EX_while ?_)
  have inv := Inv.start (x := x) hok.1 ht h5 (T.ok.wf hok.2.2)
  have k3 : Kp [13] σ (σ₂ ++ [.list [wv (blkB f H.length, [x])]]) := (k1.trans k2).trans .app
  have bl : (blkH f H.length 1).length = 2 := by rw [blkH_len, if_neg hok.1]
  have ep : psz (flw [(blkB f H.length, [x])]) = x.sz := by simp [flw, fl, psz]
  exact put_key (X := X) (n := n) (tV := (T.s1 f x).toV) P (show Z ≤ 4700 by lia -abstractProof) hy h19 (wi := σ₂.length) (k1.trans k2).1 (by lia -abstractProof) h x.sz [(blkB f H.length, [x])] [] _ _ ok _ _ _ _ _ (by lia -abstractProof) (by simp) ⟨k3, s2.kp (D := []) .app (by decide), get_app, inv, by simp [flw, fl]; exact hok.2.2, by simp only [ep, List.length_append, bl]; lia -abstractProof, by simp only [ep]; simp; lia -abstractProof⟩
end
theorem at_put {l : List (Int × V)} {k q : Int} {v : V} : at? (put l k v) q = if q = k then some v else at? l q := by
  unfold put
  split
  · rename_i h
    rw [List.any_eq_true] at h
    obtain ⟨p, hp, e⟩ := h
    have e : p.1 = k := by simpa using e
    induction l with
    | nil => simp at hp
    | cons u r ih =>
      unfold at? at ih ⊢
      rw [List.map_cons]
      by_cases hu : u.1 = k
      · by_cases hq : q = k
        · subst hq; simp [hu]
        · have hq' : ¬ k = q := fun e => hq e.symm
          rw [if_pos hu, List.find?_cons_of_neg (by simpa [hu] using hq'), List.find?_cons_of_neg (by simpa [hu] using hq'), if_neg hq]
          by_cases hr : p ∈ r
          · have := ih hr; rw [if_neg hq] at this; exact this
          · have : ∀ (r : List (Int × V)), (List.find? (fun kv => decide (kv.1 = q)) (r.map fun kv => if kv.1 = k then (kv.1, v) else kv)).map (·.2) = (List.find? (fun kv => decide (kv.1 = q)) r).map (·.2) := by
              intro r
              induction r with
              | nil => rfl
              | cons w s ih2 =>
                rw [List.map_cons]
                by_cases hw : w.1 = k
                · rw [if_pos hw, List.find?_cons_of_neg (by simpa [hw] using hq'), List.find?_cons_of_neg (by simpa [hw] using hq')]; exact ih2
                · rw [if_neg hw]
                  by_cases hz : w.1 = q
                  · rw [List.find?_cons_of_pos (by simpa using hz), List.find?_cons_of_pos (by simpa using hz)]
                  · rw [List.find?_cons_of_neg (by simpa using hz), List.find?_cons_of_neg (by simpa using hz)]; exact ih2
            exact this r
      · rw [if_neg hu]
        by_cases hq : u.1 = q
        · have : ¬ q = k := fun e => hu (hq.trans e)
          rw [List.find?_cons_of_pos (by simpa using hq), List.find?_cons_of_pos (by simpa using hq), if_neg this]
        · rw [List.find?_cons_of_neg (by simpa using hq), List.find?_cons_of_neg (by simpa using hq)]
          refine ih ?_
          rcases List.mem_cons.mp hp with h | h
          · exact absurd (h ▸ e) hu
          · exact h
  · rename_i h
    have hn : ∀ p, p ∈ l → p.1 ≠ k := fun p hp e => h (List.any_eq_true.mpr ⟨p, hp, by simpa using e⟩)
    unfold at?
    simp only [List.find?_append]
    by_cases hq : q = k
    · subst hq
      have : List.find? (fun kv => decide (kv.1 = q)) l = none := by
        rw [List.find?_eq_none]; intro p hp; simpa using hn p hp
      rw [this]; simp
    · have hq' : ¬ k = q := fun e => hq e.symm
      rw [if_neg hq, List.find?_cons_of_neg (by simpa using hq')]
      simp
theorem put_len {l : List (Int × V)} {k : Int} {v : V} : (put l k v).length ≤ l.length + 1 := by
  unfold put; split <;> simp
theorem dN_put {l : List Int} {r : Int} (h : r ∉ l) : put (numL l 0) r (.int (l.length : Nat)) = numL (l ++ [r]) 0 := by
  rw [numL_app, Nat.zero_add]
  exact put_new fun p hp e => h (e ▸ numL_mem hp)
theorem cellOf_leaf {R : Int → T} {ties : List T} (r : RT ties R) {k : Int} (h0 : 0 ≤ k) (h5 : k < 5) : (cellOf (R k)).1 ≠ 2 ∧ (cellOf (R k)).1 ≠ 3 := by
  rcases r.good k h0 h5 with ⟨j, -, -, hj, -⟩ | ⟨i, hi⟩
  · rw [hj]; exact ⟨(by decide : (0:Int) ≠ 2), (by decide : (0:Int) ≠ 3)⟩
  · rw [hi]; exact ⟨(by decide : (5:Int) ≠ 2), (by decide : (5:Int) ≠ 3)⟩
theorem Rep.part {H : List Cl} {R : Int → T} {ties : List T} (r : RT ties R) {c : Cl} {t : T} {L : List Nat} (h : Rep H R c t L) (w : t.wf) :
    (t.dep = 0 ∧ ∃ c', Der H c c' ∧ c'.1 ≠ 2 ∧ c'.1 ≠ 3) ∨ (t.dep ≠ 0 ∧ Der H c c ∧ (c.1 = 2 ∨ c.1 = 3)) := by
  cases h with
  | v d => exact .inl ⟨rfl, _, d, cellOf_leaf r w.1 w.2⟩
  | a => exact .inl ⟨rfl, _, .val (by decide) (by decide), by simp, by simp⟩
  | i => exact .inl ⟨rfl, _, .val (by decide) (by decide), by simp, by simp⟩
  | @s1 f x p c L hf h1 r =>
    refine .inr ⟨Nat.succ_ne_zero _, ?_, ?_⟩ <;> by_cases q : f = 0 <;> simp [blkC, q]
    · exact .val (by decide) (by decide)
    · exact .val (by decide) (by decide)
  | @s2 f x z p c d L M hf h1 h2 r r' =>
    refine .inr ⟨Nat.succ_ne_zero _, ?_, ?_⟩ <;> by_cases q : f = 0 <;> simp [blkC, q]
    · exact .val (by decide) (by decide)
    · exact .val (by decide) (by decide)
theorem T.sz_leaf {t : T} (h : t.dep = 0) : t.sz = 1 := by cases t <;> first | rfl | first | exact absurd rfl h | exact (Nat.succ_ne_zero _ h).elim
section
variable {B : Bs} {n : Nat} {X : V → List AO → Prop} {σ : List AO} {Q : V → List AO → Prop} {G : Gs} {m : Loc}
theorem CA_fctB (P : PF B) {H : List Cl} {f : Int} {p : Nat} (st : StAt H σ) (hf : f = 0 ∨ H[p]? = some (6, f)) (h : Q (.int f) σ) : CA B (n + 1) X (.ref 335) [.ref 12, cellV (blkC f p)] σ Q := by
  by_cases q : f = 0
  · subst q; exact CA_functor_of3 P h
  · have e1 : blkC f p = (2, (p : Int)) := by unfold blkC; rw [if_neg q]
    rw [e1]
    exact CA_functor_of2 P st (by lia) (by simp only [Int.toNat_natCast]; exact hf.resolve_left q) h
theorem CA_widB (P : PF B) {H : List Cl} {y : Sy} {f : Int} {p k : Nat} (st : StAt H σ) (hy : SyAt y σ) (hf : f = 0 ∨ H[p]? = some (6, f)) (ha : Ar y f k) (h0 : f = 0 → k = 2) (h : Q (.int k) σ) : CA B (n + 2) X (.ref 342) [.ref 12, cellV (blkC f p)] σ Q := by
  by_cases q : f = 0
  · have := h0 q; subst this; subst q; exact CA_width3 P h
  · have e1 : blkC f p = (2, (p : Int)) := by unfold blkC; rw [if_neg q]
    rw [e1]
    exact CA_width2 P st hy (by lia) (by simp only [Int.toNat_natCast]; exact hf.resolve_left q) ha h
structure Parts (H : List Cl) (R : Int → T) (b : Nat) (ds : List Cl) (ks : List T) (sl : List (Int × V)) : Prop where
  len : ds.length = ks.length
  at_ : ∀ j, j < ds.length → H[b + j]? = ds[j]?
  rep : ∀ (j : Nat) (d : Cl) (t : T), ds[j]? = some d → ks[j]? = some t → (∃ L, Rep H R d t L) ∧ (t.dep ≠ 0 → at? sl d.2 = some (.int (t.sz : Nat)))
theorem CA_whole_size (P : PF B) {H : List Cl} {y : Sy} {R : Int → T} {ties : List T} (r : RT ties R) {f : Int} {p si : Nat} {ds : List Cl} {ks : List T} {sl : List (Int × V)} (st : StAt H σ) (hy : SyAt y σ) (hf : f = 0 ∨ H[p]? = some (6, f)) (ha : Ar y f ks.length) (h0 : f = 0 → ks.length = 2)
    (hp : Parts H R (blkB f p) ds ks sl) (hs : σ[si]? = some (.dI sl)) (hw : ∀ t, t ∈ ks → t.wf) (h2 : ks.length ≤ 2) (h : Q (.int ((1 + (ks.map T.sz).sum : Nat) : Int)) σ) : CA B (n + 3) X (.ref 413) [.ref 12, cellV (blkC f p), .ref si] σ Q := by
  refine CA_fn (others := ["size", "place", "step", "part"]) (G := ⟨["range"], [], []⟩) thruAll P.f_Store_whole_size (by decide +kernel) rfl ?_
  refine EXs_next (EX_assign (EV_int ⟨_, (uI 3 rfl), rfl, ?_⟩))
  refine EXs_next (EX_assign (EV_sm P (mI 0 rfl) st P.m_Store_base (by decide) rfl (by decide) rfl (EV_name (v := cellV (blkC f p)) (mI 1 rfl) (CA.op (CA_baseB P ⟨_, (uI 4 rfl), rfl, ?_⟩)))))
  refine EXs_next (EX_for thruAll (fun (j : Nat) (m : Loc) (σ' : List AO) => ∃ (o o' : Option V), m = [(("self" : Str), some (V.ref 12)), (("cell" : Str), some (cellV (blkC f p))), (("sizes" : Str), some (V.ref si)), (("size" : Str), some (V.int ((1 + ((ks.take j).map T.sz).sum : Nat) : Int))), (("place" : Str), some (V.int (blkB f p : Nat))), (("step" : Str), o), (("part" : Str), o')] ∧ σ' = σ) ?_)
  refine IE_range (mI 0 rfl) P.n_range bt_range (by decide) rfl (EV_sm P (mI 0 rfl) st P.m_Store_width (by decide) rfl (by decide) rfl (EV_name (v := cellV (blkC f p)) (mI 1 rfl) (CA.op (CA_widB P st hy hf ha h0 (.inl ⟨ks.length, rfl, by lia, ?_, fun z_ z_ z_ z_ z_ => trivial, ?_, ?_⟩)))))
  · exact ⟨none, none, by simp; rfl, rfl⟩
  · rintro j m' σ' x hx ⟨o, o', rfl, rfl⟩
    have hj : j < ks.length := by rw [← rng_length 0 1 ks.length]; exact (List.getElem?_eq_some_iff.mp hx).1
    rw [rng_get 0 1 _ j hj] at hx
    cases hx
    have hjd : j < ds.length := by simp only [hp.len]; exact hj
    obtain ⟨t, ht⟩ : ∃ t, ks[j]? = some t := ⟨_, List.getElem?_eq_getElem hj⟩
    obtain ⟨d, hd⟩ : ∃ d, ds[j]? = some d := ⟨_, List.getElem?_eq_getElem hjd⟩
    have hH : H[blkB f p + j]? = some d := by simp only [hp.at_ j hjd, hd]
    obtain ⟨⟨L, rep⟩, hsz⟩ := hp.rep j d t hd ht
    have hts : (((ks.take (j + 1)).map T.sz).sum) = ((ks.take j).map T.sz).sum + t.sz := by simp only [List.take_add_one, ht]; simp
    refine ASG_name ⟨_, (uI 5 rfl), ?_⟩
    have ej : ((blkB f p : Nat) : Int) + (0 + j * 1) = ((blkB f p + j : Nat) : Int) := by lia
    rcases rep.part r (hw t (List.mem_of_getElem? ht)) with ⟨t0, c', dc, n2, n3⟩ | ⟨t0, dc, n2⟩
    · refine EXs_next (EX_assign (EV_sm P (mI 0 rfl) st P.m_Store_deref (by decide) rfl (by decide) rfl (EV_sub (EV_heap P (mI 0 rfl) st (EV_bin (EV_name (v := .int (blkB f p : Nat)) (mI 4 rfl) (EV_name (v := .int (0 + j * 1)) (mI 5 rfl) (OP_add ?_))))))))
      simp only [ej]
      refine SUB_cell st (by lia) (by simp only [Int.toNat_natCast]; exact hH) (CA.op (CA_deref P st dc ⟨_, (uI 6 rfl), rfl, ?_⟩))
      refine EXs_last (EX_if (TE_val (EV_sm P (mI 0 rfl) st P.m_Store_is_compound (by decide) rfl (by decide) rfl (EV_name (v := cellV c') (mI 6 rfl) (CA.op (CA_is_compound P ⟨_, rfl, fun q => absurd q (by simp [n2, n3]), fun z_ => ?_⟩))))))
      refine EXs_last (EX_aug (mI 3 rfl) (EV_int (OP_iaddI ⟨_, (uI 3 rfl), some (V.int (0 + j * 1)), some (cellV c'), ?_, rfl⟩)))
      simp only [hts, T.sz_leaf t0, ← Nat.add_assoc]
      rfl
    · refine EXs_next (EX_assign (EV_sm P (mI 0 rfl) st P.m_Store_deref (by decide) rfl (by decide) rfl (EV_sub (EV_heap P (mI 0 rfl) st (EV_bin (EV_name (v := .int (blkB f p : Nat)) (mI 4 rfl) (EV_name (v := .int (0 + j * 1)) (mI 5 rfl) (OP_add ?_))))))))
      simp only [ej]
      refine SUB_cell st (by lia) (by simp only [Int.toNat_natCast]; exact hH) (CA.op (CA_deref P st dc ⟨_, (uI 6 rfl), rfl, ?_⟩))
      refine EXs_last (EX_if (TE_val (EV_sm P (mI 0 rfl) st P.m_Store_is_compound (by decide) rfl (by decide) rfl (EV_name (v := cellV d) (mI 6 rfl) (CA.op (CA_is_compound P ⟨_, rfl, fun z_ => ?_, fun q => absurd q (by rcases n2 with n2 | n2 <;> simp [n2])⟩))))))
      refine EXs_last (EX_aug (mI 3 rfl) (EV_sub (EV_name (v := .ref si) (mI 2 rfl) (EV_snd (mI 6 rfl) (SUB_dI hs (hsz t0) (OP_iaddI ⟨_, (uI 3 rfl), some (V.int (0 + j * 1)), some (cellV d), ?_, rfl⟩))))))
      simp only [hts, ← Nat.add_assoc]
      rfl
  · intro m' σ' z2_
    refine shut fun P_ o_ => ?_
    obtain ⟨o, o', rfl, rfl⟩ := z2_
    refine o_ ?_
    rw [rng_length, List.take_length]
    refine ⟨rfl, ?_⟩
    refine EXs_last (EX_ret (EV_name (v := .int _) (mI 3 rfl) h))
end
structure TS (σ0 : List AO) (tb : Nat) (σ' : List AO) (seen : List Int) (kl sl : List (Int × V)) (res w : List V) : Prop where
  kp : Kp [tb] σ0 σ'
  t : σ'[tb]? = some (.dI (numL seen 0))
  k : σ'[σ0.length]? = some (.dI kl)
  s : σ'[σ0.length + 1]? = some (.dI sl)
  r : σ'[σ0.length + 2]? = some (.list res)
  w : σ'[σ0.length + 3]? = some (.list w)
noncomputable def wV (c : Cl) : V := .tup [.int 0, cellV c]
noncomputable def bV (c : Cl) : V := .tup [.int 1, cellV c]
noncomputable def TS0 (σ0 : List AO) (tb : Nat) : Prop := 20 ≤ σ0.length ∧ tb < σ0.length ∧ 19 < tb
section
variable {B : Bs} {n : Nat} {X : V → List AO → Prop} {σ : List AO} {Q : V → List AO → Prop} {G : Gs} {m : Loc}
theorem TS.setT {σ0 σ' : List AO} {tb : Nat} {seen seen' : List Int} {kl sl : List (Int × V)} {res w : List V} (h0 : TS0 σ0 tb) (s : TS σ0 tb σ' seen kl sl res w) : TS σ0 tb (σ'.set tb (.dI (numL seen' 0))) seen' kl sl res w := by
  have := h0.2.1
  exact ⟨s.kp.trans (.set (by simp)), set_get s.t, by rw [List.getElem?_set_ne (by lia -abstractProof)]; exact s.k, by rw [List.getElem?_set_ne (by lia -abstractProof)]; exact s.s, by rw [List.getElem?_set_ne (by lia -abstractProof)]; exact s.r, by rw [List.getElem?_set_ne (by lia -abstractProof)]; exact s.w⟩
theorem TS.setK {σ0 σ' : List AO} {tb : Nat} {seen : List Int} {kl kl' sl : List (Int × V)} {res w : List V} (h0 : TS0 σ0 tb) (s : TS σ0 tb σ' seen kl sl res w) : TS σ0 tb (σ'.set σ0.length (.dI kl')) seen kl' sl res w := by
  have := h0.2.1
  exact ⟨s.kp.setN (by lia -abstractProof), by rw [List.getElem?_set_ne (by lia -abstractProof)]; exact s.t, set_get s.k, by rw [List.getElem?_set_ne (by lia -abstractProof)]; exact s.s, by rw [List.getElem?_set_ne (by lia -abstractProof)]; exact s.r, by rw [List.getElem?_set_ne (by lia -abstractProof)]; exact s.w⟩
theorem TS.setS {σ0 σ' : List AO} {tb : Nat} {seen : List Int} {kl sl sl' : List (Int × V)} {res w : List V} (h0 : TS0 σ0 tb) (s : TS σ0 tb σ' seen kl sl res w) : TS σ0 tb (σ'.set (σ0.length + 1) (.dI sl')) seen kl sl' res w := by
  have := h0.2.1
  exact ⟨s.kp.setN (by lia -abstractProof), by rw [List.getElem?_set_ne (by lia -abstractProof)]; exact s.t, by rw [List.getElem?_set_ne (by lia -abstractProof)]; exact s.k, set_get s.s, by rw [List.getElem?_set_ne (by lia -abstractProof)]; exact s.r, by rw [List.getElem?_set_ne (by lia -abstractProof)]; exact s.w⟩
theorem TS.setR {σ0 σ' : List AO} {tb : Nat} {seen : List Int} {kl sl : List (Int × V)} {res res' w : List V} (h0 : TS0 σ0 tb) (s : TS σ0 tb σ' seen kl sl res w) : TS σ0 tb (σ'.set (σ0.length + 2) (.list res')) seen kl sl res' w := by
  have := h0.2.1
  exact ⟨s.kp.setN (by lia -abstractProof), by rw [List.getElem?_set_ne (by lia -abstractProof)]; exact s.t, by rw [List.getElem?_set_ne (by lia -abstractProof)]; exact s.k, by rw [List.getElem?_set_ne (by lia -abstractProof)]; exact s.s, set_get s.r, by rw [List.getElem?_set_ne (by lia -abstractProof)]; exact s.w⟩
theorem TS.setW {σ0 σ' : List AO} {tb : Nat} {seen : List Int} {kl sl : List (Int × V)} {res w w' : List V} (h0 : TS0 σ0 tb) (s : TS σ0 tb σ' seen kl sl res w) : TS σ0 tb (σ'.set (σ0.length + 3) (.list w')) seen kl sl res w' := by
  have := h0.2.1
  exact ⟨s.kp.setN (by lia -abstractProof), by rw [List.getElem?_set_ne (by lia -abstractProof)]; exact s.t, by rw [List.getElem?_set_ne (by lia -abstractProof)]; exact s.k, by rw [List.getElem?_set_ne (by lia -abstractProof)]; exact s.s, by rw [List.getElem?_set_ne (by lia -abstractProof)]; exact s.r, set_get s.w⟩
theorem TS.app {σ0 σ' : List AO} {tb : Nat} {seen : List Int} {kl sl : List (Int × V)} {res w : List V} {o : AO} (s : TS σ0 tb σ' seen kl sl res w) : TS σ0 tb (σ' ++ [o]) seen kl sl res w :=
  ⟨s.kp.trans .app, (Kp.app (D := [])).get s.t List.not_mem_nil, (Kp.app (D := [])).get s.k List.not_mem_nil, (Kp.app (D := [])).get s.s List.not_mem_nil, (Kp.app (D := [])).get s.r List.not_mem_nil, (Kp.app (D := [])).get s.w List.not_mem_nil⟩
noncomputable def tG : Gs := ⟨["BUILD", "VISIT", "REF", "CON", "INT", "len", "tuple", "range"], [], []⟩
noncomputable def tL (σ0 : List AO) (tb : Nat) (oc ow of_ ofi ote ota op os : Option V) : Loc := [(("self" : Str), some (V.ref 12)), (("cell" : Str), oc), (("table" : Str), some (V.ref tb)), (("known" : Str), some (V.ref σ0.length)), (("sizes" : Str), some (V.ref (σ0.length + 1))), (("results" : Str), some (V.ref (σ0.length + 2))), (("work" : Str), some (V.ref (σ0.length + 3))), (("what" : Str), ow), (("f" : Str), of_), (("first" : Str), ofi), (("term" : Str), ote), (("tag" : Str), ota), (("place" : Str), op), (("step" : Str), os)]
noncomputable def tQ (B : Bs) (n : Nat) (X : V → List AO → Prop) (Q : V → List AO → Prop) : AF → Loc → List AO → Prop := Nx B (n + 3) X tG ((fnB (meth 35 5)).drop 5) (FnQ Q)
noncomputable def tT : Expr := whT (nth (fnB (meth 35 5)) 4)
noncomputable def tB : List Stmt := fnB (nth (fnB (meth 35 5)) 4)
noncomputable def LT (B : Bs) (n : Nat) (X : V → List AO → Prop) (Q : V → List AO → Prop) (σ0 : List AO) (tb : Nat) (σ' : List AO) : Prop :=
  ∀ oc ow of_ ofi ote ota op os, LW B (n + 3) X tG tT tB (tL σ0 tb oc ow of_ ofi ote ota op os) σ' (tQ B n X Q)
inductive tNx (B : Bs) (n : Nat) (X : V → List AO → Prop) (Q : V → List AO → Prop) (σ0 : List AO) (tb : Nat) (m₂ : Loc) (σ₂ : List AO) : Prop
  | mk (q : LT B n X Q σ0 tb σ₂) (oc ow of_ ofi ote ota op os : Option V) (e : m₂ = tL σ0 tb oc ow of_ ofi ote ota op os)
noncomputable abbrev tK (B : Bs) (n : Nat) (X : V → List AO → Prop) (Q : V → List AO → Prop) (σ0 : List AO) (tb : Nat) : AF → Loc → List AO → Prop := fun af m₂ σ₂ => match af with
  | .nxt => tNx B n X Q σ0 tb m₂ σ₂
  | .cnt => tNx B n X Q σ0 tb m₂ σ₂
  | _ => False
theorem take_done (P : PF B) {σ0 : List AO} {tb : Nat} {σ' : List AO} {seen : List Int} {kl sl : List (Int × V)} {r : V} {rest : List V} (s : TS σ0 tb σ' seen kl sl (r :: rest) []) (h : Q r σ') : LT B n X Q σ0 tb σ' := by
  intro oc ow of_ ofi ote ota op os
  refine LW_step thruAll ?_
  refine TE_cmp (EV_len P (mI 5 rfl) rfl (EV_name (v := .ref (σ0.length + 3)) (mI 6 rfl) (OP_lenL s.w (by simp) (EV_int (OP_gtI ⟨_, rfl, fun q => absurd q (by decide), fun z_ => ⟨rfl, ?_⟩⟩)))))
  refine EXs_last (EX_ret (EV_sub (EV_name (v := .ref (σ0.length + 2)) (mI 5 rfl) (EV_int (SUB_list (k := 0) (x := r) s.r (by decide) (by decide) rfl h)))))
theorem take_pop (P : PF B) {σ0 : List AO} {tb : Nat} {σ' : List AO} {seen : List Int} {kl sl : List (Int × V)} {res w : List V} {a : Int} {c : Cl} (h0 : TS0 σ0 tb) (s : TS σ0 tb σ' seen kl sl res (w ++ [.tup [.int a, cellV c]])) (z : w.length ≤ 5000)
    (h : ∀ σ'' of_ ofi ote ota op os, TS σ0 tb σ'' seen kl sl res w → EXs B (n + 3) X tG (tL σ0 tb (some (cellV c)) (some (.int a)) of_ ofi ote ota op os) σ'' (tB.drop 1) (tK B n X Q σ0 tb)) : LT B n X Q σ0 tb σ' := by
  intro oc ow of_ ofi ote ota op os
  refine LW_step thruAll ?_
  refine TE_cmp (EV_len P (mI 5 rfl) rfl (EV_name (v := .ref (σ0.length + 3)) (mI 6 rfl) (OP_lenL s.w (by simp; omega) (EV_int (OP_gtI ⟨_, rfl, fun z_ => ?_, fun q => absurd q (by simp)⟩)))))
  refine EXs_next (EX_assign2 (EV_bmeth rfl (by decide) rfl (EV_name (v := .ref (σ0.length + 3)) (mI 6 rfl) ⟨"list.pop", GM_list s.w PySem.F.slot_list_pop PySem.F.type_list_pop, ?_⟩)))
  refine OP_popL s.w (by omega) ⟨.int a, cellV c, rfl, _, _, (uI 7 rfl), (uI 1 rfl), rfl, ?_⟩
  refine EXs_mono (h _ of_ ofi ote ota op os (s.setW h0)) fun af m₂ σ₂ q => ?_
  cases af with
  | nxt => obtain ⟨q, oc, ow, of_, ofi, ote, ota, op, os, rfl⟩ := q; exact q oc ow of_ ofi ote ota op os
  | cnt => obtain ⟨q, oc, ow, of_, ofi, ote, ota, op, os, rfl⟩ := q; exact q oc ow of_ ofi ote ota op os
  | brk => exact q.elim
  | ret v => exact q.elim
end
section
variable {B : Bs} {n : Nat} {X : V → List AO → Prop} {σ : List AO} {Q : V → List AO → Prop} {G : Gs} {m : Loc}
theorem take_leaf (P : PF B) {σ0 : List AO} {tb : Nat} {H : List Cl} {R : Int → T} {ties : List T} (rt : RT ties R) {σ' : List AO} {seen : List Int} {kl sl : List (Int × V)} {res w : List V} {c : Cl} {t : T} {L : List Nat} (h0 : TS0 σ0 tb) (st0 : StAt H σ0) (s : TS σ0 tb σ' seen kl sl res (w ++ [wV c])) (z : w.length ≤ 5000)
    (z2 : res.length ≤ 5000) (z3 : seen.length ≤ 5000) (rep : Rep H R c t L) (hl : t.dep = 0) (wf : t.wf)
    (h : ∀ σ'', TS σ0 tb σ'' (sh R t seen).2 kl sl (res ++ [(sh R t seen).1.toV]) w → LT B n X Q σ0 tb σ'') : LT B n X Q σ0 tb σ' := by
  obtain ⟨tb', gB⟩ := P.i_BUILD
  obtain ⟨tr, gR⟩ := P.i_REF
  obtain ⟨tc, gC⟩ := P.i_CON
  obtain ⟨ti, gI⟩ := P.i_INT
  obtain ⟨l20, ltb, gtb⟩ := h0
  refine take_pop P ⟨l20, ltb, gtb⟩ s z fun σ'' of_ ofi ote ota op os sA => ?_
  have st := st0.kp sA.kp (by simp; lia)
  refine EXs_cons (EX_if (TE_cmp (EV_name (v := .int 0) (mI 7 rfl) (EV_gint (mI 0 rfl) gB (OP_eqI ⟨_, rfl, fun q => absurd q (by decide), fun z_ => ?_⟩)))))
  refine EXs_nil ⟨fun z_ => ?_, fun q => absurd rfl q⟩
  have intC : ∀ k, Der H c (5, k) → (sh R t seen) = (.i k, seen) → EXs B (n + 3) X tG (tL σ0 tb (some (cellV c)) (some (.int 0)) of_ ofi ote ota op os) σ'' (tB.drop 2) (tK B n X Q σ0 tb) := by
    intro k d e
    rw [e] at h
    refine EXs_next (EX_assign (EV_sm P (mI 0 rfl) st P.m_Store_deref (by decide) rfl (by decide) rfl (EV_name (v := cellV c) (mI 1 rfl) (CA.op (CA_deref P st d ⟨_, (uI 1 rfl), rfl, ?_⟩)))))
    refine EXs_next (EX_assign (EV_fst (mI 1 rfl) ⟨_, (uI 11 rfl), rfl, ?_⟩))
    refine EXs_last (EX_if (TE_cmp (EV_name (v := .int 5) (mI 11 rfl) (EV_gint (mI 2 rfl) gR (OP_eqI ⟨_, rfl, fun q => absurd q (by decide), fun z_ => ?_⟩)))))
    refine EXs_last (EX_if (TE_cmp (EV_name (v := .int 5) (mI 11 rfl) (EV_gint (mI 3 rfl) gC (OP_eqI ⟨_, rfl, fun q => absurd q (by decide), fun z_ => ?_⟩)))))
    refine EXs_last (EX_if (TE_cmp (EV_name (v := .int 5) (mI 11 rfl) (EV_gint (mI 4 rfl) gI (OP_eqI ⟨_, rfl, fun z_ => ?_, fun q => absurd q (by decide)⟩)))))
    refine EXs_last (EX_expr (EV_append rfl rfl (EV_name (v := .ref (σ0.length + 2)) (mI 5 rfl) ⟨_, rfl, ⟨_, sA.r⟩, ?_⟩)))
    refine EV_tuple rfl (by decide) (EV_str (EV_snd (mI 1 rfl) ⟨_, sA.r, by lia, h _ (sA.setR ⟨l20, ltb, gtb⟩), _, _, _, _, _, _, _, _, rfl⟩))
  cases rep with
  | i => exact intC _ (.val (by decide) (by decide)) rfl
  | @a k =>
    refine EXs_next (EX_assign (EV_sm P (mI 0 rfl) st P.m_Store_deref (by decide) rfl (by decide) rfl (EV_name (v := cellV (4, k)) (mI 1 rfl) (CA.op (CA_deref P st (.val (by decide) (by decide)) ⟨_, (uI 1 rfl), rfl, ?_⟩)))))
    refine EXs_next (EX_assign (EV_fst (mI 1 rfl) ⟨_, (uI 11 rfl), rfl, ?_⟩))
    refine EXs_last (EX_if (TE_cmp (EV_name (v := .int 4) (mI 11 rfl) (EV_gint (mI 2 rfl) gR (OP_eqI ⟨_, rfl, fun q => absurd q (by decide), fun z_ => ?_⟩)))))
    refine EXs_last (EX_if (TE_cmp (EV_name (v := .int 4) (mI 11 rfl) (EV_gint (mI 3 rfl) gC (OP_eqI ⟨_, rfl, fun z_ => ?_, fun q => absurd q (by decide)⟩)))))
    refine EXs_last (EX_expr (EV_append rfl rfl (EV_name (v := .ref (σ0.length + 2)) (mI 5 rfl) ⟨_, rfl, ⟨_, sA.r⟩, ?_⟩)))
    refine EV_tuple rfl (by decide) (EV_str (EV_snd (mI 1 rfl) ⟨_, sA.r, by lia, h _ (sA.setR ⟨l20, ltb, gtb⟩), _, _, _, _, _, _, _, _, rfl⟩))
  | @v k _ d =>
    rcases rt.good k wf.1 wf.2 with ⟨j, j0, j5, hj, -⟩ | ⟨i, hi⟩
    · rw [hj] at d
      have d : Der H c (0, j) := d
      have es : sh R (.v k) seen = (.v ((seeN seen j).idxOf j : Nat), seeN seen j) := by show shV (R k) seen = _; rw [hj]; rfl
      rw [es] at h
      refine EXs_next (EX_assign (EV_sm P (mI 0 rfl) st P.m_Store_deref (by decide) rfl (by decide) rfl (EV_name (v := cellV c) (mI 1 rfl) (CA.op (CA_deref P st d ⟨_, (uI 1 rfl), rfl, ?_⟩)))))
      refine EXs_next (EX_assign (EV_fst (mI 1 rfl) ⟨_, (uI 11 rfl), rfl, ?_⟩))
      refine EXs_last (EX_if (TE_cmp (EV_name (v := .int 0) (mI 11 rfl) (EV_gint (mI 2 rfl) gR (OP_eqI ⟨_, rfl, fun z_ => ?_, fun q => absurd q (by decide)⟩)))))
      have fin : ∀ σ₃, TS σ0 tb σ₃ (seeN seen j) kl sl res w → EXs B (n + 3) X tG (tL σ0 tb (some (cellV (0, j))) (some (.int 0)) of_ ofi ote (some (.int 0)) op os) σ₃ ((fnB (nth tB 4)).drop 1) (tK B n X Q σ0 tb) := by
        intro σ₃ s
        refine EXs_last (EX_expr (EV_append rfl rfl (EV_name (v := .ref (σ0.length + 2)) (mI 5 rfl) ⟨_, rfl, ⟨_, s.r⟩, ?_⟩)))
        refine EV_tuple rfl (by decide) (EV_str (EV_sub (EV_name (v := .ref tb) (mI 2 rfl) (EV_snd (mI 1 rfl) (SUB_dI s.t (by rw [numL_at, if_pos (seeN_mem _ _), Nat.zero_add]) ⟨_, s.r, by lia, h _ (s.setR ⟨l20, ltb, gtb⟩), _, _, _, _, _, _, _, _, rfl⟩)))))
      refine EXs_next (EX_if (TE_cmp (EV_snd (mI 1 rfl) (EV_name (v := .ref tb) (mI 2 rfl) (OP_ninI sA.t ⟨_, rfl, fun q => ?_, fun q => ?_⟩)))))
      · have hn : j ∉ seen := by intro hm; rw [numL_at, if_pos hm] at q; simp at q
        refine EXs_last (EX_setitem (EV_len P (mI 5 rfl) rfl (EV_name (v := .ref tb) (mI 2 rfl) (OP_lenI sA.t (by rw [numL_len]; lia) (EV_name (v := .ref tb) (mI 2 rfl) (EV_snd (mI 1 rfl) ?_))))))
        rw [numL_len]
        refine OP_setI sA.t (by rw [numL_len]; lia) ⟨rfl, ?_⟩
        rw [dN_put hn]
        have := fin _ (sA.setT (seen' := seen ++ [j]) ⟨l20, ltb, gtb⟩ |> fun q => by unfold seeN; rw [if_neg hn]; exact q)
        exact this
      · have hn : j ∈ seen := by
          by_cases hm : j ∈ seen
          · exact hm
          · rw [numL_at, if_neg hm] at q; simp at q
        refine EXs_nil ⟨rfl, fin _ ?_⟩
        unfold seeN; rw [if_pos hn]; exact sA
    · rw [hi] at d
      exact intC i d (by show shV (R k) seen = _; rw [hi]; rfl)
  | s1 => first | exact absurd rfl hl | exact (Nat.succ_ne_zero _ hl).elim
  | s2 => first | exact absurd rfl hl | exact (Nat.succ_ne_zero _ hl).elim
end
section
variable {B : Bs} {n : Nat} {X : V → List AO → Prop} {σ : List AO} {Q : V → List AO → Prop} {G : Gs} {m : Loc}
theorem take_enter (P : PF B) {y : Sy} {σ0 : List AO} {tb : Nat} {H : List Cl} {σ' : List AO} {seen : List Int} {kl sl : List (Int × V)} {res w : List V} {f : Int} {p : Nat} {ds : List Cl} (h0 : TS0 σ0 tb) (st0 : StAt H σ0) (hy0 : SyAt y σ0) (s : TS σ0 tb σ' seen kl sl res (w ++ [wV (blkC f p)])) (z : w.length ≤ 5000)
    (z2 : kl.length ≤ 5000) (hn : at? kl (p : Int) = none) (hf : f = 0 ∨ H[p]? = some (6, f)) (ha : Ar y f ds.length) (hf0 : f = 0 → ds.length = 2) (hds : ∀ j, j < ds.length → H[blkB f p + j]? = ds[j]?) (hk : ds.length = 1 ∨ ds.length = 2)
    (h : ∀ σ'', TS σ0 tb σ'' seen (put kl (p : Int) .none) sl res (w ++ [bV (blkC f p)] ++ ds.reverse.map wV) → LT B n X Q σ0 tb σ'') : LT B n X Q σ0 tb σ' := by
  obtain ⟨tb', gB⟩ := P.i_BUILD
  obtain ⟨tv, gV⟩ := P.i_VISIT
  obtain ⟨tr, gR⟩ := P.i_REF
  obtain ⟨tc, gC⟩ := P.i_CON
  obtain ⟨ti, gI⟩ := P.i_INT
  have h0' := h0
  obtain ⟨l20, ltb, gtb⟩ := h0'
  refine take_pop P h0 s z fun σ₁ of_ ofi ote ota op os sA => ?_
  have st := st0.kp sA.kp (by simp; lia)
  have hc1 : (blkC f p).1 = 2 ∨ (blkC f p).1 = 3 := by unfold blkC; by_cases q : f = 0 <;> simp [q]
  have hc2 : (blkC f p).2 = (p : Int) := rfl
  have dd : Der H (blkC f p) (blkC f p) := by
    unfold blkC; by_cases q : f = 0 <;> simp [q]
    · exact .val (by decide) (by decide)
    · exact .val (by decide) (by decide)
  refine EXs_cons (EX_if (TE_cmp (EV_name (v := .int 0) (mI 7 rfl) (EV_gint (mI 0 rfl) gB (OP_eqI ⟨_, rfl, fun q => absurd q (by decide), fun z_ => ?_⟩)))))
  refine EXs_nil ⟨fun z_ => ?_, fun q => absurd rfl q⟩
  refine EXs_next (EX_assign (EV_sm P (mI 0 rfl) st P.m_Store_deref (by decide) rfl (by decide) rfl (EV_name (v := cellV (blkC f p)) (mI 1 rfl) (CA.op (CA_deref P st dd ⟨_, (uI 1 rfl), rfl, ?_⟩)))))
  refine EXs_next (EX_assign (EV_fst (mI 1 rfl) ⟨_, (uI 11 rfl), rfl, ?_⟩))
  refine EXs_last (EX_if (TE_cmp (EV_name (v := .int (blkC f p).1) (mI 11 rfl) (EV_gint (mI 2 rfl) gR (OP_eqI ⟨_, rfl, fun q => absurd q (by rcases hc1 with q | q <;> simp [q]), fun z_ => ?_⟩)))))
  refine EXs_last (EX_if (TE_cmp (EV_name (v := .int (blkC f p).1) (mI 11 rfl) (EV_gint (mI 3 rfl) gC (OP_eqI ⟨_, rfl, fun q => absurd q (by rcases hc1 with q | q <;> simp [q]), fun z_ => ?_⟩)))))
  refine EXs_last (EX_if (TE_cmp (EV_name (v := .int (blkC f p).1) (mI 11 rfl) (EV_gint (mI 4 rfl) gI (OP_eqI ⟨_, rfl, fun q => absurd q (by rcases hc1 with q | q <;> simp [q]), fun z_ => ?_⟩)))))
  refine EXs_last (EX_if (TE_cmp (EV_snd (mI 1 rfl) (EV_name (v := .ref σ0.length) (mI 3 rfl) (OP_inI sA.k ⟨_, rfl, fun q => absurd q (by rw [hc2, hn]; simp), fun z_ => ?_⟩)))))
  refine EXs_next (EX_setitem (EV_none (EV_name (v := .ref σ0.length) (mI 3 rfl) (EV_snd (mI 1 rfl) (OP_setI sA.k (by lia) ⟨rfl, ?_⟩)))))
  have sB := sA.setK (kl' := put kl (p : Int) .none) h0
  show EXs B _ X _ _ (σ₁.set σ0.length (.dI (put kl (p : Int) .none))) _ _
  generalize σ₁.set σ0.length (.dI (put kl (p : Int) .none)) = σ₂ at sB ⊢
  refine EXs_next (EX_expr (EV_append rfl rfl (EV_name (v := .ref (σ0.length + 3)) (mI 6 rfl) ⟨_, rfl, ⟨_, sB.w⟩, ?_⟩)))
  refine EV_tuple rfl (by decide) (EV_gint (mI 0 rfl) gB (EV_name (v := cellV (blkC f p)) (mI 1 rfl) ⟨_, sB.w, by lia, rfl, ?_⟩))
  have sC := sB.setW (w' := w ++ [bV (blkC f p)]) h0
  show EXs B _ X _ _ (σ₂.set (σ0.length + 3) (.list (w ++ [bV (blkC f p)]))) _ _
  generalize σ₂.set (σ0.length + 3) (.list (w ++ [bV (blkC f p)])) = σ₃ at sC ⊢
  have st3 := st0.kp sC.kp (by simp; lia)
  have y3 := hy0.kp sC.kp (by simp; lia)
  refine EXs_next (EX_assign (EV_sm P (mI 0 rfl) st3 P.m_Store_base (by decide) rfl (by decide) rfl (EV_name (v := cellV (blkC f p)) (mI 1 rfl) (CA.op (CA_baseB P ⟨_, (uI 12 rfl), rfl, ?_⟩)))))
  refine EXs_last (EX_for thruAll (fun (j : Nat) (m : Loc) (σ' : List AO) => ∃ o : Option V, m = tL σ0 tb (some (cellV (blkC f p))) (some (.int 0)) of_ ofi ote (some (.int (blkC f p).1)) (some (.int (blkB f p : Nat))) o ∧ TS σ0 tb σ' seen (put kl (p : Int) .none) sl res (w ++ [bV (blkC f p)] ++ (ds.reverse.take j).map wV)) ?_)
  refine IE_range (mI 7 rfl) P.n_range bt_range (by decide) rfl (EV_bin (EV_sm P (mI 0 rfl) st3 P.m_Store_width (by decide) rfl (by decide) rfl (EV_name (v := cellV (blkC f p)) (mI 1 rfl) (CA.op (CA_widB P st3 y3 hf ha hf0 (EV_int (OP_sub (EV_un (EV_int (OP_neg (EV_un (EV_int (OP_neg ?_)))))))))))))
  refine .inr (.inr ⟨(ds.length : Int) - 1, -1, -1, ds.length, rfl, by decide, ?_, ?_, ?_, ⟨os, rfl, by simpa using sC⟩, fun z_ z_ z_ z_ z_ => trivial, ?_, ?_⟩)
  · rcases hk with q | q <;> rw [q] <;> decide +kernel
  · rcases hk with q | q <;> rw [q] <;> decide +kernel
  · rcases hk with q | q <;> rw [q] <;> decide +kernel
  · rintro j m' σ' x hx ⟨o, rfl, sD⟩
    have hj : j < ds.length := by rw [← rng_length ((ds.length : Int) - 1) (-1) ds.length]; exact (List.getElem?_eq_some_iff.mp hx).1
    rw [rng_get _ _ _ j hj] at hx
    cases hx
    have st4 := st0.kp sD.kp (by simp; lia)
    have hjr : j < ds.reverse.length := by simpa using hj
    obtain ⟨d, hd⟩ : ∃ d, ds.reverse[j]? = some d := ⟨_, List.getElem?_eq_getElem hjr⟩
    have hd2 : ds[ds.length - 1 - j]? = some d := by rw [List.getElem?_reverse hj] at hd; exact hd
    have ex : ((blkB f p : Nat) : Int) + ((ds.length : Int) - 1 + j * -1) = ((blkB f p + (ds.length - 1 - j) : Nat) : Int) := by lia
    refine ASG_name ⟨_, (uI 13 rfl), ?_⟩
    refine EXs_last (EX_expr (EV_append rfl rfl (EV_name (v := .ref (σ0.length + 3)) (mI 6 rfl) ⟨_, rfl, ⟨_, sD.w⟩, ?_⟩)))
    refine EV_tuple rfl (by decide) (EV_gint (mI 1 rfl) gV (EV_sub (EV_heap P (mI 0 rfl) st4 (EV_bin (EV_name (v := .int (blkB f p : Nat)) (mI 12 rfl) (EV_name (v := .int ((ds.length : Int) - 1 + j * -1)) (mI 13 rfl) (OP_add ?_)))))))
    simp only [ex]
    refine SUB_cell st4 (by lia) (by rw [Int.toNat_natCast, hds _ (by lia)]; exact hd2) ⟨_, sD.w, by simp; lia, _, rfl, ?_⟩
    have e : w ++ [bV (blkC f p)] ++ (ds.reverse.take j).map wV ++ [wV d] = w ++ [bV (blkC f p)] ++ (ds.reverse.take (j + 1)).map wV := by
      simp only [List.take_add_one, hd]; simp
    simp only [← e]
    exact sD.setW h0
  · rintro m' σ' ⟨o, rfl, sD⟩
    rw [rng_length, ← List.length_reverse, List.take_length] at sD
    exact ⟨h _ sD, _, _, _, _, _, _, _, _, rfl⟩
theorem take_build (P : PF B) {y : Sy} {σ0 : List AO} {tb : Nat} {H : List Cl} {R : Int → T} {ties : List T} (rt : RT ties R) {σ' : List AO} {seen : List Int} {kl sl : List (Int × V)} {res w kv : List V} {f : Int} {p : Nat} {ds : List Cl} {ks : List T} (h0 : TS0 σ0 tb) (st0 : StAt H σ0) (hy0 : SyAt y σ0) (s : TS σ0 tb σ' seen kl sl (res ++ kv) (w ++ [bV (blkC f p)])) (z : w.length ≤ 5000)
    (z2 : kl.length ≤ 5000) (z3 : sl.length ≤ 5000) (z4 : res.length ≤ 5000) (hkv : kv.length = ks.length) (hf : f = 0 ∨ H[p]? = some (6, f)) (ha : Ar y f ks.length) (hf0 : f = 0 → ks.length = 2) (hp : Parts H R (blkB f p) ds ks sl) (hw : ∀ t, t ∈ ks → t.wf) (hk2 : ks.length ≤ 2) (hsz : (ks.map T.sz).sum ≤ 5000)
    (h : ∀ σ'', TS σ0 tb σ'' seen (put kl (p : Int) (vS f kv)) (put sl (p : Int) (.int ((1 + (ks.map T.sz).sum : Nat) : Int))) (res ++ [vS f kv]) w → LT B n X Q σ0 tb σ'') : LT B n X Q σ0 tb σ' := by
  obtain ⟨tb', gB⟩ := P.i_BUILD
  have h0' := h0
  obtain ⟨l20, ltb, gtb⟩ := h0'
  refine take_pop P h0 s z fun σ₁ of_ ofi ote ota op os sA => ?_
  have st := st0.kp sA.kp (by simp; lia)
  have y1 := hy0.kp sA.kp (by simp; lia)
  refine EXs_cons (EX_if (TE_cmp (EV_name (v := .int 1) (mI 7 rfl) (EV_gint (mI 0 rfl) gB (OP_eqI ⟨_, rfl, fun z_ => ?_, fun q => absurd q (by decide)⟩)))))
  refine EXs_next (EX_assign (EV_sm P (mI 0 rfl) st P.m_Store_functor_of (by decide) rfl (by decide) rfl (EV_name (v := cellV (blkC f p)) (mI 1 rfl) (CA.op (CA_fctB P st hf ⟨_, (uI 8 rfl), rfl, ?_⟩)))))
  refine EXs_next (EX_assign (EV_bin (EV_len P (mI 5 rfl) rfl (EV_name (v := .ref (σ0.length + 2)) (mI 5 rfl) (OP_lenL sA.r (by simp; lia) (EV_sm P (mI 0 rfl) st P.m_Store_width (by decide) rfl (by decide) rfl (EV_name (v := cellV (blkC f p)) (mI 1 rfl) (CA.op (CA_widB P st y1 hf ha hf0 (OP_sub ?_))))))))))
  have e1 : (((res ++ kv).length : Nat) : Int) - (ks.length : Int) = (res.length : Int) := by simp only [List.length_append, hkv]; lia
  rw [e1]
  refine ⟨_, (uI 9 rfl), rfl, ?_⟩
  refine EXs_next (EX_assign (EV_tuple rfl (by decide) (EV_str (EV_name (v := .int f) (mI 8 rfl) (EV_callB (mI 6 rfl) P.n_tuple bt_tuple (by decide) (fun h => keeps_type _ _ h) rfl (EV_sliceFrom (EV_name (v := .ref (σ0.length + 2)) (mI 5 rfl) (EV_name (v := .int res.length) (mI 9 rfl) ⟨_, res.length, _, rfl, rfl, sA.r, by simp; lia, by simp, ?_⟩))))))))
  simp only [List.drop_left]
  refine OP_tupleL get_app (by lia) ⟨_, (uI 10 rfl), rfl, ?_⟩
  have sB := sA.app (o := .list kv)
  generalize σ₁ ++ [.list kv] = σ₂ at sB ⊢
  refine EXs_next (EX_delFrom (EV_name (v := .ref (σ0.length + 2)) (mI 5 rfl) (EV_name (v := .int res.length) (mI 9 rfl) ⟨_, res.length, _, rfl, rfl, sB.r, by simp; lia, by simp, rfl, ?_⟩)))
  rw [List.take_left]
  have sC := sB.setR (res' := res) h0
  generalize σ₂.set (σ0.length + 2) (.list res) = σ₃ at sC ⊢
  refine EXs_next (EX_setitem (EV_name (v := vS f kv) (mI 10 rfl) (EV_name (v := .ref σ0.length) (mI 3 rfl) (EV_snd (mI 1 rfl) (OP_setI sC.k (by lia) ⟨rfl, ?_⟩)))))
  have sD := sC.setK (kl' := put kl (p : Int) (vS f kv)) h0
  show EXs B _ X _ _ (σ₃.set σ0.length (.dI (put kl (p : Int) (vS f kv)))) _ _
  generalize σ₃.set σ0.length (.dI (put kl (p : Int) (vS f kv))) = σ₄ at sD ⊢
  have st4 := st0.kp sD.kp (by simp; lia)
  have y4 := hy0.kp sD.kp (by simp; lia)
  refine EXs_next (EX_setitem (EV_sm P (mI 0 rfl) st4 P.m_Store_whole_size (by decide) rfl (by decide) rfl (EV_name (v := cellV (blkC f p)) (mI 1 rfl) (EV_name (v := .ref (σ0.length + 1)) (mI 4 rfl) (CA.op (CA_whole_size P rt st4 y4 hf ha hf0 hp sD.s hw hk2 (EV_name (v := .ref (σ0.length + 1)) (mI 4 rfl) (EV_snd (mI 1 rfl) (OP_setI sD.s (by lia) ⟨rfl, ?_⟩)))))))))
  have sE := sD.setS (sl' := put sl (p : Int) (.int ((1 + (ks.map T.sz).sum : Nat) : Int))) h0
  show EXs B _ X _ _ (σ₄.set (σ0.length + 1) (.dI (put sl (p : Int) (.int ((1 + (ks.map T.sz).sum : Nat) : Int))))) _ _
  generalize σ₄.set (σ0.length + 1) (.dI (put sl (p : Int) (.int ((1 + (ks.map T.sz).sum : Nat) : Int)))) = σ₅ at sE ⊢
  have st5 := st0.kp sE.kp (by simp; lia)
  refine EXs_cons (EX_if (TE_cmp (EV_sub (EV_name (v := .ref (σ0.length + 1)) (mI 4 rfl) (EV_snd (mI 1 rfl) (SUB_dI (x := .int ((1 + (ks.map T.sz).sum : Nat) : Int)) sE.s (by rw [at_put]; exact if_pos rfl) (EV_bin (EV_maxh P (mI 0 rfl) st5 (EV_int (OP_add (OP_gtI ⟨_, rfl, fun q => absurd q (by simp; lia), fun z_ => ?_⟩)))))))))))
  refine EXs_nil ⟨fun z_ => ?_, fun q => absurd rfl q⟩
  refine EXs_next (EX_expr (EV_append rfl rfl (EV_name (v := .ref (σ0.length + 2)) (mI 5 rfl) ⟨_, rfl, ⟨_, sE.r⟩, EV_name (v := vS f kv) (mI 10 rfl) ⟨_, sE.r, by lia, rfl, ?_⟩⟩)))
  refine EXs_last (EX_cont ⟨fun q => (by cases q), fun z_ => ⟨h _ (sE.setR h0), _, _, _, _, _, _, _, _, rfl⟩⟩)
end
theorem Rep.head {H : List Cl} {R : Int → T} {c : Cl} {t : T} {L : List Nat} (h : Rep H R c t L) (hd : t.dep ≠ 0) : ∃ p : Nat, c.2 = (p : Int) ∧ p ∈ L := by
  cases h with
  | v d => exact absurd rfl hd
  | a => exact absurd rfl hd
  | i => exact absurd rfl hd
  | @s1 f x p => exact ⟨p, rfl, by simp⟩
  | @s2 f x z p => exact ⟨p, rfl, by simp⟩
section
variable {B : Bs} {n : Nat} {X : V → List AO → Prop} {σ : List AO} {Q : V → List AO → Prop} {G : Gs} {m : Loc}
theorem take_all (P : PF B) {y : Sy} {σ0 : List AO} {tb : Nat} {H : List Cl} {R : Int → T} {ties : List T} (rt : RT ties R) (h0 : TS0 σ0 tb) (st0 : StAt H σ0) (hy0 : SyAt y σ0) : ∀ (t : T) (c : Cl) (L : List Nat), Rep H R c t L → t.ok y → ∀ (σ' : List AO) (seen : List Int) (kl sl : List (Int × V)) (res w : List V),
    TS σ0 tb σ' seen kl sl res (w ++ [wV c]) → L.Nodup → (∀ p : Nat, p ∈ L → at? kl (p : Int) = none) → w.length + 3 * t.sz ≤ 4000 → res.length + t.sz ≤ 4000 → kl.length + 2 * t.sz ≤ 4000 → sl.length + t.sz ≤ 4000 → seen.length + t.sz ≤ 4000 →
    (∀ σ'' kl' sl', TS σ0 tb σ'' (sh R t seen).2 kl' sl' (res ++ [(sh R t seen).1.toV]) w → (∀ q : Nat, q ∉ L → at? kl' (q : Int) = at? kl (q : Int)) → (∀ q : Nat, q ∉ L → at? sl' (q : Int) = at? sl (q : Int)) → (t.dep ≠ 0 → at? sl' c.2 = some (.int (t.sz : Nat))) → kl'.length ≤ kl.length + 2 * t.sz → sl'.length ≤ sl.length + t.sz → LT B n X Q σ0 tb σ'') →
    LT B n X Q σ0 tb σ' := by
  intro t
  have leaf : ∀ t : T, t.dep = 0 → ∀ (c : Cl) (L : List Nat), Rep H R c t L → t.ok y → ∀ (σ' : List AO) (seen : List Int) (kl sl : List (Int × V)) (res w : List V),
    TS σ0 tb σ' seen kl sl res (w ++ [wV c]) → w.length + 3 * t.sz ≤ 4000 → res.length + t.sz ≤ 4000 → seen.length + t.sz ≤ 4000 →
    (∀ σ'' kl' sl', TS σ0 tb σ'' (sh R t seen).2 kl' sl' (res ++ [(sh R t seen).1.toV]) w → (∀ q : Nat, q ∉ L → at? kl' (q : Int) = at? kl (q : Int)) → (∀ q : Nat, q ∉ L → at? sl' (q : Int) = at? sl (q : Int)) → (t.dep ≠ 0 → at? sl' c.2 = some (.int (t.sz : Nat))) → kl'.length ≤ kl.length + 2 * t.sz → sl'.length ≤ sl.length + t.sz → LT B n X Q σ0 tb σ'') →
    LT B n X Q σ0 tb σ' := fun t hl c L rep hok σ' seen kl sl res w s z1 z2 z3 h =>
    take_leaf P rt h0 st0 s (by lia -abstractProof) (by lia -abstractProof) (by lia -abstractProof) rep hl hok.wf fun σ'' s' => h σ'' kl sl s' (fun z_ z_ => rfl) (fun z_ z_ => rfl) (fun q => absurd hl q) (by lia -abstractProof) (by lia -abstractProof)
  induction t with
  | v k => intro c L rep hok σ' seen kl sl res w s nd hn z1 z2 z3 z4 z5 h; exact leaf (.v k) rfl c L rep hok σ' seen kl sl res w s z1 z2 z5 h
  | a k => intro c L rep hok σ' seen kl sl res w s nd hn z1 z2 z3 z4 z5 h; exact leaf (.a k) rfl c L rep hok σ' seen kl sl res w s z1 z2 z5 h
  | i k => intro c L rep hok σ' seen kl sl res w s nd hn z1 z2 z3 z4 z5 h; exact leaf (.i k) rfl c L rep hok σ' seen kl sl res w s z1 z2 z5 h
  | s1 f x ih =>
    intro c L rep hok σ' seen kl sl res w s nd hn z1 z2 z3 z4 z5 h
    clear leaf
    cases rep with
    | @s1 _ _ p d L hf h1 r =>
      simp only [T.sz] at z1 z2 z3 z4 z5
      have ps := x.sz_pos
      rw [List.nodup_cons] at nd
      have ne : ∀ q : Nat, q ∈ L → ¬ (q : Int) = (p : Int) := fun q hq e => nd.1 (Int.ofNat_inj.mp e ▸ hq)
      refine take_enter (ds := [d]) P h0 st0 hy0 s (by lia -abstractProof) (by lia -abstractProof) (hn p (by simp)) hf hok.2.1 (fun q => absurd q hok.1) (fun j hj => by
        obtain rfl : j = 0 := by simp at hj; lia -abstractProof
        exact h1) (.inl rfl) fun σ₁ s₁ => ?_
      have l1 := put_len (l := kl) (k := (p : Int)) (v := .none)
      refine ih d L r hok.2.2 σ₁ seen _ sl res (w ++ [bV (blkC f p)]) s₁ nd.2 (fun q hq => ?_) (by simp; lia -abstractProof) (by lia -abstractProof) (by lia -abstractProof) (by lia -abstractProof) (by lia -abstractProof) fun σ₂ kl' sl' s₂ e1 e2 e3 l2 l3 => ?_
      · rw [at_put, if_neg (ne q hq)]
        exact hn q (by simp [hq])
      have hp : Parts H R (blkB f p) [d] [x] sl' := ⟨rfl, fun j hj => by
        obtain rfl : j = 0 := by simp at hj; lia -abstractProof
        exact h1, fun j d' t' hd' ht' => by
        have hj : j < 1 := (List.getElem?_eq_some_iff.mp hd').1
        obtain rfl : j = 0 := by lia -abstractProof
        cases hd'; cases ht'
        exact ⟨⟨L, r⟩, e3⟩⟩
      have l4 := put_len (l := kl') (k := (p : Int)) (v := vS f [(sh R x seen).1.toV])
      have l5 := put_len (l := sl') (k := (p : Int)) (v := .int ((1 + ([x].map T.sz).sum : Nat) : Int))
      refine take_build (ks := [x]) (ds := [d]) P rt h0 st0 hy0 s₂ (by lia -abstractProof) (by lia -abstractProof) (by lia -abstractProof) (by lia -abstractProof) rfl hf hok.2.1 (fun q => absurd q hok.1) hp (by intro t ht; simp at ht; subst ht; exact hok.2.2.wf) (by simp) (by simp; lia -abstractProof) fun σ₃ s₃ => ?_
      refine h σ₃ _ _ s₃ (fun q hq => ?_) (fun q hq => ?_) (fun z_ => ?_) (by simp only [T.sz]; lia -abstractProof) (by simp only [T.sz]; lia -abstractProof)
      · simp only [List.mem_cons, not_or] at hq
        rw [at_put, if_neg (by lia -abstractProof), e1 q hq.2, at_put, if_neg (by lia -abstractProof)]
      · simp only [List.mem_cons, not_or] at hq
        rw [at_put, if_neg (by lia -abstractProof), e2 q hq.2]
      · rw [at_put]; rw [if_pos (show (blkC f p).2 = (p : Int) from rfl)]; simp [T.sz]
  | s2 f x z ih1 ih2 =>
    intro c L rep hok σ' seen kl sl res w s nd hn z1 z2 z3 z4 z5 h
    clear leaf
    cases rep with
    | @s2 _ _ _ p d d' L M hf h1 h2 r r' =>
      simp only [T.sz] at z1 z2 z3 z4 z5
      have ps := x.sz_pos
      have ps' := z.sz_pos
      rw [List.nodup_cons, List.nodup_append] at nd
      obtain ⟨npL, ndL, ndM, ndd⟩ := nd
      have ne : ∀ q : Nat, q ∈ L ++ M → ¬ (q : Int) = (p : Int) := fun q hq e => npL (Int.ofNat_inj.mp e ▸ hq)
      have hds : ∀ j, j < [d, d'].length → H[blkB f p + j]? = [d, d'][j]? := fun j hj => by
        have hj : j < 2 := hj
        rcases (by lia -abstractProof : j = 0 ∨ j = 1) with rfl | rfl
        · exact h1
        · exact h2
      refine take_enter (ds := [d, d']) P h0 st0 hy0 s (by lia -abstractProof) (by lia -abstractProof) (hn p (by simp)) hf hok.1 (fun z_ => rfl) hds (.inr rfl) fun σ₁ s₁ => ?_
      have l1 := put_len (l := kl) (k := (p : Int)) (v := .none)
      have e0 : w ++ [bV (blkC f p)] ++ [d, d'].reverse.map wV = (w ++ [bV (blkC f p)] ++ [wV d']) ++ [wV d] := by simp
      rw [e0] at s₁
      have zx := sh_len R x seen
      refine ih1 d L r hok.2.1 σ₁ seen _ sl res (w ++ [bV (blkC f p)] ++ [wV d']) s₁ ndL (fun q hq => ?_) (by simp; lia -abstractProof) (by lia -abstractProof) (by lia -abstractProof) (by lia -abstractProof) (by lia -abstractProof) fun σ₂ kl' sl' s₂ e1 e2 e3 l2 l3 => ?_
      · rw [at_put, if_neg (ne q (List.mem_append_left _ hq))]
        exact hn q (by simp [hq])
      refine ih2 d' M r' hok.2.2 σ₂ _ kl' sl' (res ++ [(sh R x seen).1.toV]) (w ++ [bV (blkC f p)]) s₂ ndM (fun q hq => ?_) (by simp; lia -abstractProof) (by simp; lia -abstractProof) (by lia -abstractProof) (by lia -abstractProof) (by lia -abstractProof) fun σ₃ kl'' sl'' s₃ f1 f2 f3 m2 m3 => ?_
      · rw [e1 q (fun q2 => ndd q q2 q hq rfl), at_put, if_neg (ne q (List.mem_append_right _ hq))]
        exact hn q (by simp [hq])
      have hp : Parts H R (blkB f p) [d, d'] [x, z] sl'' := ⟨rfl, hds, fun j d₁ t₁ hd₁ ht₁ => by
        have hj : j < 2 := (List.getElem?_eq_some_iff.mp hd₁).1
        rcases (by lia -abstractProof : j = 0 ∨ j = 1) with rfl | rfl
        · cases hd₁; cases ht₁
          refine ⟨⟨L, r⟩, fun hdep => ?_⟩
          obtain ⟨px, epx, mpx⟩ := r.head hdep
          have := e3 hdep
          rw [epx] at this ⊢
          rw [f2 px (fun q2 => ndd px mpx px q2 rfl)]; exact this
        · cases hd₁; cases ht₁
          exact ⟨⟨M, r'⟩, f3⟩⟩
      have e9 : res ++ [(sh R x seen).1.toV] ++ [(sh R z (sh R x seen).2).1.toV] = res ++ [(sh R x seen).1.toV, (sh R z (sh R x seen).2).1.toV] := by simp
      rw [e9] at s₃
      have l4 := put_len (l := kl'') (k := (p : Int)) (v := vS f [(sh R x seen).1.toV, (sh R z (sh R x seen).2).1.toV])
      have l5 := put_len (l := sl'') (k := (p : Int)) (v := .int ((1 + ([x, z].map T.sz).sum : Nat) : Int))
      refine take_build (ks := [x, z]) (ds := [d, d']) P rt h0 st0 hy0 s₃ (by lia -abstractProof) (by lia -abstractProof) (by lia -abstractProof) (by lia -abstractProof) rfl hf hok.1 (fun z_ => rfl) hp (by intro t ht; simp at ht; rcases ht with rfl | rfl; exact hok.2.1.wf; exact hok.2.2.wf) (by simp) (by simp; lia -abstractProof) fun σ₄ s₄ => ?_
      refine h σ₄ _ _ s₄ (fun q hq => ?_) (fun q hq => ?_) (fun z_ => ?_) (by simp only [T.sz]; lia -abstractProof) (by simp only [T.sz]; lia -abstractProof)
      · simp only [List.mem_cons, List.mem_append, not_or] at hq
        rw [at_put, if_neg (by lia -abstractProof), f1 q hq.2.2, e1 q hq.2.1, at_put, if_neg (by lia -abstractProof)]
      · simp only [List.mem_cons, List.mem_append, not_or] at hq
        rw [at_put, if_neg (by lia -abstractProof), f2 q hq.2.2, e2 q hq.2.1]
      · rw [at_put]; rw [if_pos (show (blkC f p).2 = (p : Int) from rfl)]; simp [T.sz]; lia -abstractProof
theorem CA_take_term (P : PF B) {y : Sy} {tb : Nat} {H : List Cl} {R : Int → T} {ties : List T} (rt : RT ties R) (h0 : TS0 σ tb) (st0 : StAt H σ) (hy0 : SyAt y σ) {t : T} {c c' : Cl} {L : List Nat} (d : Der H c c') (rep : Rep H R c' t L) (hok : t.ok y) (nd : L.Nodup) (ht : σ[tb]? = some (.dI [])) (hz : 3 * t.sz ≤ 3900)
    (h : ∀ σ', Kp [tb] σ σ' → Q (sh R t []).1.toV σ') : CA B (n + 4) X (.ref 420) [.ref 12, cellV c, .ref tb] σ Q := by
  obtain ⟨tv, gV⟩ := P.i_VISIT
  refine CA_fn (others := ["known", "sizes", "results", "work", "what", "f", "first", "term", "tag", "place", "step"]) (G := tG) thruAll P.f_Store_take_term (by decide +kernel) rfl ?_
  refine EXs_next (EX_assign (EV_dI ⟨_, (uI 3 rfl), rfl, ?_⟩))
  refine EXs_next (EX_assign (EV_dI ⟨_, (uI 4 rfl), rfl, ?_⟩))
  refine EXs_next (EX_assign (EV_list rfl (by decide) ⟨_, (uI 5 rfl), rfl, ?_⟩))
  have k3 : Kp [] σ (σ ++ [AO.dI []] ++ [.dI []] ++ [.list []]) := (Kp.app.trans .app).trans .app
  have st3 := st0.kp k3 (by decide)
  refine EXs_next (EX_assign (EV_list rfl (by decide) (EV_tuple rfl (by decide) (EV_gint (mI 1 rfl) gV (EV_sm P (mI 0 rfl) st3 P.m_Store_globalise (by decide) rfl (by decide) rfl (EV_name (v := cellV c) (mI 1 rfl) (CA.op (CA_globalise P st3 d ⟨_, (uI 6 rfl), rfl, ?_⟩))))))))
  have l1 : (σ ++ [AO.dI []]).length = σ.length + 1 := by simp
  have l2 : (σ ++ [AO.dI []] ++ [AO.dI []]).length = σ.length + 2 := by simp
  have l3 : (σ ++ [AO.dI []] ++ [AO.dI []] ++ [AO.list []]).length = σ.length + 3 := by simp
  have s : TS σ tb (σ ++ [AO.dI []] ++ [.dI []] ++ [.list []] ++ [.list [wV c']]) [] [] [] [] ([] ++ [wV c']) :=
    ⟨(k3.trans .app).mono (by simp), (k3.trans (Kp.app (D := []))).get ht List.not_mem_nil, by simp, by simp, by simp, by simp⟩
  refine EXs_next (EX_while ?_)
  have key : LT B n X Q σ tb (σ ++ [AO.dI []] ++ [.dI []] ++ [.list []] ++ [.list [wV c']]) := take_all P rt h0 st0 hy0 t c' L rep hok _ [] [] [] [] [] s nd (fun z_ z_ => rfl) (by simp; lia -abstractProof) (by simp; lia -abstractProof) (by simp; lia -abstractProof) (by simp; lia -abstractProof) (by simp; lia -abstractProof) fun σ'' kl' sl' s' z_ z_ z_ z_ z_ => take_done P s' (h _ s'.kp)
  have := key (some (cellV c)) none none none none none none none
  unfold tL at this
  rw [← l1, ← l2, ← l3] at this
  exact this
end
theorem putf_new : ∀ {fs : List (Str × V)} {x : Str} {v : V}, x ∉ fs.map (·.1) → putf fs x v = fs ++ [(x, v)] := by
  intro l_
  induction l_ with
  | nil =>
    intro _ _ _
    exact rfl
  | cons u_ fs ih =>
    intro x v h
    obtain ⟨y, b⟩ := u_
    simp only [List.map_cons, List.mem_cons, not_or] at h
    unfold putf
    rw [if_neg (fun e => h.1 e.symm), ih h.2]; rfl
noncomputable def areasFs : List (Str × V) := [("symbols", .ref 2), ("code", .ref 10), ("max_heap", .int 100000), ("occurs", .bool true), ("max_bits", .int 4096), ("store", .ref 12), ("x", .ref 16), ("p", .int 0), ("cp", .int 0), ("e", .int (-1)), ("b", .int (-1)), ("b0", .int (-1)), ("mode", .str "read"), ("s", .int 0), ("guard", .tup [.int 5, .int 0]), ("roots", .ref 17), ("bags", .ref 18), ("collect_wanted", .bool false)]
structure Mk (σ σ' : List AO) (i : Nat) (C : Addr) (N : Nat) (fs : List (Str × V)) : Prop where
  kp : Kp [i] σ σ'
  len : σ'.length = N
  at_ : σ'[i]? = some (.inst C fs)
theorem Mk.set {σ σ' : List AO} {i N : Nat} {C : Addr} {fs fs' : List (Str × V)} (k : Mk σ σ' i C N fs) : Mk σ (σ'.set i (.inst C fs')) i C N fs' :=
  ⟨k.kp.trans (.set (by simp)), by rw [List.length_set]; exact k.len, set_get k.at_⟩
theorem Mk.app {σ σ' : List AO} {i N : Nat} {C : Addr} {fs : List (Str × V)} {o : AO} (k : Mk σ σ' i C N fs) : Mk σ (σ' ++ [o]) i C (N + 1) fs :=
  ⟨k.kp.trans .app, by rw [List.length_append, k.len]; rfl, (Kp.app (D := [])).get k.at_ List.not_mem_nil⟩
theorem get_app' {σ : List AO} {o : AO} {i : Nat} (h : σ.length = i) : (σ ++ [o])[i]? = some o := by subst h; simp
section
variable {B : Bs} {n : Nat} {X : V → List AO → Prop} {σ : List AO} {Q : V → List AO → Prop} {G : Gs} {m : Loc}
theorem EV_void (P : PF B) {pos : Pos} (hx : ("VOID" : Str) ∈ G.g) (h : Q (.tup [.int 5, .int 0]) σ) : EV B n X G m σ (.Name "VOID" pos) Q := fun A env fx μ s O => by
  refine shut fun P_ o_ => ?_
  obtain ⟨t, u, g, it⟩ := P.t_VOID
  refine o_ ?_
  refine W_glob O hx g ⟨.tup [.int 5, .int 0], ?_, h⟩
  exact VR_tup (items := [.int 5 t, .int 0 u]) (it _ (B.X.keeps O.rel.base)) (VRs_cons VR_int (VRs_cons VR_int VRs_nil))
theorem EX_setA {value : Expr} {x s : Str} {p pos' pos : Pos} {i : Nat} {C : Addr} {Q : AF → Loc → List AO → Prop} (cf : CF B C) (hn : takerIn B.K C x = some none) (hm : (s, some (V.ref i)) ∈ m)
    (h : EV B n X G m σ value fun v σ₁ => ∃ fs, σ₁[i]? = some (.inst C fs) ∧ fs.length < 90 ∧ x ∉ fs.map (·.1) ∧ Q .nxt m (σ₁.set i (.inst C (fs ++ [(x, v)]))))
    (hs : ∀ env, swapsWith value (some (.Attribute (.Name s p) x pos')) pos.line env = pure false := by intro _; rfl) : EX B n X G m σ (.Assign [.Attribute (.Name s p) x pos'] value pos) Q :=
  EX_setattr (h.mono fun v σ₁ ⟨fs, hi, hz, hx, q⟩ => EV_name hm (OP_setattr cf hn hi hz (by rw [putf_new hx]; exact q))) hs
theorem CA_cellsInit (P : PF B) (h0 : σ.length = 13) (hi : σ[12]? = some (.inst 423 [])) (h : ∀ σ', Kp [12] σ σ' → σ'.length = 16 → StAt [] σ' → Q .none σ') : CA B (n + 1) X (.ref 237) [.ref 12, .ref 2, .int 100000] σ Q := by
  refine CA_fn (others := []) (G := ⟨[], [], []⟩) thruAll P.f_Cells___init__ (by decide +kernel) rfl ?_
  have k0 : Mk σ σ 12 423 13 [] := ⟨.refl, h0, hi⟩
  refine EXs_next (EX_setA P.c_Store P.t_Store_symbols (mI 0 rfl) (EV_name (v := .ref 2) (mI 1 rfl) ⟨_, k0.at_, by decide, by decide +kernel, rfl, ?_⟩))
  have k1 := k0.set (fs' := [] ++ [(("symbols" : Str), V.ref 2)])
  generalize σ.set 12 (.inst 423 ([] ++ [(("symbols" : Str), V.ref 2)])) = σ₁ at k1 ⊢
  refine EXs_next (EX_setA P.c_Store P.t_Store_max_heap (mI 0 rfl) (EV_name (v := .int 100000) (mI 2 rfl) ⟨_, k1.at_, by decide, by decide +kernel, rfl, ?_⟩))
  have k2 := k1.set (fs' := [] ++ [(("symbols" : Str), V.ref 2)] ++ [(("max_heap" : Str), V.int 100000)])
  generalize σ₁.set 12 (.inst 423 ([] ++ [(("symbols" : Str), V.ref 2)] ++ [(("max_heap" : Str), V.int 100000)])) = σ₂ at k2 ⊢
  refine EXs_next (EX_setA P.c_Store P.t_Store_heap (mI 0 rfl) (EV_list rfl (by decide) ⟨_, k2.app.at_, by decide, by decide +kernel, rfl, ?_⟩))
  rw [k2.len]
  have k3 := (k2.app (o := .list [])).set (fs' := [] ++ [(("symbols" : Str), V.ref 2)] ++ [(("max_heap" : Str), V.int 100000)] ++ [(("heap" : Str), V.ref 13)])
  have a3 : (((σ₂ ++ [AO.list []]).set 12 (.inst 423 ([] ++ [(("symbols" : Str), V.ref 2)] ++ [(("max_heap" : Str), V.int 100000)] ++ [(("heap" : Str), V.ref 13)]))))[13]? = some (.list []) := by
    rw [List.getElem?_set_ne (by decide)]; exact get_app' k2.len
  generalize (σ₂ ++ [AO.list []]).set 12 (.inst 423 ([] ++ [(("symbols" : Str), V.ref 2)] ++ [(("max_heap" : Str), V.int 100000)] ++ [(("heap" : Str), V.ref 13)])) = σ₃ at k3 a3 ⊢
  refine EXs_next (EX_setA P.c_Store P.t_Store_stack (mI 0 rfl) (EV_list rfl (by decide) ⟨_, k3.app.at_, by decide, by decide +kernel, rfl, ?_⟩))
  rw [k3.len]
  have k4 := (k3.app (o := .list [])).set (fs' := [] ++ [(("symbols" : Str), V.ref 2)] ++ [(("max_heap" : Str), V.int 100000)] ++ [(("heap" : Str), V.ref 13)] ++ [(("stack" : Str), V.ref 14)])
  have b4 : (((σ₃ ++ [AO.list []]).set 12 (.inst 423 ([] ++ [(("symbols" : Str), V.ref 2)] ++ [(("max_heap" : Str), V.int 100000)] ++ [(("heap" : Str), V.ref 13)] ++ [(("stack" : Str), V.ref 14)]))))[14]? = some (.list []) := by
    rw [List.getElem?_set_ne (by decide)]; exact get_app' k3.len
  have a4 : (((σ₃ ++ [AO.list []]).set 12 (.inst 423 ([] ++ [(("symbols" : Str), V.ref 2)] ++ [(("max_heap" : Str), V.int 100000)] ++ [(("heap" : Str), V.ref 13)] ++ [(("stack" : Str), V.ref 14)]))))[13]? = some (.list []) := by
    rw [List.getElem?_set_ne (by decide)]; exact (Kp.app (D := [])).get a3 List.not_mem_nil
  generalize (σ₃ ++ [AO.list []]).set 12 (.inst 423 ([] ++ [(("symbols" : Str), V.ref 2)] ++ [(("max_heap" : Str), V.int 100000)] ++ [(("heap" : Str), V.ref 13)] ++ [(("stack" : Str), V.ref 14)])) = σ₄ at k4 a4 b4 ⊢
  refine EXs_next (EX_setA P.c_Store P.t_Store_trail (mI 0 rfl) (EV_list rfl (by decide) ⟨_, k4.app.at_, by decide, by decide +kernel, rfl, ?_⟩))
  rw [k4.len]
  have k5 := (k4.app (o := .list [])).set (fs' := storeFs.take 5)
  have c5 : ((σ₄ ++ [AO.list []]).set 12 (.inst 423 (storeFs.take 5)))[15]? = some (.list []) := by
    rw [List.getElem?_set_ne (by decide)]; exact get_app' k4.len
  have b5 : ((σ₄ ++ [AO.list []]).set 12 (.inst 423 (storeFs.take 5)))[14]? = some (.list []) := by
    rw [List.getElem?_set_ne (by decide)]; exact (Kp.app (D := [])).get b4 List.not_mem_nil
  have a5 : ((σ₄ ++ [AO.list []]).set 12 (.inst 423 (storeFs.take 5)))[13]? = some (.list []) := by
    rw [List.getElem?_set_ne (by decide)]; exact (Kp.app (D := [])).get a4 List.not_mem_nil
  show EXs B _ X _ _ ((σ₄ ++ [AO.list []]).set 12 (.inst 423 (storeFs.take 5))) _ _
  generalize (σ₄ ++ [AO.list []]).set 12 (.inst 423 (storeFs.take 5)) = σ₅ at k5 a5 b5 c5 ⊢
  refine EXs_next (EX_setA P.c_Store P.t_Store_hb (mI 0 rfl) (EV_int ⟨_, k5.at_, by decide, by decide +kernel, rfl, ?_⟩))
  have k6 := k5.set (fs' := storeFs.take 6)
  show EXs B _ X _ _ (σ₅.set 12 (.inst 423 (storeFs.take 6))) _ _
  refine EXs_last (EX_setA P.c_Store P.t_Store_bb (mI 0 rfl) (EV_int ⟨_, k6.at_, by decide, by decide +kernel, ?_⟩))
  have k7 := k6.set (fs' := storeFs)
  refine h _ k7.kp k7.len ⟨k7.at_, ?_, ?_, ?_, by simp⟩
  · rw [List.getElem?_set_ne (by decide), List.getElem?_set_ne (by decide)]; exact a5
  · rw [List.getElem?_set_ne (by decide), List.getElem?_set_ne (by decide)]; exact b5
  · rw [List.getElem?_set_ne (by decide), List.getElem?_set_ne (by decide)]; exact c5
theorem CA_areasReset (P : PF B) {σ0 : List AO} (k5 : Mk σ0 σ 11 597 12 (areasFs.take 5)) (h : ∀ σ', Mk σ0 σ' 11 597 19 areasFs → StAt [] σ' → Q .none σ') : CA B (n + 3) X (.ref 461) [.ref 11] σ Q := by
  obtain ⟨tR, gR⟩ := P.s_READ
  refine CA_fn (others := []) (G := ⟨["Store", "VOID", "READ"], [], []⟩) thruAll P.f_Areas_reset (by decide +kernel) rfl ?_
  refine EXs_next (EX_setA P.c_Areas P.t_Areas_store (mI 0 rfl) (EV_call (mI 0 rfl) P.gc_Store P.kc_Store rfl (EV_attr (EV_name (v := .ref 11) (mI 0 rfl) (OP_attr P.c_Areas P.a_Areas_symbols k5.at_ (mI 0 rfl) (EV_attr (EV_name (v := .ref 11) (mI 0 rfl) (OP_attr P.c_Areas P.a_Areas_max_heap k5.at_ (mI 2 rfl) (CA.op (CA_make P.mk_Store P.in_Store P.it_Store ?_))))))))))
  rw [k5.len]
  refine CA_cellsInit P (by rw [List.length_append, k5.len]; rfl) (get_app' k5.len) fun σ₁ c₁ l₁ s₁ => ⟨rfl, areasFs.take 5, ?_, by decide, by decide +kernel, rfl, ?_⟩
  · exact c₁.get ((Kp.app (D := [])).get k5.at_ (by decide)) (by decide)
  have q1 : Mk σ0 σ₁ 11 597 16 (areasFs.take 5) := by
    refine ⟨?_, l₁, c₁.get ((Kp.app (D := [])).get k5.at_ (by decide)) (by decide)⟩
    have z := k5.kp.1
    rw [k5.len] at z
    refine ⟨by lia -abstractProof, fun i hi hd => ?_⟩
    rw [c₁.2 i (by rw [List.length_append, k5.len]; lia -abstractProof) (by simp; lia -abstractProof), List.getElem?_append_left (by rw [k5.len]; lia -abstractProof)]
    exact k5.kp.2 i hi hd
  have r1 := q1.set (fs' := areasFs.take 6)
  have t1 : StAt [] (σ₁.set 11 (.inst 597 (areasFs.take 6))) := s₁.kp (D := [11]) (.set (by decide)) (by decide)
  show EXs B _ X _ _ (σ₁.set 11 (.inst 597 (areasFs.take 6))) _ _
  generalize σ₁.set 11 (.inst 597 (areasFs.take 6)) = τ6 at r1 t1 ⊢
  refine EXs_next (EX_setA P.c_Areas P.t_Areas_x (mI 0 rfl) (EV_list rfl (by decide) (EV_void P (mI 1 rfl) ⟨areasFs.take 6, (r1.app).at_, by decide, by decide +kernel, rfl, ?_⟩)))
  rw [r1.len]
  have r2 := (r1.app (o := .list [.tup [.int 5, .int 0]])).set (fs' := areasFs.take 7)
  have t2 : StAt [] ((τ6 ++ [AO.list [.tup [.int 5, .int 0]]]).set 11 (.inst 597 (areasFs.take 7))) := (t1.kp (D := []) .app (by decide)).kp (D := [11]) (.set (by decide)) (by decide)
  show EXs B _ X _ _ ((τ6 ++ [AO.list [.tup [.int 5, .int 0]]]).set 11 (.inst 597 (areasFs.take 7))) _ _
  generalize (τ6 ++ [AO.list [.tup [.int 5, .int 0]]]).set 11 (.inst 597 (areasFs.take 7)) = τ7 at r2 t2 ⊢
  refine EXs_next (EX_setA P.c_Areas P.t_Areas_p (mI 0 rfl) (EV_int ⟨areasFs.take 7, r2.at_, by decide, by decide +kernel, rfl, ?_⟩))
  have r3 := r2.set (fs' := areasFs.take 8)
  have t3 : StAt [] (τ7.set 11 (.inst 597 (areasFs.take 8))) := t2.kp (D := [11]) (.set (by decide)) (by decide)
  show EXs B _ X _ _ (τ7.set 11 (.inst 597 (areasFs.take 8))) _ _
  generalize τ7.set 11 (.inst 597 (areasFs.take 8)) = τ8 at r3 t3 ⊢
  refine EXs_next (EX_setA P.c_Areas P.t_Areas_cp (mI 0 rfl) (EV_int ⟨areasFs.take 8, r3.at_, by decide, by decide +kernel, rfl, ?_⟩))
  have r4 := r3.set (fs' := areasFs.take 9)
  have t4 : StAt [] (τ8.set 11 (.inst 597 (areasFs.take 9))) := t3.kp (D := [11]) (.set (by decide)) (by decide)
  show EXs B _ X _ _ (τ8.set 11 (.inst 597 (areasFs.take 9))) _ _
  generalize τ8.set 11 (.inst 597 (areasFs.take 9)) = τ9 at r4 t4 ⊢
  refine EXs_next (EX_setA P.c_Areas P.t_Areas_e (mI 0 rfl) (EV_un (EV_int (OP_neg ⟨areasFs.take 9, r4.at_, by decide, by decide +kernel, rfl, ?_⟩))))
  have r5 := r4.set (fs' := areasFs.take 10)
  have t5 : StAt [] (τ9.set 11 (.inst 597 (areasFs.take 10))) := t4.kp (D := [11]) (.set (by decide)) (by decide)
  show EXs B _ X _ _ (τ9.set 11 (.inst 597 (areasFs.take 10))) _ _
  generalize τ9.set 11 (.inst 597 (areasFs.take 10)) = τ10 at r5 t5 ⊢
  refine EXs_next (EX_setA P.c_Areas P.t_Areas_b (mI 0 rfl) (EV_un (EV_int (OP_neg ⟨areasFs.take 10, r5.at_, by decide, by decide +kernel, rfl, ?_⟩))))
  have r6 := r5.set (fs' := areasFs.take 11)
  have t6 : StAt [] (τ10.set 11 (.inst 597 (areasFs.take 11))) := t5.kp (D := [11]) (.set (by decide)) (by decide)
  show EXs B _ X _ _ (τ10.set 11 (.inst 597 (areasFs.take 11))) _ _
  generalize τ10.set 11 (.inst 597 (areasFs.take 11)) = τ11 at r6 t6 ⊢
  refine EXs_next (EX_setA P.c_Areas P.t_Areas_b0 (mI 0 rfl) (EV_un (EV_int (OP_neg ⟨areasFs.take 11, r6.at_, by decide, by decide +kernel, rfl, ?_⟩))))
  have r7 := r6.set (fs' := areasFs.take 12)
  have t7 : StAt [] (τ11.set 11 (.inst 597 (areasFs.take 12))) := t6.kp (D := [11]) (.set (by decide)) (by decide)
  show EXs B _ X _ _ (τ11.set 11 (.inst 597 (areasFs.take 12))) _ _
  generalize τ11.set 11 (.inst 597 (areasFs.take 12)) = τ12 at r7 t7 ⊢
  refine EXs_next (EX_setA P.c_Areas P.t_Areas_mode (mI 0 rfl) (EV_gstr (mI 2 rfl) gR ⟨areasFs.take 12, r7.at_, by decide, by decide +kernel, rfl, ?_⟩))
  have r8 := r7.set (fs' := areasFs.take 13)
  have t8 : StAt [] (τ12.set 11 (.inst 597 (areasFs.take 13))) := t7.kp (D := [11]) (.set (by decide)) (by decide)
  show EXs B _ X _ _ (τ12.set 11 (.inst 597 (areasFs.take 13))) _ _
  generalize τ12.set 11 (.inst 597 (areasFs.take 13)) = τ13 at r8 t8 ⊢
  refine EXs_next (EX_setA P.c_Areas P.t_Areas_s (mI 0 rfl) (EV_int ⟨areasFs.take 13, r8.at_, by decide, by decide +kernel, rfl, ?_⟩))
  have r9 := r8.set (fs' := areasFs.take 14)
  have t9 : StAt [] (τ13.set 11 (.inst 597 (areasFs.take 14))) := t8.kp (D := [11]) (.set (by decide)) (by decide)
  show EXs B _ X _ _ (τ13.set 11 (.inst 597 (areasFs.take 14))) _ _
  generalize τ13.set 11 (.inst 597 (areasFs.take 14)) = τ14 at r9 t9 ⊢
  refine EXs_next (EX_setA P.c_Areas P.t_Areas_guard (mI 0 rfl) (EV_void P (mI 1 rfl) ⟨areasFs.take 14, r9.at_, by decide, by decide +kernel, rfl, ?_⟩))
  have r10 := r9.set (fs' := areasFs.take 15)
  have t10 : StAt [] (τ14.set 11 (.inst 597 (areasFs.take 15))) := t9.kp (D := [11]) (.set (by decide)) (by decide)
  show EXs B _ X _ _ (τ14.set 11 (.inst 597 (areasFs.take 15))) _ _
  generalize τ14.set 11 (.inst 597 (areasFs.take 15)) = τ15 at r10 t10 ⊢
  refine EXs_next (EX_setA P.c_Areas P.t_Areas_roots (mI 0 rfl) (EV_list rfl (by decide) ⟨areasFs.take 15, (r10.app).at_, by decide, by decide +kernel, rfl, ?_⟩))
  rw [r10.len]
  have r11 := (r10.app (o := .list [])).set (fs' := areasFs.take 16)
  have t11 : StAt [] ((τ15 ++ [AO.list []]).set 11 (.inst 597 (areasFs.take 16))) := (t10.kp (D := []) .app (by decide)).kp (D := [11]) (.set (by decide)) (by decide)
  show EXs B _ X _ _ ((τ15 ++ [AO.list []]).set 11 (.inst 597 (areasFs.take 16))) _ _
  generalize (τ15 ++ [AO.list []]).set 11 (.inst 597 (areasFs.take 16)) = τ16 at r11 t11 ⊢
  refine EXs_next (EX_setA P.c_Areas P.t_Areas_bags (mI 0 rfl) (EV_dI ⟨areasFs.take 16, (r11.app).at_, by decide, by decide +kernel, rfl, ?_⟩))
  rw [r11.len]
  have r12 := (r11.app (o := .dI [])).set (fs' := areasFs.take 17)
  have t12 : StAt [] ((τ16 ++ [AO.dI []]).set 11 (.inst 597 (areasFs.take 17))) := (t11.kp (D := []) .app (by decide)).kp (D := [11]) (.set (by decide)) (by decide)
  show EXs B _ X _ _ ((τ16 ++ [AO.dI []]).set 11 (.inst 597 (areasFs.take 17))) _ _
  generalize (τ16 ++ [AO.dI []]).set 11 (.inst 597 (areasFs.take 17)) = τ17 at r12 t12 ⊢
  refine EXs_last (EX_setA P.c_Areas P.t_Areas_collect_wanted (mI 0 rfl) (EV_bool ⟨areasFs.take 17, r12.at_, by decide, by decide +kernel, ?_⟩))
  have r13 := r12.set (fs' := areasFs.take 18)
  have t13 : StAt [] (τ17.set 11 (.inst 597 (areasFs.take 18))) := t12.kp (D := [11]) (.set (by decide)) (by decide)
  exact h _ r13 t13
theorem CA_areasInit (P : PF B) (h0 : σ.length = 12) (hi : σ[11]? = some (.inst 597 [])) (h : ∀ σ', Mk σ σ' 11 597 19 areasFs → StAt [] σ' → Q .none σ') : CA B (n + 4) X (.ref 454) [.ref 11, .ref 2, .ref 10] σ Q := by
  refine CA_fn (others := []) (G := ⟨[], [], []⟩) thruAll P.f_Areas___init__ (by decide +kernel) rfl ?_
  have r0 : Mk σ σ 11 597 12 (areasFs.take 0) := ⟨.refl, h0, hi⟩
  refine EXs_next (EX_setA P.c_Areas P.t_Areas_symbols (mI 0 rfl) (EV_name (v := .ref 2) (mI 1 rfl) ⟨areasFs.take 0, r0.at_, by decide, by decide +kernel, rfl, ?_⟩))
  have r1 := r0.set (fs' := areasFs.take 1)
  show EXs B _ X _ _ (σ.set 11 (.inst 597 (areasFs.take 1))) _ _
  generalize σ.set 11 (.inst 597 (areasFs.take 1)) = τ1 at r1 ⊢
  refine EXs_next (EX_setA P.c_Areas P.t_Areas_code (mI 0 rfl) (EV_name (v := .ref 10) (mI 2 rfl) ⟨areasFs.take 1, r1.at_, by decide, by decide +kernel, rfl, ?_⟩))
  have r2 := r1.set (fs' := areasFs.take 2)
  show EXs B _ X _ _ (τ1.set 11 (.inst 597 (areasFs.take 2))) _ _
  generalize τ1.set 11 (.inst 597 (areasFs.take 2)) = τ2 at r2 ⊢
  refine EXs_next (EX_setA P.c_Areas P.t_Areas_max_heap (mI 0 rfl) (EV_name (v := .int 100000) (mI 3 rfl) ⟨areasFs.take 2, r2.at_, by decide, by decide +kernel, rfl, ?_⟩))
  have r3 := r2.set (fs' := areasFs.take 3)
  show EXs B _ X _ _ (τ2.set 11 (.inst 597 (areasFs.take 3))) _ _
  generalize τ2.set 11 (.inst 597 (areasFs.take 3)) = τ3 at r3 ⊢
  refine EXs_next (EX_setA P.c_Areas P.t_Areas_occurs (mI 0 rfl) (EV_name (v := .bool true) (mI 4 rfl) ⟨areasFs.take 3, r3.at_, by decide, by decide +kernel, rfl, ?_⟩))
  have r4 := r3.set (fs' := areasFs.take 4)
  show EXs B _ X _ _ (τ3.set 11 (.inst 597 (areasFs.take 4))) _ _
  generalize τ3.set 11 (.inst 597 (areasFs.take 4)) = τ4 at r4 ⊢
  refine EXs_next (EX_setA P.c_Areas P.t_Areas_max_bits (mI 0 rfl) (EV_name (v := .int 4096) (mI 5 rfl) ⟨areasFs.take 4, r4.at_, by decide, by decide +kernel, rfl, ?_⟩))
  have r5 := r4.set (fs' := areasFs.take 5)
  show EXs B _ X _ _ (τ4.set 11 (.inst 597 (areasFs.take 5))) _ _
  generalize τ4.set 11 (.inst 597 (areasFs.take 5)) = τ5 at r5 ⊢
  refine EXs_last (EX_expr (EV_imeth rfl (by decide) rfl (EV_name (v := .ref 11) (mI 0 rfl) ⟨11, 597, _, _, rfl, r5.at_, P.c_Areas, P.m_Areas_reset, by decide +kernel, ?_⟩)))
  refine CA.op (CA_areasReset P r5 h)
theorem CA_take (P : PF B) {y : Sy} {H : List Cl} {R : Int → T} {ties : List T} (rt : RT ties R) (h20 : 20 ≤ σ.length) (ha : σ[11]? = some (.inst 597 areasFs)) (st0 : StAt H σ) (hy0 : SyAt y σ) {t : T} {c c' : Cl} {L : List Nat} (d : Der H c c') (rep : Rep H R c' t L) (hok : t.ok y) (nd : L.Nodup) (hz : 3 * t.sz ≤ 3900)
    (h : ∀ σ', Kp [] σ σ' → Q (sh R t []).1.toV σ') : CA B (n + 5) X (.ref 496) [.ref 11, cellV c] σ Q := by
  refine CA_fn (others := []) (G := ⟨[], [], []⟩) thruAll P.f_Areas_take (by decide +kernel) rfl ?_
  refine EXs_last (EX_ret (EV_imeth rfl (by decide) rfl (EV_attr (EV_name (v := .ref 11) (mI 0 rfl) (OP_attr P.c_Areas P.a_Areas_store ha (mI 5 rfl) ⟨12, 423, _, _, rfl, st0.o, P.c_Store, P.m_Store_take_term, by decide, ?_⟩)))))
  refine EV_name (v := cellV c) (mI 1 rfl) (EV_dI (CA.op (CA_take_term P rt ⟨?_, ?_, ?_⟩ (st0.kp (D := []) .app (by decide)) (hy0.kp (D := []) .app (by decide)) d rep hok nd get_app hz fun σ' k => h σ' ⟨?_, fun i hi z_ => ?_⟩)))
  · simp; lia -abstractProof
  · simp
  · lia -abstractProof
  · have := k.1; simp at this; lia -abstractProof
  · rw [k.2 i (by simp; lia -abstractProof) (by simp; lia -abstractProof), List.getElem?_append_left hi]
end
noncomputable def chStep (y : Sy) (R : Int → T) (rs : List Int) (nm : List (Int × V)) (e : T) : List (Int × V) :=
  match endT R (rightT e) with
  | .v root => if root ∈ rs then (if (at? nm ((rs.idxOf root : Nat) : Int)).isSome then nm else put nm ((rs.idxOf root : Nat) : Int) (.str (y.tx (lnum e)))) else nm
  | _ => nm
noncomputable def chosenL (y : Sy) (R : Int → T) (rs : List Int) (es : List T) : List (Int × V) := es.foldl (chStep y R rs) []
theorem chStep_len (y : Sy) (R : Int → T) (rs : List Int) (nm : List (Int × V)) (e : T) : (chStep y R rs nm e).length ≤ nm.length + 1 := by
  unfold chStep
  split
  · split
    · split
      · lia -abstractProof
      · exact put_len
    · lia -abstractProof
  · lia -abstractProof
structure IR (H : List Cl) (R : Int → T) (c : Cl) (x : T) : Prop where
  rep : ∃ L, Rep H R c x L
  der : Der H c c
  var : ∀ k, x = .v k → c = cellOf (R k)
theorem Rep.leafDer {H : List Cl} {R : Int → T} {c : Cl} {t : T} {L : List Nat} (h : Rep H R c t L) (hd : t.dep = 0) : Der H c (cellOf (endT R t)) := by
  cases h with
  | v d => exact d
  | a => exact .val (by decide) (by decide)
  | i => exact .val (by decide) (by decide)
  | s1 => first | exact absurd rfl hd | exact (Nat.succ_ne_zero _ hd).elim
  | s2 => first | exact absurd rfl hd | exact (Nat.succ_ne_zero _ hd).elim
theorem dueFl_at {y : Sy} {R : Int → T} {e x : T} : ∀ {es : List T} {j : Nat}, endFlaw R e = "" → (∀ z, z ∈ es.take j → flawE y R z = "") → es[j]? = some x → flawE y R x ≠ "" → ∃ t, dueFl y R e es = flawE y R x :: t := by
  intro es j he hz hx hn
  have h1 : es = es.take j ++ x :: es.drop (j + 1) := by
    have hj := (List.getElem?_eq_some_iff.mp hx)
    obtain ⟨h1, h2⟩ := hj
    simp only [← h2, ← List.drop_eq_getElem_cons h1, List.take_append_drop]
  have e1 : notNil (endFlaw R e) = false := by rw [he]; decide +kernel
  have e2 : ((es.take j).map (flawE y R)).filter notNil = [] := by
    rw [List.filter_eq_nil_iff]
    intro a ha
    obtain ⟨z, hz', rfl⟩ := List.mem_map.mp ha
    rw [hz z hz']; decide +kernel
  have e3 : notNil (flawE y R x) = true := by unfold notNil; simpa using hn
  refine ⟨((es.drop (j + 1)).map (flawE y R)).filter notNil, ?_⟩
  unfold dueFl flawsL
  rw [List.filter_cons, e1, if_neg (by decide)]
  conv => lhs; rw [h1]
  simp only [List.map_append, List.filter_append, e2, List.map_cons, List.filter_cons, e3]
  rfl
theorem dueFl_end {y : Sy} {R : Int → T} {e : T} {es : List T} (h : endFlaw R e ≠ "") : ∃ t, dueFl y R e es = endFlaw R e :: t := by
  refine ⟨(es.map (flawE y R)).filter notNil, ?_⟩
  unfold dueFl flawsL
  rw [List.filter_cons, if_pos (by unfold notNil; simpa using h)]
theorem dueFl_none {y : Sy} {R : Int → T} {e : T} {es : List T} (he : endFlaw R e = "") (hz : ∀ z, z ∈ es → flawE y R z = "") : dueFl y R e es = [] := by
  unfold dueFl flawsL
  rw [List.filter_cons, if_neg (by rw [he]; decide +kernel), List.filter_eq_nil_iff]
  intro a ha
  obtain ⟨z, hz', rfl⟩ := List.mem_map.mp ha
  rw [hz z hz']; decide +kernel
section
variable {B : Bs} {n : Nat} {X : V → List AO → Prop} {σ : List AO} {Q : V → List AO → Prop} {G : Gs} {m : Loc}
noncomputable def domBall (y : Sy) (sv : V) : V := vSys (vS (((y.atom "write_option").func "domain_error" 2).fnum [((y.atom "write_option").atom "domain_error").num "domain_error", 2]) [vA ((y.atom "write_option").num "write_option"), sv])
theorem EX_inst (P : PF B) (x : XP B) {y : Sy} {p1 p2 p3 p4 : Pos} {Q : AF → Loc → List AO → Prop} (hg : ("instantiation_error" : Str) ∈ G.g) (hm : (("symbols" : Str), some (V.ref 2)) ∈ m) (hy : SyAt y σ) (z1 : y.texts.length < 9000)
    (h : ∀ σ', Kp [3, 4, 5, 6] σ σ' → SyAt (dueInst y) σ' → X (vSys (fInst y)) σ') : EX B (n + 4) X G m σ (.Raise (some (.Call (.Name "instantiation_error" p1) [.Name "symbols" p2] [] p3)) none p4) Q := by
  have x' := x
  refine shut fun P_ o_ => ?_
  obtain ⟨fI, sc, q1, q2, q3, q4, F, -⟩ := x'
  refine o_ ?_
  refine EX_raise F (EV_call hg P.g_instantiation_error P.k_instantiation_error rfl (EV_name hm (CA.op (CA_inst_err P x hy z1 fun σ' k s => ⟨_, _, rfl, get_app, h _ ((k.trans .app).setN (by have := k.1; omega)) ?_⟩))))
  exact ((s.kp (D := []) .app (by decide)).setN (by have := s.len; omega))
theorem EX_dom (P : PF B) (x : XP B) {y : Sy} {H : List Cl} {R : Int → T} {ties : List T} (rt : RT ties R) {t : T} {c c' : Cl} {L : List Nat} {p1 p2 p3 p4 p5 p6 p7 p8 ap : Pos} {kk : Nat} {Q : AF → Loc → List AO → Prop} (hg : ("domain_error" : Str) ∈ G.g) (hm : (("symbols" : Str), some (V.ref 2)) ∈ m) (hmm : (("m" : Str), some (V.ref 11)) ∈ m) (hmo : (("option" : Str), some (cellV c)) ∈ m) (hl : (ap.endLine == p7.line) = true)
    (hy : SyAt y σ) (z1 : y.texts.length < 9000) (z2 : y.fs.length < 9000) (h20 : 20 ≤ σ.length) (ha : σ[11]? = some (.inst 597 areasFs)) (st0 : StAt H σ) (d : Der H c c') (rep : Rep H R c' t L) (hok : t.ok y) (nd : L.Nodup) (hz : 3 * t.sz ≤ 3900)
    (h : ∀ σ', Kp [3, 4, 5, 6] σ σ' → SyAt ((y.atom "write_option").func "domain_error" 2) σ' → X (domBall y (sh R t []).1.toV) σ') :
    EX B (n + 5) X G m σ (.Raise (some (.Call (.Name "domain_error" p1) [.Name "symbols" p2, .Constant (.str "write_option") kk p3, .Call (.Attribute (.Name "m" p4) "take" ap) [.Name "option" p6] [] p7] [] p8)) none p5) Q := by
  have x' := x
  refine shut fun P_ o_ => ?_
  obtain ⟨fI, sc, q1, q2, q3, q4, F, -⟩ := x'
  refine o_ ?_
  refine EX_raise F (EV_call hg P.g_domain_error P.k_domain_error rfl (EV_name hm (EV_str ?_)))
  refine EV_imeth rfl (by simp) hl (EV_name (v := .ref 11) hmm ⟨11, 597, _, _, rfl, ha, P.c_Areas, P.m_Areas_take, by decide +kernel, ?_⟩)
  refine EV_name hmo (CA.op (CA_take P rt h20 ha st0 hy d rep hok nd hz fun σ₁ k₁ => ?_))
  have y1 := hy.kp k₁ (by simp)
  refine shut fun P_ o_ => ?_
  obtain ⟨l, el⟩ := (sh R t []).1.tupV
  refine o_ ?_
  unfold domBall at h
  rw [el] at h ⊢
  refine CA.op (CA_dom_err (n := n + 1) P x y1 z1 z2 fun σ' k s => ⟨_, _, rfl, get_app, h _ (((k₁.mono (by decide)).trans (k.trans .app)).setN (by have := k₁.1; have := k.1; lia -abstractProof)) ?_⟩)
  exact ((s.kp (D := []) .app (by decide)).setN (by have := s.len; lia -abstractProof))
end
section
variable {B : Bs} {n : Nat} {X : V → List AO → Prop} {σ : List AO} {Q : V → List AO → Prop} {G : Gs} {m : Loc}
theorem EV_store (P : PF B) {x : Str} {p pos : Pos} (hm : (x, some (V.ref 11)) ∈ m) (ha : σ[11]? = some (.inst 597 areasFs)) (h : Q (.ref 12) σ) : EV B n X G m σ (.Attribute (.Name x p) "store" pos) Q :=
  EV_attr (EV_name hm (OP_attr P.c_Areas P.a_Areas_store ha (mI 5 rfl) h)) (fun z_ => rfl)
theorem EV_asym (P : PF B) {x : Str} {p pos : Pos} (hm : (x, some (V.ref 11)) ∈ m) (ha : σ[11]? = some (.inst 597 areasFs)) (h : Q (.ref 2) σ) : EV B n X G m σ (.Attribute (.Name x p) "symbols" pos) Q :=
  EV_attr (EV_name hm (OP_attr P.c_Areas P.a_Areas_symbols ha (mI 0 rfl) h)) (fun z_ => rfl)
theorem EV_ym (P : PF B) {y : Sy} {x name : Str} {f : Addr} {p apos pos : Pos} {es : List Expr} (hm : (x, some (V.ref 2)) ∈ m) (hy : SyAt y σ) (mf : MF B 154 name f) (hn : name ∉ syFs.map (·.1)) (hs : noStar es = true) (hl : es.length < 20) (hline : (apos.endLine == pos.line) = true)
    (h : EVs B n X G m es σ fun l σ₂ => OPs B n X (.ref 2 :: l) σ₂ (fun vs => call (.ref f) vs) Q) : EV B n X G m σ (.Call (.Attribute (.Name x p) name apos) es [] pos) Q :=
  EV_imeth hs hl hline (EV_name (v := .ref 2) hm ⟨2, 154, _, _, rfl, hy.o, P.c_Symbols, mf, hn, h⟩) (fun z_ => rfl)
theorem set_same {i : Nat} {o : AO} (h : σ[i]? = some o) : σ.set i o = σ := by
  apply List.ext_getElem?
  intro j
  by_cases e : i = j
  · rw [← e, List.getElem?_set_self (idx_lt h), h]
  · rw [List.getElem?_set_ne e]
theorem RT.good3 {ties : List T} {R : Int → T} (rt : RT ties R) {k : Int} (h : 0 ≤ k ∧ k < 5) : (∃ j, R k = .v j) ∨ ∃ i, R k = .i i := (rt.good k h.1 h.2).imp (fun ⟨j, _, _, e, _⟩ => ⟨j, e⟩) id
theorem LeafOk.t3 {y : Sy} {ties : List T} {R : Int → T} (rt : RT ties R) : ∀ {l : T}, LeafOk y l → (∃ j, endT R l = .v j) ∨ (∃ k, l = .a k) ∨ ∃ i, endT R l = .i i
  | .v _, h => (rt.good3 h).imp id .inr
  | .a k, _ => .inr (.inl ⟨k, rfl⟩)
  | .i k, _ => .inr (.inr ⟨k, rfl⟩)
theorem EndOk.t3 {ties : List T} {R : Int → T} (rt : RT ties R) : ∀ {e : T}, EndOk e → (∃ j, endT R e = .v j) ∨ endT R e = .a 0 ∨ ∃ i, endT R e = .i i
  | .v _, h => (rt.good3 h).imp id .inr
  | .a _, h => .inr (.inl (congrArg T.a h))
  | .i k, _ => .inr (.inr ⟨k, rfl⟩)
theorem RightOk.t2 {ties : List T} {R : Int → T} (rt : RT ties R) : ∀ {r : T}, RightOk r → (∃ j, endT R r = .v j) ∨ (∀ j, endT R r ≠ .v j) ∧ (cellOf (endT R r)).1 ≠ 0
  | .v _, h => (rt.good3 h).imp id fun ⟨i, e⟩ => ⟨fun j q => (by cases e.symm.trans q), fun q => absurd ((congrArg (fun t => (cellOf t).1) e).symm.trans q) (by decide : (5 : Int) ≠ 0)⟩
  | .a _, _ => .inr ⟨fun j q => (by cases q), (by decide : (4 : Int) ≠ 0)⟩
theorem is0 {t : T} {c : Int} (e : (cellOf t).1 = c) (h : c ≠ 0) (q : ((cellOf t).1 == 0) = true) : False := h (e.symm.trans (eq_of_beq q))
theorem tail_lacks {ties : List T} {R : Int → T} (rt : RT ties R) {e : T} (h : EndOk e) (q : ((cellOf (endT R e)).1 == 0) = true) : endFlaw R e = "lacks" := by
  unfold endFlaw
  rcases h.t3 rt with ⟨j, e1⟩ | e1 | ⟨i, e1⟩
  · rw [e1]; rfl
  · exact (is0 (congrArg (fun t => (cellOf t).1) e1) (by decide : (4 : Int) ≠ 0) q).elim
  · exact (is0 (congrArg (fun t => (cellOf t).1) e1) (by decide : (5 : Int) ≠ 0) q).elim
theorem tail_wrong {ties : List T} {R : Int → T} (rt : RT ties R) {e : T} (h : EndOk e) (q0 : ((cellOf (endT R e)).1 == 0) = false) (q : cellOf (endT R e) ≠ (4, 0)) : endFlaw R e = "wrong" := by
  unfold endFlaw
  rcases h.t3 rt with ⟨j, e1⟩ | e1 | ⟨i, e1⟩
  · rw [e1] at q0; cases q0
  · exact (q (congrArg cellOf e1)).elim
  · rw [e1]; rfl
theorem tail_nil {ties : List T} {R : Int → T} (rt : RT ties R) {e : T} (h : EndOk e) (q : cellOf (endT R e) = (4, 0)) : endFlaw R e = "" := by
  unfold endFlaw
  rcases h.t3 rt with ⟨j, e1⟩ | e1 | ⟨i, e1⟩
  · rw [e1] at q; cases q
  · rw [e1]; rfl
  · rw [e1] at q; cases q
theorem fl10v {y : Sy} {R : Int → T} {l r : T} {j : Int} (h : endT R l = .v j) : flawE y R (.s2 10 l r) = "lacks" := congrArg (adW _) h
theorem fl10i {y : Sy} {R : Int → T} {l r : T} {j : Int} (h : endT R l = .i j) : flawE y R (.s2 10 l r) = "wrong" := congrArg (adW _) h
theorem fl_a {y : Sy} {R : Int → T} {k : Int} {r : T} : flawE y R (.s2 10 (.a k) r) = if fits (y.tx k) then ("" : Str) else "wrong" := rfl
theorem fl_f {y : Sy} {R : Int → T} {f : Int} {l r : T} (h : f ≠ 10) : flawE y R (.s2 f l r) = "wrong" := if_neg h
theorem flv {y : Sy} {R : Int → T} {k j : Int} (h : R k = .v j) : flawE y R (.v k) = "lacks" := congrArg lwW h
theorem fli {y : Sy} {R : Int → T} {k j : Int} (h : R k = .i j) : flawE y R (.v k) = "wrong" := congrArg lwW h
theorem fl_lacks {y : Sy} {ties : List T} {R : Int → T} (rt : RT ties R) {l r : T} (h : LeafOk y l) (q : ((cellOf (endT R l)).1 == 0) = true) : flawE y R (.s2 10 l r) = "lacks" := by
  rcases h.t3 rt with ⟨j, e1⟩ | ⟨k, e1⟩ | ⟨i, e1⟩
  · exact fl10v e1
  · exact (is0 (congrArg (fun t => (cellOf (endT R t)).1) e1) (by decide : (4 : Int) ≠ 0) q).elim
  · exact (is0 (congrArg (fun t => (cellOf t).1) e1) (by decide : (5 : Int) ≠ 0) q).elim
theorem fl_wrong {y : Sy} {ties : List T} {R : Int → T} (rt : RT ties R) {l r : T} (h : LeafOk y l) (q0 : ((cellOf (endT R l)).1 == 0) = false) (q : (cellOf (endT R l)).1 ≠ 4) : flawE y R (.s2 10 l r) = "wrong" := by
  rcases h.t3 rt with ⟨j, e1⟩ | ⟨k, e1⟩ | ⟨i, e1⟩
  · rw [e1] at q0; cases q0
  · exact (q (congrArg (fun t => (cellOf (endT R t)).1) e1)).elim
  · exact fl10i e1
theorem fl_atom {y : Sy} {ties : List T} {R : Int → T} (rt : RT ties R) {l : T} (h : LeafOk y l) (q : (cellOf (endT R l)).1 = 4) : ∃ k, l = .a k := by
  rcases h.t3 rt with ⟨j, e1⟩ | e1 | ⟨i, e1⟩
  · exact absurd ((congrArg (fun t => (cellOf t).1) e1).symm.trans q) (by decide : (0 : Int) ≠ 4)
  · exact e1
  · exact absurd ((congrArg (fun t => (cellOf t).1) e1).symm.trans q) (by decide : (5 : Int) ≠ 4)
noncomputable abbrev chG : Gs := ⟨["instantiation_error", "domain_error", "CON", "A_NIL", "STR", "F_EQUAL", "REF", "is_variable_name"], [], []⟩
noncomputable def chB : List Stmt := fnB (nth (fnB (top 38)) 6)
noncomputable def chL (oc vc tl : Cl) (i : Nat) (on o1 o2 o3 : Option V) : Loc := [(("m" : Str), some (V.ref 11)), (("option" : Str), some (cellV oc)), (("value" : Str), some (cellV vc)), (("table" : Str), some (V.ref 8)), (("store" : Str), some (V.ref 12)), (("symbols" : Str), some (V.ref 2)), (("items" : Str), some (V.ref i)), (("tail" : Str), some (cellV tl)), (("names" : Str), on), (("item" : Str), o1), (("name" : Str), o2), (("target" : Str), o3)]
noncomputable def LacksX (y : Sy) (X : V → List AO → Prop) (σ : List AO) : Prop := ∀ σ', Kp [3, 4, 5, 6] σ σ' → SyAt (dueInst y) σ' → X (vSys (fInst y)) σ'
noncomputable def WrongX (y : Sy) (R : Int → T) (tree : T) (X : V → List AO → Prop) (σ : List AO) : Prop := ∀ σ', Kp [3, 4, 5, 6] σ σ' → SyAt ((y.atom "write_option").func "domain_error" 2) σ' → X (domBall y (sh R tree []).1.toV) σ'
structure ChC (y : Sy) (H : List Cl) (R : Int → T) (ties : List T) (oc : Cl) (tree : T) (Lo : List Nat) (rs : List Int) (σ : List AO) : Prop where
  rt : RT ties R
  hy : SyAt y σ
  z1 : y.texts.length < 9000
  z2 : y.fs.length < 9000
  h20 : 20 ≤ σ.length
  ha : σ[11]? = some (.inst 597 areasFs)
  st : StAt H σ
  hn : σ[8]? = some (.dI (numL rs 0))
  ocd : Der H oc oc
  orep : Rep H R oc tree Lo
  ook : tree.ok y
  ond : Lo.Nodup
  oz : 3 * tree.sz ≤ 3900
section
variable {y : Sy} {H : List Cl} {R : Int → T} {ties : List T} {oc vc tl c1 : Cl} {tree : T} {Lo : List Nat} {rs : List Int} {kept : List (Int × V)} {i d : Nat} {on o1 o2 o3 : Option V} {Qx : AF → Loc → List AO → Prop}
theorem ch_dom (P : PF B) (x : XP B) (C : ChC y H R ties oc tree Lo rs σ) {p1 p2 p3 p4 p5 p6 p7 p8 ap : Pos} {kk : Nat} (hl : (ap.endLine == p7.line) = true) (w : WrongX y R tree X σ) :
    EX B (n + 5) X chG (chL oc vc tl i on o1 o2 o3) σ (.Raise (some (.Call (.Name "domain_error" p1) [.Name "symbols" p2, .Constant (.str "write_option") kk p3, .Call (.Attribute (.Name "m" p4) "take" ap) [.Name "option" p6] [] p7] [] p8)) none p5) Qx :=
  EX_dom (n := n) P x C.rt (mI 1 rfl) (mI 5 rfl) (mI 0 rfl) (mI 1 rfl) hl C.hy C.z1 C.z2 C.h20 C.ha C.st C.ocd C.orep C.ook C.ond C.oz w
theorem ch_unb (P : PF B) (C : ChC y H R ties oc tree Lo rs σ) {c : Cl} {z : Str} {p q1 ap pos : Pos} {Q : Bool → List AO → Prop} (hm : (z, some (cellV c)) ∈ chL oc vc tl i on o1 o2 o3) (hd : Der H c c) (hl : (ap.endLine == pos.line) = true) (h : Q (c.1 == 0) σ) :
    TE B (n + 5) X chG (chL oc vc tl i on o1 o2 o3) σ (.Call (.Attribute (.Name "store" p) "is_unbound" ap) [.Name z q1] [] pos) Q :=
  TE_val (EV_sm P (mI 4 rfl) C.st P.m_Store_is_unbound (by decide) rfl (show 1 < 20 by decide) hl (EV_name (v := cellV c) hm (CA.op (CA_is_unbound P C.st hd ⟨_, rfl, h⟩))))
theorem ch_odd (P : PF B) (x : XP B) (C : ChC y H R ties oc tree Lo rs σ) (dc : Der H c1 c1) (n0 : c1.1 ≠ 0) (n2 : c1.1 ≠ 2) (w : WrongX y R tree X σ) : EXs B (n + 5) X chG (chL oc vc tl i on (some (cellV c1)) o2 o3) σ chB Qx := by
  obtain ⟨tS, gS⟩ := P.i_STR
  refine EXs_cons (EX_if (ch_unb P C (mI 9 rfl) dc rfl ⟨fun q => absurd (eq_of_beq q) n0, fun z_ => EXs_nil ⟨fun z_ => ?_, fun q => absurd rfl q⟩⟩))
  refine EXs_cons (EX_if (TE_or (TE_cmp (EV_fst (mI 9 rfl) (EV_gint (mI 4 rfl) gS (OP_neI ⟨_, rfl, fun z_ => ⟨fun z_ => EXs_last (ch_dom P x C rfl w), fun q => by cases q⟩, fun q => absurd q (by simpa using n2)⟩))))))
theorem ch_var (P : PF B) (x : XP B) (C : ChC y H R ties oc tree Lo rs σ) {k : Int} (hk : 0 ≤ k ∧ k < 5) (ec : c1 = cellOf (R k)) (dc : Der H c1 c1) (l : flawE y R (.v k) = "lacks" → LacksX y X σ) (w : flawE y R (.v k) = "wrong" → WrongX y R tree X σ) :
    EXs B (n + 5) X chG (chL oc vc tl i on (some (cellV c1)) o2 o3) σ chB Qx := by
  rcases C.rt.good3 hk with ⟨j, hj⟩ | ⟨j, hj⟩
  · rw [hj] at ec
    refine EXs_cons (EX_if (ch_unb P C (mI 9 rfl) dc rfl ⟨fun z_ => ?_, fun q => by rw [ec] at q; cases q⟩))
    exact EXs_last (EX_inst (n := n + 1) P x (mI 0 rfl) (mI 5 rfl) C.hy C.z1 (l (flv hj)))
  · rw [hj] at ec
    exact ch_odd P x C dc (by rw [ec]; exact (by decide : (5 : Int) ≠ 0)) (by rw [ec]; exact (by decide : (5 : Int) ≠ 2)) (w (fli hj))
set_option tactic.hygienic true in
theorem ch_put (P : PF B) (C : ChC y H R ties oc tree Lo rs σ) (hd : σ[d]? = some (.dI kept)) (zk : kept.length ≤ 1000) {k : Int} {r : T} (k0 : 0 ≤ k) (k1 : k.toNat < y.texts.length) (hr : RightOk r) (fin : ∀ o2 o3, Qx .nxt (chL oc vc tl i (some (V.ref d)) (some (cellV c1)) o2 o3) (σ.set d (.dI (chStep y R rs kept (.s2 10 (.a k) r))))) :
    EXs B (n + 5) X chG (chL oc vc tl i (some (V.ref d)) (some (cellV c1)) (some (cellV (.a k |> cellOf))) (some (cellV (cellOf (endT R r))))) σ (chB.drop 6) Qx := by
  obtain ⟨tR, gR⟩ := P.i_REF
  have hk : y.texts[k.toNat]? = some (y.tx k) := by unfold Sy.tx; rw [List.getElem?_eq_getElem k1]; rfl
  have same : ∀ e, chStep y R rs kept e = kept → σ.set d (.dI (chStep y R rs kept e)) = σ := fun e h => by rw [h]; exact set_same hd
  rcases hr.t2 C.rt with ⟨root, er⟩ | ⟨er, nr⟩
  · have ech : chStep y R rs kept (.s2 10 (.a k) r) = if root ∈ rs then (if (at? kept ((rs.idxOf root : Nat) : Int)).isSome then kept else put kept ((rs.idxOf root : Nat) : Int) (.str (y.tx k))) else kept := by simp only [chStep, rightT, er, lnum]
    have dn := numL_at (t := root) (l := rs) (k := 0)
    rw [er]
    refine EXs_last (EX_if (TE_and (TE_cmp (EV_fst (mI 11 rfl) (EV_gint (mI 6 rfl) gR (OP_eqI ⟨_, rfl, fun z_ => ?_, fun q => by cases q⟩))))))
    refine TE_cmp (EV_snd (mI 11 rfl) (EV_name (v := .ref 8) (mI 3 rfl) (OP_inI C.hn ⟨_, rfl, fun q => ⟨fun z_ => ?_, fun q => by cases q⟩, fun q => ⟨(fun q => by cases q), fun z_ => EXs_nil ?_⟩⟩)))
    · by_cases hm : root ∈ rs
      · rw [if_pos hm] at ech dn
        rw [Nat.zero_add] at dn
        refine EXs_last (EX_if (TE_cmp (EV_sub (EV_name (v := .ref 8) (mI 3 rfl) (EV_snd (mI 11 rfl) (SUB_dI C.hn dn (EV_name (v := .ref d) (mI 8 rfl) (OP_ninI hd ⟨_, rfl, fun q => ?_, fun q => EXs_nil ?_⟩))))))))
        · rw [if_neg (by simpa using q)] at ech
          refine EXs_last (EX_setitem (EV_ym P (mI 5 rfl) C.hy P.m_Symbols_text (by decide) rfl (by decide) rfl (EV_snd (mI 10 rfl) (CA.op (CA_textI P C.hy k0 hk (EV_name (v := .ref d) (mI 8 rfl) (EV_sub (EV_name (v := .ref 8) (mI 3 rfl) (EV_snd (mI 11 rfl) (SUB_dI C.hn dn (OP_setI hd (by omega) ?_)))))))))))
          rw [← ech]
          exact fin _ _
        · have f := fin (some (cellV (.a k |> cellOf))) (some (cellV (cellOf (.v root))))
          rw [same _ (ech.trans (if_pos (by simpa using q)))] at f
          exact f
      · rw [if_neg hm] at dn
        exact absurd q (by show ¬ (at? (numL rs 0) root).isSome = true; rw [dn]; exact nofun)
    · have hm : root ∉ rs := fun hm => by
        rw [if_pos hm] at dn
        exact absurd q (by show ¬ (at? (numL rs 0) root).isSome = false; rw [dn]; exact nofun)
      have f := fin (some (cellV (.a k |> cellOf))) (some (cellV (cellOf (.v root))))
      rw [same _ (ech.trans (if_neg hm))] at f
      exact f
  · have ech : chStep y R rs kept (.s2 10 (.a k) r) = kept := by
      unfold chStep
      split
      · rename_i root h; exact absurd h (er root)
      · rfl
    have f := fin (some (cellV (.a k |> cellOf))) (some (cellV (cellOf (endT R r))))
    rw [same _ ech] at f
    exact EXs_last (EX_if (TE_and (TE_cmp (EV_fst (mI 11 rfl) (EV_gint (mI 6 rfl) gR (OP_eqI ⟨_, rfl, fun q => absurd (eq_of_beq q) nr, fun z_ => ⟨fun q => (by cases q), fun z_ => EXs_nil f⟩⟩))))))
theorem ch_s2 (P : PF B) (x : XP B) (C : ChC y H R ties oc tree Lo rs σ) (hd : σ[d]? = some (.dI kept)) (zk : kept.length ≤ 1000) {p : Nat} {f : Int} {l r : T} {dl dr : Cl} (hH : H[p]? = some (6, f)) (q1 : H[p + 1]? = some dl) (q2 : H[p + 1 + 1]? = some dr) (ddl : Der H dl (cellOf (endT R l))) (ddr : Der H dr (cellOf (endT R r)))
    (dc : Der H (2, (p : Int)) (2, (p : Int))) (hl : LeafOk y l) (hr : RightOk r) (lk : flawE y R (.s2 f l r) = "lacks" → LacksX y X σ) (w : flawE y R (.s2 f l r) = "wrong" → WrongX y R tree X σ)
    (fin : flawE y R (.s2 f l r) = "" → ∀ o2 o3, Qx .nxt (chL oc vc tl i (some (V.ref d)) (some (cellV (2, (p : Int)))) o2 o3) (σ.set d (.dI (chStep y R rs kept (.s2 f l r))))) :
    EXs B (n + 5) X chG (chL oc vc tl i (some (V.ref d)) (some (cellV (2, (p : Int)))) o2 o3) σ chB Qx := by
  obtain ⟨tS, gS⟩ := P.i_STR
  obtain ⟨tC, gC⟩ := P.i_CON
  obtain ⟨tE, gE⟩ := P.i_F_EQUAL
  refine EXs_cons (EX_if (ch_unb P C (mI 9 rfl) dc rfl ⟨fun q => (by cases q), fun z_ => EXs_nil ⟨fun z_ => ?_, fun q => absurd rfl q⟩⟩))
  refine EXs_cons (EX_if (TE_or (TE_cmp (EV_fst (mI 9 rfl) (EV_gint (mI 4 rfl) gS (OP_neI ⟨_, rfl, fun q => (by cases q), fun z_ => ?_⟩))))))
  refine TE_cmp (EV_sm P (mI 4 rfl) C.st P.m_Store_functor_of (by decide) rfl (by decide) rfl (EV_name (v := cellV (2, (p : Int))) (mI 9 rfl) (CA.op (CA_functor_of2 P C.st (by lia -abstractProof) hH (EV_gint (mI 5 rfl) gE (OP_neI ⟨_, rfl, fun q => ⟨fun z_ => EXs_last (ch_dom P x C rfl (w (fl_f (by simpa using q)))), fun q => by cases q⟩, fun q => ⟨fun q => (by cases q), fun z_ => EXs_nil ⟨fun z_ => ?_, fun q => absurd rfl q⟩⟩⟩))))))
  have hf10 : f = 10 := by simpa using q
  rw [hf10] at lk w fin
  have e1 : (((p : Int) + 1).toNat) = p + 1 := rfl
  refine EXs_next (EX_assign (EV_sm P (mI 4 rfl) C.st P.m_Store_deref (by decide) rfl (by decide) rfl (EV_sm P (mI 4 rfl) C.st P.m_Store_arg (by decide) rfl (by decide) rfl (EV_name (v := cellV (2, (p : Int))) (mI 9 rfl) (EV_int (CA.op (CA_arg P C.st (by lia -abstractProof) q1 (CA.op (CA_deref P C.st ddl ⟨_, (uI 10 rfl), rfl, ?_⟩)))))))))
  refine EXs_next (EX_assign (EV_sm P (mI 4 rfl) C.st P.m_Store_deref (by decide) rfl (by decide) rfl (EV_sm P (mI 4 rfl) C.st P.m_Store_arg (by decide) rfl (by decide) rfl (EV_name (v := cellV (2, (p : Int))) (mI 9 rfl) (EV_int (CA.op (CA_arg P C.st (by lia -abstractProof) q2 (CA.op (CA_deref P C.st ddr ⟨_, (uI 11 rfl), rfl, ?_⟩)))))))))
  show EXs B (n + 5) X chG (chL oc vc tl i (some (V.ref d)) (some (cellV (2, (p : Int)))) (some (cellV (cellOf (endT R l)))) (some (cellV (cellOf (endT R r))))) σ _ Qx
  refine EXs_cons (EX_if (ch_unb P C (mI 10 rfl) ddl.done rfl ⟨fun q => EXs_last (EX_inst (n := n + 1) P x (mI 0 rfl) (mI 5 rfl) C.hy C.z1 (lk (fl_lacks C.rt hl q))), fun q => EXs_nil ⟨fun z_ => ?_, fun q => absurd rfl q⟩⟩))
  by_cases hcon : (cellOf (endT R l)).1 = 4
  · refine shut fun P_ o_ => ?_
    obtain ⟨k, rfl⟩ := fl_atom C.rt hl hcon
    refine o_ ?_
    have hk : y.texts[k.toNat]? = some (y.tx k) := by unfold Sy.tx; rw [List.getElem?_eq_getElem hl.2]; rfl
    refine EXs_cons (EX_if (TE_or (TE_cmp (EV_fst (mI 10 rfl) (EV_gint (mI 2 rfl) gC (OP_neI ⟨_, rfl, fun q => (by cases q), fun z_ => ?_⟩))))))
    refine TE_not (TE_val (EV_call (mI 7 rfl) P.g_is_variable_name P.k_is_variable_name rfl (EV_ym P (mI 5 rfl) C.hy P.m_Symbols_text (by decide) rfl (by decide) rfl (EV_snd (mI 10 rfl) (CA.op (CA_textI P C.hy hl.1 hk (CA.op (CA_is_variable_name (n := n + 2) P ⟨_, rfl, fun q => ⟨fun z_ => ?_, fun q => by cases q⟩, fun q => ⟨fun q => (by cases q), fun z_ => EXs_nil ⟨fun z_ => ?_, fun q => absurd rfl q⟩⟩⟩))))))))
    · exact EXs_last (ch_dom P x C rfl (w (by rw [fl_a, if_neg (by simpa using q)])))
    · exact ch_put P C hd zk hl.1 hl.2 hr (fin (by rw [fl_a, if_pos (by simpa using q)]))
  · exact EXs_cons (EX_if (TE_or (TE_cmp (EV_fst (mI 10 rfl) (EV_gint (mI 2 rfl) gC (OP_neI ⟨_, rfl, fun z_ => ⟨fun z_ => EXs_last (ch_dom P x C rfl (w (fl_wrong C.rt hl q hcon))), fun q => by cases q⟩, fun q => absurd (by simpa using q) hcon⟩))))))
end
theorem Rep.s2_inv {H : List Cl} {R : Int → T} {c : Cl} {f : Int} {l r : T} {L : List Nat} (h : Rep H R c (.s2 f l r) L) (f0 : f ≠ 0) : ∃ (p : Nat) (dl dr : Cl) (L1 L2 : List Nat), c = (2, (p : Int)) ∧ H[p]? = some (6, f) ∧ H[p + 1]? = some dl ∧ H[p + 1 + 1]? = some dr ∧ Rep H R dl l L1 ∧ Rep H R dr r L2 := by
  cases h with
  | @s2 _ _ _ p dl dr L1 L2 hH q1 q2 rl rr =>
    have eB : blkB f p = p + 1 := by unfold blkB; rw [if_neg f0]
    rw [eB] at q1 q2
    exact ⟨p, dl, dr, L1, L2, by unfold blkC; rw [if_neg f0], hH.resolve_left f0, q1, q2, rl, rr⟩
theorem ch_turn (P : PF B) (x : XP B) {y : Sy} {H : List Cl} {R : Int → T} {ties : List T} {oc vc tl c1 : Cl} {tree x1 : T} {Lo : List Nat} {rs : List Int} {kept : List (Int × V)} {i d : Nat} {o2 o3 : Option V} {Qx : AF → Loc → List AO → Prop} (C : ChC y H R ties oc tree Lo rs σ) (hd : σ[d]? = some (.dI kept)) (zk : kept.length ≤ 1000)
    (ir : IR H R c1 x1) (eok : EntOk y x1) (lk : flawE y R x1 = "lacks" → LacksX y X σ) (w : flawE y R x1 = "wrong" → WrongX y R tree X σ)
    (fin : flawE y R x1 = "" → ∀ o2 o3, Qx .nxt (chL oc vc tl i (some (V.ref d)) (some (cellV c1)) o2 o3) (σ.set d (.dI (chStep y R rs kept x1)))) :
    EXs B (n + 5) X chG (chL oc vc tl i (some (V.ref d)) (some (cellV c1)) o2 o3) σ chB Qx := by
  obtain ⟨⟨L, rep⟩, dc, hv⟩ := ir
  match x1, eok with
  | .v k, h => exact ch_var P x C h (hv k rfl) dc lk w
  | .a k, _ => cases rep; exact ch_odd P x C dc (by decide : (4 : Int) ≠ 0) (by decide : (4 : Int) ≠ 2) (w rfl)
  | .s2 f l r, ⟨hf, hl, hr⟩ =>
    obtain ⟨p, dl, dr, L1, L2, rfl, hH, q1, q2, rl, rr⟩ := rep.s2_inv (by rcases hf with rfl | rfl <;> decide)
    exact ch_s2 P x C hd zk hH q1 q2 (rl.leafDer hl.dep) (rr.leafDer hr.dep) dc hl hr lk w fin
inductive ChI (y : Sy) (R : Int → T) (rs : List Int) (es : List T) (its : List Cl) (oc vc tl : Cl) (σ : List AO) (d j : Nat) (m : Loc) (σ' : List AO) : Prop
  | mk (o1 o2 o3 : Option V) (e : m = chL oc vc tl σ.length (some (V.ref d)) o1 o2 o3) (k : Kp [] σ σ') (hf : σ'[σ.length]? = some (.list (its.map cellV))) (hd : σ'[d]? = some (.dI ((es.take j).foldl (chStep y R rs) []))) (hz : ∀ z, z ∈ es.take j → flawE y R z = "") (hl : ((es.take j).foldl (chStep y R rs) []).length ≤ j)
theorem ChI.hf {y : Sy} {R : Int → T} {rs : List Int} {es : List T} {its : List Cl} {oc vc tl : Cl} {d j : Nat} {m : Loc} {σ' : List AO} : ChI y R rs es its oc vc tl σ d j m σ' → σ'[σ.length]? = some (.list (its.map cellV))
  | ⟨_, _, _, _, _, h, _, _, _⟩ => h
theorem ChI.next {y : Sy} {R : Int → T} {rs : List Int} {es : List T} {its : List Cl} {oc vc tl : Cl} {d j : Nat} {m : Loc} {σ' : List AO} (I : ChI y R rs es its oc vc tl σ d j m σ') (dn : d ≠ σ.length) (dl : σ.length ≤ d) {x1 : T} (hx : es[j]? = some x1) (hfl : flawE y R x1 = "") (o1 o2 o3 : Option V) :
    ChI y R rs es its oc vc tl σ d (j + 1) (chL oc vc tl σ.length (some (V.ref d)) o1 o2 o3) (σ'.set d (.dI (chStep y R rs ((es.take j).foldl (chStep y R rs) []) x1))) := by
  obtain ⟨_, _, _, -, k, hf, hd, hz, hl⟩ := I
  have e : (es.take (j + 1)).foldl (chStep y R rs) [] = chStep y R rs ((es.take j).foldl (chStep y R rs) []) x1 := by rw [List.take_add_one, hx, List.foldl_append]; rfl
  refine ⟨o1, o2, o3, rfl, k.setN dl, by rw [List.getElem?_set_ne dn]; exact hf, by rw [e]; exact set_get hd, fun z hzz => ?_, by rw [e]; exact Nat.le_trans (chStep_len ..) (Nat.succ_le_succ hl)⟩
  rw [List.take_add_one, hx] at hzz
  rcases List.mem_append.mp hzz with q | q
  · exact hz z q
  · rw [List.mem_singleton.mp q]; exact hfl
theorem CA_chosen (P : PF B) (x : XP B) {y : Sy} {H : List Cl} {R : Int → T} {ties : List T} (rt : RT ties R) {e tree : T} {es : List T} {oc : Cl} {Lo : List Nat} {vc c tl : Cl} {its : List Cl} {ads : List Int} {rs : List Int}
    (hy : SyAt y σ) (yo : YOk y) (z1 : y.texts.length < 9000) (z2 : y.fs.length < 9000) (h20 : 20 ≤ σ.length) (ha : σ[11]? = some (.inst 597 areasFs)) (st : StAt H σ) (hnum : σ[8]? = some (.dI (numL rs 0)))
    (ocd : Der H oc oc) (orep : Rep H R oc tree Lo) (ook : tree.ok y) (ond : Lo.Nodup) (oz : 3 * tree.sz ≤ 3900)
    (vd : Der H vc c) (lc : LC H c its tl ads) (hlen : its.length = es.length) (zes : es.length ≤ 900) (hes : ∀ x, x ∈ es → EntOk y x) (hend : EndOk e) (hit : ∀ (j : Nat) (d : Cl) (x : T), its[j]? = some d → es[j]? = some x → IR H R d x) (htl : tl = cellOf (endT R e)) (htd : Der H tl tl)
    (h0 : dueFl y R e es = [] → ∀ σ' d, Kp [] σ σ' → σ.length ≤ d → σ'[d]? = some (.dI (chosenL y R rs es)) → Q (.ref d) σ')
    (h1 : ∀ t, dueFl y R e es = ("lacks" : Str) :: t → ∀ σ', Kp [3, 4, 5, 6] σ σ' → SyAt (dueInst y) σ' → X (vSys (fInst y)) σ')
    (h2 : ∀ t, dueFl y R e es = ("wrong" : Str) :: t → ∀ σ', Kp [3, 4, 5, 6] σ σ' → SyAt ((y.atom "write_option").func "domain_error" 2) σ' → X (domBall y (sh R tree []).1.toV) σ') :
    CA B (n + 6) X (.ref 439) [.ref 11, cellV oc, cellV vc, .ref 8] σ Q := by
  rw [htl] at lc htd
  clear htl
  obtain ⟨tC, gC⟩ := P.i_CON
  obtain ⟨tN, gN⟩ := P.i_A_NIL
  refine CA_fn (others := ["store", "symbols", "items", "tail", "names", "item", "name", "target"]) (G := chG) thruAll P.f_chosen_names (by decide +kernel) rfl ?_
  refine EXs_next (EX_assign (EV_store P (mI 0 rfl) ha ⟨_, (uI 4 rfl), rfl, ?_⟩))
  refine EXs_next (EX_assign (EV_asym P (mI 0 rfl) ha ⟨_, (uI 5 rfl), rfl, ?_⟩))
  refine EXs_next (EX_assign2 (EV_sm P (mI 4 rfl) st P.m_Store_list_cells (by decide) rfl (by decide) rfl (EV_name (v := cellV vc) (mI 2 rfl) (CA.op (CA_list_cells (n := n + 3) P st vd lc (by lia -abstractProof) fun σ₁ k₁ hf₁ => ⟨.ref σ.length, cellV _, rfl, _, _, (uI 6 rfl), (uI 7 rfl), rfl, ?_⟩)))))
  show EXs B (n + 5) X chG (chL oc vc (cellOf (endT R e)) σ.length none none none none) σ₁ _ _
  have C₁ : ChC y H R ties oc tree Lo rs σ₁ := ⟨rt, hy.kp k₁ (by decide), z1, z2, Nat.le_trans h20 k₁.1, k₁.get ha (by decide), st.kp k₁ (by decide), k₁.get hnum List.not_mem_nil, ocd, orep, ook, ond, oz⟩
  have lk : ∀ {t σ'}, dueFl y R e es = ("lacks" : Str) :: t → Kp [] σ σ' → LacksX y X σ' := fun ht k σ'' k' s => h1 _ ht σ'' ((k.mono (by decide)).trans k') s
  have wr : ∀ {t σ'}, dueFl y R e es = ("wrong" : Str) :: t → Kp [] σ σ' → WrongX y R tree X σ' := fun ht k σ'' k' s => h2 _ ht σ'' ((k.mono (by decide)).trans k') s
  clear h1 h2
  refine EXs_cons (EX_if (ch_unb P C₁ (mI 7 rfl) htd rfl ⟨fun q => ?_, fun q0 => EXs_nil ⟨fun z_ => ?_, fun q => absurd rfl q⟩⟩))
  · have ee := tail_lacks rt hend q
    refine shut fun P_ o_ => ?_
    obtain ⟨t, ht⟩ := dueFl_end (y := y) (R := R) (e := e) (es := es) (by rw [ee]; exact ne_lacks)
    refine o_ ?_
    rw [ee] at ht
    exact EXs_last (EX_inst (n := n + 1) P x (mI 0 rfl) (mI 5 rfl) C₁.hy z1 (lk ht k₁))
  refine EXs_cons (EX_if (TE_cmp (EV_name (v := cellV (cellOf (endT R e))) (mI 7 rfl) (EV_tuple rfl (by decide) (EV_gint (mI 2 rfl) gC (EV_gint (mI 3 rfl) gN (OP_neC (d := (4, 0)) ⟨_, rfl, fun q => ?_, fun q => EXs_nil ⟨fun z_ => ?_, fun q => absurd rfl q⟩⟩)))))))
  · have ee := tail_wrong rt hend q0 (by simpa using q)
    refine shut fun P_ o_ => ?_
    obtain ⟨t, ht⟩ := dueFl_end (y := y) (R := R) (e := e) (es := es) (by rw [ee]; exact ne_wrong)
    refine o_ ?_
    rw [ee] at ht
    exact EXs_last (ch_dom P x C₁ rfl (wr ht k₁))
  have ee := tail_nil rt hend (by simpa using q)
  clear q q0
  refine EXs_next (EX_assign (EV_dI ⟨_, (uI 8 rfl), rfl, ?_⟩))
  show EXs B (n + 5) X chG (chL oc vc (cellOf (endT R e)) σ.length (some (V.ref σ₁.length)) none none none) _ _ _
  have hdl : σ.length < σ₁.length := idx_lt hf₁
  refine EXs_next (EX_for thruAll (ChI y R rs es its oc vc (cellOf (endT R e)) σ σ₁.length) ?_)
  refine IE_of (EV_name (v := .ref σ.length) (mI 6 rfl) ⟨_, _, ITER_list ((Kp.app (D := []) (t := [AO.dI []])).get hf₁ List.not_mem_nil), ⟨none, none, none, rfl, k₁.trans .app, (Kp.app (D := []) (t := [AO.dI []])).get hf₁ List.not_mem_nil, get_app, nofun, Nat.le_refl 0⟩, fun z_ z_ z_ z_ I => I.hf, ?_, ?_⟩)
  · intro j m' σ' v hv I
    rw [List.getElem?_map] at hv
    refine shut fun P_ o_ => ?_
    obtain ⟨c1, hc1, hvc⟩ := Option.map_eq_some_iff.mp hv
    have hj : j < es.length := by rw [← hlen]; exact (List.getElem?_eq_some_iff.mp hc1).1
    obtain ⟨o1, o2, o3, e1, kp, -, hd', hz, hzl⟩ := id I
    refine o_ ?_
    have hx1 := List.getElem?_eq_getElem hj
    rw [← hvc, e1]
    refine ASG_name ⟨_, (uI 9 rfl), ?_⟩
    have C' : ChC y H R ties oc tree Lo rs σ' := ⟨rt, hy.kp kp (by decide), z1, z2, Nat.le_trans h20 kp.1, kp.get ha (by decide), st.kp kp (by decide), kp.get hnum List.not_mem_nil, ocd, orep, ook, ond, oz⟩
    have at_ : ∀ {f : Str}, f ≠ "" → flawE y R es[j] = f → ∃ t, dueFl y R e es = f :: t := fun h q => q ▸ dueFl_at ee hz hx1 (q ▸ h)
    exact ch_turn P x C' hd' (by omega) (hit j c1 _ hc1 hx1) (hes _ (List.getElem_mem hj)) (fun q => let ⟨_, ht⟩ := at_ ne_lacks q; lk ht kp) (fun q => let ⟨_, ht⟩ := at_ ne_wrong q; wr ht kp) fun q o2 o3 => I.next (Nat.ne_of_gt hdl) (Nat.le_of_lt hdl) hx1 q _ o2 o3
  · intro m' σ' I
    refine shut fun P_ o_ => ?_
    obtain ⟨o1, o2, o3, e1, kp, -, hd', hz, -⟩ := I
    refine o_ ?_
    rw [List.length_map, hlen, List.take_length] at hd' hz
    rw [e1]
    exact ⟨rfl, EXs_last (EX_ret (EV_name (v := .ref σ₁.length) (mI 8 rfl) (h0 (dueFl_none ee hz) σ' _ kp (Nat.le_of_lt hdl) hd')))⟩
end
theorem IR.of {H : List Cl} {R : Int → T} {y : Sy} {d : Cl} {x : T} {L : List Nat} (h : Rep H R d x L) (he : EntOk y x) : ∃ x', Der H d x' ∧ IR H R x' x := by
  cases h with
  | @v k _ dd => exact ⟨_, dd, ⟨_, .v dd.done⟩, dd.done, fun k' e => by injection e with e; rw [e]⟩
  | a => exact ⟨_, .val (by decide) (by decide), ⟨_, .a⟩, .val (by decide) (by decide), fun k e => by cases e⟩
  | i => exact he.elim
  | s1 => exact he.elim
  | @s2 f x z p c d L M hf h1 h2 r r' =>
    have dd : Der H (blkC f p) (blkC f p) := by
      unfold blkC; by_cases q : f = 0 <;> simp [q]
      · exact .val (by decide) (by decide)
      · exact .val (by decide) (by decide)
    exact ⟨_, dd, ⟨_, .s2 hf h1 h2 r r'⟩, dd, fun k e => by cases e⟩
theorem rep_lc {H : List Cl} {R : Int → T} {ties : List T} (rt : RT ties R) {y : Sy} {e : T} (he : EndOk e) : ∀ (es : List T) (c : Cl) (L : List Nat), Rep H R c (listT es e) L → L.Nodup → (∀ x, x ∈ es → EntOk y x) →
    ∃ c' its tl ads, Der H c c' ∧ LC H c' its tl ads ∧ its.length = es.length ∧ (∀ (j : Nat) (d : Cl) (x : T), its[j]? = some d → es[j]? = some x → IR H R d x) ∧ tl = cellOf (endT R e) ∧ Der H tl tl ∧ ∀ a, a ∈ ads → ∃ p : Nat, a = (p : Int) ∧ p ∈ L
  | [], c, L, h, nd, _ => by
    have hd : e.dep = 0 := by cases e <;> first | rfl | exact he.elim
    have d := h.leafDer (t := e) hd
    have h3 : (cellOf (endT R e)).1 ≠ 3 := by
      cases e with
      | v k => exact (cellOf_leaf rt he.1 he.2).2
      | a k => simp [endT, cellOf]
      | i k => simp [endT, cellOf]
      | s1 f x => exact he.elim
      | s2 f x z => exact he.elim
    exact ⟨_, [], _, [], d, .nil h3, rfl, by simp, rfl, d.done, by simp⟩
  | x :: es, c, L, h, nd, hes => by
    cases h with
    | @s2 _ _ _ p d d2 L1 L2 hf h1 h2 r r' =>
      rw [List.nodup_cons, List.nodup_append] at nd
      refine shut fun P_ o_ => ?_
      obtain ⟨np, nd1, nd2, ndd⟩ := nd
      obtain ⟨c2, its, tl, ads, dc, lc, hl, hi, ht, htd, ha⟩ := rep_lc rt he es d2 L2 r' nd2 (fun z hz => hes z (List.mem_cons_of_mem _ hz))
      obtain ⟨x', dx, ir⟩ := IR.of r (hes x (by simp))
      refine o_ ?_
      refine ⟨(3, (p : Int)), x' :: its, tl, (p : Int) :: ads, .val (by decide) (by decide), .cons (by lia -abstractProof) (by simp only [Int.toNat_natCast]; exact h1) dx (by rw [show ((p : Int) + 1).toNat = p + 1 by lia -abstractProof]; exact h2) dc lc ?_, by simp [hl], ?_, ht, htd, ?_⟩
      · intro q
        refine shut fun P_ o_ => ?_
        obtain ⟨p', e, hp'⟩ := ha _ q
        refine o_ ?_
        have : p' = p := by lia -abstractProof
        exact np (List.mem_append_right _ (this ▸ hp'))
      · intro j d' x1 hd' hx1
        cases j with
        | zero => cases hd'; cases hx1; exact ir
        | succ j => exact hi j d' x1 hd' hx1
      · intro a hq
        rcases List.mem_cons.mp hq with q | q
        · exact ⟨p, q, by simp⟩
        · refine shut fun P_ o_ => ?_
          obtain ⟨p', e, hp'⟩ := ha a q
          refine o_ ?_
          exact ⟨p', e, by simp [hp']⟩
noncomputable def blks : List (Int × Cl) → List Cl
  | [] => []
  | (a, c) :: r => (6, 10) :: (4, a) :: c :: blks r
theorem blks_len : ∀ l, (blks l).length = 3 * l.length := by
  intro l_
  induction l_ with
  | nil =>
    exact rfl
  | cons u_ r ih =>
    obtain ⟨a, c⟩ := u_
    simp [blks, ih]; lia -abstractProof
theorem blks_app : ∀ (l : List (Int × Cl)) (a : Int) (c : Cl), blks (l ++ [(a, c)]) = blks l ++ [(6, 10), (4, a), c] := by
  intro l_
  induction l_ with
  | nil =>
    intro _ _
    exact rfl
  | cons u_ r ih =>
    intro a c
    obtain ⟨b, d⟩ := u_
    show _ :: _ :: _ :: blks (r ++ [(a, c)]) = _
    rw [ih a c]; rfl
theorem blks_at (l : List (Int × Cl)) (i : Nat) (a : Int) (c : Cl) (h : l[i]? = some (a, c)) : (blks l)[3 * i]? = some (6, 10) ∧ (blks l)[3 * i + 1]? = some (4, a) ∧ (blks l)[3 * i + 2]? = some c := by
  induction l generalizing i with
  | nil => simp at h
  | cons u r ih =>
    cases i with
    | zero => rw [Option.some.inj h]; exact ⟨rfl, rfl, rfl⟩
    | succ i =>
      rw [show 3 * (i + 1) = 3 * i + 1 + 1 + 1 by lia -abstractProof]
      exact ih i h
noncomputable def La (h : Nat) : List Nat → List Nat
  | [] => []
  | p :: r => h :: ([p] ++ La (h + 2) r)
theorem La_mem : ∀ (ps : List Nat) (h a : Nat), a ∈ La h ps → h ≤ a ∨ a ∈ ps := by
  intro l_
  induction l_ with
  | nil =>
    intro h a q
    simp [La] at q
  | cons p r ih =>
    intro h a q
    simp only [La, List.cons_append, List.nil_append, List.mem_cons] at q
    rcases q with q | q | q
    · exact .inl (by lia -abstractProof)
    · exact .inr (by simp [q])
    · rcases ih (h + 2) a q with q | q
      · exact .inl (by lia -abstractProof)
      · exact .inr (by simp [q])
theorem La_nd : ∀ (ps : List Nat) (h : Nat), ps.Nodup → (∀ p, p ∈ ps → p < h) → (La h ps).Nodup := by
  intro l_
  induction l_ with
  | nil =>
    intro h _ _
    exact List.nodup_nil
  | cons p r ih =>
    intro h nd lt
    rw [List.nodup_cons] at nd
    have hp := lt p (by simp)
    simp only [La, List.cons_append, List.nil_append]
    rw [List.nodup_cons, List.nodup_cons]
    refine ⟨fun q => ?_, fun q => ?_, ih (h + 2) nd.2 fun a ha => by have := lt a (by simp [ha]); lia -abstractProof⟩
    · rcases List.mem_cons.mp q with q | q
      · lia -abstractProof
      · rcases La_mem r (h + 2) h q with q | q
        · lia -abstractProof
        · have := lt h (by simp [q]); lia -abstractProof
    · rcases La_mem r (h + 2) p q with q | q
      · lia -abstractProof
      · exact nd.1 q
theorem lst_rep {H : List Cl} {R : Int → T} : ∀ (vs : List Cl) (es : List T) (ps : List Nat) (h : Nat), vs ≠ [] → vs.length = es.length → vs.length = ps.length → (∀ i, i < 2 * vs.length → H[h + i]? = (lst h vs)[i]?) →
    (∀ (i : Nat) (v : Cl) (e : T) (p : Nat), vs[i]? = some v → es[i]? = some e → ps[i]? = some p → Rep H R v e [p]) → Rep H R (3, (h : Int)) (listT es (.a 0)) (La h ps)
  | [], es, ps, h, q, _, _, _, _ => absurd rfl q
  | [v], es, ps, h, _, h1, h2, ag, rep => by
    cases es with
    | nil => simp at h1
    | cons e es =>
      cases es with
      | cons => simp at h1
      | nil =>
        cases ps with
        | nil => simp at h2
        | cons p ps =>
          cases ps with
          | cons => simp at h2
          | nil =>
            have a0 := ag 0 (by simp)
            have a1 := ag 1 (by simp)
            exact Rep.s2 (f := 0) (p := h) (.inl rfl) a0 a1 (rep 0 v e p rfl rfl rfl) .a
  | v :: w :: r, es, ps, h, _, h1, h2, ag, rep => by
    cases es with
    | nil => simp at h1
    | cons e es =>
      cases ps with
      | nil => simp at h2
      | cons p ps =>
        have a0 := ag 0 (by simp)
        have a1 := ag 1 (by simp; lia -abstractProof)
        have := lst_rep (w :: r) es ps (h + 2) (by simp) (by simpa using h1) (by simpa using h2) (fun i hi => by
          have := ag (i + 1 + 1) (by simp at hi ⊢; lia -abstractProof)
          rw [show h + 2 + i = h + (i + 1 + 1) by lia -abstractProof]; exact this) (fun i v' e' p' hv he hp => rep (i + 1) v' e' p' hv he hp)
        exact Rep.s2 (f := 0) (p := h) (.inl rfl) a0 a1 (rep 0 v e p rfl rfl rfl) this
theorem Rep.mono {H H' : List Cl} {R : Int → T} {c : Cl} {t : T} {L : List Nat} (r : Rep H R c t L) (h : ∀ (i : Nat) (z : Cl), H[i]? = some z → H'[i]? = some z) : Rep H' R c t L := by
  induction r with
  | v d => exact .v (d.mono h)
  | a => exact .a
  | i => exact .i
  | s1 hf h1 r ih => exact .s1 (hf.imp id fun q => h _ _ q) (h _ _ h1) ih
  | s2 hf h1 h2 r r' ih ih' => exact .s2 (hf.imp id fun q => h _ _ q) (h _ _ h1) (h _ _ h2) ih ih'
noncomputable def rowT (y : Sy) (p : Str × Int) : T := .s2 10 (.a (y.num p.1)) (.v p.2)
noncomputable def rowC (y : Sy) (R : Int → T) (p : Str × Int) : Int × Cl := (y.num p.1, cellOf (R p.2))
noncomputable def pcs (h j : Nat) : List Cl := (List.range j).map fun i => (2, ((h + 3 * i : Nat) : Int))
theorem lst_len : ∀ (h : Nat) (l : List Cl), (lst h l).length = 2 * l.length
  | _, [] => rfl
  | _, [v] => rfl
  | h, v :: w :: r => by
    show (lst (h + 2) (w :: r)).length + 1 + 1 = _
    rw [lst_len (h + 2) (w :: r)]; simp; lia -abstractProof
theorem nodup_lin (h n : Nat) : ((List.range n).map fun i => h + 3 * i).Nodup := by
  induction n with
  | zero => exact List.nodup_nil
  | succ n ih =>
    rw [List.range_succ, List.map_append, List.nodup_append]
    refine ⟨ih, by simp, fun a ha b hb => ?_⟩
    obtain ⟨i, hi, rfl⟩ := List.mem_map.mp ha
    rw [List.mem_range] at hi
    simp at hb
    lia -abstractProof
section
variable {B : Bs} {n : Nat} {X : V → List AO → Prop} {σ : List AO} {Q : V → List AO → Prop} {G : Gs} {m : Loc}
theorem CA_pair_cells (P : PF B) {y : Sy} {H : List Cl} {R : Int → T} {ni : Nat} {rows : List (Str × Int)} (st : StAt H σ) (hy : SyAt y σ) (z1 : y.texts.length < 9000) (ha : σ[11]? = some (.inst 597 areasFs)) (h19 : σ[19]? = some (.dI cellsT)) (ht : HT R H) (h5 : 5 ≤ H.length)
    (hni : σ[ni]? = some (.list (rows.map fun p => V.tup [.str p.1, .int p.2]))) (hni2 : ni ∉ [3, 4, 13]) (hr : ∀ p, p ∈ rows → p.1 ∈ y.texts ∧ 0 ≤ p.2 ∧ p.2 < 5) (ar : Ar y 10 2) (hz : H.length + 5 * rows.length < 4000)
    (h : ∀ σ' H' vc L, Kp [3, 4, 13] σ σ' → SyAt y σ' → StAt H' σ' → HT R H' → Rep H' R vc (listT (rows.map (rowT y)) (.a 0)) L → L.Nodup → H'.length ≤ H.length + 5 * rows.length → (∀ (i : Nat) (z : Cl), H[i]? = some z → H'[i]? = some z) → Q (cellV vc) σ') :
    CA B (n + 5) X (.ref 608) [.ref 11, .ref ni, .ref 19] σ Q := by
  refine shut fun P_ o_ => ?_
  obtain ⟨tC, gC⟩ := P.i_CON
  refine o_ ?_
  obtain ⟨tE, gE⟩ := P.i_F_EQUAL
  refine CA_fn (others := ["pairs", "text", "k", "name"]) (G := ⟨["CON", "F_EQUAL"], [], []⟩) thruAll P.f_pair_cells (by decide +kernel) rfl ?_
  refine EXs_next (EX_assign (EV_list rfl (by decide) ⟨_, (uI 3 rfl), rfl, ?_⟩))
  have l19 : 19 < σ.length := idx_lt h19
  have bl := blks_len (rows.map (rowC y R))
  refine EXs_next (EX_for thruAll (fun (j : Nat) (m : Loc) (σ' : List AO) => ∃ (o1 o2 o3 : Option V), m = [(("m" : Str), some (V.ref 11)), (("names" : Str), some (V.ref ni)), (("table" : Str), some (V.ref 19)), (("pairs" : Str), some (V.ref σ.length)), (("text" : Str), o1), (("k" : Str), o2), (("name" : Str), o3)] ∧
     Kp [3, 4, 13] σ σ' ∧ SyAt y σ' ∧ StAt (H ++ blks ((rows.map (rowC y R)).take j)) σ' ∧ σ'[σ.length]? = some (.list ((pcs H.length j).map cellV))) ?_)
  refine IE_of (EV_name (v := .ref ni) (mI 1 rfl) ⟨_, _, ITER_list ((Kp.app (D := [])).get hni List.not_mem_nil), ⟨none, none, none, rfl, .app, hy.kp (D := []) .app (by decide), ?_, get_app⟩, ?_, ?_, ?_⟩)
  · simp only [List.take_zero, blks, List.append_nil]
    exact st.kp (D := []) .app (by decide)
  · rintro j m' σ' _ ⟨o1, o2, o3, rfl, kp, -⟩
    exact kp.get hni hni2
  · rintro j m' σ' v hv ⟨o1, o2, o3, rfl, kp, y', st', hp'⟩
    rw [List.getElem?_map] at hv
    obtain ⟨⟨tx, k⟩, hrow, rfl⟩ := Option.map_eq_some_iff.mp hv
    obtain ⟨hm, k0, k5⟩ := hr _ (List.mem_of_getElem? hrow)
    have hj : j < rows.length := (List.getElem?_eq_some_iff.mp hrow).1
    have a' := kp.get ha (by decide)
    have c' := kp.get h19 (by decide)
    have ya : y.atom tx = y := by unfold Sy.atom; rw [if_pos hm]
    have hlen : (H ++ blks ((rows.map (rowC y R)).take j)).length = H.length + 3 * j := by rw [List.length_append, blks_len, List.length_take, List.length_map, Nat.min_eq_left (by lia -abstractProof)]
    refine ASG_two ⟨_, _, (uI 4 rfl), (uI 5 rfl), ?_⟩
    refine EXs_next (EX_assign (EV_tuple rfl (by decide) (EV_gint (mI 0 rfl) gC (EV_imeth rfl (by decide) rfl (EV_asym P (mI 0 rfl) a' ⟨2, 154, _, _, rfl, y'.o, P.c_Symbols, P.m_Symbols_atom, by decide, ?_⟩)))))
    refine EV_name (v := .str tx) (mI 4 rfl) (CA.op (CA_atom P y' (by lia -abstractProof) fun σ₁ e₁ k₁ y₁ => ⟨_, (uI 6 rfl), rfl, ?_⟩))
    rw [ya] at y₁ ⊢
    have st₁ := st'.kp k₁ (by decide)
    have a₁ := k₁.get a' (by decide)
    have c₁ := k₁.get c' (by decide)
    have hp₁ := k₁.get hp' (by simp; lia -abstractProof)
    have kp₁ : Kp [3, 4, 13] σ σ₁ := kp.trans (k₁.mono (by decide))
    refine EXs_last (EX_expr (EV_append rfl rfl (EV_name (v := .ref σ.length) (mI 3 rfl) ⟨_, rfl, ⟨_, hp₁⟩, ?_⟩)))
    refine EV_imeth rfl (by decide) rfl (EV_store P (mI 0 rfl) a₁ ⟨12, 423, _, _, rfl, st₁.o, P.c_Store, P.m_Store_new_struct, by decide, ?_⟩)
    refine EV_gint (mI 1 rfl) gE (EV_list rfl (by decide) (EV_name (v := cellV (4, y.num tx)) (mI 6 rfl) (EV_sub (EV_name (v := .ref 19) (mI 2 rfl) (EV_name (v := .int k) (mI 5 rfl) (SUB_dI c₁ (cellsT_at k0 k5) ?_))))))
    have ht' : HT R (H ++ blks ((rows.map (rowC y R)).take j)) := ht.agree fun i hi => List.getElem?_append_left (by lia -abstractProof)
    refine CA.op (CA_new_struct (n := n) (cs := [((4, y.num tx), (4, y.num tx)), ((0, k), cellOf (R k))]) P (st₁.kp (D := []) .app (by decide)) (y₁.kp (D := []) .app (by decide)) (by decide) ar (by rw [hlen]; simp; lia -abstractProof) (by simp) get_app (by have := kp₁.1; lia -abstractProof) ?_ fun σ₂ k₂ s₂ => ?_)
    · intro p hp
      simp only [List.mem_cons, List.not_mem_nil, or_false] at hp
      rcases hp with rfl | rfl
      · exact .val (by decide) (by decide)
      · exact ht'.der k0 k5
    have k12 : Kp [13] σ₁ σ₂ := ((Kp.app).trans k₂)
    have hp₂ := k12.get hp₁ (by simp; lia -abstractProof)
    refine ⟨_, hp₂, by simp [pcs]; lia -abstractProof, _, _, _, rfl, (kp₁.trans (k12.mono (by simp))).setN (Nat.le_refl _), (y₁.kp k12 (by simp)).setN (by lia -abstractProof), ?_, ?_⟩
    · have e : H ++ blks ((rows.map (rowC y R)).take (j + 1)) = (H ++ blks ((rows.map (rowC y R)).take j)) ++ (6, 10) :: [((4, y.num tx) : Cl), cellOf (R k)] := by
        simp only [List.take_add_one, List.getElem?_map, hrow]
        show H ++ blks (_ ++ [(y.num tx, cellOf (R k))]) = _
        simp only [blks_app, List.append_assoc]
      simp only [e]
      exact s₂.setN (by lia -abstractProof)
    · rw [set_get hp₂, hlen]
      show some (AO.list ((pcs H.length j).map cellV ++ [cellV (2, ((H.length + 3 * j : Nat) : Int))])) = _
      simp [pcs, List.range_succ]
  rintro m' σ' ⟨o1, o2, o3, rfl, kp, y', st', hp'⟩
  rw [List.length_map] at st' hp'
  rw [← List.length_map (f := rowC y R), List.take_length] at st'
  refine ⟨rfl, ?_⟩
  have a' := kp.get ha (by decide)
  have hlen : (H ++ blks (rows.map (rowC y R))).length = H.length + 3 * rows.length := by simp only [List.length_append, blks_len, List.length_map]
  have ht' : HT R (H ++ blks (rows.map (rowC y R))) := ht.agree fun i hi => List.getElem?_append_left (by lia -abstractProof)
  have pl : (pcs H.length rows.length).length = rows.length := by simp [pcs]
  refine EXs_last (EX_ret (EV_imeth rfl (by decide) rfl (EV_store P (mI 0 rfl) a' ⟨12, 423, _, _, rfl, st'.o, P.c_Store, P.m_Store_build_list, by decide, ?_⟩)))
  refine EV_name (v := .ref σ.length) (mI 3 rfl) (CA.op (CA_build_list (n := n) (cs := (pcs H.length rows.length).map fun c => (c, c)) P st' (by rw [hlen]; simp [pl]; lia -abstractProof) (by simp only [hp', List.map_map]; rfl) (by lia -abstractProof) ?_ fun σ₂ k₂ => ⟨fun q s₂ => ?_, fun q s₂ => ?_⟩))
  · intro p hp
    obtain ⟨c, hc, rfl⟩ := List.mem_map.mp hp
    obtain ⟨i, -, rfl⟩ := List.mem_map.mp hc
    exact .val (by decide) (by decide)
  · have : rows = [] := by
      have := congrArg List.length q
      rw [List.length_map, pl] at this
      exact List.length_eq_zero_iff.mp this
    subst this
    exact h σ₂ _ (4, 0) [] (kp.trans (k₂.mono (by decide))) (y'.kp k₂ (by decide)) s₂ ht' .a List.nodup_nil (by simp [blks]) fun i z hz => by rw [List.getElem?_append_left (List.getElem?_eq_some_iff.mp hz).1]; exact hz
  · rw [List.map_map] at s₂
    have em : (pcs H.length rows.length).map ((fun p : Cl × Cl => p.2) ∘ fun c => (c, c)) = pcs H.length rows.length := by simp [Function.comp_def]
    rw [em] at s₂
    have hne : pcs H.length rows.length ≠ [] := by intro e; exact q (by rw [e]; rfl)
    have ext : ∀ (i : Nat) (z : Cl), (H ++ blks (rows.map (rowC y R)))[i]? = some z → (H ++ blks (rows.map (rowC y R)) ++ lst (H ++ blks (rows.map (rowC y R))).length (pcs H.length rows.length))[i]? = some z := fun i z hz => by
      rw [List.getElem?_append_left (List.getElem?_eq_some_iff.mp hz).1]; exact hz
    have ht2 : HT R (H ++ blks (rows.map (rowC y R)) ++ lst (H ++ blks (rows.map (rowC y R))).length (pcs H.length rows.length)) := ht'.agree fun i hi => List.getElem?_append_left (by lia -abstractProof)
    refine h σ₂ _ _ (La (H ++ blks (rows.map (rowC y R))).length ((List.range rows.length).map fun i => H.length + 3 * i)) (kp.trans (k₂.mono (by decide))) (y'.kp k₂ (by decide)) s₂ ht2 (lst_rep _ _ _ _ hne (by simp [pl]) (by simp [pl]) (fun i hi => ?_) (fun i v e p hv he hp => ?_)) (La_nd _ _ ?_ ?_) ?_ (fun i z hz => ext i z ?_)
    · rw [List.getElem?_append_right (by lia -abstractProof), show (H ++ blks (rows.map (rowC y R))).length + i - (H ++ blks (rows.map (rowC y R))).length = i by lia -abstractProof]
    · have hi : i < rows.length := by rw [← pl]; exact (List.getElem?_eq_some_iff.mp hv).1
      have ev : v = (2, ((H.length + 3 * i : Nat) : Int)) := by
        simp only [pcs, List.getElem?_map, List.getElem?_range hi, Option.map_some, Option.some.injEq] at hv; exact hv.symm
      have epp : p = H.length + 3 * i := by
        simp only [List.getElem?_map, List.getElem?_range hi, Option.map_some, Option.some.injEq] at hp; exact hp.symm
      obtain ⟨⟨tx, k⟩, hrow⟩ : ∃ r, rows[i]? = some r := ⟨_, List.getElem?_eq_getElem hi⟩
      obtain ⟨hm, k0, k5⟩ := hr _ (List.mem_of_getElem? hrow)
      rw [List.getElem?_map, hrow] at he
      cases he
      subst ev; subst epp
      refine shut fun P_ o_ => ?_
      obtain ⟨b0, b1, b2⟩ := blks_at (rows.map (rowC y R)) i (y.num tx) (cellOf (R k)) (by simp only [List.getElem?_map, hrow]; rfl)
      refine o_ ?_
      have g0 : ∀ (d : Nat) (z : Cl), (blks (rows.map (rowC y R)))[3 * i + d]? = some z → (H ++ blks (rows.map (rowC y R)) ++ lst (H ++ blks (rows.map (rowC y R))).length (pcs H.length rows.length))[H.length + 3 * i + d]? = some z := fun d z hz => ext _ _ (by
        rw [List.getElem?_append_right (by lia -abstractProof), show H.length + 3 * i + d - H.length = 3 * i + d by lia -abstractProof]; exact hz)
      exact Rep.s2 (f := 10) (p := H.length + 3 * i) (.inr (g0 0 _ b0)) (g0 1 _ b1) (g0 2 _ b2) .a (.v (ht2.der k0 k5).done)
    · exact nodup_lin _ _
    · intro p hp
      obtain ⟨i, hi, rfl⟩ := List.mem_map.mp hp
      rw [List.mem_range] at hi
      lia -abstractProof
    · simp only [List.length_append, lst_len, pl, hlen]; lia -abstractProof
    · rw [List.getElem?_append_left (List.getElem?_eq_some_iff.mp hz).1]; exact hz
end
section
variable {B : Bs} {n : Nat} {X : V → List AO → Prop} {σ : List AO} {Q : V → List AO → Prop} {G : Gs} {m : Loc}
theorem CA_told (P : PF B) (x : XP B) {o v : V} (h : CA B n (fun ball σ' => Q (.tup [.str "error", ball]) σ') (.ref 439) [.ref 11, o, v, .ref 8] σ fun a σ' => Q (.tup [.str "names", a]) σ') : CA B (n + 1) X (.ref 672) [.ref 11, o, v, .ref 8] σ Q := by
  refine shut fun P_ o_ => ?_
  obtain ⟨fI, sc, q1, q2, q3, q4, F, hgt⟩ := x
  refine o_ ?_
  refine CA_fn (others := ["fault"]) (G := ⟨["PrologError", "chosen_names"], [], ["fault"]⟩) thruAll P.f_law_told (by decide +kernel) rfl ?_
  refine EXs_last (EX_try (w := "error") F hgt (mI 0 rfl) (by rw [P.x_exc]; exact P.g_exc) (mI 0 rfl) (mI 4 rfl) (fun v => ⟨_, (uI 4 rfl), (mI 4 rfl)⟩) ?_)
  refine EV_tuple rfl (by decide) (EV_str (EV_call (mI 1 rfl) P.g_chosen_names P.k_chosen_names rfl (EV_name (v := .ref 11) (mI 0 rfl) (EV_name (v := o) (mI 1 rfl) (EV_name (v := v) (mI 2 rfl) (EV_name (v := .ref 8) (mI 3 rfl) (CA.op h)))))))
end
noncomputable def keys (l : List (Int × V)) : List Int := l.map (·.1)
theorem at_mem {l : List (Int × V)} {k : Int} {v : V} (h : at? l k = some v) : (k, v) ∈ l := by
  unfold at? at h
  obtain ⟨p, hp, e⟩ := Option.map_eq_some_iff.mp h
  have h1 := List.mem_of_find?_eq_some hp
  have h2 := List.find?_some hp
  simp at h2
  simp only [← h2, ← e]; exact h1
theorem at_of_nodup : ∀ {l : List (Int × V)}, (keys l).Nodup → ∀ {p : Int × V}, p ∈ l → at? l p.1 = some p.2 := by
  intro l_
  induction l_ with
  | nil =>
    intro _ p h
    simp at h
  | cons u r ih =>
    intro nd p h
    simp only [keys, List.map_cons, List.nodup_cons] at nd
    unfold at?
    rcases List.mem_cons.mp h with h | h
    · subst h; rw [List.find?_cons_of_pos (by simp)]; rfl
    · have : ¬ u.1 = p.1 := fun e => nd.1 (e ▸ List.mem_map.mpr ⟨p, h, rfl⟩)
      rw [List.find?_cons_of_neg (by simpa using this)]
      exact ih nd.2 h
theorem sub_len : ∀ {a b : List Int}, a.Nodup → (∀ x, x ∈ a → x ∈ b) → a.length ≤ b.length := by
  intro l_
  induction l_ with
  | nil =>
    intro b _ _
    simp
  | cons x a ih =>
    intro b nd h
    rw [List.nodup_cons] at nd
    have hx := h x (by simp)
    have := ih (b := b.erase x) nd.2 (fun z hz => by
      have : z ≠ x := fun e => nd.1 (e ▸ hz)
      exact (List.mem_erase_of_ne this).mpr (h z (by simp [hz])))
    rw [List.length_erase_of_mem hx] at this
    have : 0 < b.length := List.length_pos_of_mem hx
    simp; lia -abstractProof
theorem same_dict {l l' : List (Int × V)} (n1 : (keys l).Nodup) (n2 : (keys l').Nodup) (h : ∀ k, at? l k = at? l' k) : l.length = l'.length ∧ ∀ p, p ∈ l → at? l' p.1 = some p.2 := by
  have s : ∀ {a b : List (Int × V)}, (keys a).Nodup → (∀ k, at? a k = at? b k) → a.length ≤ b.length := by
    intro a b na hab
    have := sub_len (a := keys a) (b := keys b) na (fun x hx => by
      obtain ⟨p, hp, rfl⟩ := List.mem_map.mp hx
      have := at_of_nodup na hp
      rw [hab] at this
      exact List.mem_map.mpr ⟨_, at_mem this, rfl⟩)
    simpa [keys] using this
  refine ⟨Nat.le_antisymm (s n1 h) (s n2 fun k => (h k).symm), fun p hp => ?_⟩
  rw [← h]; exact at_of_nodup n1 hp
theorem keys_put {l : List (Int × V)} {k : Int} {v : V} (h : (keys l).Nodup) : (keys (put l k v)).Nodup := by
  unfold put
  split
  · have : keys (l.map fun kv => if kv.1 = k then (kv.1, v) else kv) = keys l := by
      unfold keys; rw [List.map_map]
      refine List.map_congr_left fun p z_ => ?_
      simp only [Function.comp]; split <;> rfl
    rw [this]; exact h
  · rename_i hn
    unfold keys
    rw [List.map_append, List.nodup_append]
    refine ⟨h, by simp, fun a ha b hb => ?_⟩
    simp at hb; subst hb
    intro e; subst e
    obtain ⟨p, hp, e⟩ := List.mem_map.mp ha
    exact hn (List.any_eq_true.mpr ⟨p, hp, by simpa using e⟩)
theorem chosen_keys (y : Sy) (R : Int → T) (rs : List Int) : ∀ (es : List T) (nm : List (Int × V)), (keys nm).Nodup → (keys (es.foldl (chStep y R rs) nm)).Nodup := by
  intro l_
  induction l_ with
  | nil =>
    intro nm h
    exact h
  | cons e es ih =>
    intro nm h
    refine ih _ ?_
    unfold chStep
    split
    · split
      · split
        · exact h
        · exact keys_put h
      · exact h
    · exact h
theorem kept_keys (fw : Int → Option Str) : ∀ (rs : List Int) (k : Nat), (keys (keptL fw rs k)).Nodup := by
  intro l_
  induction l_ with
  | nil =>
    intro k
    exact List.nodup_nil
  | cons r t ih =>
    intro k
    unfold keptL keys
    rw [List.map_append, List.nodup_append]
    refine ⟨by split <;> simp, ih (k + 1), fun a ha b hb => ?_⟩
    obtain ⟨p, hp, rfl⟩ := List.mem_map.mp hb
    have := (keptL_lt fw t (k + 1) p hp).1
    split at ha
    · simp at ha; subst ha; lia -abstractProof
    · simp at ha
noncomputable def look (y : Sy) (R : Int → T) (rs : List Int) (es : List T) (q : Int) : Option V := if 0 ≤ q then match rs[q.toNat]? with | some root => (fwL y R es root).map V.str | none => none else none
theorem at_app {l l' : List (Int × V)} {k : Int} : at? (l ++ l') k = (at? l k).or (at? l' k) := by
  unfold at?; rw [List.find?_append]
  cases List.find? (fun kv => decide (kv.1 = k)) l <;> simp
theorem kept_at (fw : Int → Option Str) : ∀ (rs : List Int) (k : Nat) (q : Int), at? (keptL fw rs k) q = if (k : Int) ≤ q then (match rs[(q - k).toNat]? with | some root => (fw root).map V.str | none => none) else none := by
  intro l_
  induction l_ with
  | nil =>
    intro k q
    simp [keptL, at?]
  | cons r t ih =>
    intro k q
    unfold keptL
    simp only [at_app, ih (k + 1) q]
    have hr : (if (k : Int) ≤ q then (match (r :: t)[(q - k).toNat]? with | some root => (fw root).map V.str | none => none) else none) = if q = k then (fw r).map V.str else if ((k + 1 : Nat) : Int) ≤ q then (match t[(q - ((k + 1 : Nat) : Int)).toNat]? with | some root => (fw root).map V.str | none => none) else none := by
      by_cases h2 : q = k
      · subst h2; rw [if_pos (by lia -abstractProof), if_pos rfl]; simp
      · rw [if_neg h2]
        by_cases h1 : (k : Int) ≤ q
        · rw [if_pos h1, if_pos (by lia -abstractProof), show (q - k).toNat = (q - ((k + 1 : Nat) : Int)).toNat + 1 by lia -abstractProof, List.getElem?_cons_succ]
        · rw [if_neg h1, if_neg (by lia -abstractProof)]
    simp only [hr]
    by_cases h2 : q = k
    · rw [if_pos h2, if_neg (by lia -abstractProof)]
      subst h2
      cases fw r <;> simp [at?]
    · rw [if_neg h2]
      have h3 : ¬ (k : Int) = q := fun e => h2 e.symm
      cases fw r <;> simp [at?, h3]
theorem kept_look (y : Sy) (R : Int → T) (rs : List Int) (es : List T) (q : Int) : at? (keptL (fwL y R es) rs 0) q = look y R rs es q := by
  simp only [kept_at]; unfold look; simp
theorem fwL_cons (y : Sy) (R : Int → T) (e : T) (es : List T) (root : Int) : fwL y R (e :: es) root = if endT R (rightT e) = .v root then some (y.tx (lnum e)) else fwL y R es root := by
  unfold fwL wordsL
  by_cases h : endT R (rightT e) = .v root <;> simp [h]
set_option tactic.hygienic true in
theorem chosen_at (y : Sy) (R : Int → T) {rs : List Int} (nd : rs.Nodup) : ∀ (es : List T) (nm : List (Int × V)) (q : Int), at? (es.foldl (chStep y R rs) nm) q = (at? nm q).or (look y R rs es q) := by
  intro l_
  induction l_ with
  | nil =>
    intro nm q
    have : look y R rs [] q = none := by
      unfold look fwL wordsL
      split
      · split <;> rfl
      · rfl
    simp only [this]; simp
  | cons e es ih =>
    intro nm q
    simp only [List.foldl_cons, ih _ q]
    have hl : ∀ root, (root ∈ rs ∧ endT R (rightT e) = .v root ∧ q = ((rs.idxOf root : Nat) : Int)) → look y R rs (e :: es) q = some (.str (y.tx (lnum e))) := by
      rintro root ⟨hm, er, rfl⟩
      unfold look
      rw [if_pos (by lia -abstractProof), Int.toNat_natCast, List.getElem?_eq_getElem (List.idxOf_lt_length_of_mem hm), List.getElem_idxOf]
      simp only [fwL_cons, er, if_true]
      rfl
    have hn : (∀ root, root ∈ rs → endT R (rightT e) = .v root → q ≠ ((rs.idxOf root : Nat) : Int)) → look y R rs (e :: es) q = look y R rs es q := by
      intro h
      unfold look
      split
      · rename_i q0
        split
        · rename_i root hr
          rw [fwL_cons, if_neg]
          intro er
          obtain ⟨h1, h2⟩ := List.getElem?_eq_some_iff.mp hr
          refine h root (List.mem_of_getElem? hr) er ?_
          have : rs.idxOf root = q.toNat := by rw [← h2]; exact nd.idxOf_getElem _ h1
          lia -abstractProof
        · rfl
      · rfl
    unfold chStep
    split
    · rename_i root er
      split
      · rename_i hm
        by_cases hq : q = ((rs.idxOf root : Nat) : Int)
        · rw [hl root ⟨hm, er, hq⟩]
          split
          · rename_i hs
            rw [← hq] at hs
            cases hx : at? nm q with
            | none => rw [hx] at hs; simp at hs
            | some v => simp
          · rename_i hs
            rw [← hq] at hs
            have hx : at? nm q = none := by
              cases hx : at? nm q with
              | none => rfl
              | some v => rw [hx] at hs; simp at hs
            rw [at_put, if_pos hq, hx]; simp
        · rw [hn fun root' hm' er' => by rw [er] at er'; injection er' with e'; subst e'; exact hq]
          split
          · rfl
          · rw [at_put, if_neg hq]
      · rename_i hm
        rw [hn fun root' hm' er' => by rw [er] at er'; injection er' with e'; subst e'; exact absurd hm' hm]
    · rename_i hne
      rw [hn fun root' hm' er' => absurd er' (hne root')]
theorem names_same (y : Sy) (R : Int → T) {rs : List Int} (nd : rs.Nodup) {es es' : List T} (h : ∀ q, look y R rs es q = look y R rs es' q) :
    (chosenL y R rs es).length = (keptL (fwL y R es') rs 0).length ∧ ∀ p, p ∈ chosenL y R rs es → at? (keptL (fwL y R es') rs 0) p.1 = some p.2 :=
  same_dict (chosen_keys y R rs es [] List.nodup_nil) (kept_keys _ _ _) fun k => by
    unfold chosenL
    simp only [chosen_at y R nd, kept_look, h]
    simp [at?]
theorem chosen_pure (y : Sy) (R : Int → T) (rs : List Int) : ∀ (es : List T) (nm : List (Int × V)), (∀ p, p ∈ nm → ∃ w, p.2 = V.str w) → ∀ p, p ∈ es.foldl (chStep y R rs) nm → ∃ w, p.2 = V.str w := by
  intro l_
  induction l_ with
  | nil =>
    intro nm h
    exact h
  | cons e es ih =>
    intro nm h
    refine ih _ ?_
    unfold chStep
    split
    · split
      · split
        · exact h
        · intro p hp
          unfold put at hp
          split at hp
          · obtain ⟨u, hu, rfl⟩ := List.mem_map.mp hp
            split
            · exact ⟨_, rfl⟩
            · exact h u hu
          · rcases List.mem_append.mp hp with hp | hp
            · exact h p hp
            · simp at hp; subst hp; exact ⟨_, rfl⟩
      · exact h
    · exact h
structure Y2 (k : Nat) (y : Sy) : Prop where
  ok : YOk y
  a0 : Ar y 0 2
  a10 : Ar y 10 2
  a13 : Ar y 13 2
  zt : y.texts.length ≤ k
  zf : y.fs.length ≤ k
noncomputable def Pre (y y' : Sy) : Prop := ∃ l, y'.texts = y.texts ++ l
theorem Pre.refl (y : Sy) : Pre y y := ⟨[], by simp⟩
theorem Pre.trans {a b c : Sy} (h : Pre a b) (h' : Pre b c) : Pre a c := by
  obtain ⟨l, e⟩ := h; obtain ⟨l', e'⟩ := h'
  exact ⟨l ++ l', by simp only [e', e, List.append_assoc]⟩
theorem Pre.atom (y : Sy) (w : Str) : Pre y (y.atom w) := by
  unfold Sy.atom; split
  · exact .refl y
  · exact ⟨[w], rfl⟩
theorem Pre.functor (y : Sy) (k : List Int) : Pre y (y.functor k) := ⟨[], by rw [Sy.functor_texts]; simp⟩
theorem Pre.func (y : Sy) (w : Str) (k : Int) : Pre y (y.func w k) := (Pre.atom y w).trans (Pre.functor _ _)
theorem Pre.len {y y' : Sy} (h : Pre y y') : y.texts.length ≤ y'.texts.length := by obtain ⟨l, e⟩ := h; simp only [e]; simp
theorem Ar.functor {y : Sy} {f k : Int} (h : Ar y f k) (key : List Int) : Ar (y.functor key) f k := by
  obtain ⟨i, a, e, hi⟩ := h
  refine ⟨i, a, e, ?_⟩
  unfold Sy.functor; split
  · exact hi
  · show (y.fs ++ [key])[i]? = _
    rw [List.getElem?_append_left (List.getElem?_eq_some_iff.mp hi).1]; exact hi
theorem Ar.atom {y : Sy} {f k : Int} (h : Ar y f k) (w : Str) : Ar (y.atom w) f k := by
  obtain ⟨i, a, e, hi⟩ := h
  exact ⟨i, a, e, by rw [Sy.atom_fs]; exact hi⟩
theorem Y2.atom {k : Nat} {y : Sy} (h : Y2 k y) {w : Str} (hw : w.length ≤ 1000) : Y2 (k + 1) (y.atom w) := by
  refine ⟨?_, h.a0.atom w, h.a10.atom w, h.a13.atom w, by have := y.atom_len w; have := h.zt; lia -abstractProof, by rw [Sy.atom_fs]; have := h.zf; lia -abstractProof⟩
  have fs := y.atom_fs w
  refine ⟨fun t ht => ?_, ?_, by rw [fs]; exact h.ok.nf⟩
  · unfold Sy.atom at ht
    split at ht
    · exact h.ok.len t ht
    · rcases List.mem_append.mp ht with q | q
      · exact h.ok.len t q
      · simp at q; rw [q]; exact hw
  · unfold Sy.atom; split
    · exact h.ok.nd
    · rename_i hn
      rw [List.nodup_append]
      exact ⟨h.ok.nd, by simp, fun a ha b hb => by simp at hb; rintro rfl; exact hn (hb ▸ ha)⟩
theorem Y2.functor {k : Nat} {y : Sy} (h : Y2 k y) (key : List Int) : Y2 (k + 1) (y.functor key) := by
  have e := y.functor_texts key
  refine ⟨⟨by rw [e]; exact h.ok.len, by rw [e]; exact h.ok.nd, ?_⟩, h.a0.functor key, h.a10.functor key, h.a13.functor key, by rw [e]; have := h.zt; lia -abstractProof, by have := y.functor_len key; have := h.zf; lia -abstractProof⟩
  unfold Sy.functor; split
  · exact h.ok.nf
  · rename_i hn
    rw [List.nodup_append]
    exact ⟨h.ok.nf, by simp, fun a ha b hb => by simp at hb; rintro rfl; exact hn (hb ▸ ha)⟩
theorem Y2.func {k : Nat} {y : Sy} (h : Y2 k y) {w : Str} (hw : w.length ≤ 1000) (a : Int) : Y2 (k + 2) (y.func w a) := (h.atom hw).functor _
theorem Y2.up {k k' : Nat} {y : Sy} (h : Y2 k y) (hk : k ≤ k') : Y2 k' y := ⟨h.ok, h.a0, h.a10, h.a13, Nat.le_trans h.zt hk, Nat.le_trans h.zf hk⟩
theorem YI.y2 {y : Sy} {k : Nat} (h : YI y k) : Y2 (32 + k) y := by
  have z := h.sz
  refine ⟨h.ok, ⟨0, 1, rfl, by rw [h.fs]; decide +kernel⟩, ⟨10, 20, rfl, by rw [h.fs]; decide +kernel⟩, ⟨13, 3, rfl, by rw [h.fs]; decide +kernel⟩, by lia -abstractProof, by lia -abstractProof⟩
theorem Ar_fnum (y : Sy) (a k : Int) : Ar (y.functor [a, k]) ((y.functor [a, k]).fnum [a, k]) k := by
  refine ⟨(y.functor [a, k]).fs.idxOf [a, k], a, rfl, ?_⟩
  have : [a, k] ∈ (y.functor [a, k]).fs := by unfold Sy.functor; split <;> simp_all
  simp only [List.getElem?_eq_getElem (List.idxOf_lt_length_of_mem this), List.getElem_idxOf]
theorem fnum_ne {k : Nat} {y : Sy} (h : Y2 k y) (a : Int) : (y.functor [a, 1]).fnum [a, 1] ≠ 0 := by
  intro e
  obtain ⟨i, b, e1, h1⟩ := Ar_fnum y a 1
  obtain ⟨j, b', e2, h2⟩ := h.a0.functor [a, 1]
  have e3 : i = 0 := by lia -abstractProof
  have e4 : j = 0 := by lia -abstractProof
  rw [e3] at h1; rw [e4, h1] at h2
  simp at h2
theorem Pre.tx {y y' : Sy} (h : Pre y y') {n : Int} (hn : n.toNat < y.texts.length) : y'.tx n = y.tx n := by
  obtain ⟨l, e⟩ := h
  unfold Sy.tx; rw [e, List.getElem?_append_left hn]
theorem Pre.flaw {y y' : Sy} {R : Int → T} {ties : List T} (rt : RT ties R) (h : Pre y y') {x : T} (hx : EntOk y x) : flawE y' R x = flawE y R x := by
  cases x with
  | s2 f l r =>
    cases l with
    | a n => show (if f = 10 then (if fits (y'.tx n) then ("" : Str) else "wrong") else "wrong") = (if f = 10 then (if fits (y.tx n) then ("" : Str) else "wrong") else "wrong"); rw [h.tx hx.2.1.2]
    | v k =>
      rcases rt.good k hx.2.1.1 hx.2.1.2 with ⟨j, -, -, hj, -⟩ | ⟨i, hi⟩
      · show (if f = 10 then adW _ (R k) else _) = (if f = 10 then adW _ (R k) else _); rw [hj]; rfl
      · show (if f = 10 then adW _ (R k) else _) = (if f = 10 then adW _ (R k) else _); rw [hi]; rfl
    | i n => rfl
    | s1 f x => rfl
    | s2 f x z => rfl
  | v k => rfl
  | a n => rfl
  | i n => rfl
  | s1 f x => rfl
theorem Pre.due {y y' : Sy} {R : Int → T} {ties : List T} (rt : RT ties R) (h : Pre y y') {e : T} {es : List T} (hx : ∀ x, x ∈ es → EntOk y x) : dueFl y' R e es = dueFl y R e es := by
  unfold dueFl flawsL
  rw [List.map_congr_left fun x hxm => h.flaw rt (hx x hxm)]
theorem atom_idem (y : Sy) (w : Str) : (y.atom w).atom w = y.atom w := by
  have : w ∈ (y.atom w).texts := by unfold Sy.atom; split <;> simp_all
  rw [show (y.atom w).atom w = if w ∈ (y.atom w).texts then y.atom w else _ from rfl, if_pos this]
theorem atom_of_mem {y : Sy} {w : Str} (h : w ∈ y.texts) : y.atom w = y := by unfold Sy.atom; rw [if_pos h]
theorem atom_mem (y : Sy) (w : Str) : w ∈ (y.atom w).texts := by unfold Sy.atom; split <;> simp_all
theorem Pre.mem {y y' : Sy} (h : Pre y y') {w : Str} (hw : w ∈ y.texts) : w ∈ y'.texts := by obtain ⟨l, e⟩ := h; rw [e]; exact List.mem_append_left _ hw
theorem Pre.num {y y' : Sy} (h : Pre y y') {w : Str} (hw : w ∈ y.texts) : y'.num w = y.num w := by
  obtain ⟨l, e⟩ := h; unfold Sy.num; rw [e, List.idxOf_append, if_pos hw]
theorem dueInst_idem (y : Sy) : dueInst (dueInst y) = dueInst y ∧ fInst (dueInst y) = fInst y := by
  have : dueInst (dueInst y) = dueInst y := atom_idem y _
  exact ⟨this, by unfold fInst; rw [this]⟩
theorem dueDom_idem (y : Sy) (sv : V) : ((dueDom y).atom "write_option").func "domain_error" 2 = dueDom y ∧ domBall (dueDom y) sv = vSys (fDom y sv) := by
  have p1 : Pre ((dueInst y).func "domain_error" 2) (dueDom y) := Pre.atom _ _
  have p0 : Pre ((dueInst y).atom "domain_error") ((dueInst y).func "domain_error" 2) := Pre.functor _ _
  have mw : ("write_option" : Str) ∈ (dueDom y).texts := atom_mem _ _
  have md1 : ("domain_error" : Str) ∈ ((dueInst y).atom "domain_error").texts := atom_mem _ _
  have md : ("domain_error" : Str) ∈ (dueDom y).texts := (p0.trans p1).mem md1
  have e1 : (dueDom y).atom "write_option" = dueDom y := atom_of_mem mw
  have e2 : (dueDom y).atom "domain_error" = dueDom y := atom_of_mem md
  have n2 : (dueDom y).num "domain_error" = ((dueInst y).atom "domain_error").num "domain_error" := (p0.trans p1).num md1
  have hk : [((dueInst y).atom "domain_error").num "domain_error", 2] ∈ (dueDom y).fs := by
    unfold dueDom
    rw [Sy.atom_fs]
    show _ ∈ ((dueInst y).func "domain_error" 2).fs
    unfold Sy.func Sy.functor
    split <;> simp_all
  have e3 : (dueDom y).func "domain_error" 2 = dueDom y := by
    unfold Sy.func
    rw [e2, n2]
    unfold Sy.functor
    rw [if_pos hk]
  refine ⟨by rw [e1, e3], ?_⟩
  unfold domBall fDom
  rw [e1, e3, e2, n2]
  have e4 : (dueDom y).fnum [((dueInst y).atom "domain_error").num "domain_error", 2] = ((dueInst y).func "domain_error" 2).fnum [((dueInst y).atom "domain_error").num "domain_error", 2] := by
    unfold Sy.fnum dueDom
    rw [Sy.atom_fs]; rfl
  simp only [e4]
theorem dueDom_pre (y : Sy) : Pre y (dueDom y) := ((Pre.atom y _).trans (Pre.func _ _ _)).trans (Pre.atom _ _)
theorem dueInst_pre (y : Sy) : Pre y (dueInst y) := Pre.atom y _
theorem sh_dep (R : Int → T) {ties : List T} (rt : RT ties R) (t : T) (s : List Int) (w : t.wf) : (sh R t s).1.dep ≤ t.dep := by
  induction t generalizing s with
  | v k =>
    show (shV (R k) s).1.dep ≤ 0
    rcases rt.good k w.1 w.2 with ⟨j, -, -, hj, -⟩ | ⟨i, hi⟩
    · rw [hj]; exact Nat.le_refl 0
    · rw [hi]; exact Nat.le_refl 0
  | a _ => exact Nat.le_refl 0
  | i _ => exact Nat.le_refl 0
  | s1 f x ih => exact Nat.succ_le_succ (ih s w)
  | s2 f x z ih ih2 =>
    have := ih s w.1
    have := ih2 (sh R x s).2 w.2
    show max (sh R x s).1.dep (sh R z (sh R x s).2).1.dep + 1 ≤ max x.dep z.dep + 1
    omega
theorem EntOk.ok {y : Sy} (h10 : Ar y 10 2) (h13 : Ar y 13 2) {x : T} (h : EntOk y x) : x.ok y := by
  cases x with
  | v k => exact h
  | a k => exact trivial
  | i k => exact trivial
  | s1 f x => exact h.elim
  | s2 f l r =>
    obtain ⟨hf, hl, hr⟩ := h
    refine ⟨by rcases hf with rfl | rfl; exact h10; exact h13, ?_, ?_⟩
    · cases l with
      | v k => exact hl
      | a k => exact trivial
      | i k => exact trivial
      | s1 f x => exact hl.elim
      | s2 f x z => exact hl.elim
    · cases r with
      | v k => exact hr
      | a k => exact trivial
      | i k => exact trivial
      | s1 f x => exact hr.elim
      | s2 f x z => exact hr.elim
theorem EndOk.ok {y : Sy} {e : T} (h : EndOk e) : e.ok y := by
  cases e with
  | v k => exact h
  | a k => exact trivial
  | i k => exact trivial
  | s1 f x => exact h.elim
  | s2 f x z => exact h.elim
theorem EndOk.dep {e : T} (h : EndOk e) : e.dep = 0 := by cases e <;> first | rfl | exact h.elim
theorem EntOk.sz {y : Sy} {x : T} (h : EntOk y x) : x.sz ≤ 3 := by
  cases x with
  | s2 f l r => simp [T.sz, T.sz_leaf h.2.1.dep, T.sz_leaf h.2.2.dep]
  | s1 f x => exact h.elim
  | v _ => simp [T.sz]
  | a _ => simp [T.sz]
  | i _ => simp [T.sz]
theorem listT_facts {y : Sy} {k : Nat} (y2 : Y2 k y) {e : T} (he : EndOk e) (es : List T) (h : ∀ x, x ∈ es → EntOk y x) : (listT es e).ok y ∧ (listT es e).dep ≤ es.length + 1 ∧ (listT es e).sz ≤ 4 * es.length + 1 := by
  induction es with
  | nil => exact ⟨he.ok, by simp only [show listT [] e = e from rfl, he.dep]; lia -abstractProof, by simp only [show listT [] e = e from rfl, T.sz_leaf he.dep]; lia -abstractProof⟩
  | cons x es ih =>
    obtain ⟨a, b, c⟩ := ih fun z hz => h z (List.mem_cons_of_mem _ hz)
    have hx := h x (by simp)
    have hd := hx.dep
    have hs := hx.sz
    refine ⟨⟨y2.a0, hx.ok y2.a10 y2.a13, a⟩, ?_, ?_⟩
    · show max x.dep (listT es e).dep + 1 ≤ es.length + 1 + 1; lia -abstractProof
    · show 1 + x.sz + (listT es e).sz ≤ 4 * (es.length + 1) + 1; lia -abstractProof
theorem num_tx {y : Sy} (h : YOk y) {n : Int} (h0 : 0 ≤ n) (h1 : n.toNat < y.texts.length) : y.num (y.tx n) = n ∧ y.tx n ∈ y.texts := by
  have e : y.tx n = y.texts[n.toNat] := by unfold Sy.tx; rw [List.getElem?_eq_getElem h1]; rfl
  refine ⟨?_, by simp only [e]; exact List.getElem_mem h1⟩
  unfold Sy.num; rw [e, h.nd.idxOf_getElem _ h1]; lia -abstractProof
section
variable {B : Bs} {n : Nat} {X : V → List AO → Prop} {σ : List AO} {Q : V → List AO → Prop} {G : Gs} {m : Loc}
theorem OP_neSame {l : List V} (h1 : pureV 40 (.tup l) = true) (h : Q (.bool false) σ) : OP2 B n X (.tup l) (.tup l) σ (compareOp .NotEq) Q := by
  refine OP_neV h1 h1 ?_
  rw [veqs_iff.mpr rfl]; exact h
theorem pure_err (t : T) (h : t.dep ≤ 18) : pureV 40 (.tup [.str "error", t.toV]) = true := by
  have := T.pure t 39 (by lia -abstractProof)
  show (true && (pureV 39 t.toV && true)) = true
  rw [this]; rfl
end
noncomputable def LL (v : List (Option V)) : Loc := List.zipWith (fun (x : Str) o => (x, o)) [("script" : Str), "pool", "names", "ties", "place", "kind", "tie", "numbers", "_", "root", "entries", "end", "m", "cells", "tree", "option", "before", "due", "value", "pairs", "entry", "word", "rows", "made", "kept"] v
noncomputable def gL : Gs := ⟨["Symbols", "_law_draw", "range", "_law_end", "len", "A_NIL", "Areas", "INT", "_law_list", "list", "_law_due", "_law_shown", "_law_told", "F_EQUAL", "is_variable_name", "_law_fits", "pair_cells", "sorted"], ["pool", "names", "kept", "numbers"], []⟩
noncomputable def lQT : V → List AO → Prop := fun v z_ => v = .bool true
noncomputable def lQ : AF → Loc → List AO → Prop := fun af z_ σ' => match af with | .ret v => lQT v σ' | .nxt => lQT .none σ' | _ => False
noncomputable def lB : List Stmt := fnB (top 56)
structure LF (ties : List T) (R : Int → T) (rs : List Int) (es : List T) (e : T) : Prop where
  rt : RT ties R
  nd : rs.Nodup
  rr : ∀ r, r ∈ rs → 0 ≤ r ∧ r < 5 ∧ R r = .v r
  rl : rs.length ≤ 5
  el : es.length ≤ 5
  he : EndOk e
structure LS (y : Sy) (H : List Cl) (R : Int → T) (ties : List T) (rs : List Int) (es : List T) (σ : List AO) : Prop where
  hy : SyAt y σ
  y2 : Y2 200 y
  st : StAt H σ
  ar : σ[11]? = some (.inst 597 areasFs)
  c19 : σ[19]? = some (.dI cellsT)
  n8 : σ[8]? = some (.dI (numL rs 0))
  e9 : σ[9]? = some (.list (es.map T.toV))
  ti : TiesAt ties σ
  h20 : 20 ≤ σ.length
  ht : HT R H
  h5 : 5 ≤ H.length
  eok : ∀ x, x ∈ es → EntOk y x
theorem LS.next {y y' : Sy} {H H' : List Cl} {R : Int → T} {ties : List T} {rs : List Int} {es : List T} {σ σ' : List AO} {D : List Nat} (l : LS y H R ties rs es σ) (k : Kp D σ σ') (h : 7 ∉ D ∧ 8 ∉ D ∧ 9 ∉ D ∧ 11 ∉ D ∧ 19 ∉ D) (hy : SyAt y' σ') (y2 : Y2 200 y') (st : StAt H' σ') (ht : HT R H') (h5 : 5 ≤ H'.length) (hp : Pre y y') : LS y' H' R ties rs es σ' :=
  ⟨hy, y2, st, k.get l.ar h.2.2.2.1, k.get l.c19 h.2.2.2.2, k.get l.n8 h.2.1, k.get l.e9 h.2.2.1, l.ti.kp k h.1, Nat.le_trans l.h20 k.1, ht, h5, fun x hx => (l.eok x hx).mono hp.len⟩
theorem LS.same {y : Sy} {H : List Cl} {R : Int → T} {ties : List T} {rs : List Int} {es : List T} {σ σ' : List AO} (l : LS y H R ties rs es σ) (k : Kp [] σ σ') : LS y H R ties rs es σ' :=
  l.next k (by decide) (l.hy.kp k (by decide)) l.y2 (l.st.kp k (by decide)) l.ht l.h5 (.refl y)
structure OC (y : Sy) (H : List Cl) (R : Int → T) (oc : Cl) (tree : T) : Prop where
  der : Der H oc oc
  rep : ∃ Lo, Rep H R oc tree Lo ∧ Lo.Nodup
  ok : tree.ok y
  sz : 3 * tree.sz ≤ 3900
theorem T.ok.mono {y y' : Sy} (h : ∀ f k, Ar y f k → Ar y' f k) {t : T} (q : t.ok y) : t.ok y' := by
  induction t with
  | v _ => exact q
  | a _ => exact trivial
  | i _ => exact trivial
  | s1 _ x ih => exact ⟨q.1, h _ _ q.2.1, ih q.2.2⟩
  | s2 _ x z ih ih2 => exact ⟨h _ _ q.1, ih q.2.1, ih2 q.2.2⟩
theorem OC.mono {y y' : Sy} {H H' : List Cl} {R : Int → T} {oc : Cl} {tree : T} (o : OC y H R oc tree) (hy : ∀ f k, Ar y f k → Ar y' f k) (hH : ∀ (i : Nat) (z : Cl), H[i]? = some z → H'[i]? = some z) : OC y' H' R oc tree := by
  obtain ⟨Lo, r, nd⟩ := o.rep
  exact ⟨o.der.mono hH, ⟨Lo, r.mono hH, nd⟩, o.ok.mono hy, o.sz⟩
noncomputable def rows3 (fw : Int → Option Str) (ns : List Int) : List (Str × Int) := ns.filterMap fun root => (fw root).map fun w => (w, root)
noncomputable def rowV (p : Str × Int) : V := .tup [.str p.1, .int p.2]
section
variable {B : Bs} {n : Nat} {X : V → List AO → Prop} {σ : List AO} {Q : V → List AO → Prop} {G : Gs} {m : Loc}
theorem fwL_mem {y : Sy} {R : Int → T} {es : List T} {root : Int} {w : Str} (h : fwL y R es root = some w) : ∃ e, e ∈ es ∧ y.tx (lnum e) = w := by
  unfold fwL wordsL at h
  obtain ⟨e, he, rfl⟩ := List.mem_map.mp (List.mem_of_mem_head? h)
  exact ⟨e, (List.mem_filter.mp he).1, rfl⟩
theorem rows3_look {y : Sy} (yo : YOk y) {R : Int → T} {rs ns : List Int} {ps : List T} (rr : ∀ r, r ∈ rs → 0 ≤ r ∧ r < 5 ∧ R r = .v r) (pm : ns.Perm rs) (nd : rs.Nodup)
    (hm : ∀ root w, fwL y R ps root = some w → w ∈ y.texts) : ∀ q, look y R rs ((rows3 (fwL y R ps) ns).map (rowT y)) q = look y R rs ps q := by
  have nns : ns.Nodup := pm.nodup_iff.mpr nd
  have key : ∀ root, root ∈ rs → fwL y R ((rows3 (fwL y R ps) ns).map (rowT y)) root = fwL y R ps root := by
    intro root hroot
    have hin : ∀ z, z ∈ ns → z ∈ rs := fun z hz => pm.mem_iff.mp hz
    have hmr : root ∈ ns := pm.mem_iff.mpr hroot
    clear pm nd
    induction ns with
    | nil => simp at hmr
    | cons a t ih =>
      rw [List.nodup_cons] at nns
      have ha := hin a (by simp)
      by_cases e : a = root
      · subst e
        have tl : fwL y R ((rows3 (fwL y R ps) t).map (rowT y)) a = none := by
          have : ∀ t : List Int, a ∉ t → (∀ z, z ∈ t → z ∈ rs) → fwL y R ((rows3 (fwL y R ps) t).map (rowT y)) a = none := by
            intro t
            induction t with
            | nil => intro _ _; rfl
            | cons b t ih2 =>
              intro hn hin
              simp only [List.mem_cons, not_or] at hn
              have hb := rr b (hin b (by simp))
              unfold rows3
              rw [List.filterMap_cons]
              cases hf : fwL y R ps b with
              | none => exact ih2 hn.2 fun z hz => hin z (by simp [hz])
              | some w =>
                simp only [Option.map_some, List.map_cons]
                rw [fwL_cons, if_neg]
                · exact ih2 hn.2 fun z hz => hin z (by simp [hz])
                · show ¬ R b = .v a
                  rw [hb.2.2]; intro q; injection q with q; exact hn.1 q.symm
          exact this t nns.1 fun z hz => hin z (by simp [hz])
        unfold rows3 at tl ⊢
        rw [List.filterMap_cons]
        cases hf : fwL y R ps a with
        | none => simp only [Option.map_none]; exact tl
        | some w =>
          simp only [Option.map_some, List.map_cons]
          have mw := hm a w hf
          rw [fwL_cons, if_pos (c := endT R (rightT (rowT y (w, a))) = .v a) (rr a ha).2.2]
          show some (y.tx (y.num w)) = some w
          have : y.tx (y.num w) = w := by
            unfold Sy.tx Sy.num
            simp only [Int.toNat_natCast, List.getElem?_eq_getElem (List.idxOf_lt_length_of_mem mw), List.getElem_idxOf]; rfl
          rw [this]
      · have hb := rr a ha
        have hmr' : root ∈ t := by
          rcases List.mem_cons.mp hmr with q | q
          · exact absurd q.symm e
          · exact q
        have := ih nns.2 (fun z hz => hin z (by simp [hz])) hmr'
        unfold rows3 at this ⊢
        rw [List.filterMap_cons]
        cases hf : fwL y R ps a with
        | none => simp only [Option.map_none]; exact this
        | some w =>
          simp only [Option.map_some, List.map_cons]
          rw [fwL_cons, if_neg]
          · exact this
          · show ¬ R a = .v root
            rw [hb.2.2]; intro q; injection q with q; exact e q
  intro q
  unfold look
  split
  · split
    · rename_i root hr
      rw [key root (List.mem_of_getElem? hr)]
    · rfl
  · rfl
end
section
variable {B : Bs} {n : Nat} {X : V → List AO → Prop} {σ : List AO} {Q : V → List AO → Prop} {G : Gs} {m : Loc}
theorem CA_told3 (P : PF B) (x : XP B) {y : Sy} {H : List Cl} {R : Int → T} {ties : List T} (rt : RT ties R) {rs : List Int} {es0 : List T} (ls : LS y H R ties rs es0 σ) {oc vc : Cl} {tree e : T} {es : List T} {L : List Nat} (o : OC y H R oc tree) (rep : Rep H R vc (listT es e) L) (nd : L.Nodup) (zes : es.length ≤ 900) (hes : ∀ x, x ∈ es → EntOk y x) (hend : EndOk e)
    (h0 : dueFl y R e es = [] → ∀ σ' d, Kp [] σ σ' → σ.length ≤ d → σ'[d]? = some (.dI (chosenL y R rs es)) → Q (.tup [.str "names", .ref d]) σ')
    (h1 : ∀ t, dueFl y R e es = ("lacks" : Str) :: t → ∀ σ', Kp [3, 4, 5, 6] σ σ' → SyAt (dueInst y) σ' → Q (.tup [.str "error", vSys (fInst y)]) σ')
    (h2 : ∀ t, dueFl y R e es = ("wrong" : Str) :: t → ∀ σ', Kp [3, 4, 5, 6] σ σ' → SyAt ((y.atom "write_option").func "domain_error" 2) σ' → Q (.tup [.str "error", domBall y (sh R tree []).1.toV]) σ') :
    CA B (n + 7) X (.ref 672) [.ref 11, cellV oc, cellV vc, .ref 8] σ Q := by
  refine shut fun P_ o_ => ?_
  obtain ⟨c', its, tl, ads, dc, lc, hl, hi, ht, htd, -⟩ := rep_lc rt hend es vc L rep nd hes
  obtain ⟨Lo, orep, ond⟩ := o.rep
  refine o_ ?_
  have z1 := ls.y2.zt
  have z2 := ls.y2.zf
  exact CA_told P x (CA_chosen (n := n) P x rt ls.hy ls.y2.ok (by lia -abstractProof) (by lia -abstractProof) ls.h20 ls.ar ls.st ls.n8 o.der orep o.ok ond o.sz dc lc hl zes hes hend hi ht htd h0 h1 h2)
noncomputable def LA (a : Addr) (o4 o5 o6 o8 o9 : Option V) (e : V) (rest : List (Option V)) : Loc := LL ([some (.ext a), some (.ref 1), some (.ref 2), some (.ref 7), o4, o5, o6, some (.ref 8), o8, o9, some (.ref 9), some e, some (.ref 11), some (.ref 19)] ++ rest)
theorem law_p5 (P : PF B) (x : XP B) {a : Addr} {o4 o5 o6 o8 o9 o16 o18 o19 o20 o21 o22 o23 o24 : Option V} {ev tv : V} {y : Sy} {H : List Cl} {R : Int → T} {ties : List T} {rs : List Int} {es ps : List T} {e tree : T} {oc : Cl} {d : Nat} (lf : LF ties R rs es e) (ls : LS y H R ties rs es σ) (o : OC y H R oc tree) (hz : H.length ≤ 1000)
    (hps : ∀ p, p ∈ ps → ∃ nn k, p = .s2 10 (.a nn) (.v k) ∧ fits (y.tx nn) = true ∧ 0 ≤ nn ∧ nn.toNat < y.texts.length) (hd : σ[d]? = some (.dI (keptL (fwL y R ps) rs 0))) :
    EXs B (n + 8) X gL (LA a o4 o5 o6 o8 o9 ev [some tv, some (cellV oc), o16, some (.tup [.str "names", .ref d]), o18, o19, o20, o21, o22, o23, o24]) σ (lB.drop 27) lQ := by
  have hnd := idx_lt hd
  refine EXs_next (EX_assign (EV_snd (mI 17 rfl) ⟨_, (uI 24 rfl), rfl, ?_⟩))
  have dk : (numL rs 0).map (·.1) = rs := by
    have : ∀ (l : List Int) (k : Nat), (numL l k).map (·.1) = l := by
      intro l; induction l with
      | nil => intro k; rfl
      | cons u t ih => intro k; show u :: _ = _; rw [ih]
    exact this rs 0
  have fwm : ∀ root w, fwL y R ps root = some w → w ∈ y.texts ∧ fits w = true := by
    intro root w hw
    obtain ⟨z, hz, rfl⟩ := fwL_mem hw
    refine shut fun P_ o_ => ?_
    obtain ⟨nn, k, rfl, hf, h0, h1⟩ := hps z hz
    refine o_ ?_
    exact ⟨(num_tx ls.y2.ok h0 h1).2, hf⟩
  refine EXs_next (EX_compE (cap := ["kept", "numbers"]) ⟨[], [], []⟩ [(("kept" : Str), some (V.ref d)), (("numbers" : Str), some (V.ref 8))] (by decide +kernel) (by decide) rfl (subC (mI 24 rfl) (subC (mI 7 rfl) subN)) ?_)
  refine IE_of (EV_callB (mI 17 rfl) P.n_sorted bt_sorted (by decide) (fun h => keeps_builtin _ _ h) rfl (EV_name (v := .ref 8) (mI 7 rfl) (OP_sortedI ls.n8 (by rw [numL_len]; have := lf.rl; lia -abstractProof) fun ns pm srt => ?_)))
  rw [dk] at pm
  have hin : ∀ z, z ∈ ns → z ∈ rs := fun z hz => pm.mem_iff.mp hz
  have nsl : ns.length ≤ 5 := by rw [pm.length_eq]; exact lf.rl
  have kS : Kp [] σ (σ ++ [AO.list (ns.map V.int)]) := .app
  refine ⟨_, _, ITER_list get_app, (fun k acc σ' => σ' = σ ++ [AO.list (ns.map V.int)] ∧ acc = (rows3 (fwL y R ps) (ns.take k)).map rowV), by rw [List.length_map]; lia -abstractProof, ⟨rfl, rfl⟩, fun _ _ _ _ ⟨e, _⟩ => e ▸ get_app, ?_, ?_⟩
  · rintro k acc σ' v hv ⟨rfl, rfl⟩
    rw [List.getElem?_map] at hv
    obtain ⟨root, hroot, rfl⟩ := Option.map_eq_some_iff.mp hv
    have hm := hin root (List.mem_of_getElem? hroot)
    have hat : at? (numL rs 0) root = some (.int ((rs.idxOf root : Nat) : Int)) := by rw [numL_at, if_pos hm, Nat.zero_add]
    have hk : at? (keptL (fwL y R ps) rs 0) ((rs.idxOf root : Nat) : Int) = (fwL y R ps root).map V.str := by
      rw [kept_look]; unfold look
      rw [if_pos (by lia -abstractProof), Int.toNat_natCast, List.getElem?_eq_getElem (List.idxOf_lt_length_of_mem hm), List.getElem_idxOf]
    have e3 : rows3 (fwL y R ps) (ns.take (k + 1)) = rows3 (fwL y R ps) (ns.take k) ++ ((fwL y R ps root).map fun w => (w, root)).toList := by
      unfold rows3
      simp only [List.take_add_one, hroot, List.filterMap_append]
      cases hf : fwL y R ps root <;> simp [hf]
    have n8' := kS.get ls.n8 List.not_mem_nil
    have hd' := kS.get hd List.not_mem_nil
    refine TE_cmp (EV_sub (EV_name (v := .ref 8) (mI 2 rfl) (EV_name (v := .int root) (mI 0 rfl) (SUB_dI n8' hat (EV_name (v := .ref d) (mI 1 rfl) (OP_inI hd' ⟨_, rfl, fun q => ?_, fun q => ?_⟩))))))
    · rw [hk] at q
      cases hf : fwL y R ps root with
      | none => rw [hf] at q; simp at q
      | some w =>
        rw [hf] at hk e3
        refine EV_tuple rfl (by decide) (EV_sub (EV_name (v := .ref d) (mI 1 rfl) (EV_sub (EV_name (v := .ref 8) (mI 2 rfl) (EV_name (v := .int root) (mI 0 rfl) (SUB_dI n8' hat (SUB_dI hd' hk (EV_name (v := .int root) (mI 0 rfl) ⟨rfl, ?_⟩))))))))
        simp only [e3]; simp [rowV]
    · rw [hk] at q
      cases hf : fwL y R ps root with
      | none => rw [hf] at e3; exact ⟨rfl, by simp only [e3]; simp⟩
      | some w => rw [hf] at q; simp at q
  rintro acc σ' ⟨rfl, rfl⟩
  rw [List.length_map, List.take_length]
  refine ⟨_, (uI 22 rfl), rfl, ?_⟩
  have rl : (rows3 (fwL y R ps) ns).length ≤ 5 := by
    have := List.length_filterMap_le (fun root => (fwL y R ps root).map fun w => (w, root)) ns
    unfold rows3; lia -abstractProof
  have rm : ∀ p, p ∈ rows3 (fwL y R ps) ns → (p.1 ∈ y.texts ∧ fits p.1 = true) ∧ 0 ≤ p.2 ∧ p.2 < 5 := by
    intro p hp
    obtain ⟨root, hr, hp⟩ := List.mem_filterMap.mp hp
    obtain ⟨w, hw, rfl⟩ := Option.map_eq_some_iff.mp hp
    have := lf.rr root (hin root hr)
    exact ⟨fwm root w hw, this.1, this.2.1⟩
  have kT : Kp [] σ (σ ++ [AO.list (ns.map V.int)] ++ [.list ((rows3 (fwL y R ps) ns).map rowV)]) := kS.trans .app
  have hr2 : (σ ++ [AO.list (ns.map V.int)] ++ [.list ((rows3 (fwL y R ps) ns).map rowV)])[(σ ++ [AO.list (ns.map V.int)]).length]? = some (.list ((rows3 (fwL y R ps) ns).map fun p => V.tup [.str p.1, .int p.2])) := get_app
  have hni : 20 ≤ (σ ++ [AO.list (ns.map V.int)]).length := by have := ls.h20; simp; lia -abstractProof
  have ls2 := ls.same kT
  generalize σ ++ [AO.list (ns.map V.int)] ++ [.list ((rows3 (fwL y R ps) ns).map rowV)] = σ₂ at kT hr2 ls2 ⊢
  generalize (σ ++ [AO.list (ns.map V.int)]).length = ni at hr2 hni ⊢
  have z1 := ls.y2.zt
  refine EXs_next (EX_assign (EV_call (mI 16 rfl) P.g_pair_cells P.k_pair_cells rfl (EV_name (v := .ref 11) (mI 12 rfl) (EV_name (v := .ref ni) (mI 22 rfl) (EV_name (v := .ref 19) (mI 13 rfl) (CA.op (CA_pair_cells (n := n + 3) P ls2.st ls2.hy (by lia -abstractProof) ls2.ar ls2.c19 ls2.ht ls2.h5 hr2 (by simp; lia -abstractProof) (fun p hp => ⟨(rm p hp).1.1, (rm p hp).2⟩) ls2.y2.a10 (by lia -abstractProof) fun σ₃ H' vc L k₃ y₃ s₃ t₃ rep nd hl hext => ⟨_, (uI 23 rfl), rfl, ?_⟩)))))))
  have ls3 : LS y H' R ties rs es σ₃ := ls2.next k₃ (by decide) y₃ ls2.y2 s₃ t₃ (by
    have h4 := ls2.h5
    have := (List.getElem?_eq_some_iff.mp (hext 4 _ (List.getElem?_eq_getElem (by lia -abstractProof)))).1
    lia -abstractProof) (.refl y)
  have o3 := o.mono (fun z_ z_ h => h) hext
  have dnone : dueFl y R (.a 0) ((rows3 (fwL y R ps) ns).map (rowT y)) = [] := by
    refine dueFl_none rfl fun z hz => ?_
    obtain ⟨p, hp, rfl⟩ := List.mem_map.mp hz
    obtain ⟨⟨h1, h2⟩, -⟩ := rm p hp
    have : y.tx (y.num p.1) = p.1 := by
      unfold Sy.tx Sy.num
      simp only [Int.toNat_natCast, List.getElem?_eq_getElem (List.idxOf_lt_length_of_mem h1), List.getElem_idxOf]; rfl
    exact if_pos (c := fits (y.tx (y.num p.1)) = true) (by rw [this]; exact h2)
  have same := names_same y R lf.nd (es := (rows3 (fwL y R ps) ns).map (rowT y)) (es' := ps) (rows3_look ls.y2.ok lf.rr pm lf.nd fun root w h => (fwm root w h).1)
  refine EXs_last (EX_ret (EV_cmp (EV_call (mI 12 rfl) P.g_law_told P.k_law_told rfl (EV_name (v := .ref 11) (mI 12 rfl) (EV_name (v := cellV oc) (mI 15 rfl) (EV_name (v := cellV vc) (mI 23 rfl) (EV_name (v := .ref 8) (mI 7 rfl) (CA.op ?_))))))))
  refine CA_told3 (n := n + 1) P x lf.rt ls3 o3 rep nd (by rw [List.length_map]; lia -abstractProof) (fun z hz => ?_) rfl (fun z_ σ₄ d' k₄ hd' at4 => ?_) (fun t ht => absurd (dnone.symm.trans ht) (by simp)) (fun t ht => absurd (dnone.symm.trans ht) (by simp))
  · obtain ⟨p, hp, rfl⟩ := List.mem_map.mp hz
    obtain ⟨⟨h1, -⟩, h2⟩ := rm p hp
    refine ⟨.inl rfl, ⟨by unfold Sy.num; lia -abstractProof, ?_⟩, h2⟩
    unfold Sy.num; simp only [Int.toNat_natCast]; exact List.idxOf_lt_length_of_mem h1
  · have hd4 : σ₄[d]? = some (.dI (keptL (fwL y R ps) rs 0)) := by
      have d19 : d ∉ [3, 4, 13] := by
        intro q
        have e5 : d = 3 ∨ d = 4 ∨ d = 13 := by simpa using q
        rcases e5 with rfl | rfl | rfl
        · rw [ls.hy.t] at hd; cases hd
        · rw [ls.hy.a] at hd; cases hd
        · rw [ls.st.h] at hd; cases hd
      exact k₄.get (k₃.get (kT.get hd (by simp)) d19) (by simp)
    have hdd : d' ≠ d := by have := k₃.1; have := kT.1; lia -abstractProof
    refine EV_name (v := .tup [.str "names", .ref d]) (mI 17 rfl) (OP_eqTD at4 hd4 hdd (fun p hp => ?_) (fun p hp => ?_) same.1 same.2 ?_)
    · obtain ⟨w, e⟩ := chosen_pure y R rs _ [] (by simp) p hp
      rw [e]; rfl
    · obtain ⟨w, e⟩ := (keptL_lt _ _ _ p hp).2.2
      rw [e]; rfl
    · rfl
end
noncomputable def goodE (y : Sy) : T → Bool
  | .s2 f (.a n) (.v _) => f == 10 && fits (y.tx n)
  | _ => false
noncomputable def rowOf (y : Sy) : T → Str × Int
  | .s2 _ (.a n) (.v k) => (y.tx n, k)
  | _ => ("", 0)
theorem goodE_of {y : Sy} {x : T} (h : EntOk y x) (g : goodE y x = true) : ∃ nn k, x = .s2 10 (.a nn) (.v k) ∧ fits (y.tx nn) = true ∧ 0 ≤ nn ∧ nn.toNat < y.texts.length ∧ 0 ≤ k ∧ k < 5 := by
  cases x with
  | s2 f l r =>
    cases l with
    | a n =>
      cases r with
      | v k =>
        simp only [goodE, Bool.and_eq_true, beq_iff_eq] at g
        obtain ⟨rfl, g⟩ := g
        exact ⟨n, k, rfl, g, h.2.1.1, h.2.1.2, h.2.2.1, h.2.2.2⟩
      | a k => exact Bool.noConfusion g
      | i k => exact Bool.noConfusion g
      | s1 f x => exact Bool.noConfusion g
      | s2 f x z => exact Bool.noConfusion g
    | v k => exact Bool.noConfusion g
    | i k => exact Bool.noConfusion g
    | s1 f x => exact Bool.noConfusion g
    | s2 f x z => exact Bool.noConfusion g
  | v k => exact Bool.noConfusion g
  | a k => exact Bool.noConfusion g
  | i k => exact Bool.noConfusion g
  | s1 f x => exact Bool.noConfusion g
theorem list_self {H : List Cl} {R : Int → T} {vc : Cl} {es : List T} {L : List Nat} (h : Rep H R vc (listT es (.a 0)) L) : Der H vc vc := by
  cases es with
  | nil => cases h; exact .val (by decide) (by decide)
  | cons x es =>
    cases h with
    | @s2 _ _ _ p => exact .val (by decide) (by decide)
theorem Kp.fresh {σ σ' : List AO} {o : AO} (k : Kp [σ.length] (σ ++ [o]) σ') : Kp [] σ σ' :=
  ⟨by have := k.1; simp at this; lia -abstractProof, fun i hi z_ => by rw [k.2 i (by simp; lia -abstractProof) (by simp; lia -abstractProof), List.getElem?_append_left hi]⟩
section
variable {B : Bs} {n : Nat} {X : V → List AO → Prop} {σ : List AO} {Q : V → List AO → Prop} {G : Gs} {m : Loc}
theorem OP_neB {x y : Bool} (h : Q (.bool (x != y)) σ) : OP2 B n X (.bool x) (.bool y) σ (compareOp .NotEq) Q := fun A μ s va vb O ha hb => by
  have := VR_bool_of ha; subst this
  have := VR_bool_of hb; subst this
  show wpAny _ _ _ _ _ _
  refine PyProof.Rows.ne_bool ?_
  exact fin_same O.rel VR_bool h
theorem SUB_kind {t : T} (h : Q (.str t.kind) σ) : SUB B n X t.toV (.int 0) σ Q := by
  cases t <;> exact SUB_tup (k := 0) (by decide) rfl h
theorem law_p4b (P : PF B) (x : XP B) {a : Addr} {o4 o5 o6 o8 o9 o16 o17 o18 o20 o21 o22 o23 o24 : Option V} {ev : V} {y : Sy} {H : List Cl} {R : Int → T} {ties : List T} {rs : List Int} {es ps : List T} {e tree : T} {oc : Cl} {pi : Nat} (lf : LF ties R rs es e) (ls : LS y H R ties rs es σ) (o : OC y H R oc tree) (hz : H.length ≤ 500) (hpi : 20 ≤ pi)
    (hp : σ[pi]? = some (.list (ps.map T.toV))) (pl : ps.length ≤ 5) (hps : ∀ z, z ∈ ps → EntOk y z ∧ goodE y z = true) :
    EXs B (n + 8) X gL (LA a o4 o5 o6 o8 o9 ev [some tree.toV, some (cellV oc), o16, o17, o18, some (.ref pi), o20, o21, o22, o23, o24]) σ (lB.drop 22) lQ := by
  refine shut fun P_ o_ => ?_
  obtain ⟨tN, gN⟩ := P.i_A_NIL
  refine o_ ?_
  have form : ∀ z, z ∈ ps → ∃ nn k, z = .s2 10 (.a nn) (.v k) ∧ fits (y.tx nn) = true ∧ 0 ≤ nn ∧ nn.toNat < y.texts.length ∧ 0 ≤ k ∧ k < 5 := fun z hz => goodE_of (hps z hz).1 (hps z hz).2
  refine EXs_next (EX_comp (cap := ["names"]) ⟨[], [], []⟩ [(("names" : Str), some (V.ref 2))] (by decide +kernel) (by decide) rfl (subC (mI 2 rfl) subN)
    (fun k acc σ' => σ' = σ ∧ acc = (ps.take k).map fun z => rowV (rowOf y z)) ?_)
  refine IE_of (EV_name (v := .ref pi) (mI 19 rfl) ⟨_, _, ITER_list hp, by rw [List.length_map]; lia -abstractProof, ⟨rfl, rfl⟩, fun _ _ _ _ ⟨e, _⟩ => e ▸ hp, ?_, ?_⟩)
  · rintro k acc σ' v hv ⟨rfl, rfl⟩
    rw [List.getElem?_map] at hv
    refine shut fun P_ o_ => ?_
    obtain ⟨z, hzk, rfl⟩ := Option.map_eq_some_iff.mp hv
    obtain ⟨nn, kk, rfl, -, n0, n1, -, -⟩ := form z (List.mem_of_getElem? hzk)
    refine o_ ?_
    have hk : y.texts[nn.toNat]? = some (y.tx nn) := by unfold Sy.tx; rw [List.getElem?_eq_getElem n1]; rfl
    refine ⟨fun z_ => ?_, fun q => by cases q⟩
    refine EV_tuple rfl (by decide) (EV_ym P (mI 1 rfl) ls.hy P.m_Symbols_text (by decide) rfl (by decide) rfl (EV_sub (EV_sub (EV_trd (mI 0 rfl) (EV_int (SUB_tup (k := 0) (x := T.toV (.a nn)) (by decide) rfl (EV_int (SUB_tup (k := 1) (x := .int nn) (by decide) rfl (CA.op (CA_textI P ls.hy n0 hk ?_))))))))))
    refine EV_sub (EV_sub (EV_trd (mI 0 rfl) (EV_int (SUB_tup (k := 1) (x := T.toV (.v kk)) (by decide) rfl (EV_int (SUB_tup (k := 1) (x := .int kk) (by decide) rfl ⟨rfl, ?_⟩))))))
    simp only [List.take_add_one, hzk]; simp [rowV, rowOf]
  rintro acc σ' ⟨rfl, rfl⟩
  rw [List.length_map, List.take_length]
  refine ⟨_, (uI 22 rfl), rfl, ?_⟩
  have e1 : (ps.map fun z => rowV (rowOf y z)) = (ps.map (rowOf y)).map fun p => V.tup [.str p.1, .int p.2] := by simp only [List.map_map]; rfl
  rw [e1]
  have kT : Kp [] σ' (σ' ++ [AO.list ((ps.map (rowOf y)).map fun p => V.tup [.str p.1, .int p.2])]) := .app
  have hr2 : (σ' ++ [AO.list ((ps.map (rowOf y)).map fun p => V.tup [.str p.1, .int p.2])])[σ'.length]? = some (.list ((ps.map (rowOf y)).map fun p => V.tup [.str p.1, .int p.2])) := get_app
  have hni := ls.h20
  have ls2 := ls.same kT
  have hp2 := kT.get hp List.not_mem_nil
  generalize σ' ++ [AO.list ((ps.map (rowOf y)).map fun p => V.tup [.str p.1, .int p.2])] = σ₂ at kT hr2 ls2 hp2 ⊢
  generalize σ'.length = ni at hr2 hni ⊢
  have z1 := ls.y2.zt
  have z2 := ls.y2.zf
  have rm : ∀ p, p ∈ ps.map (rowOf y) → p.1 ∈ y.texts ∧ 0 ≤ p.2 ∧ p.2 < 5 := by
    intro p hp
    refine shut fun P_ o_ => ?_
    obtain ⟨z, hz, rfl⟩ := List.mem_map.mp hp
    obtain ⟨nn, kk, rfl, -, n0, n1, k0, k5⟩ := form z hz
    refine o_ ?_
    exact ⟨(num_tx ls.y2.ok n0 n1).2, k0, k5⟩
  have em : (ps.map (rowOf y)).map (rowT y) = ps := by
    rw [List.map_map]
    conv => rhs; rw [← List.map_id ps]
    refine List.map_congr_left fun z hz => ?_
    refine shut fun P_ o_ => ?_
    obtain ⟨nn, kk, rfl, -, n0, n1, k0, k5⟩ := form z hz
    refine o_ ?_
    show T.s2 10 (.a (y.num (y.tx nn))) (.v kk) = _
    rw [(num_tx ls.y2.ok n0 n1).1]; rfl
  have rl : (ps.map (rowOf y)).length ≤ 5 := by rw [List.length_map]; exact pl
  refine EXs_next (EX_assign (EV_call (mI 16 rfl) P.g_pair_cells P.k_pair_cells rfl (EV_name (v := .ref 11) (mI 12 rfl) (EV_name (v := .ref ni) (mI 22 rfl) (EV_name (v := .ref 19) (mI 13 rfl) (CA.op (CA_pair_cells (n := n + 3) P ls2.st ls2.hy (by lia -abstractProof) ls2.ar ls2.c19 ls2.ht ls2.h5 hr2 (by simp; lia -abstractProof) rm ls2.y2.a10 (by lia -abstractProof) fun σ₃ H' vc L k₃ y₃ s₃ t₃ rep nd hl hext => ⟨_, (uI 23 rfl), rfl, ?_⟩)))))))
  rw [em] at rep
  have ls3 : LS y H' R ties rs es σ₃ := ls2.next k₃ (by decide) y₃ ls2.y2 s₃ t₃ (by
    have h4 := ls2.h5
    have := (List.getElem?_eq_some_iff.mp (hext 4 _ (List.getElem?_eq_getElem (by lia -abstractProof)))).1
    lia -abstractProof) (.refl y)
  have o3 := o.mono (fun z_ z_ h => h) hext
  have hp3 : σ₃[pi]? = some (.list (ps.map T.toV)) := k₃.get hp2 (by simp; lia -abstractProof)
  clear hr2 kT ls2 hp2 k₃ s₃ t₃
  have pe : ∀ z, z ∈ ps → EntOk y z := fun z hz => (hps z hz).1
  refine shut fun P_ o_ => ?_
  obtain ⟨lok, ldep, lsz⟩ := listT_facts ls.y2 (e := .a 0) rfl ps pe
  refine o_ ?_
  refine EXs_cons (EX_if (TE_cmp (EV_imeth rfl (by decide) rfl (EV_name (v := .ref 11) (mI 12 rfl) ⟨11, 597, _, _, rfl, ls3.ar, P.c_Areas, P.m_Areas_take, by decide +kernel, ?_⟩))))
  refine EV_name (v := cellV vc) (mI 23 rfl) (CA.op (CA_take (n := n + 3) P lf.rt ls3.h20 ls3.ar ls3.st ls3.hy (list_self rep) rep lok nd (by lia -abstractProof) fun σ₄ k₄ => ?_))
  have ls4 := ls3.same k₄
  have hp4 : σ₄[pi]? = some (.list (ps.map T.toV)) := k₄.get hp3 List.not_mem_nil
  refine EV_call (mI 11 rfl) P.g_law_shown P.k_law_shown rfl (EV_call (mI 8 rfl) P.g_law_list P.k_law_list rfl (EV_name (v := .ref pi) (mI 19 rfl) (EV_tuple rfl (by decide) (EV_str (EV_gint (mI 5 rfl) gN (CA.op (CA_list (n := n + 7) (e := .a 0) P hp4 (by lia -abstractProof) fun σ₅ k₅ => ?_)))))))
  have ls5 := ls4.same k₅
  have ls5' := ls5.same (.app (t := [AO.list []]))
  refine EV_name (v := .ref 7) (mI 3 rfl) (EV_list rfl (by decide) (CA.op (shown_tail P lf.rt (by have := ls5.h20; lia -abstractProof) (listT ps (.a 0)) X (n + 8) (by lia -abstractProof) _ [] _ lok.wf ls5'.ti get_app (by simp; lia -abstractProof) fun σ₆ k₆ z_ => ?_)))
  have ls6 := ls5.same k₆.fresh
  have hp6 : σ₆[pi]? = some (.list (ps.map T.toV)) := k₆.fresh.get (k₅.get hp4 (by simp)) (by simp)
  have sd := sh_dep R lf.rt (listT ps (.a 0)) [] lok.wf
  refine OP_neT (by lia -abstractProof) (by lia -abstractProof) ⟨_, rfl, fun q => absurd q (by simp), fun z_ => ?_⟩
  refine EXs_nil ⟨fun z_ => ?_, fun q => absurd rfl q⟩
  clear hp3 hp4 ls3 ls4 ls5 ls5' k₄ k₅ k₆
  have dnone : dueFl y R (.a 0) ps = [] := by
    refine dueFl_none rfl fun z hz => ?_
    refine shut fun P_ o_ => ?_
    obtain ⟨nn, kk, rfl, hf, -⟩ := form z hz
    refine o_ ?_
    exact if_pos (c := fits (y.tx nn) = true) hf
  refine EXs_next (EX_assign (EV_call (mI 10 rfl) P.g_law_due P.k_law_due rfl (EV_name (v := .ref 2) (mI 2 rfl) (EV_name (v := .ref pi) (mI 19 rfl) (EV_tuple rfl (by decide) (EV_str (EV_gint (mI 5 rfl) gN (EV_name (v := .ref 7) (mI 3 rfl) (EV_name (v := .ref 8) (mI 7 rfl) (EV_name (v := tree.toV) (mI 14 rfl) (CA.op ?_)))))))))))
  refine CA_due (n := n + 4) (e := .a 0) P ls6.hy ls6.y2.ok (by lia -abstractProof) (by lia -abstractProof) ls6.ti lf.rt hp6 (by lia -abstractProof) pe rfl ls6.n8 (by have := lf.rl; lia -abstractProof) lf.nd (by lia -abstractProof) (fun z_ σ₇ d k₇ hd at7 => ⟨_, (uI 17 rfl), rfl, ?_⟩) (fun t ht => absurd (dnone.symm.trans ht) (by simp)) (fun t ht => absurd (dnone.symm.trans ht) (by simp))
  have ls7 := ls6.same k₇
  have same := names_same y R lf.nd (es := ps) (es' := ps) (fun z_ => rfl)
  refine EXs_cons (EX_if (TE_cmp (EV_call (mI 12 rfl) P.g_law_told P.k_law_told rfl (EV_name (v := .ref 11) (mI 12 rfl) (EV_name (v := cellV oc) (mI 15 rfl) (EV_name (v := cellV vc) (mI 23 rfl) (EV_name (v := .ref 8) (mI 7 rfl) (CA.op ?_))))))))
  refine CA_told3 (n := n + 1) P x lf.rt ls7 o3 rep nd (by lia -abstractProof) pe rfl (fun z_ σ₈ d' k₈ hd' at8 => ?_) (fun t ht => absurd (dnone.symm.trans ht) (by simp)) (fun t ht => absurd (dnone.symm.trans ht) (by simp))
  have at78 : σ₈[d]? = some (.dI (keptL (fwL y R ps) rs 0)) := k₈.get at7 List.not_mem_nil
  have hdd : d' ≠ d := by have := idx_lt at7; lia -abstractProof
  refine EV_name (v := .tup [.str "names", .ref d]) (mI 17 rfl) (OP_neTD at8 at78 hdd (fun p hp => ?_) (fun p hp => ?_) same.1 same.2 ⟨_, rfl, (fun q => by cases q), fun z_ => ?_⟩)
  · refine shut fun P_ o_ => ?_
    obtain ⟨w, e⟩ := chosen_pure y R rs _ [] (by simp) p hp
    refine o_ ?_
    rw [e]; rfl
  · refine shut fun P_ o_ => ?_
    obtain ⟨w, e⟩ := (keptL_lt _ _ _ p hp).2.2
    refine o_ ?_
    rw [e]; rfl
  refine EXs_nil ⟨fun z_ => ?_, fun q => absurd rfl q⟩
  exact law_p5 P x lf (ls7.same k₈) o3 (by lia -abstractProof) (fun p hp => by
    refine shut fun P_ o_ => ?_
    obtain ⟨nn, kk, e, hf, n0, n1, -⟩ := form p hp
    refine o_ ?_
    exact ⟨nn, kk, e, hf, n0, n1⟩) at78
theorem law_p4 (P : PF B) (x : XP B) {a : Addr} {o4 o5 o6 o8 o9 o16 o17 o18 o19 o20 o21 o22 o23 o24 : Option V} {ev : V} {y : Sy} {H : List Cl} {R : Int → T} {ties : List T} {rs : List Int} {es : List T} {e tree : T} {oc : Cl} (lf : LF ties R rs es e) (ls : LS y H R ties rs es σ) (o : OC y H R oc tree) (hz : H.length ≤ 500) :
    EXs B (n + 8) X gL (LA a o4 o5 o6 o8 o9 ev [some tree.toV, some (cellV oc), o16, o17, o18, o19, o20, o21, o22, o23, o24]) σ (lB.drop 20) lQ := by
  obtain ⟨tE, gE⟩ := P.i_F_EQUAL
  obtain ⟨tN, gN⟩ := P.i_A_NIL
  refine EXs_next (EX_assign (EV_list rfl (by decide) ⟨_, (uI 19 rfl), rfl, ?_⟩))
  have h20 := ls.h20
  have l0 : LS y H R ties rs es (σ ++ [.list []]) := ls.same .app
  have p0 : (σ ++ [AO.list []])[σ.length]? = some (.list []) := get_app
  generalize σ ++ [.list []] = σ₁ at l0 p0 ⊢
  generalize hpi : σ.length = pi at p0 h20 ⊢
  clear ls hpi
  have nopos : Kp [] σ₁ σ₁ := .refl
  refine EXs_cons (EX_for thruAll (fun (k : Nat) (m : Loc) (σ' : List AO) => ∃ (o20 o21 : Option V), m = LA a o4 o5 o6 o8 o9 ev [some tree.toV, some (cellV oc), o16, o17, o18, some (.ref pi), o20, o21, o22, o23, o24] ∧ LS y H R ties rs es σ' ∧ σ'[pi]? = some (.list (((es.take k).filter (goodE y)).map T.toV))) ?_)
  refine IE_of (EV_name (v := .ref 9) (mI 10 rfl) ⟨_, _, ITER_list l0.e9, ⟨o20, o21, rfl, l0, p0⟩, ?_, ?_, ?_⟩)
  · rintro k m' σ' _ ⟨o20, o21, rfl, ls, -⟩
    exact ls.e9
  · rintro k m' σ' v hv ⟨o20, o21, rfl, ls, hp⟩
    rw [List.getElem?_map] at hv
    obtain ⟨z, hzk, rfl⟩ := Option.map_eq_some_iff.mp hv
    have hk : k < es.length := (List.getElem?_eq_some_iff.mp hzk).1
    have eok := ls.eok z (List.mem_of_getElem? hzk)
    have etk : (es.take (k + 1)).filter (goodE y) = (es.take k).filter (goodE y) ++ (if goodE y z then [z] else []) := by
      rw [List.take_add_one, hzk, List.filter_append]; congr 1
      by_cases q : goodE y z = true <;> simp [q]
    have flen : ((es.take k).filter (goodE y)).length ≤ 5 := by
      have h1 := List.length_filter_le (goodE y) (es.take k)
      have h2 := List.length_take_le k es
      have := lf.el
      have h3 : (es.take k).length ≤ es.length := by rw [List.length_take]; lia -abstractProof
      lia -abstractProof
    have skip : goodE y z = false → ∀ (o21 : Option V) (σ'' : List AO), LS y H R ties rs es σ'' → σ''[pi]? = some (.list (((es.take k).filter (goodE y)).map T.toV)) → ∃ (o20' o21' : Option V), LA a o4 o5 o6 o8 o9 ev [some tree.toV, some (cellV oc), o16, o17, o18, some (.ref pi), some z.toV, o21, o22, o23, o24] = LA a o4 o5 o6 o8 o9 ev [some tree.toV, some (cellV oc), o16, o17, o18, some (.ref pi), o20', o21', o22, o23, o24] ∧ LS y H R ties rs es σ'' ∧ σ''[pi]? = some (.list (((es.take (k + 1)).filter (goodE y)).map T.toV)) := by
      intro g o21 σ'' ls' hp'
      refine ⟨_, _, rfl, ls', ?_⟩
      rw [etk, g, if_neg (by simp), List.append_nil]; exact hp'
    refine ASG_name ⟨_, (uI 20 rfl), ?_⟩
    by_cases hd : z.dep = 0
    · have gk : (z.kind == ("s" : Str)) = false := by
        cases z with
        | v k => show (("v" : Str) == "s") = false; decide +kernel
        | a k => show (("a" : Str) == "s") = false; decide +kernel
        | i k => show (("i" : Str) == "s") = false; decide +kernel
        | s1 f x => first | exact absurd rfl hd | exact (Nat.succ_ne_zero _ hd).elim
        | s2 f x z => first | exact absurd rfl hd | exact (Nat.succ_ne_zero _ hd).elim
      refine EXs_last (EX_if (TE_and (TE_cmp (EV_kind (t := z) (mI 20 rfl) (EV_str (OP_eqS ⟨_, rfl, fun q => absurd q (kne gk), fun z_ => ⟨fun q => (by cases q), fun z_ => EXs_nil (skip ?_ o21 σ' ls hp)⟩⟩))))))
      cases z <;> first | rfl | first | exact absurd rfl hd | exact (Nat.succ_ne_zero _ hd).elim
    cases z with
    | v k => first | exact absurd rfl hd | exact (Nat.succ_ne_zero _ hd).elim
    | a k => first | exact absurd rfl hd | exact (Nat.succ_ne_zero _ hd).elim
    | i k => first | exact absurd rfl hd | exact (Nat.succ_ne_zero _ hd).elim
    | s1 f x => exact eok.elim
    | s2 f l r =>
      refine EXs_last (EX_if (TE_and (TE_cmp (EV_kind (t := .s2 f l r) (mI 20 rfl) (EV_str (OP_eqS ⟨_, rfl, fun z_ => ?_, selfNe⟩))))))
      refine TE_cmp (EV_snd (mI 20 rfl) (EV_gint (mI 13 rfl) gE (OP_eqI ⟨_, rfl, fun q => ?_, fun q => ⟨fun q => (by cases q), fun z_ => EXs_nil (skip ?_ o21 σ' ls hp)⟩⟩)))
      rotate_left
      · have : f ≠ 10 := by simpa using q
        cases l <;> first | rfl | (cases r <;> simp [goodE, this])
      have hf : f = 10 := by simpa using q
      subst hf
      refine TE_cmp (EV_sub (EV_sub (EV_trd (mI 20 rfl) (EV_int (SUB_tup (k := 0) (x := l.toV) (by decide) rfl (EV_int (SUB_kind (EV_str (OP_eqS ⟨_, rfl, fun q => ⟨fun z_ => ?_, fun q => by cases q⟩, fun q => ⟨fun q => (by cases q), fun z_ => EXs_nil (skip ?_ o21 σ' ls hp)⟩⟩)))))))))
      rotate_left
      · cases l with
        | a k => simp [T.kind] at q
        | v k => rfl
        | i k => rfl
        | s1 f x => rfl
        | s2 f x z => rfl
      obtain ⟨nn, rfl⟩ : ∃ nn, l = .a nn := by
        cases l with
        | a k => exact ⟨k, rfl⟩
        | v k => exact absurd q (by show ¬ (("v" : Str) == "a") = true; decide +kernel)
        | i k => exact absurd q (by show ¬ (("i" : Str) == "a") = true; decide +kernel)
        | s1 f x => exact absurd q (by show ¬ (("s" : Str) == "a") = true; decide +kernel)
        | s2 f x z => exact absurd q (by show ¬ (("s" : Str) == "a") = true; decide +kernel)
      obtain ⟨-, ⟨n0, n1⟩, hr⟩ := eok
      have hk : y.texts[nn.toNat]? = some (y.tx nn) := by unfold Sy.tx; rw [List.getElem?_eq_getElem n1]; rfl
      have wl := ls.y2.ok.len _ (List.mem_of_getElem? hk)
      refine EXs_next (EX_assign (EV_ym P (mI 2 rfl) ls.hy P.m_Symbols_text (by decide) rfl (by decide) rfl (EV_sub (EV_sub (EV_trd (mI 20 rfl) (EV_int (SUB_tup (k := 0) (x := T.toV (.a nn)) (by decide) rfl (EV_int (SUB_tup (k := 1) (x := .int nn) (by decide) rfl (CA.op (CA_textI P ls.hy n0 hk ⟨_, (uI 21 rfl), rfl, ?_⟩)))))))))))
      refine EXs_cons (EX_if (TE_cmp (EV_call (mI 14 rfl) P.g_is_variable_name P.k_is_variable_name rfl (EV_name (v := .str (y.tx nn)) (mI 21 rfl) (CA.op (CA_is_variable_name P (EV_call (mI 15 rfl) P.g_law_fits P.k_law_fits rfl (EV_name (v := .str (y.tx nn)) (mI 21 rfl) (CA.op (CA_fits P wl fun σ₂ k₂ => OP_neB ⟨_, rfl, fun q => absurd q (by simp), fun z_ => ?_⟩))))))))))
      refine EXs_nil ⟨fun z_ => ?_, fun q => absurd rfl q⟩
      have ls2 := ls.same k₂
      have hp2 : σ₂[pi]? = _ := k₂.get hp List.not_mem_nil
      refine EXs_last (EX_if (TE_and (TE_val (EV_call (mI 15 rfl) P.g_law_fits P.k_law_fits rfl (EV_name (v := .str (y.tx nn)) (mI 21 rfl) (CA.op (CA_fits P wl fun σ₃ k₃ => ⟨_, rfl, fun q => ?_, fun q => ⟨fun q => (by cases q), fun z_ => EXs_nil (skip ?_ _ σ₃ (ls2.same k₃) (k₃.get hp2 (by simp)))⟩⟩)))))))
      rotate_left
      · cases r <;> simp [goodE, q]
      have ls3 := ls2.same k₃
      have hp3 : σ₃[pi]? = _ := k₃.get hp2 (by simp)
      refine TE_cmp (EV_sub (EV_sub (EV_trd (mI 20 rfl) (EV_int (SUB_tup (k := 1) (x := r.toV) (by decide) rfl (EV_int (SUB_kind (EV_str (OP_eqS ⟨_, rfl, fun q2 => ⟨fun z_ => ?_, fun q => by cases q⟩, fun q2 => ⟨fun q => (by cases q), fun z_ => EXs_nil (skip ?_ _ σ₃ ls3 hp3)⟩⟩)))))))))
      rotate_left
      · cases r with
        | v k => simp [T.kind] at q2
        | a k => rfl
        | i k => rfl
        | s1 f x => rfl
        | s2 f x z => rfl
      have gz : goodE y (.s2 10 (.a nn) r) = true := by
        cases r with
        | v k => simp [goodE, q]
        | a k => exact absurd q2 (by show ¬ (("a" : Str) == "v") = true; decide +kernel)
        | i k => exact absurd q2 (by show ¬ (("i" : Str) == "v") = true; decide +kernel)
        | s1 f x => exact hr.elim
        | s2 f x z => exact hr.elim
      refine EXs_last (EX_expr (EV_append rfl rfl (EV_name (v := .ref pi) (mI 19 rfl) ⟨pi, rfl, ⟨_, hp3⟩, EV_name (v := T.toV (.s2 10 (.a nn) r)) (mI 20 rfl) ⟨_, hp3, by rw [List.length_map]; lia -abstractProof, _, _, rfl, ?_, ?_⟩⟩)))
      · exact ls3.next (D := [pi]) (.set (by simp)) (by simp; lia -abstractProof) (ls3.hy.setN (by lia -abstractProof)) ls3.y2 (ls3.st.setN (by lia -abstractProof)) ls3.ht ls3.h5 (.refl y)
      · rw [set_get hp3, etk, gz, if_pos rfl]; simp
  rintro m' σ' ⟨o20, o21, rfl, ls, hp⟩
  refine ⟨fun z_ => ?_, fun q => absurd rfl q⟩
  rw [List.length_map, List.take_length] at hp
  have h1 := List.length_filter_le (goodE y) es
  have h2 := lf.el
  exact law_p4b P x lf ls o hz h20 hp (by lia -abstractProof) fun z hz => ⟨ls.eok z (List.mem_filter.mp hz).1, (List.mem_filter.mp hz).2⟩
end
theorem Rep.follow {H : List Cl} {R : Int → T} {c : Cl} {t : T} {L : List Nat} (h : Rep H R c t L) : ∃ c', Der H c c' ∧ Rep H R c' t L := by
  cases h with
  | v d => exact ⟨_, d, .v d.done⟩
  | a => exact ⟨_, .val (by decide) (by decide), .a⟩
  | i => exact ⟨_, .val (by decide) (by decide), .i⟩
  | @s1 f x p c L hf h1 r =>
    refine ⟨_, ?_, .s1 hf h1 r⟩
    unfold blkC; by_cases q : f = 0 <;> simp [q]
    · exact .val (by decide) (by decide)
    · exact .val (by decide) (by decide)
  | @s2 f x z p c d L M hf h1 h2 r r' =>
    refine ⟨_, ?_, .s2 hf h1 h2 r r'⟩
    unfold blkC; by_cases q : f = 0 <;> simp [q]
    · exact .val (by decide) (by decide)
    · exact .val (by decide) (by decide)
noncomputable def orE : Stmt → List Expr
  | .If (.BoolOp _ es _) _ _ _ => es
  | _ => []
theorem cells_pure : ∀ (H : List Cl), pureVs 40 (H.map cellV) = true := by
  intro l_
  induction l_ with
  | nil =>
    exact rfl
  | cons c r ih =>
    have : pureV 40 (cellV c) = true := rfl
    simp only [List.map_cons, show pureVs 40 (cellV c :: r.map cellV) = (pureV 40 (cellV c) && pureVs 40 (r.map cellV)) from rfl, this, ih]; rfl
section
variable {B : Bs} {n : Nat} {X : V → List AO → Prop} {σ : List AO} {Q : V → List AO → Prop} {G : Gs} {m : Loc}
theorem law_p3b (P : PF B) (x : XP B) {a : Addr} {o4 o5 o6 o8 o9 o18 o19 o20 o21 o22 o23 o24 : Option V} {dv : V} {bi : Nat} {y : Sy} {H : List Cl} {R : Int → T} {ties : List T} {rs : List Int} {es : List T} {e : T} {fv : Int} {oc : Cl} (hfv : fv ≠ 0) (lf : LF ties R rs es e) (ls : LS y H R ties rs es σ) (o : OC y H R oc (.s1 fv (listT es e))) (hz : H.length ≤ 500)
    (hb : σ[bi]? = some (.list (H.map cellV))) (hbi : bi ∉ [3, 4, 5, 6])
    (g0 : dueFl y R e es = [] → ∃ d, dv = .tup [.str "names", .ref d] ∧ σ[d]? = some (.dI (keptL (fwL y R es) rs 0)))
    (g1 : ∀ t, dueFl y R e es = ("lacks" : Str) :: t → dueInst y = y ∧ dv = .tup [.str "error", vSys (fInst y)])
    (g2 : ∀ t, dueFl y R e es = ("wrong" : Str) :: t → (y.atom "write_option").func "domain_error" 2 = y ∧ dv = .tup [.str "error", domBall y (sh R (.s1 fv (listT es e)) []).1.toV]) :
    EXs B (n + 8) X gL (LA a o4 o5 o6 o8 o9 e.toV [some (T.s1 fv (listT es e)).toV, some (cellV oc), some (.ref bi), some dv, o18, o19, o20, o21, o22, o23, o24]) σ (lB.drop 18) lQ := by
  obtain ⟨Lo, orep, ond⟩ := o.rep
  have oder := o.der
  obtain ⟨lok, ldep, lsz⟩ := listT_facts ls.y2 lf.he es ls.eok
  have el := lf.el
  cases orep with
  | @s1 _ _ p c L hf h1 r =>
    rw [List.nodup_cons] at ond
    obtain ⟨c', dc, rc⟩ := r.follow
    have eC : blkC fv p = (2, (p : Int)) := by unfold blkC; rw [if_neg hfv]
    have eB : blkB fv p = p + 1 := by unfold blkB; rw [if_neg hfv]
    rw [eB] at h1
    refine EXs_next (EX_assign (EV_imeth rfl (by decide) rfl (EV_store P (mI 12 rfl) ls.ar ⟨12, 423, _, _, rfl, ls.st.o, P.c_Store, P.m_Store_deref, by decide, ?_⟩)))
    refine EV_imeth rfl (by decide) rfl (EV_store P (mI 12 rfl) ls.ar ⟨12, 423, _, _, rfl, ls.st.o, P.c_Store, P.m_Store_arg, by decide, ?_⟩)
    refine EV_name (v := cellV (blkC fv p)) (mI 15 rfl) (EV_int ?_)
    rw [eC]
    refine CA.op (CA_arg (n := n + 6) P ls.st (by lia -abstractProof) (by rw [show ((p : Int) + 1).toNat = p + 1 by lia -abstractProof]; exact h1) (CA.op (CA_deref P ls.st dc ⟨_, (uI 18 rfl), rfl, ?_⟩)))
    rw [← eC]
    have fin : ∀ (y' : Sy) (σ' : List AO), LS y' H R ties rs es σ' → OC y' H R (blkC fv p) (.s1 fv (listT es e)) → σ'[bi]? = some (.list (H.map cellV)) → TOr B (n + 8) X gL (LA a o4 o5 o6 o8 o9 e.toV [some (T.s1 fv (listT es e)).toV, some (cellV (blkC fv p)), some (.ref bi), some dv, some (cellV c'), o19, o20, o21, o22, o23, o24]) (orE (nth lB 19)).tail σ' (IfS B (n + 8) X gL (LA a o4 o5 o6 o8 o9 e.toV [some (T.s1 fv (listT es e)).toV, some (cellV (blkC fv p)), some (.ref bi), some dv, some (cellV c'), o19, o20, o21, o22, o23, o24]) (fnB (nth lB 19)) [] (Cn B (n + 8) X gL (lB.drop 20) lQ)) := by
      intro y' σ' ls' o' hb'
      refine TE_cmp (EV_attr (EV_store P (mI 12 rfl) ls'.ar (OP_attr P.c_Store P.a_Store_heap ls'.st.o (mI 2 rfl) (EV_name (v := .ref bi) (mI 16 rfl) (OP_neL ls'.st.h hb' (cells_pure H) (cells_pure H) ?_)))))
      simp only [veqs_iff.mpr rfl]
      refine ⟨_, rfl, nofun, fun z_ => ⟨(fun q => by cases q), fun z_ => EXs_nil ⟨fun z_ => ?_, fun q => absurd rfl q⟩⟩⟩
      exact law_p4 P x lf ls' o' hz
    refine EXs_cons (EX_if (TE_or (TE_cmp (EV_call (mI 12 rfl) P.g_law_told P.k_law_told rfl (EV_name (v := .ref 11) (mI 12 rfl) (EV_name (v := cellV (blkC fv p)) (mI 15 rfl) (EV_name (v := cellV c') (mI 18 rfl) (EV_name (v := .ref 8) (mI 7 rfl) (CA.op ?_)))))))))
    refine CA_told3 (n := n + 1) P x lf.rt ls o rc ond.2 (by lia -abstractProof) ls.eok lf.he (fun hn σ₁ d' k₁ hd' at1 => ?_) (fun t ht σ₁ k₁ y₁ => ?_) (fun t ht σ₁ k₁ y₁ => ?_)
    · obtain ⟨d, rfl, hd⟩ := g0 hn
      have same := names_same y R lf.nd (es := es) (es' := es) (fun z_ => rfl)
      have hdd : d' ≠ d := by have := idx_lt hd; lia -abstractProof
      refine EV_name (v := .tup [.str "names", .ref d]) (mI 17 rfl) (OP_neTD at1 (k₁.get hd List.not_mem_nil) hdd (fun p hp => ?_) (fun p hp => ?_) same.1 same.2 ⟨_, rfl, nofun, fun z_ => ?_⟩)
      · obtain ⟨w, e⟩ := chosen_pure y R rs _ [] (by simp) p hp
        rw [e]; rfl
      · obtain ⟨w, e⟩ := (keptL_lt _ _ _ p hp).2.2
        rw [e]; rfl
      exact fin y σ₁ (ls.same k₁) o (k₁.get hb List.not_mem_nil)
    · obtain ⟨ey, rfl⟩ := g1 t ht
      rw [ey] at y₁
      have pe := pure_err (.s2 16 (.a ((dueInst y).num "instantiation_error")) (.a 25)) (show 1 ≤ 18 by decide)
      refine EV_name (v := .tup [.str "error", vSys (fInst y)]) (mI 17 rfl) (OP_neSame pe ⟨_, rfl, nofun, fun z_ => ?_⟩)
      exact fin y σ₁ (ls.next k₁ (by simp) y₁ ls.y2 (ls.st.kp k₁ (by decide)) ls.ht ls.h5 (.refl y)) o (k₁.get hb hbi)
    · obtain ⟨ey, rfl⟩ := g2 t ht
      rw [ey] at y₁
      have sd := sh_dep R lf.rt (.s1 fv (listT es e)) [] o.ok.wf
      have pe := pure_err (.s2 16 (.s2 (((y.atom "write_option").func "domain_error" 2).fnum [((y.atom "write_option").atom "domain_error").num "domain_error", 2]) (.a ((y.atom "write_option").num "write_option")) (sh R (.s1 fv (listT es e)) []).1) (.a 25)) (by simp only [T.dep] at sd ⊢; lia -abstractProof)
      refine EV_name (v := .tup [.str "error", domBall y (sh R (.s1 fv (listT es e)) []).1.toV]) (mI 17 rfl) (OP_neSame pe ⟨_, rfl, nofun, fun z_ => ?_⟩)
      exact fin y σ₁ (ls.next k₁ (by decide) y₁ ls.y2 (ls.st.kp k₁ (by decide)) ls.ht ls.h5 (.refl y)) o (k₁.get hb hbi)
end
section
variable {B : Bs} {n : Nat} {X : V → List AO → Prop} {σ : List AO} {Q : V → List AO → Prop} {G : Gs} {m : Loc}
theorem law_p3 (P : PF B) (x : XP B) {a : Addr} {o4 o5 o6 o8 o9 o14 o15 o16 o17 o18 o19 o20 o21 o22 o23 o24 : Option V} {y : Sy} {H : List Cl} {R : Int → T} {ties : List T} {rs : List Int} {es : List T} {e : T} (lf : LF ties R rs es e) (ls : LS y H R ties rs es σ) (y100 : Y2 100 y) (hH : H.length = 5) :
    EXs B (n + 9) X gL (LA a o4 o5 o6 o8 o9 e.toV [o14, o15, o16, o17, o18, o19, o20, o21, o22, o23, o24]) σ (lB.drop 14) lQ := by
  have el := lf.el
  have z1 := y100.zt
  have z2 := y100.zf
  refine EXs_next (EX_assign (EV_tuple rfl (by decide) (EV_str (EV_ym P (mI 2 rfl) ls.hy P.m_Symbols_func (by decide) rfl (by decide) rfl (EV_str (EV_int (CA.op (CA_func P ls.hy (by lia -abstractProof) (by lia -abstractProof) fun σ₁ e₁ k₁ y₁ => ?_))))))))
  have y102 : Y2 102 (y.func "variable_names" 1) := y100.func (by decide +kernel) 1
  have hfv : (y.func "variable_names" 1).fnum [(y.atom "variable_names").num "variable_names", 1] ≠ 0 := fnum_ne (y100.atom (w := "variable_names") (by decide +kernel)) _
  have har : Ar (y.func "variable_names" 1) ((y.func "variable_names" 1).fnum [(y.atom "variable_names").num "variable_names", 1]) 1 := Ar_fnum _ _ _
  have pre : Pre y (y.func "variable_names" 1) := Pre.func _ _ _
  generalize (y.func "variable_names" 1).fnum [(y.atom "variable_names").num "variable_names", 1] = fv at hfv har ⊢
  generalize y.func "variable_names" 1 = y1 at y₁ y102 har pre ⊢
  have ls1 : LS y1 H R ties rs es σ₁ := ls.next k₁ (by simp) y₁ (y102.up (by lia -abstractProof)) (ls.st.kp k₁ (by simp)) ls.ht ls.h5 pre
  refine EV_tuple rfl (by decide) (EV_call (mI 8 rfl) P.g_law_list P.k_law_list rfl (EV_name (v := .ref 9) (mI 10 rfl) (EV_name (v := e.toV) (mI 11 rfl) (CA.op (CA_list (n := n + 8) P ls1.e9 (by lia -abstractProof) fun σ₂ k₂ => ⟨_, (uI 14 rfl), rfl, ?_⟩)))))
  have ls2 := ls1.same k₂
  obtain ⟨lok, ldep, lsz⟩ := listT_facts ls1.y2 lf.he es ls1.eok
  have tok : (T.s1 fv (listT es e)).ok y1 := ⟨hfv, har, lok⟩
  refine EXs_next (EX_assign (EV_imeth rfl (by decide) rfl (EV_store P (mI 12 rfl) ls2.ar ⟨12, 423, _, _, rfl, ls2.st.o, P.c_Store, P.m_Store_put_term, by decide, ?_⟩)))
  refine EV_name (v := (T.s1 fv (listT es e)).toV) (mI 14 rfl) (EV_name (v := .ref 19) (mI 13 rfl) (CA.op (CA_put_term (n := n + 5) (Z := 200) P ls2.st ls2.hy ls2.c19 ls2.ht ls2.h5 tok (by lia -abstractProof) (by lia -abstractProof) (by lia -abstractProof) fun H' σ₃ L k₃ s₃ t₃ rep nd hl => ⟨_, (uI 15 rfl), rfl, ?_⟩)))
  have h5' : 5 ≤ H'.length := by
    obtain ⟨H5, l5, e5, -⟩ := t₃.five
    have := e5 4 (by lia -abstractProof)
    rw [List.getElem?_eq_getElem (show 4 < H5.length by lia -abstractProof)] at this
    have := (List.getElem?_eq_some_iff.mp this).1
    lia -abstractProof
  have ls3 : LS y1 H' R ties rs es σ₃ := ls2.next k₃ (by decide) (ls2.hy.kp k₃ (by decide)) ls2.y2 s₃ t₃ h5' (.refl _)
  have od : Der H' (blkC fv H.length) (blkC fv H.length) := by
    unfold blkC; rw [if_neg hfv]; exact .val (by decide) (by decide)
  have o3 : OC y1 H' R (blkC fv H.length) (.s1 fv (listT es e)) := ⟨od, ⟨L, rep, nd⟩, tok, by show 3 * (1 + (listT es e).sz) ≤ 3900; lia -abstractProof⟩
  refine EXs_next (EX_assign (EV_callB (mI 9 rfl) P.n_list bt_list (by decide) (fun h => keeps_type _ _ h) rfl (EV_attr (EV_store P (mI 12 rfl) ls3.ar (OP_attr P.c_Store P.a_Store_heap ls3.st.o (mI 2 rfl) (OP_listL ls3.st.h (by rw [List.length_map]; lia -abstractProof) ⟨_, (uI 16 rfl), rfl, ?_⟩))))))
  have ls4 := ls3.same (.app (t := [AO.list (H'.map cellV)]))
  have hb : (σ₃ ++ [AO.list (H'.map cellV)])[σ₃.length]? = some (.list (H'.map cellV)) := get_app
  have hbi : 20 ≤ σ₃.length := ls3.h20
  generalize σ₃ ++ [AO.list (H'.map cellV)] = σ₄ at ls4 hb ⊢
  generalize σ₃.length = bi at hb hbi ⊢
  clear ls1 ls2 ls3 ls
  have ls5 := ls4.same (.app (t := [AO.list []]))
  have tdep : (T.s1 fv (listT es e)).dep ≤ 7 := by simp only [T.dep]; lia -abstractProof
  refine EXs_next (EX_assign (EV_call (mI 10 rfl) P.g_law_due P.k_law_due rfl (EV_name (v := .ref 2) (mI 2 rfl) (EV_name (v := .ref 9) (mI 10 rfl) (EV_name (v := e.toV) (mI 11 rfl) (EV_name (v := .ref 7) (mI 3 rfl) (EV_name (v := .ref 8) (mI 7 rfl) ?_)))))))
  refine EV_call (mI 11 rfl) P.g_law_shown P.k_law_shown rfl (EV_name (v := (T.s1 fv (listT es e)).toV) (mI 14 rfl) (EV_name (v := .ref 7) (mI 3 rfl) (EV_list rfl (by decide) (CA.op (shown_tail P lf.rt (by have := ls4.h20; lia -abstractProof) (.s1 fv (listT es e)) X (n + 9) (by simp only [T.dep]; lia -abstractProof) _ [] _ tok.wf ls5.ti get_app (by simp only [T.sz, List.length_nil]; lia -abstractProof) fun σ₆ k₆ z_ => ?_)))))
  have ls6 := ls4.same k₆.fresh
  have hb6 := k₆.fresh.get hb List.not_mem_nil
  clear ls5 ls4 hb k₆
  have z3 := y102.zt
  have z4 := y102.zf
  have nb : bi ∉ [3, 4, 5, 6] := by simp; lia -abstractProof
  refine CA.op (CA_due (n := n + 5) P ls6.hy ls6.y2.ok (by lia -abstractProof) (by lia -abstractProof) ls6.ti lf.rt ls6.e9 (by lia -abstractProof) ls6.eok lf.he ls6.n8 (by have := lf.rl; lia -abstractProof) lf.nd (by lia -abstractProof) (fun hn σ₇ d k₇ hd at7 => ⟨_, (uI 17 rfl), rfl, ?_⟩) (fun t ht σ₇ k₇ y₇ => ⟨_, (uI 17 rfl), rfl, ?_⟩) (fun t ht σ₇ k₇ y₇ => ⟨_, (uI 17 rfl), rfl, ?_⟩))
  · exact law_p3b P x hfv lf (ls6.same k₇) o3 (by lia -abstractProof) (k₇.get hb6 List.not_mem_nil) nb (fun z_ => ⟨d, rfl, at7⟩) (fun t ht => absurd (hn.symm.trans ht) (by simp)) (fun t ht => absurd (hn.symm.trans ht) (by simp))
  · have pr := dueInst_pre y1
    have yy : Y2 103 (dueInst y1) := y102.atom (by decide +kernel)
    have ls7 : LS (dueInst y1) H' R ties rs es σ₇ := ls6.next k₇ (by simp) y₇ (yy.up (by lia -abstractProof)) (ls6.st.kp k₇ (by simp)) ls6.ht ls6.h5 pr
    have ed := pr.due lf.rt (e := e) ls6.eok
    have id := dueInst_idem y1
    refine law_p3b P x hfv lf ls7 (o3.mono (fun f k h => h.atom _) fun z_ z_ h => h) (by lia -abstractProof) (k₇.get hb6 nb) nb (fun hn => ?_) (fun t' ht' => ⟨id.1, by rw [id.2]⟩) (fun t' ht' => ?_)
    · rw [ed, ht] at hn; cases hn
    · rw [ed, ht] at ht'; injection ht' with q; exact absurd q ne_lw
  · have pr := dueDom_pre y1
    have yy : Y2 106 (dueDom y1) := ((y102.atom (w := "instantiation_error") (by decide +kernel)).func (w := "domain_error") (by decide +kernel) 2).atom (w := "write_option") (by decide +kernel)
    have ls7 : LS (dueDom y1) H' R ties rs es σ₇ := ls6.next k₇ (by simp) y₇ (yy.up (by lia -abstractProof)) (ls6.st.kp k₇ (by simp)) ls6.ht ls6.h5 pr
    have ed := pr.due lf.rt (e := e) ls6.eok
    have id := dueDom_idem y1
    refine law_p3b P x hfv lf ls7 (o3.mono (fun f k h => (((h.atom _).atom _).functor _).atom _) fun z_ z_ h => h) (by lia -abstractProof) (k₇.get hb6 nb) nb (fun hn => ?_) (fun t' ht' => ?_) (fun t' ht' => ⟨(id .none).1, by rw [(id _).2]⟩)
    · rw [ed, ht] at hn; cases hn
    · rw [ed, ht] at ht'; injection ht' with q; exact absurd q.symm ne_lw
end
noncomputable def TieOk (k : Nat) (t : T) : Prop := t = .v (k : Nat) ∨ (∃ j : Int, 0 ≤ j ∧ j < k ∧ t = .v j) ∨ t = .i (k : Nat)
noncomputable def TiesOk (ties : List T) : Prop := ∀ k t, ties[k]? = some t → TieOk k t
theorem TieOk.dep {k : Nat} {t : T} (h : TieOk k t) : t.dep = 0 := by rcases h with rfl | ⟨j, -, -, rfl⟩ | rfl <;> rfl
theorem En_der {ties : List T} (ok : TiesOk ties) {t t' : T} (d : En ties t t') (h : t.dep = 0) : Der (ties.map cellOf) (cellOf t) (cellOf t') := by
  induction d with
  | @self k h0 hk => exact .self h0 (by rw [List.getElem?_map, hk]; rfl)
  | @val t ht =>
    cases t with
    | v k => exact absurd rfl (ht k)
    | a k => exact .val (by decide) (by decide)
    | i k => exact .val (by decide) (by decide)
    | s1 f x => first | exact absurd rfl h | exact (Nat.succ_ne_zero _ h).elim
    | s2 f x z => first | exact absurd rfl h | exact (Nat.succ_ne_zero _ h).elim
  | @step k t t' h0 hk hne d ih =>
    have tk := ok _ _ hk
    refine .step h0 (by rw [List.getElem?_map, hk]; rfl) ?_ (ih tk.dep)
    rcases tk with rfl | ⟨j, -, -, rfl⟩ | rfl
    · exact absurd (by congr 1; lia -abstractProof) hne
    · intro e
      have : j = k := by simpa [cellOf] using e
      exact hne (by rw [this])
    · intro e; simp [cellOf] at e
theorem ties_R {ties : List T} (h5 : ties.length = 5) (ok : TiesOk ties) : ∃ R, RT ties R := by
  have key : ∀ k : Nat, k < 5 → ∃ t, En ties (.v (k : Nat)) t ∧ ((∃ j : Int, 0 ≤ j ∧ j < 5 ∧ t = .v j ∧ ties[j.toNat]? = some (.v j)) ∨ ∃ n, t = .i n) := by
    intro k
    induction k using Nat.strongRecOn with
    | _ k ih =>
      intro hk
      obtain ⟨t, ht⟩ : ∃ t, ties[k]? = some t := ⟨_, List.getElem?_eq_getElem (by lia -abstractProof)⟩
      rcases ok k t ht with rfl | ⟨j, j0, jk, rfl⟩ | rfl
      · exact ⟨.v (k : Nat), .self (by lia -abstractProof) (by simp only [Int.toNat_natCast]; exact ht), .inl ⟨(k : Nat), by lia -abstractProof, by lia -abstractProof, rfl, by simp only [Int.toNat_natCast]; exact ht⟩⟩
      · obtain ⟨t', e, g⟩ := ih j.toNat (by lia -abstractProof) (by lia -abstractProof)
        rw [show ((j.toNat : Nat) : Int) = j by lia -abstractProof] at e
        exact ⟨t', .step (by lia -abstractProof) (by simp only [Int.toNat_natCast]; exact ht) (by intro q; injection q with q; lia -abstractProof) e, g⟩
      · exact ⟨.i (k : Nat), .step (by lia -abstractProof) (by simp only [Int.toNat_natCast]; exact ht) (by intro q; cases q) (.val (by simp)), .inr ⟨_, rfl⟩⟩
  have : ∀ k : Nat, ∃ t, k < 5 → En ties (.v (k : Nat)) t ∧ ((∃ j : Int, 0 ≤ j ∧ j < 5 ∧ t = .v j ∧ ties[j.toNat]? = some (.v j)) ∨ ∃ n, t = .i n) := by
    intro k
    by_cases h : k < 5
    · obtain ⟨t, ht⟩ := key k h; exact ⟨t, fun z_ => ht⟩
    · exact ⟨.i 0, fun q => absurd q h⟩
  obtain ⟨f, hf⟩ := Classical.axiomOfChoice this
  have en : ∀ k : Int, 0 ≤ k → k < 5 → En ties (.v k) (f k.toNat) := fun k h0 h5 => by
    have := (hf k.toNat (by lia -abstractProof)).1
    rw [show ((k.toNat : Nat) : Int) = k by lia -abstractProof] at this; exact this
  refine ⟨fun k => f k.toNat, ⟨en, fun k h0 h5 => ?_⟩⟩
  rcases (hf k.toNat (by lia -abstractProof)).2 with ⟨j, j0, j5, e, hj⟩ | ⟨n, e⟩
  · refine .inl ⟨j, j0, j5, e, ?_⟩
    have := en j j0 j5
    show f j.toNat = .v j
    cases hz : f j.toNat with
    | v k' =>
      rw [hz] at this
      cases this with
      | self => rfl
      | val h => exact absurd rfl (h j)
      | step h0 h hne d => rw [hj] at h; cases h; exact absurd rfl hne
    | a n => rw [hz] at this; cases this with
      | step h0 h hne d => rw [hj] at h; cases h; exact absurd rfl hne
    | i n => rw [hz] at this; cases this with
      | step h0 h hne d => rw [hj] at h; cases h; exact absurd rfl hne
    | s1 g x => rw [hz] at this; cases this with
      | step h0 h hne d => rw [hj] at h; cases h; exact absurd rfl hne
    | s2 g x z => rw [hz] at this; cases this with
      | step h0 h hne d => rw [hj] at h; cases h; exact absurd rfl hne
  · exact .inr ⟨n, e⟩
noncomputable def bnd (ties : List T) (j : Nat) : List Cl := (ties.map cellOf).take j ++ (selfs 0 5).drop j
theorem bnd_len {ties : List T} (h5 : ties.length = 5) (j : Nat) : (bnd ties j).length = 5 := by
  unfold bnd; simp [selfs_len, h5]; omega
theorem bnd_set {ties : List T} (h5 : ties.length = 5) {j : Nat} {t : T} (ht : ties[j]? = some t) : (bnd ties j).set j (cellOf t) = bnd ties (j + 1) := by
  have := fill_step (A := []) (cs := ties.map cellOf) (S := selfs 0 5) (j := j) (c := cellOf t) (by simp [selfs_len, h5]) (by simp only [List.getElem?_map, ht]; rfl)
  simpa [bnd] using this
theorem bnd_same {ties : List T} (h5 : ties.length = 5) {j : Nat} (hj : j < 5) (ht : ties[j]? = some (.v (j : Nat))) : bnd ties j = bnd ties (j + 1) := by
  simp only [← bnd_set h5 ht]
  have h1 : (bnd ties j)[j]? = some (0, (j : Int)) := by
    unfold bnd
    have hl : ((ties.map cellOf).take j).length = j := by simp; lia -abstractProof
    rw [List.getElem?_append_right (by lia -abstractProof), hl, Nat.sub_self, List.getElem?_drop]
    simp [selfs, hj]
  refine (List.ext_getElem? fun i => ?_)
  by_cases e : j = i
  · subst e
    rw [List.getElem?_set_self (by rw [bnd_len h5]; exact hj), h1]; rfl
  · rw [List.getElem?_set_ne e]
section
variable {B : Bs} {n : Nat} {X : V → List AO → Prop} {σ : List AO} {Q : V → List AO → Prop} {G : Gs} {m : Loc}
noncomputable def LB (a : Addr) (o4 o5 o6 o8 o9 : Option V) (rest : List (Option V)) : Loc := LL ([some (.ext a), some (.ref 1), some (.ref 2), some (.ref 7), o4, o5, o6, some (.ref 8), o8, o9, some (.ref 9)] ++ rest)
theorem law_p2 (P : PF B) (x : XP B) {a : Addr} {o4 o5 o6 o8 o9 o12 o13 o14 o15 o16 o17 o18 o19 o20 o21 o22 o23 o24 : Option V} {y : Sy} {R : Int → T} {ties : List T} {rs : List Int} {es : List T} {e : T} (lf : LF ties R rs es e) (tok : TiesOk ties) (t0 : ties[0]? = some (.v 0)) (h10 : σ.length = 10) (hy : SyAt y σ) (yi : YI y 5) (ti : TiesAt ties σ) (n8 : σ[8]? = some (.dI (numL rs 0))) (e9 : σ[9]? = some (.list (es.map T.toV))) (eok : ∀ x, x ∈ es → EntOk y x) :
    EXs B (n + 9) X gL (LB a o4 o5 o6 o8 o9 [some e.toV, o12, o13, o14, o15, o16, o17, o18, o19, o20, o21, o22, o23, o24]) σ (lB.drop 10) lQ := by
  obtain ⟨tI, gI⟩ := P.i_INT
  have t5 := ti.five
  have la : (σ ++ [AO.list []]).length = 11 := by simp [h10]
  refine EXs_next (EX_assign (EV_call (mI 6 rfl) P.gc_Areas P.kc_Areas rfl (EV_name (v := .ref 2) (mI 2 rfl) (EV_list rfl (by decide) (CA.op (CA_make P.mk_Areas P.in_Areas P.it_Areas ?_))))))
  rw [la, h10]
  refine CA_areasInit (n := n + 4) P (by simp only [List.length_append, la]; rfl) (get_app' la) fun σ₁ mk st => ⟨rfl, _, (uI 12 rfl), rfl, ?_⟩
  have kA : Kp [] σ σ₁ := ⟨by simp only [h10, mk.len]; lia -abstractProof, fun i hi z_ => by
    rw [mk.kp.2 i (by rw [List.length_append, la]; lia -abstractProof) (by simp; lia -abstractProof), List.getElem?_append_left (by rw [la]; lia -abstractProof), List.getElem?_append_left hi]⟩
  refine EXs_next (EX_assign (EV_dI ⟨_, (uI 13 rfl), rfl, ?_⟩))
  rw [mk.len]
  have l20 : (σ₁ ++ [AO.dI []]).length = 20 := by rw [List.length_append, mk.len]; rfl
  have kB : Kp [13, 19] σ (σ₁ ++ [AO.dI []]) := (kA.trans .app).mono (by decide)
  have aB : (σ₁ ++ [AO.dI []])[11]? = some (.inst 597 areasFs) := (Kp.app (D := [])).get mk.at_ List.not_mem_nil
  have cB : (σ₁ ++ [AO.dI []])[19]? = some (.dI []) := get_app' mk.len
  have sB : StAt [] (σ₁ ++ [AO.dI []]) := st.kp (D := []) .app (by decide)
  generalize σ₁ ++ [AO.dI []] = σ₂ at l20 kB aB cB sB ⊢
  clear mk st kA
  refine EXs_next (EX_for thruAll (fun (k : Nat) (m : Loc) (σ' : List AO) => ∃ o4 : Option V, m = LA a o4 o5 o6 o8 o9 e.toV [o14, o15, o16, o17, o18, o19, o20, o21, o22, o23, o24] ∧ Kp [13, 19] σ σ' ∧ σ'[11]? = some (.inst 597 areasFs) ∧ σ'[19]? = some (.dI (cellsT.take k)) ∧ StAt (selfs 0 k) σ' ∧ 20 ≤ σ'.length) ?_)
  refine IE_range (mI 2 rfl) P.n_range bt_range (by decide) rfl (EV_int (.inl ⟨5, rfl, by decide, ⟨o4, rfl, kB, aB, cB, sB, by lia -abstractProof⟩, fun z_ z_ z_ z_ z_ => trivial, ?_, ?_⟩))
  · rintro k m' σ' v hv ⟨o4, rfl, kp, ar, cc, st, l20⟩
    have hk : k < 5 := by rw [← rng_length 0 1 5]; exact (List.getElem?_eq_some_iff.mp hv).1
    rw [rng_get 0 1 5 k hk] at hv
    cases hv
    refine ASG_name ⟨_, (uI 4 rfl), ?_⟩
    refine EXs_last (EX_setitem (EV_imeth rfl (by decide) rfl (EV_store P (mI 12 rfl) ar ⟨12, 423, _, _, rfl, st.o, P.c_Store, P.m_Store_new_var, by decide, ?_⟩)))
    refine CA.op (CA_new_var (n := n + 7) P st (by rw [selfs_len]; lia -abstractProof) fun σ₃ k₃ e₃ s₃ => ?_)
    rw [selfs_len] at s₃ ⊢
    have cc3 := k₃.get cc (by decide)
    refine EV_name (v := .ref 19) (mI 13 rfl) (EV_name (v := .int (0 + k * 1)) (mI 4 rfl) (OP_setI cc3 (by simp [cellsT]; lia -abstractProof) ⟨some (.int (0 + k * 1)), rfl, (kp.trans (k₃.mono (by decide))).trans (.set (by decide)), ?_, ?_, ?_, ?_⟩))
    · rw [List.getElem?_set_ne (by decide)]; exact k₃.get ar (by decide)
    · rw [set_get cc3]
      rcases (by lia -abstractProof : k = 0 ∨ k = 1 ∨ k = 2 ∨ k = 3 ∨ k = 4) with rfl | rfl | rfl | rfl | rfl <;> rfl
    · have : selfs 0 (k + 1) = selfs 0 k ++ [(0, (k : Int))] := by rw [selfs_succ]; simp
      rw [this]
      exact s₃.setN (by decide)
    · rw [List.length_set]; lia -abstractProof
  rintro m' σ₃ ⟨o4, rfl, kp, ar, cc, st, l20⟩
  rw [rng_length] at cc st
  refine ⟨rfl, ?_⟩
  clear kB aB cB sB
  have cT : cellsT.take 5 = cellsT := rfl
  rw [cT] at cc
  have b1 : bnd ties 1 = selfs 0 5 := by
    rw [← bnd_same t5 (by decide) (j := 0)]
    · simp [bnd]
    · exact t0
  refine EXs_next (EX_for thruAll (fun (k : Nat) (m : Loc) (σ' : List AO) => ∃ o4 : Option V, m = LA a o4 o5 o6 o8 o9 e.toV [o14, o15, o16, o17, o18, o19, o20, o21, o22, o23, o24] ∧ Kp [13, 19] σ σ' ∧ σ'[11]? = some (.inst 597 areasFs) ∧ σ'[19]? = some (.dI cellsT) ∧ StAt (bnd ties (k + 1)) σ' ∧ 20 ≤ σ'.length) ?_)
  refine IE_range (mI 2 rfl) P.n_range bt_range (by decide) rfl (EV_int (EV_int (.inr (.inl ⟨1, 5, 4, rfl, by decide +kernel, by decide +kernel, ⟨o4, rfl, kp, ar, cc, by rw [b1]; exact st, l20⟩, fun z_ z_ z_ z_ z_ => trivial, ?_, ?_⟩))))
  · rintro k m' σ' v hv ⟨o4, rfl, kp, ar, cc, st, l20⟩
    have hk : k < 4 := by rw [← rng_length 1 1 4]; exact (List.getElem?_eq_some_iff.mp hv).1
    rw [rng_get 1 1 4 k hk] at hv
    cases hv
    have ek : (1 : Int) + k * 1 = ((k + 1 : Nat) : Int) := by lia -abstractProof
    rw [ek]
    have ti' := ti.kp kp (by decide)
    obtain ⟨t, ht⟩ : ∃ t, ties[k + 1]? = some t := ⟨_, List.getElem?_eq_getElem (by lia -abstractProof)⟩
    have hat : (ties.map T.toV)[(((k + 1 : Nat) : Int)).toNat]? = some t.toV := by rw [Int.toNat_natCast, List.getElem?_map, ht]; rfl
    refine ASG_name ⟨_, (uI 4 rfl), ?_⟩
    have bl := bnd_len t5 (k + 1)
    have fin : ∀ σ'', Kp [13] σ' σ'' → StAt (bnd ties (k + 1 + 1)) σ'' → ∃ o4' : Option V, LA a (some (.int ((k + 1 : Nat) : Int))) o5 o6 o8 o9 e.toV [o14, o15, o16, o17, o18, o19, o20, o21, o22, o23, o24] = LA a o4' o5 o6 o8 o9 e.toV [o14, o15, o16, o17, o18, o19, o20, o21, o22, o23, o24] ∧ Kp [13, 19] σ σ'' ∧ σ''[11]? = some (.inst 597 areasFs) ∧ σ''[19]? = some (.dI cellsT) ∧ StAt (bnd ties (k + 1 + 1)) σ'' ∧ 20 ≤ σ''.length := fun σ'' k' s' =>
      ⟨_, rfl, kp.trans (k'.mono (by decide)), k'.get ar (by decide), k'.get cc (by decide), s', by have := k'.1; lia -abstractProof⟩
    rcases tok (k + 1) t ht with rfl | ⟨j, j0, jk, rfl⟩ | rfl
    · refine EXs_last (EX_if (TE_cmp (EV_sub (EV_sub (EV_name (v := .ref 7) (mI 3 rfl) (EV_name (v := .int ((k + 1 : Nat) : Int)) (mI 4 rfl) (SUB_list (x := T.toV (.v ((k + 1 : Nat) : Int))) ti'.o (by lia -abstractProof) (by lia -abstractProof) hat (EV_int (SUB_kind (EV_str (OP_eqS ⟨_, rfl, fun q => absurd q (by show ¬ (("v" : Str) == "i") = true; decide +kernel), fun z_ => ?_⟩)))))))))))
      refine EXs_last (EX_if (TE_cmp (EV_sub (EV_sub (EV_name (v := .ref 7) (mI 3 rfl) (EV_name (v := .int ((k + 1 : Nat) : Int)) (mI 4 rfl) (SUB_list (x := T.toV (.v ((k + 1 : Nat) : Int))) ti'.o (by lia -abstractProof) (by lia -abstractProof) hat (EV_int (SUB_tup (k := 1) (x := .int ((k + 1 : Nat) : Int)) (by decide) rfl (EV_name (v := .int ((k + 1 : Nat) : Int)) (mI 4 rfl) (OP_neI ⟨_, rfl, fun q => absurd q (by simp), fun z_ => EXs_nil (fin σ' .refl ?_)⟩)))))))))))
      rw [← bnd_same t5 (by lia -abstractProof) ht]; exact st
    · have jc : cellOf (.v j) = (0, j) := rfl
      have bs := bnd_set t5 ht
      refine EXs_last (EX_if (TE_cmp (EV_sub (EV_sub (EV_name (v := .ref 7) (mI 3 rfl) (EV_name (v := .int ((k + 1 : Nat) : Int)) (mI 4 rfl) (SUB_list (x := T.toV (.v j)) ti'.o (by lia -abstractProof) (by lia -abstractProof) hat (EV_int (SUB_kind (EV_str (OP_eqS ⟨_, rfl, fun q => absurd q (by show ¬ (("v" : Str) == "i") = true; decide +kernel), fun z_ => ?_⟩)))))))))))
      refine EXs_last (EX_if (TE_cmp (EV_sub (EV_sub (EV_name (v := .ref 7) (mI 3 rfl) (EV_name (v := .int ((k + 1 : Nat) : Int)) (mI 4 rfl) (SUB_list (x := T.toV (.v j)) ti'.o (by lia -abstractProof) (by lia -abstractProof) hat (EV_int (SUB_tup (k := 1) (x := .int j) (by decide) rfl (EV_name (v := .int ((k + 1 : Nat) : Int)) (mI 4 rfl) (OP_neI ⟨_, rfl, fun z_ => ?_, fun q => absurd q (by simp; lia -abstractProof)⟩)))))))))))
      refine EXs_last (EX_expr (EV_imeth rfl (by decide) rfl (EV_store P (mI 12 rfl) ar ⟨12, 423, _, _, rfl, st.o, P.c_Store, P.m_Store_bind, by decide, ?_⟩)))
      refine EV_sub (EV_name (v := .ref 19) (mI 13 rfl) (EV_name (v := .int ((k + 1 : Nat) : Int)) (mI 4 rfl) (SUB_dI cc (cellsT_at (by lia -abstractProof) (by lia -abstractProof)) (EV_sub (EV_name (v := .ref 19) (mI 13 rfl) (EV_sub (EV_sub (EV_name (v := .ref 7) (mI 3 rfl) (EV_name (v := .int ((k + 1 : Nat) : Int)) (mI 4 rfl) (SUB_list (x := T.toV (.v j)) ti'.o (by lia -abstractProof) (by lia -abstractProof) hat (EV_int (SUB_tup (k := 1) (x := .int j) (by decide) rfl (SUB_dI cc (cellsT_at (by lia -abstractProof) (by lia -abstractProof)) ?_)))))))))))))
      refine CA.op (CA_bind P st (by lia -abstractProof) fun σ'' k'' e'' s'' => fin σ'' k'' ?_)
      rw [← bs]; exact s''
    · have bs := bnd_set t5 ht
      refine EXs_last (EX_if (TE_cmp (EV_sub (EV_sub (EV_name (v := .ref 7) (mI 3 rfl) (EV_name (v := .int ((k + 1 : Nat) : Int)) (mI 4 rfl) (SUB_list (x := T.toV (.i ((k + 1 : Nat) : Int))) ti'.o (by lia -abstractProof) (by lia -abstractProof) hat (EV_int (SUB_kind (EV_str (OP_eqS ⟨_, rfl, fun z_ => ?_, selfNe⟩)))))))))))
      refine EXs_last (EX_expr (EV_imeth rfl (by decide) rfl (EV_store P (mI 12 rfl) ar ⟨12, 423, _, _, rfl, st.o, P.c_Store, P.m_Store_bind, by decide, ?_⟩)))
      refine EV_sub (EV_name (v := .ref 19) (mI 13 rfl) (EV_name (v := .int ((k + 1 : Nat) : Int)) (mI 4 rfl) (SUB_dI cc (cellsT_at (by lia -abstractProof) (by lia -abstractProof)) (EV_tuple rfl (by decide) (EV_gint (mI 7 rfl) gI (EV_name (v := .int ((k + 1 : Nat) : Int)) (mI 4 rfl) ?_))))))
      refine CA.op (CA_bind (c := (5, ((k + 1 : Nat) : Int))) P st (by lia -abstractProof) fun σ'' k'' e'' s'' => fin σ'' k'' ?_)
      rw [← bs]; exact s''
  intro m' σ₄ z2_
  refine shut fun P_ o_ => ?_
  obtain ⟨o4', rfl, kp4, ar4, cc4, st4, l204⟩ := z2_
  refine o_ ?_
  rw [rng_length] at st4
  have b5 : bnd ties 5 = ties.map cellOf := by
    unfold bnd
    rw [List.take_of_length_le (by simp; lia -abstractProof), List.drop_eq_nil_of_le (by rw [selfs_len]; exact Nat.le_refl _), List.append_nil]
  rw [b5] at st4
  refine ⟨rfl, ?_⟩
  have y2 := yi.y2
  have ht : HT R (ties.map cellOf) := ⟨⟨ties.map cellOf, by rw [List.length_map]; exact t5, fun z_ z_ => rfl, fun k k0 k5 => En_der tok (lf.rt.en k k0 k5) rfl⟩⟩
  exact law_p3 P x lf ⟨hy.kp kp4 (by decide), y2.up (by lia -abstractProof), st4, ar4, cc4, kp4.get n8 (by decide), kp4.get e9 (by decide), ti.kp kp4 (by decide), l204, ht, by rw [List.length_map]; lia -abstractProof, eok⟩ (y2.up (by lia -abstractProof)) (by rw [List.length_map]; exact t5)
end
section
variable {B : Bs} {n : Nat} {X : V → List AO → Prop} {σ : List AO} {Q : V → List AO → Prop} {G : Gs} {m : Loc}
theorem law_p1c (P : PF B) (x : XP B) {a : Addr} {o4 o5 o6 o8 o9 o10 o11 o12 o13 o14 o15 o16 o17 o18 o19 o20 o21 o22 o23 o24 : Option V} {R : Int → T} {ties : List T} {rs : List Int} (rt : RT ties R) (nd : rs.Nodup) (rr : ∀ r, r ∈ rs → 0 ≤ r ∧ r < 5 ∧ R r = .v r) (rl : rs.length ≤ 5) (tok : TiesOk ties) (t0 : ties[0]? = some (.v 0)) (h9 : σ.length = 9) (hy : SyAt sy0 σ) (hp : PoolAt σ) (ti : TiesAt ties σ) (n8 : σ[8]? = some (.dI (numL rs 0))) :
    EXs B (n + 9) X gL (LL [some (.ext a), some (.ref 1), some (.ref 2), some (.ref 7), o4, o5, o6, some (.ref 8), o8, o9, o10, o11, o12, o13, o14, o15, o16, o17, o18, o19, o20, o21, o22, o23, o24]) σ (lB.drop 6) lQ := by
  refine shut fun P_ o_ => ?_
  obtain ⟨tN, gN⟩ := P.i_A_NIL
  refine o_ ?_
  have yi0 : YI sy0 0 := ⟨⟨[], by simp [sy0], by simp, by simp⟩, by decide +kernel, rfl⟩
  refine EXs_next (EX_comp (cap := ["pool", "names"]) ⟨["_law_entry"], [], []⟩ [(("pool" : Str), some (V.ref 1)), (("names" : Str), some (V.ref 2))] (by decide +kernel) (by decide) rfl (subC (mI 1 rfl) (subC (mI 2 rfl) subN))
    (fun k acc σ' => ∃ (es : List T) (y' : Sy), acc = es.map T.toV ∧ es.length = k ∧ Rd σ σ' ∧ SyAt y' σ' ∧ YI y' k ∧ ∀ z, z ∈ es → EntOk y' z) ?_)
  refine IE_range (mI 2 rfl) P.n_range bt_range (by decide) rfl (EV_draw (n := n + 8) P (mI 1 rfl) (mI 1 rfl) hp (by decide) (by decide) fun r σ₁ r0 r1 d₁ => .inl ⟨r.toNat, by rw [Int.toNat_of_nonneg r0], by lia -abstractProof, ?_⟩)
  refine ⟨by rw [rng_length]; lia -abstractProof, ⟨[], sy0, rfl, rfl, d₁.rd, hy.dr d₁, yi0, by simp⟩, fun z_ z_ z_ z_ z_ => trivial, ?_, ?_⟩
  · intro k acc σ' v hv z5_
    refine shut fun P_ o_ => ?_
    obtain ⟨es, y', rfl, hl, rd, y1, yi, ok⟩ := z5_
    refine o_ ?_
    have hk : k < r.toNat := by rw [← rng_length 0 1 r.toNat]; exact (List.getElem?_eq_some_iff.mp hv).1
    refine ⟨fun z_ => ?_, fun q => by cases q⟩
    refine EV_call (mI 0 rfl) P.g_law_entry P.k_law_entry rfl (EV_name (v := .ref 1) (mI 1 rfl) (EV_name (v := .ref 2) (mI 2 rfl) (CA.op (CA_entry (n := n + 6) P rd.pool y1 yi (by lia -abstractProof) fun z y2 σ'' rd2 hy2 yi2 pl eo => ⟨es ++ [z], y2, by simp, by simp [hl], rd.trans rd2, hy2, yi2, fun u hu => ?_⟩))))
    rcases List.mem_append.mp hu with q | q
    · exact (ok u q).mono pl
    · simp at q; subst q; exact eo
  intro acc σ₂ z2_
  refine shut fun P_ o_ => ?_
  obtain ⟨es, y, rfl, hl, rd, hy2, yi, ok⟩ := z2_
  refine o_ ?_
  rw [rng_length] at hl yi
  refine ⟨_, (uI 10 rfl), rfl, ?_⟩
  have l9 : σ₂.length = 9 := rd.len.trans h9
  rw [l9]
  have e9 : (σ₂ ++ [AO.list (es.map T.toV)])[9]? = some (.list (es.map T.toV)) := get_app' l9
  have l10 : (σ₂ ++ [AO.list (es.map T.toV)]).length = 10 := by simp only [List.length_append, l9]; rfl
  have kp : Kp [1, 3, 4, 5, 6] σ (σ₂ ++ [AO.list (es.map T.toV)]) := rd.kp.trans .app
  have hy3 := hy2.kp (Kp.app (D := []) (t := [AO.list (es.map T.toV)])) (by decide)
  have hp3 := rd.pool.kp (Kp.app (D := []) (t := [AO.list (es.map T.toV)])) (by decide)
  generalize σ₂ ++ [AO.list (es.map T.toV)] = σ₃ at e9 l10 kp hy3 hp3 ⊢
  have el : es.length ≤ 5 := by lia -abstractProof
  refine shut fun P_ o_ => ?_
  obtain ⟨⟨xl, xe, xz, xm⟩, ynd, yfs⟩ := yi
  refine o_ ?_
  have yi5 : YI y 5 := ⟨⟨xl, xe, by lia -abstractProof, xm⟩, ynd, yfs⟩
  refine EXs_next (EX_assign (EV_draw P (mI 1 rfl) (mI 1 rfl) hp3 (by decide) (by decide) fun kd σ₄ k0 k1 d₄ => ⟨_, (uI 5 rfl), rfl, ?_⟩))
  refine EXs_next (EX_assign (EV_tuple rfl (by decide) (EV_str (EV_gint (mI 5 rfl) gN ⟨_, (uI 11 rfl), rfl, ?_⟩))))
  have fin : ∀ (σ₅ : List AO) (e : T), Dr σ₃ σ₅ → EndOk e → EXs B (n + 9) X gL (LB a o4 (some (.int kd)) o6 o8 o9 [some e.toV, o12, o13, o14, o15, o16, o17, o18, o19, o20, o21, o22, o23, o24]) σ₅ (lB.drop 10) lQ := fun σ₅ e d he =>
    law_p2 P x (e := e) ⟨rt, nd, rr, rl, el, he⟩ tok t0 (d.len.trans l10) (hy3.dr d) yi5 (ti.kp (kp.trans (d.kp.mono (by decide))) (by decide)) ((kp.trans (d.kp.mono (by decide))).get n8 (by decide)) (d.kp.get e9 (by decide)) ok
  refine EXs_next (EX_if (TE_cmp (EV_name (v := .int kd) (mI 5 rfl) (EV_int (OP_gtI ⟨_, rfl, fun q => ?_, fun q => EXs_nil ⟨rfl, fin σ₄ (.a 0) d₄ rfl⟩⟩)))))
  refine EXs_last (EX_assign (EV_if (TE_cmp (EV_name (v := .int kd) (mI 5 rfl) (EV_int (OP_eqI ⟨_, rfl, fun q => ?_, fun q => ?_⟩))))))
  · refine EV_tuple rfl (by decide) (EV_str (EV_int ⟨_, (uI 11 rfl), rfl, fin σ₄ (.i 3) d₄ trivial⟩))
  · refine EV_tuple rfl (by decide) (EV_str (EV_draw P (mI 1 rfl) (mI 1 rfl) d₄.pool (by decide) (by decide) fun v σ₅ v0 v1 d₅ => ⟨_, (uI 11 rfl), rfl, fin σ₅ (.v v) (d₄.trans d₅) ⟨v0, v1⟩⟩))
theorem law_p1b (P : PF B) (x : XP B) {a : Addr} {o4 o5 o6 o7 o8 o9 o10 o11 o12 o13 o14 o15 o16 o17 o18 o19 o20 o21 o22 o23 o24 : Option V} {ties : List T} (tok : TiesOk ties) (t0 : ties[0]? = some (.v 0)) (h8 : σ.length = 8) (hy : SyAt sy0 σ) (hp : PoolAt σ) (ti : TiesAt ties σ) :
    EXs B (n + 9) X gL (LL [some (.ext a), some (.ref 1), some (.ref 2), some (.ref 7), o4, o5, o6, o7, o8, o9, o10, o11, o12, o13, o14, o15, o16, o17, o18, o19, o20, o21, o22, o23, o24]) σ (lB.drop 4) lQ := by
  obtain ⟨R, rt⟩ := ties_R ti.five tok
  refine EXs_next (EX_assign (EV_dI ⟨_, (uI 7 rfl), rfl, ?_⟩))
  rw [h8]
  have l9 : (σ ++ [AO.dI []]).length = 9 := by simp [h8]
  have n8 : (σ ++ [AO.dI []])[8]? = some (.dI (numL [] 0)) := get_app' h8
  have hy1 := hy.kp (Kp.app (D := []) (t := [AO.dI []])) (by decide)
  have hp1 := hp.kp (Kp.app (D := []) (t := [AO.dI []])) (by decide)
  have ti1 := ti.kp (Kp.app (D := []) (t := [AO.dI []])) List.not_mem_nil
  generalize σ ++ [AO.dI []] = σ₁ at l9 n8 hy1 hp1 ti1 ⊢
  refine EXs_next (EX_for thruAll (fun (k : Nat) (m : Loc) (σ' : List AO) => ∃ (o8 o9 : Option V) (rs : List Int), m = LL [some (.ext a), some (.ref 1), some (.ref 2), some (.ref 7), o4, o5, o6, some (.ref 8), o8, o9, o10, o11, o12, o13, o14, o15, o16, o17, o18, o19, o20, o21, o22, o23, o24] ∧ σ'.length = 9 ∧ σ'[8]? = some (.dI (numL rs 0)) ∧ SyAt sy0 σ' ∧ PoolAt σ' ∧ TiesAt ties σ' ∧ rs.Nodup ∧ (∀ r, r ∈ rs → 0 ≤ r ∧ r < 5 ∧ R r = .v r) ∧ rs.length ≤ k) ?_)
  refine IE_range (mI 2 rfl) P.n_range bt_range (by decide) rfl (EV_int (.inl ⟨3, rfl, by decide, ⟨o8, o9, [], rfl, l9, n8, hy1, hp1, ti1, List.nodup_nil, by simp, by simp⟩, fun z_ z_ z_ z_ z_ => trivial, ?_, ?_⟩))
  · intro k m' σ' v hv z5_
    refine shut fun P_ o_ => ?_
    obtain ⟨o8, o9, rs, rfl, l9, n8, hy, hp, ti, nd, rr, rl⟩ := z5_
    refine o_ ?_
    have hk : k < 3 := by rw [← rng_length 0 1 3]; exact (List.getElem?_eq_some_iff.mp hv).1
    refine ASG_name ⟨_, (uI 8 rfl), ?_⟩
    refine EXs_next (EX_assign (EV_call (mI 3 rfl) P.g_law_end P.k_law_end rfl (EV_name (v := .ref 7) (mI 3 rfl) (EV_tuple rfl (by decide) (EV_str (EV_draw (n := n + 8) P (mI 1 rfl) (mI 1 rfl) hp (by decide) (by decide) fun d σ₂ d0 d5 dr => ?_))))))
    have ti2 := ti.kp dr.kp (by decide)
    have n82 : σ₂[8]? = _ := dr.kp.get n8 (by decide)
    refine CA.op (CA_end (t := .v d) (n := n + 8) P ti2 (rt.en d d0 d5) ⟨_, (uI 9 rfl), rfl, ?_⟩)
    rcases rt.good d d0 d5 with ⟨j, j0, j5, hj, hjj⟩ | ⟨i, hi⟩
    · rw [hj]
      refine EXs_last (EX_if (TE_and (TE_cmp (EV_kind (t := .v j) (mI 9 rfl) (EV_str (OP_eqS ⟨_, rfl, fun z_ => ?_, selfNe⟩))))))
      refine TE_cmp (EV_snd (mI 9 rfl) (EV_name (v := .ref 8) (mI 7 rfl) (OP_ninI n82 ⟨_, rfl, fun q => ⟨fun z_ => ?_, fun q => by cases q⟩, fun q => ⟨fun q => (by cases q), fun z_ => EXs_nil ⟨_, _, rs, rfl, dr.len.trans l9, n82, hy.dr dr, dr.pool, ti2, nd, rr, by lia -abstractProof⟩⟩⟩)))
      have hn : j ∉ rs := by intro hm; rw [numL_at, if_pos hm] at q; simp at q
      refine EXs_last (EX_setitem (EV_len P (mI 4 rfl) rfl (EV_name (v := .ref 8) (mI 7 rfl) (OP_lenI n82 (by rw [numL_len]; lia -abstractProof) (EV_name (v := .ref 8) (mI 7 rfl) (EV_snd (mI 9 rfl) ?_))))))
      rw [numL_len]
      refine OP_setI n82 (by rw [numL_len]; lia -abstractProof) ⟨_, _, rs ++ [j], rfl, by rw [List.length_set]; exact dr.len.trans l9, ?_, (hy.dr dr).setN (by decide), ?_, ?_, ?_, ?_, by simp; lia -abstractProof⟩
      · rw [set_get n82, dN_put hn]
      · exact dr.pool.kp (D := [8]) (.set (by decide)) (by decide)
      · exact ti2.kp (D := [8]) (.set (by decide)) (by decide)
      · rw [List.nodup_append]
        exact ⟨nd, by simp, fun a ha b hb => by simp at hb; rintro rfl; exact hn (hb ▸ ha)⟩
      · intro r hr
        rcases List.mem_append.mp hr with q | q
        · exact rr r q
        · simp at q; subst q; exact ⟨j0, j5, hjj⟩
    · rw [hi]
      refine EXs_last (EX_if (TE_and (TE_cmp (EV_kind (t := .i i) (mI 9 rfl) (EV_str (OP_eqS ⟨_, rfl, fun q => absurd q (by show ¬ (("i" : Str) == "v") = true; decide +kernel), fun z_ => ⟨fun q => (by cases q), fun z_ => EXs_nil ⟨_, _, rs, rfl, dr.len.trans l9, n82, hy.dr dr, dr.pool, ti2, nd, rr, by lia -abstractProof⟩⟩⟩))))))
  intro m' σ₂ z2_
  refine shut fun P_ o_ => ?_
  obtain ⟨o8, o9, rs, rfl, l9, n8, hy, hp, ti, nd, rr, rl⟩ := z2_
  refine o_ ?_
  rw [rng_length] at rl
  exact ⟨rfl, law_p1c P x rt nd rr (by lia -abstractProof) tok t0 l9 hy hp ti n8⟩
end
section
variable {B : Bs} {n : Nat} {X : V → List AO → Prop} {σ : List AO} {Q : V → List AO → Prop} {G : Gs} {m : Loc}
theorem CA_law (P : PF B) (x : XP B) {a : Addr} {vs : List Value} {ns : List Int} (hL : B.h₀.IsList a (List.toArray vs)) (hI : IntsAre vs ns) (hz : ns.length ≤ 1000) : CA B (n + 10) X (.ref 684) [.ext a] [] fun v z_ => v = .bool true := by
  refine CA_fn (others := ["pool", "names", "ties", "place", "kind", "tie", "numbers", "_", "root", "entries", "end", "m", "cells", "tree", "option", "before", "due", "value", "pairs", "entry", "word", "rows", "made", "kept"]) (G := gL) thruAll P.f_law (by decide +kernel) rfl ?_
  refine EXs_next (EX_assign (EV_list rfl (by decide) (EV_sliceExt (EV_name (v := .ext a) (mI 0 rfl) (EV_int ⟨a, 63, vs, ns, rfl, rfl, hL, hI, by lia, ?_⟩)))))
  refine EV_int (EV_un (EV_int (OP_neg (EV_int ⟨_, (uI 1 rfl), rfl, ?_⟩))))
  have e0 : ([] : List AO) ++ [.list ((ns.take 63).map V.int)] ++ [.list [.ref 0, .int 0, .int (-1), .int 0]] = [.list ((ns.take 63).map V.int), .list [.ref 0, .int 0, .int (-1), .int 0]] := rfl
  show EXs B _ X _ _ [.list ((ns.take 63).map V.int), .list [.ref 0, .int 0, .int (-1), .int 0]] _ _
  refine EXs_next (EX_assign (EV_call (mI 0 rfl) P.gc_Symbols P.kc_Symbols rfl (CA.op (CA_make P.mk_Symbols P.in_Symbols P.it_Symbols ?_))))
  show CA B (n + 8) X (.ref 81) [.ref 2] [.list ((ns.take 63).map V.int), .list [.ref 0, .int 0, .int (-1), .int 0], .inst 154 []] _
  refine CA_syInit (n := n + 5) P fun σ₁ k₁ l₁ y₁ => ⟨rfl, _, (uI 2 rfl), rfl, ?_⟩
  have hp₁ : PoolAt σ₁ := ⟨ns.take 63, 0, -1, 0, k₁.get (by rfl) (by decide), by simp; lia, k₁.get (by rfl) (by decide), by decide, by decide⟩
  clear k₁
  refine EXs_next (EX_assign (EV_list rfl (by decide) (EV_tuple rfl (by decide) (EV_str (EV_int ⟨_, (uI 3 rfl), rfl, ?_⟩)))))
  rw [l₁]
  have l8 : (σ₁ ++ [AO.list [T.toV (.v 0)]]).length = 8 := by rw [List.length_append, l₁]; rfl
  have t7 : (σ₁ ++ [AO.list [T.toV (.v 0)]])[7]? = some (.list ([T.v 0].map T.toV)) := get_app' l₁
  have hy := y₁.kp (Kp.app (D := []) (t := [AO.list [T.toV (.v 0)]])) (by decide)
  have hp := hp₁.kp (Kp.app (D := []) (t := [AO.list [T.toV (.v 0)]])) (by decide)
  show EXs B _ X _ _ (σ₁ ++ [AO.list [T.toV (.v 0)]]) _ _
  generalize σ₁ ++ [AO.list [T.toV (.v 0)]] = σ₂ at l8 t7 hy hp ⊢
  refine EXs_next (EX_for thruAll (fun (k : Nat) (m : Loc) (σ' : List AO) => ∃ (o4 o5 o6 : Option V) (ties : List T), m = LL [some (.ext a), some (.ref 1), some (.ref 2), some (.ref 7), o4, o5, o6, none, none, none, none, none, none, none, none, none, none, none, none, none, none, none, none, none, none] ∧ σ'.length = 8 ∧ σ'[7]? = some (.list (ties.map T.toV)) ∧ SyAt sy0 σ' ∧ PoolAt σ' ∧ ties.length = k + 1 ∧ ties[0]? = some (.v 0) ∧ TiesOk ties) ?_)
  refine IE_range (mI 2 rfl) P.n_range bt_range (by decide) rfl (EV_int (EV_int (.inr (.inl ⟨1, 5, 4, rfl, by decide +kernel, by decide +kernel, ⟨none, none, none, [.v 0], rfl, l8, t7, hy, hp, rfl, rfl, ?_⟩, fun z_ z_ z_ z_ z_ => trivial, ?_, ?_⟩))))
  · intro k t hk
    cases k with
    | zero => cases hk; exact .inl rfl
    | succ k => simp at hk
  · rintro k m' σ' v hv ⟨o4, o5, o6, ties, rfl, l8, t7, hy, hp, tl, t0, tok⟩
    have hk : k < 4 := by rw [← rng_length 1 1 4]; exact (List.getElem?_eq_some_iff.mp hv).1
    rw [rng_get 1 1 4 k hk] at hv
    cases hv
    have ek : (1 : Int) + k * 1 = ((k + 1 : Nat) : Int) := by lia
    simp only [ek]
    refine ASG_name ⟨_, (uI 4 rfl), ?_⟩
    refine EXs_next (EX_assign (EV_draw P (mI 1 rfl) (mI 1 rfl) hp (by decide) (by decide) fun kd σ₃ k0 k1 d₃ => ⟨_, (uI 5 rfl), rfl, ?_⟩))
    refine EXs_next (EX_assign (EV_tuple rfl (by decide) (EV_str (EV_name (v := .int ((k + 1 : Nat) : Int)) (mI 4 rfl) ⟨_, (uI 6 rfl), rfl, ?_⟩))))
    have fin : ∀ (t : T) (σ₄ : List AO), TieOk (k + 1) t → Dr σ' σ₄ → EXs B (n + 9) X gL (LL [some (.ext a), some (.ref 1), some (.ref 2), some (.ref 7), some (.int ((k + 1 : Nat) : Int)), some (.int kd), some t.toV, none, none, none, none, none, none, none, none, none, none, none, none, none, none, none, none, none, none]) σ₄ ((fnB (nth lB 3)).drop 3) (fun af m₃ σ₃ => match af with
        | .nxt => ∃ (o4 o5 o6 : Option V) (ties : List T), m₃ = LL [some (.ext a), some (.ref 1), some (.ref 2), some (.ref 7), o4, o5, o6, none, none, none, none, none, none, none, none, none, none, none, none, none, none, none, none, none, none] ∧ σ₃.length = 8 ∧ σ₃[7]? = some (.list (ties.map T.toV)) ∧ SyAt sy0 σ₃ ∧ PoolAt σ₃ ∧ ties.length = k + 1 + 1 ∧ ties[0]? = some (.v 0) ∧ TiesOk ties
        | _ => False) := by
      intro t σ₄ ht d
      have t74 : σ₄[7]? = _ := d.kp.get t7 (by decide)
      refine EXs_last (EX_expr (EV_append rfl rfl (EV_name (v := .ref 7) (mI 3 rfl) ⟨7, rfl, ⟨_, t74⟩, EV_name (v := t.toV) (mI 6 rfl) ⟨_, t74, by rw [List.length_map]; lia, _, _, _, ties ++ [t], rfl, by rw [List.length_set]; exact d.len.trans l8, ?_, (hy.dr d).setN (by decide), d.pool.kp (D := [7]) (.set (by decide)) (by decide), by simp [tl], ?_, ?_⟩⟩)))
      · rw [set_get t74]; simp
      · rw [List.getElem?_append_left (by lia)]; exact t0
      · intro j u hj
        by_cases hl : j < ties.length
        · rw [List.getElem?_append_left hl] at hj; exact tok j u hj
        · have hb := (List.getElem?_eq_some_iff.mp hj).1
          simp at hb
          have : j = k + 1 := by lia
          subst this
          rw [List.getElem?_append_right (by lia), tl, Nat.sub_self] at hj
          cases hj; exact ht
    refine EXs_next (EX_if (TE_cmp (EV_name (v := .int kd) (mI 5 rfl) (EV_int (OP_eqI ⟨_, rfl, fun q => ?_, fun q => ?_⟩)))))
    · refine EXs_last (EX_assign (EV_tuple rfl (by decide) (EV_str (EV_call (mI 1 rfl) P.g_law_draw P.k_law_draw rfl (EV_name (v := .ref 1) (mI 1 rfl) (EV_name (v := .int ((k + 1 : Nat) : Int)) (mI 4 rfl) (CA.op (CA_draw (n := n + 8) P d₃.pool (by lia) (by lia) fun j σ₄ j0 j1 q1 q2 q3 => ⟨_, (uI 6 rfl), rfl, ?_⟩))))))))
      exact EXs_mono (fin (.v j) σ₄ (.inr (.inl ⟨j, j0, j1, rfl⟩)) (d₃.trans ⟨q1, q2, q3⟩)) fun af m₃ σ₃ q => by cases af <;> first | exact q | exact q.elim
    · refine EXs_last (EX_if (TE_cmp (EV_name (v := .int kd) (mI 5 rfl) (EV_int (OP_eqI ⟨_, rfl, fun q => ?_, fun q => EXs_nil ⟨rfl, ?_⟩⟩)))))
      · refine EXs_last (EX_assign (EV_tuple rfl (by decide) (EV_str (EV_name (v := .int ((k + 1 : Nat) : Int)) (mI 4 rfl) ⟨_, (uI 6 rfl), rfl, ?_⟩))))
        exact EXs_mono (fin (.i ((k + 1 : Nat) : Int)) σ₃ (.inr (.inr rfl)) d₃) fun af m₃ σ₃ q => by cases af <;> first | exact q | exact q.elim
      · exact EXs_mono (fin (.v ((k + 1 : Nat) : Int)) σ₃ (.inl rfl) d₃) fun af m₃ σ₃ q => by cases af <;> first | exact q | exact q.elim
  intro m' σ₃ z2_
  refine shut fun P_ o_ => ?_
  obtain ⟨o4, o5, o6, ties, rfl, l8, t7, hy, hp, tl, t0, tok⟩ := z2_
  refine o_ ?_
  rw [rng_length] at tl
  exact ⟨rfl, law_p1b P x tok t0 l8 hy hp ⟨t7, tl, fun t ht => by
    obtain ⟨i, hi⟩ := List.mem_iff_getElem?.mp ht
    exact (tok i t hi).dep⟩⟩
end
noncomputable def fnA : Stmt → Arguments
  | .FunctionDef _ a _ _ _ _ _ _ _ _ => a
  | _ => default
noncomputable def fnN : Stmt → Str
  | .FunctionDef n _ _ _ _ _ _ _ _ _ => n
  | _ => default
set_option genInjectivity false in
structure Fo where
  a : Nat
  st : Stmt
  q : Str
  m : Value
  dV : Value
  c : Nat
  t : Nat
  ln : Int
  ac : Int
  fl : Int
  r1 : Nat
  r2 : Nat
  r3 : Nat
  r4 : Nat
  r5 : Nat
  t4 : Nat
noncomputable def rf (n : Nat) : Value := match n with
  | 0 => .none
  | n + 1 => .ref (n + 1)
noncomputable def fnO (st : Stmt) (q : Str) (m dV : Value) (c : Nat) : Obj := ⟨.type "function", none, .func (fnOf (fnN st) q (fnA st) (fnB st) (fnS st) dV .none .none m none (.ref c) .none), #[]⟩
noncomputable def cdO (f : Fo) : Obj := ⟨.type "code", none, .fields #[.str (fnN f.st) f.t, .str f.q (f.t + 1), .str "/claim/cut.py" (f.t + 2), .int f.ln 0, .int f.ac 0, .int 0 0, .int 0 0, .int f.fl 0, .ref f.r1, .bool true, .int 181 0, .ref f.r2, .none, rf f.r3, rf f.r4, .ref f.r5, .int f.t4 0, .int f.ln 0, .str "/claim/cut.py" (f.t4 + 1)], #[]⟩
noncomputable def ents (P : Params) (l : List (Str × Nat × Value)) : Array DictEntry := (l.map fun e => (⟨PyData.keyHash P e.1, .str e.1 e.2.1, e.2.2⟩ : DictEntry)).toArray
noncomputable def mo0 : Value := .str "__main__" 164
noncomputable def mo1 : Value := .str "clausemill.symbols" 194
noncomputable def mo2 : Value := .str "clausemill.terms" 383
noncomputable def mo3 : Value := .str "clausemill.chars" 427
noncomputable def mo4 : Value := .str "clausemill.store" 457
noncomputable def mo5 : Value := .str "clausemill.preds_write" 779
noncomputable def mo6 : Value := .str "clausemill.areas" 807
noncomputable def mo7 : Value := .str "clausemill.preds_read" 1019
noncomputable def mo8 : Value := .str "law_rh0109_01" 1034
noncomputable def fos : List Fo := (List.append [⟨48, meth 3 0, "PrologError.__init__", mo1, .none, 47, 228, 9, 2, 3, 42, 43, 44, 45, 46, 233⟩,
  ⟨60, top 9, "fixed_atoms", mo1, .none, 59, 251, 16, 0, 3, 54, 55, 56, 57, 58, 254⟩,
  ⟨67, top 10, "fixed_functors", mo1, .none, 66, 257, 18, 0, 3, 61, 62, 63, 64, 65, 260⟩,
  ⟨81, meth 11 0, "Symbols.__init__", mo1, .none, 80, 275, 22, 1, 3, 75, 76, 77, 78, 79, 281⟩,
  ⟨88, meth 11 1, "Symbols.atom", mo1, .none, 87, 284, 32, 2, 3, 82, 83, 84, 85, 86, 291⟩,
  ⟨95, meth 11 2, "Symbols.text", mo1, .none, 94, 294, 41, 2, 3, 89, 90, 91, 92, 93, 299⟩,
  ⟨102, meth 11 3, "Symbols.functor", mo1, .none, 101, 302, 44, 3, 3, 96, 97, 98, 99, 100, 311⟩,
  ⟨109, meth 11 4, "Symbols.func", mo1, .none, 108, 314, 54, 3, 3, 103, 104, 105, 106, 107, 320⟩,
  ⟨116, meth 11 5, "Symbols.name", mo1, .none, 115, 323, 57, 2, 3, 110, 111, 112, 113, 114, 328⟩,
  ⟨123, meth 11 6, "Symbols.arity", mo1, .none, 122, 331, 60, 2, 3, 117, 118, 119, 120, 121, 336⟩,
  ⟨165, top 13, "system_error", mo2, .none, 164, 385, 78, 1, 3, 159, 160, 161, 162, 163, 389⟩,
  ⟨172, top 14, "formal_of", mo2, .none, 171, 392, 80, 3, 3, 166, 167, 168, 169, 170, 400⟩,
  ⟨179, top 15, "instantiation_error", mo2, .none, 178, 403, 85, 1, 3, 173, 174, 175, 176, 177, 407⟩,
  ⟨186, top 16, "domain_error", mo2, .none, 185, 410, 87, 3, 3, 180, 181, 182, 183, 184, 416⟩,
  ⟨200, top 19, "is_digit", mo3, .none, 199, 429, 92, 1, 3, 194, 195, 196, 197, 198, 433⟩,
  ⟨207, top 20, "is_small", mo3, .none, 206, 436, 94, 1, 3, 201, 202, 203, 204, 205, 440⟩,
  ⟨214, top 21, "is_capital", mo3, .none, 213, 443, 96, 1, 3, 208, 209, 210, 211, 212, 447⟩,
  ⟨221, top 22, "is_alnum", mo3, .none, 220, 450, 98, 1, 3, 215, 216, 217, 218, 219, 454⟩,
  ⟨237, meth 34 0, "Cells.__init__", mo4, (.ref 230), 236, 492, 113, 3, 3, 231, 232, 233, 234, 235, 498⟩,
  ⟨244, meth 34 1, "Cells.push", mo4, .none, 243, 501, 122, 2, 3, 238, 239, 240, 241, 242, 507⟩,
  ⟨251, meth 34 2, "Cells.new_var", mo4, .none, 250, 510, 129, 1, 3, 245, 246, 247, 248, 249, 515⟩,
  ⟨258, meth 34 3, "Cells.reserve", mo4, .none, 257, 518, 134, 2, 3, 252, 253, 254, 255, 256, 525⟩,
  ⟨272, meth 34 5, "Cells.deref", mo4, .none, 271, 536, 145, 2, 3, 266, 267, 268, 269, 270, 543⟩,
  ⟨279, meth 34 6, "Cells.is_unbound", mo4, .none, 278, 546, 158, 2, 3, 273, 274, 275, 276, 277, 551⟩,
  ⟨286, meth 34 7, "Cells.bind", mo4, .none, 285, 554, 165, 3, 3, 280, 281, 282, 283, 284, 561⟩,
  ⟨300, meth 34 9, "Cells.globalise", mo4, .none, 299, 573, 179, 2, 3, 294, 295, 296, 297, 298, 579⟩,
  ⟨328, meth 34 13, "Cells.is_compound", mo4, .none, 327, 606, 196, 2, 3, 322, 323, 324, 325, 326, 611⟩,
  ⟨335, meth 34 14, "Cells.functor_of", mo4, .none, 334, 614, 199, 2, 3, 329, 330, 331, 332, 333, 620⟩,
  ⟨342, meth 34 15, "Cells.width", mo4, .none, 341, 623, 209, 2, 3, 336, 337, 338, 339, 340, 629⟩,
  ⟨349, meth 34 16, "Cells.base", mo4, .none, 348, 632, 217, 2, 3, 343, 344, 345, 346, 347, 637⟩] [⟨356, meth 34 17, "Cells.arg", mo4, .none, 355, 640, 222, 3, 3, 350, 351, 352, 353, 354, 646⟩,
  ⟨363, meth 34 18, "Cells.new_block", mo4, .none, 362, 649, 225, 2, 3, 357, 358, 359, 360, 361, 655⟩,
  ⟨384, meth 35 0, "Store.new_struct", mo4, .none, 383, 685, 233, 3, 3, 378, 379, 380, 381, 382, 696⟩,
  ⟨392, meth 35 1, "Store.build_list", mo4, (.ref 385), 391, 699, 246, 3, 3, 386, 387, 388, 389, 390, 711⟩,
  ⟨399, meth 35 2, "Store.list_cells", mo4, .none, 398, 714, 265, 2, 3, 393, 394, 395, 396, 397, 721⟩,
  ⟨406, meth 35 3, "Store.put_term", mo4, .none, 405, 724, 275, 3, 3, 400, 401, 402, 403, 404, 739⟩,
  ⟨413, meth 35 4, "Store.whole_size", mo4, .none, 412, 742, 312, 3, 3, 407, 408, 409, 410, 411, 752⟩,
  ⟨420, meth 35 5, "Store.take_term", mo4, .none, 419, 755, 323, 3, 3, 414, 415, 416, 417, 418, 772⟩,
  ⟨432, top 37, "is_variable_name", mo5, .none, 431, 781, 364, 1, 3, 426, 427, 428, 429, 430, 786⟩,
  ⟨439, top 38, "chosen_names", mo5, .none, 438, 789, 373, 4, 3, 433, 434, 435, 436, 437, 804⟩,
  ⟨454, meth 41 0, "Areas.__init__", mo6, (.ref 447), 453, 825, 401, 6, 3, 448, 449, 450, 451, 452, 834⟩,
  ⟨461, meth 41 1, "Areas.reset", mo6, .none, 460, 837, 409, 1, 3, 455, 456, 457, 458, 459, 841⟩,
  ⟨496, meth 41 6, "Areas.take", mo6, .none, 495, 878, 436, 2, 3, 490, 491, 492, 493, 494, 883⟩,
  ⟨608, top 43, "pair_cells", mo7, .none, 607, 1021, 481, 3, 3, 602, 603, 604, 605, 606, 1031⟩,
  ⟨615, top 45, "_law_draw", mo8, .none, 614, 1036, 488, 2, 3, 609, 610, 611, 612, 613, 1042⟩,
  ⟨622, top 46, "_law_word", mo8, .none, 621, 1045, 498, 1, 3, 616, 617, 618, 619, 620, 1052⟩,
  ⟨629, top 47, "_law_odd", mo8, .none, 628, 1055, 504, 2, 3, 623, 624, 625, 626, 627, 1062⟩,
  ⟨636, top 48, "_law_entry", mo8, .none, 635, 1065, 510, 2, 3, 630, 631, 632, 633, 634, 1075⟩,
  ⟨643, top 49, "_law_end", mo8, .none, 642, 1078, 527, 2, 3, 637, 638, 639, 640, 641, 1083⟩,
  ⟨648, top 50, "_law_shown", mo8, .none, 647, 1086, 531, 3, 3, 644, 645, 0, 0, 646, 1089⟩,
  ⟨653, top 51, "_law_fits", mo8, .none, 652, 1092, 540, 1, 3, 649, 650, 0, 0, 651, 1095⟩,
  ⟨660, top 52, "_law_flaw", mo8, .none, 659, 1098, 544, 3, 3, 654, 655, 656, 657, 658, 1105⟩,
  ⟨665, top 53, "_law_due", mo8, .none, 664, 1108, 554, 6, 3, 661, 662, 0, 0, 663, 1111⟩,
  ⟨672, top 54, "_law_told", mo8, .none, 671, 1114, 570, 4, 3, 666, 667, 668, 669, 670, 1122⟩,
  ⟨679, top 55, "_law_list", mo8, .none, 678, 1125, 575, 2, 3, 673, 674, 675, 676, 677, 1131⟩,
  ⟨684, top 56, "law", mo8, .none, 683, 1134, 579, 1, 3, 680, 681, 0, 0, 682, 1137⟩])
noncomputable def others (P : Params) : List (Nat × Obj) := [
  (3, ⟨.type "dict", none, .dict (ents P (List.append [("__name__", 165, .str "law_rh0109_01" 1034), ("__doc__", 166, .none), ("__package__", 167, .none), ("__loader__", 168, .builtin "__main__.__loader__#opaque"), ("__spec__", 169, .none), ("__annotations__", 170, .ref 6), ("__builtins__", 171, .ref 4), ("__file__", 173, .str "/claim/cut.py" 172), ("__cached__", 174, .none), ("_wall", 193, .ref 21), ("ClausemillError", 215, .ref 31), ("PrologError", 240, .ref 51), ("A_NIL", 242, .int 0 241), ("A_SYSTEM", 244, .int 25 243), ("F_DOT", 246, .int 0 245), ("F_EQUAL", 248, .int 10 247), ("F_ERROR", 250, .int 16 249), ("fixed_atoms", 256, .ref 60), ("fixed_functors", 262, .ref 67), ("Symbols", 382, .ref 154), ("system_error", 391, .ref 165), ("formal_of", 402, .ref 172), ("instantiation_error", 409, .ref 179), ("domain_error", 418, .ref 186), ("resource_error", 426, .ref 193), ("is_digit", 435, .ref 200), ("is_small", 442, .ref 207), ("is_capital", 449, .ref 214), ("is_alnum", 456, .ref 221), ("REF", 460, .int 0 459)] [("SRF", 462, .int 1 461), ("STR", 464, .int 2 463), ("LIS", 466, .int 3 465), ("CON", 468, .int 4 467), ("INT", 470, .int 5 469), ("FUN", 472, .int 6 471), ("VOID", 474, .ref 222), ("VISIT", 476, .int 0 475), ("BUILD", 478, .int 1 477), ("Cells", 672, .ref 366), ("Store", 778, .ref 423), ("is_variable_name", 788, .ref 432), ("chosen_names", 806, .ref 439), ("READ", 810, .str "read" 809), ("Areas", 1018, .ref 597), ("pair_cells", 1033, .ref 608), ("_law_draw", 1044, .ref 615), ("_law_word", 1054, .ref 622), ("_law_odd", 1064, .ref 629), ("_law_entry", 1077, .ref 636), ("_law_end", 1085, .ref 643), ("_law_shown", 1091, .ref 648), ("_law_fits", 1097, .ref 653), ("_law_flaw", 1107, .ref 660), ("_law_due", 1113, .ref 665), ("_law_told", 1124, .ref 672), ("_law_list", 1133, .ref 679), ("law", 1139, .ref 684)])) 58, #[]⟩),
  (30, ⟨.type "dict", none, .dict (ents P [("__module__", 203, .str "clausemill.symbols" 194), ("__firstlineno__", 207, .int 5 206), ("__static_attributes__", 208, .ref 29), ("__weakref__", 210, .ref 32), ("__doc__", 211, .none)]) 3, #[]⟩),
  (31, ⟨.type "type", none, .cls ⟨"ClausemillError", [.type "Exception"], [.ref 31, .type "Exception", .type "BaseException", .type "object"], 30, "ClausemillError", true, [], [.ref 51], false, none, false⟩, #[some (.ref 22), none, some (.str "ClausemillError" 196), some (.str "ClausemillError" 204), some (.builtin "Exception.__new__"), some (.bool true)]⟩),
  (50, ⟨.type "dict", none, .dict (ents P [("__module__", 223, .str "clausemill.symbols" 194), ("__firstlineno__", 227, .int 7 226), ("__init__", 235, .ref 48), ("__static_attributes__", 237, .ref 49), ("__doc__", 238, .none)]) 2, #[]⟩),
  (51, ⟨.type "type", none, .cls ⟨"PrologError", [.ref 31], [.ref 51, .ref 31, .type "Exception", .type "BaseException", .type "object"], 50, "PrologError", true, [], [], false, none, false⟩, #[some (.ref 35), none, some (.str "PrologError" 216), some (.str "PrologError" 224), some (.builtin "Exception.__new__"), some (.bool true)]⟩),
  (153, ⟨.type "dict", none, .dict (ents P [("__module__", 270, .str "clausemill.symbols" 194), ("__firstlineno__", 274, .int 20 273), ("__init__", 283, .ref 81), ("atom", 293, .ref 88), ("text", 301, .ref 95), ("functor", 313, .ref 102), ("func", 322, .ref 109), ("name", 330, .ref 116), ("arity", 338, .ref 123), ("label", 346, .ref 130), ("count", 353, .ref 137), ("functor_count", 360, .ref 144), ("known", 370, .ref 151), ("__static_attributes__", 375, .ref 152), ("__dict__", 377, .ref 155), ("__weakref__", 379, .ref 156), ("__doc__", 380, .none)]) 4, #[]⟩),
  (154, ⟨.type "type", none, .cls ⟨"Symbols", [.type "object"], [.ref 154, .type "object"], 153, "Symbols", true, [], [], false, none, false⟩, #[none, none, some (.str "Symbols" 263), some (.str "Symbols" 271), some (.builtin "object.__new__"), some (.bool true)]⟩),
  (222, ⟨.type "tuple", none, .seq #[.int 5 469, .int 0 473] 0, #[]⟩),
  (230, ⟨.type "tuple", none, .seq #[.int 100000 491] 0, #[]⟩),
  (365, ⟨.type "dict", none, .dict (ents P [("__module__", 486, .str "clausemill.store" 457), ("__firstlineno__", 490, .int 111 489), ("__init__", 500, .ref 237), ("push", 509, .ref 244), ("new_var", 517, .ref 251), ("reserve", 527, .ref 258), ("trim", 535, .ref 265), ("deref", 545, .ref 272), ("is_unbound", 553, .ref 279), ("bind", 563, .ref 286), ("bind_pair", 572, .ref 293), ("globalise", 581, .ref 300), ("mark", 588, .ref 307), ("undo_to", 596, .ref 314), ("stack_put", 605, .ref 321), ("is_compound", 613, .ref 328), ("functor_of", 622, .ref 335), ("width", 631, .ref 342), ("base", 639, .ref 349), ("arg", 648, .ref 356), ("new_block", 657, .ref 363), ("__static_attributes__", 665, .ref 364), ("__dict__", 667, .ref 367), ("__weakref__", 669, .ref 368), ("__doc__", 670, .none)]) 4, #[]⟩),
  (366, ⟨.type "type", none, .cls ⟨"Cells", [.type "object"], [.ref 366, .type "object"], 365, "Cells", true, [], [.ref 423], false, none, false⟩, #[none, none, some (.str "Cells" 479), some (.str "Cells" 487), some (.builtin "object.__new__"), some (.bool true)]⟩),
  (385, ⟨.type "tuple", none, .seq #[.none] 0, #[]⟩),
  (422, ⟨.type "dict", none, .dict (ents P [("__module__", 680, .str "clausemill.store" 457), ("__firstlineno__", 684, .int 231 683), ("new_struct", 698, .ref 384), ("build_list", 713, .ref 392), ("list_cells", 723, .ref 399), ("put_term", 741, .ref 406), ("whole_size", 754, .ref 413), ("take_term", 774, .ref 420), ("__static_attributes__", 775, .ref 421), ("__doc__", 776, .none)]) 2, #[]⟩),
  (423, ⟨.type "type", none, .cls ⟨"Store", [.ref 366], [.ref 423, .ref 366, .type "object"], 422, "Store", true, [], [], false, none, false⟩, #[some (.ref 371), none, some (.str "Store" 673), some (.str "Store" 681), some (.builtin "object.__new__"), some (.bool true)]⟩),
  (447, ⟨.type "tuple", none, .seq #[.int 100000 823, .bool true, .int 4096 824] 0, #[]⟩),
  (596, ⟨.type "dict", none, .dict (ents P [("__module__", 818, .str "clausemill.areas" 807), ("__firstlineno__", 822, .int 399 821), ("__init__", 836, .ref 454), ("reset", 843, .ref 461), ("set_x", 852, .ref 468), ("set_arguments", 860, .ref 475), ("arg", 868, .ref 482), ("unify", 877, .ref 489), ("take", 885, .ref 496), ("put", 893, .ref 503), ("top", 900, .ref 510), ("push_environment", 908, .ref 517), ("pop_environment", 915, .ref 524), ("in_chain", 923, .ref 531), ("set_choice", 931, .ref 538), ("push_choice", 940, .ref 545), ("set_alternative", 948, .ref 552), ("choice_part", 956, .ref 559), ("restore_choice", 963, .ref 566), ("pop_choice", 970, .ref 573), ("cut_back", 978, .ref 580), ("choices", 985, .ref 587), ("environments", 992, .ref 594), ("__static_attributes__", 1011, .ref 595), ("__dict__", 1013, .ref 598), ("__weakref__", 1015, .ref 599), ("__doc__", 1016, .none)]) 4, #[]⟩),
  (597, ⟨.type "type", none, .cls ⟨"Areas", [.type "object"], [.ref 597, .type "object"], 596, "Areas", true, [], [], false, none, false⟩, #[none, none, some (.str "Areas" 811), some (.str "Areas" 819), some (.builtin "object.__new__"), some (.bool true)]⟩)]
noncomputable def adrs : List Addr := (List.append [3, 30, 31, 50, 51, 153, 154, 222, 230, 365, 366, 385, 422, 423, 447, 596, 597, 48, 47, 60, 59, 67, 66, 81, 80, 88, 87, 95, 94, 102, 101, 109, 108, 116, 115, 123, 122, 165, 164, 172] (List.append [171, 179, 178, 186, 185, 200, 199, 207, 206, 214, 213, 221, 220, 237, 236, 244, 243, 251, 250, 258, 257, 272, 271, 279, 278, 286, 285, 300, 299, 328, 327, 335, 334, 342, 341, 349, 348, 356, 355, 363] (List.append [362, 384, 383, 392, 391, 399, 398, 406, 405, 413, 412, 420, 419, 432, 431, 439, 438, 454, 453, 461, 460, 496, 495, 608, 607, 615, 614, 622, 621, 629, 628, 636, 635, 643, 642, 648, 647, 653, 652, 660] [659, 665, 664, 672, 671, 679, 678, 684, 683])))
noncomputable def Kf (P : Params) : Frag := others P ++ fos.flatMap fun f => [(f.a, fnO f.st f.q f.m f.dV f.c), (f.c, cdO f)]
theorem adrs_of (P : Params) : adrs = (Kf P).map (·.1) := by kernel_rfl
noncomputable abbrev pw : Program := PySem.Challenge.pw_rh0109_01
noncomputable def topEnv : Env := { scope := pw.main.scope, locals := mainNs, globals := mainNs, cells := [], code := .ref 13, frame := some 14 }
noncomputable def tree0 (P : Params) : BT := [boot_o_0 P, boot_o_1 P, boot_o_2 P, boot_o_3 P, boot_o_4 P, boot_o_5 P, boot_o_6 P, boot_o_7 P, boot_o_8 P, boot_o_9 P, boot_o_10 P, ⟨.type "tuple", none, .seq #[] 0, #[]⟩, ⟨.none, none, .fields #[], #[]⟩,
  ⟨.type "code", none, .fields #[.str "<module>" 182, .str "<module>" 183, .str "/claim/cut.py" 184, .int 1 0, .int 0 0, .int 0 0, .int 0 0, .int 0 0, .ref 11, .bool false, .int 181 0, .ref 12, .none, .none, .none, .none, .int 185 0, .int 1 0, .str "/claim/cut.py" 186], #[]⟩,
  ⟨.type "frame", none, .plain, #[some (.ref 13), some (.ref 3), some (.ref 3), none, some (.str "__main__" 164), none, some (.ref 0)]⟩].zipIdx.foldl (fun t o => t.ins o.2 o.1) .nil
noncomputable abbrev st0 (w : World) (os : OsState) : SharedT := ⟨tree0 w.params, 15, {}, #[], {}, 187, os⟩
noncomputable abbrev p0 : Pos := ⟨0, 0, 0, 0⟩
noncomputable abbrev fr0 : List Frame := [topFrame p0]
noncomputable abbrev body0 : List Stmt := behindTheImports pw
noncomputable abbrev code0 : Code := .body body0 topEnv
noncomputable abbrev pEnd : Pos := ⟨579, 0, 635, 53⟩
noncomputable def lawName : Str := "law"
noncomputable def qV : Program := { pw with main := { pw.main with body := [top 56] } }
noncomputable def lsV : List Str := pw.boundNames.filter fun x => x != lawName
noncomputable def XtV (s : Shared) : Bool := xlAt qV [] s && recOk [] s
noncomputable def NV : Nat := 12 + (1 + (4182 + 2)) + 5000
theorem topSteps : NV = 12 + (1 + (4182 + 2)) + 5000 := rfl
theorem run_pre (w : World) : (fun os => topGo treeTable pw w 11 (some (.ref 6)) 12 ⟨boot_heap w.params, #[], boot_drawn, boot_toks, os⟩ (topStub pw)) = fun os => some ((st0 w os).abs, ⟨denote treeTable code0, code0, p0, fr0⟩) := by
  rw [Fast.te15667345088766844465, Fast.te14364793385576792824, Fast.te11892475500146522536]; kernel_rfl
theorem run_block (w : World) : (fun os => segRun treeTable pw w 11 (some (.ref 6)) 1 1 (st0 w os).abs (blockOf body0 topEnv code0 p0 fr0)) = fun os => some (.next, (st0 w os).abs, code0, p0) := by
  rw [Fast.te14374325043358763698, Fast.te14364793385576792824]; kernel_rfl
noncomputable abbrev runV (w : World) (os : OsState) := segRunT treeTable pw w 11 (some (.ref 6)) 1 4182 (st0 w os) (piecesOf body0 topEnv code0 p0 fr0)
theorem run_A (w : World) : (fun os => (runV w os).map fun r => ((r.1, r.2.2, adrs.map r.2.1.abs.heap.get?), staticsOk (importedModules pw.main.body) (boot_heap w.params) r.2.1.abs.heap && namesBound pw r.2.1.abs.heap && gensDone r.2.1.abs && laidKept (boot_heap w.params) r.2.1.abs.heap, openSeen qV lsV (importedModules pw.main.body) XtV true r.2.1.abs)) = fun os => some ((.next, (code0, pEnd), (Kf w.params).map fun p => some p.2), true, openGood qV lsV) := by
  unfold runV
  rw [Fast.te10110043849684766642, Fast.te14364793385576792824, Fast.te5923862056798008813, Fast.te4187177175401517315]; kernel_rfl
theorem left_of {p q : Program} {loose : List Str} {Xt : Shared → Bool} {α : Type} {Yf : Shared → α} {Ya : World → α} {N : Nat} {H₀ : Params → Heap} {gs₀ : Array GenState} {d₀ : Drawn} {k₀ m₀ : Nat} {ann : Option Value} {M : Nat}
    (open_ : ∀ w : World, (fencedOpening treeTable p w N).map (fun s => (s.heap, s.gens, s.drawn, s.toks)) = some (H₀ w.params, gs₀, d₀, k₀))
    (size : ∀ w : World, ((H₀ w.params).isNs mainGlobals && gs₀.size == 0, (H₀ w.params).objs.size, (H₀ w.params).nsMap mainGlobals "__annotations__") = (true, m₀, ann))
    (run : ∀ (w : World) (os : OsState), ∃ s₁, topRun treeTable p w m₀ ann M ⟨H₀ w.params, gs₀, d₀, k₀, os⟩ (topStub p) = some s₁ ∧
      (staticsOk (importedModules p.main.body) (H₀ w.params) s₁.heap && namesBound p s₁.heap && gensDone s₁ && laidKept (H₀ w.params) s₁.heap) = true ∧ openSeen q loose (importedModules p.main.body) Xt true s₁ = openGood q loose ∧ Yf s₁ = Ya w)
    (le : Nat.ble M N = true) : LeftO p q loose Xt Yf Ya N := fun w => by
  obtain ⟨⟨h, gs, d, k, os⟩, e, e'⟩ := Option.map_eq_some_iff.mp (open_ w)
  obtain ⟨rfl, rfl, rfl, rfl⟩ : h = H₀ w.params ∧ gs = gs₀ ∧ d = d₀ ∧ k = k₀ := by simpa using e'
  obtain ⟨s₁, r, l1, l2, l3⟩ := run w os
  obtain ⟨z1, z2, z3⟩ : _ ∧ _ ∧ _ := by simpa only [Prod.mk.injEq] using size w
  have r := topRun_mono (N - M) _ _ _ _ r
  rw [show M + (N - M) = N by have := Nat.le_of_ble_eq_true le; omega] at r
  have t : topFrom treeTable p w N ⟨H₀ w.params, gs, d, k, os⟩ = some s₁ := by
    unfold topFrom
    dsimp only
    rw [z1, z2, z3, r]
    show (match staticsOk _ _ _ && namesBound _ _ && gensDone _ && laidKept _ _ with | true => _ | false => _) = _
    rw [l1]
  unfold openEnds
  rw [e]
  show (topFrom treeTable p w N _).map _ = _
  rw [t]
  exact congrArg some (Prod.ext l2 l3)
theorem map_some {α β : Type} {f : α → β} {o : Option α} {b : β} (h : o.map f = some b) : ∃ a, o = some a ∧ f a = b := Option.map_eq_some_iff.mp h
theorem looks3 {α β γ δ : Type} {o : Option α} {f : α → β} {g : α → γ} {h : α → δ} {x : β} {y : γ} {z : δ} (a : o.map (fun r => (f r, g r, h r)) = some (x, y, z)) : ∃ r, o = some r ∧ f r = x ∧ g r = y ∧ h r = z := by
  obtain ⟨r, e, e'⟩ := map_some a
  exact ⟨r, e, congrArg (·.1) e', congrArg (·.2.1) e', congrArg (·.2.2) e'⟩
theorem boot_size (w : World) : ((boot_heap w.params).isNs mainGlobals && (#[] : Array GenState).size == 0, (boot_heap w.params).objs.size, (boot_heap w.params).nsMap mainGlobals "__annotations__") = (true, 11, some (.ref 6)) := by
  rw [Fast.te8920871248978507458]; kernel_rfl
theorem run_fin (w : World) (s : Shared) : topRun treeTable pw w 11 (some (.ref 6)) 2 s ⟨doneF .next, code0, pEnd, fr0⟩ = some s := by
  obtain ⟨h, g, d, k, o⟩ := s
  kernel_rfl
noncomputable def YfV (s : Shared) : List (Option Obj) := adrs.map s.heap.get?
noncomputable def YaV (w : World) : List (Option Obj) := (Kf w.params).map fun p => some p.2
theorem run_all {p : Program} {w : World} {m₀ : Nat} {ann : Option Value} {n1 n2 n3 : Nat} {s₀ s₁ : Shared} {S S' : SharedT} {b : List Stmt} {env : Env} {c : Code} {ps ps' q : Pos} (a : topGo treeTable p w m₀ ann n1 s₀ (topStub p) = some (s₁, ⟨denote treeTable (.body b env), c, ps, [topFrame q]⟩))
    (bl : segRun treeTable p w m₀ ann 1 n2 s₁ (blockOf b env c ps [topFrame q]) = some (.next, S.abs, c, ps)) (r : segRunT treeTable p w m₀ ann 1 n3 S (piecesOf b env c ps [topFrame q]) = some (.next, S', c, ps'))
    (f : ∀ s, topRun treeTable p w m₀ ann 2 s ⟨doneF .next, c, ps', [topFrame q]⟩ = some s) : topRun treeTable p w m₀ ann (n1 + (n2 + (n3 + 2))) s₀ (topStub p) = some S'.abs := by
  have k1 := piece_app (rest := []) (segRun_of r) (piece_nil (f S'.abs))
  rw [List.append_nil] at k1
  exact go_top a (piece_block bl k1)
theorem run_ex (w : World) (os : OsState) : ∃ s₁, topRun treeTable pw w 11 (some (.ref 6)) (12 + (1 + (4182 + 2))) ⟨boot_heap w.params, #[], boot_drawn, boot_toks, os⟩ (topStub pw) = some s₁ ∧
      (staticsOk (importedModules pw.main.body) (boot_heap w.params) s₁.heap && namesBound pw s₁.heap && gensDone s₁ && laidKept (boot_heap w.params) s₁.heap) = true ∧ openSeen qV lsV (importedModules pw.main.body) XtV true s₁ = openGood qV lsV ∧ YfV s₁ = YaV w := by
  obtain ⟨⟨fl, S, c, ps⟩, r1, r2, r4, r6⟩ := looks3 (congrFun (run_A w) os)
  have e1 : fl = .next := congrArg (·.1) r2
  have e2 : c = code0 := congrArg (fun x => x.2.1.1) r2
  have e3 : ps = pEnd := congrArg (fun x => x.2.1.2) r2
  have e4 : YfV S.abs = YaV w := congrArg (fun x => x.2.2) r2
  rw [e1, e2, e3] at r1
  exact ⟨S.abs, run_all (congrFun (run_pre w) os) (congrFun (run_block w) os) r1 (run_fin w), r4, r6, e4⟩
theorem left_V : LeftO pw qV lsV XtV YfV YaV NV := left_of (boot_open (by kernel_rfl) (by decide +kernel) (fun s => by kernel_rfl)) boot_size run_ex (by decide +kernel)
theorem ar0 {P : List Value → Prop} (h : P []) (l : List Value) (e : l.length = 0) : P l := List.eq_nil_of_length_eq_zero e ▸ h
theorem arS {n : Nat} {P : List Value → Prop} (h : ∀ a l, l.length = n → P (a :: l)) : ∀ l : List Value, l.length = n + 1 → P l
  | _ :: l, e => h _ l (Nat.succ.inj e)
theorem ar1 {P : List Value → Prop} (h : ∀ a, P [a]) : ∀ l : List Value, l.length = 1 → P l := arS fun a => ar0 (P := fun l => P (a :: l)) (h a)
theorem ar2 {P : List Value → Prop} (h : ∀ a b, P [a, b]) : ∀ l : List Value, l.length = 2 → P l := arS fun a => ar1 (P := fun l => P (a :: l)) (h a)
theorem ar3 {P : List Value → Prop} (h : ∀ a b c, P [a, b, c]) : ∀ l : List Value, l.length = 3 → P l := arS fun a => ar2 (P := fun l => P (a :: l)) (h a)
theorem ar4 {P : List Value → Prop} (h : ∀ a b c d, P [a, b, c, d]) : ∀ l : List Value, l.length = 4 → P l := arS fun a => ar3 (P := fun l => P (a :: l)) (h a)
theorem ar5 {P : List Value → Prop} (h : ∀ a b c d e, P [a, b, c, d, e]) : ∀ l : List Value, l.length = 5 → P l := arS fun a => ar4 (P := fun l => P (a :: l)) (h a)
theorem ar6 {P : List Value → Prop} (h : ∀ a b c d e f, P [a, b, c, d, e, f]) : ∀ l : List Value, l.length = 6 → P l := arS fun a => ar5 (P := fun l => P (a :: l)) (h a)
theorem ar7 {P : List Value → Prop} (h : ∀ a b c d e f g, P [a, b, c, d, e, f, g]) : ∀ l : List Value, l.length = 7 → P l := arS fun a => ar6 (P := fun l => P (a :: l)) (h a)
theorem fn0 {B : Bs} {f c : Nat} {st : Stmt} {q : Str} {m : Value} {ps : List Str} (hl : B.K.lookup f = some (fnO st q m .none c)) (hc : codeIn B.K (.ref c) q = true)
    (hb : ∀ vals : List Value, vals.length = ps.length → ∀ s, BindsTo s (fnOf (fnN st) q (fnA st) (fnB st) (fnS st) .none .none .none m none (.ref c) .none) ⟨vals, []⟩ (ps.zip vals)) : FN B f ps [] (fnB st) (fnS st) :=
  ⟨⟨_, _, _, _, _, _, _, _, _, _, _, _, _, [], fun z_ z_ z_ => VRs_nil, hl, hc, fun vals h M A E s Q z_ q => hb vals h s M A E Q (by rw [List.append_nil] at q; exact q)⟩⟩
noncomputable abbrev BV (prog : Program) (w : World) (h₀ : Heap) (p : Params) (mg mb : Str → Option Value) (X : (Kf p).In h₀) (g : h₀.Ns mainGlobals mg) (b : h₀.Ns builtinsNs mb) (bi : ∀ x : Str, x ≠ "__name__" → mb x = bootBuiltins x) (nolim : h₀.NoLimit) (nodig : ∃ mc, h₀.Ns cStatics mc ∧ mc "sys.int_max_str_digits" = none) : Bs := ⟨prog, w, h₀, Kf p, mg, mb, X, g, b, bi, nolim, nodig, 51⟩
set_option maxHeartbeats 8000000 in
theorem pf_of (prog : Program) (w : World) (h₀ : Heap) (p : Params) (mg mb : Str → Option Value) (X : (Kf p).In h₀) (g : h₀.Ns mainGlobals mg) (b : h₀.Ns builtinsNs mb) (bi : ∀ x : Str, x ≠ "__name__" → mb x = bootBuiltins x) (nolim : h₀.NoLimit) (nodig : ∃ mc, h₀.Ns cStatics mc ∧ mc "sys.int_max_str_digits" = none) : PF (BV prog w h₀ p mg mb X g b bi nolim nodig) where
  f_fixed_atoms := fn0 (q := "fixed_atoms") (m := mo1) (c := 59) (by kernel_rfl) (by kernel_rfl) (ar0 fun s => .of_eq (by kernel_rfl))
  g_fixed_atoms := mg_of X g (by kernel_rfl)
  k_fixed_atoms := by kernel_rfl
  f_fixed_functors := fn0 (q := "fixed_functors") (m := mo1) (c := 66) (by kernel_rfl) (by kernel_rfl) (ar0 fun s => .of_eq (by kernel_rfl))
  g_fixed_functors := mg_of X g (by kernel_rfl)
  k_fixed_functors := by kernel_rfl
  f_Symbols___init__ := fn0 (q := "Symbols.__init__") (m := mo1) (c := 80) (by kernel_rfl) (by kernel_rfl) (ar1 fun a s => .of_eq (by kernel_rfl))
  f_Symbols_atom := fn0 (q := "Symbols.atom") (m := mo1) (c := 87) (by kernel_rfl) (by kernel_rfl) (ar2 fun a b s => .of_eq (by kernel_rfl))
  f_Symbols_text := fn0 (q := "Symbols.text") (m := mo1) (c := 94) (by kernel_rfl) (by kernel_rfl) (ar2 fun a b s => .of_eq (by kernel_rfl))
  f_Symbols_functor := fn0 (q := "Symbols.functor") (m := mo1) (c := 101) (by kernel_rfl) (by kernel_rfl) (ar3 fun a b c s => .of_eq (by kernel_rfl))
  f_Symbols_func := fn0 (q := "Symbols.func") (m := mo1) (c := 108) (by kernel_rfl) (by kernel_rfl) (ar3 fun a b c s => .of_eq (by kernel_rfl))
  f_Symbols_name := fn0 (q := "Symbols.name") (m := mo1) (c := 115) (by kernel_rfl) (by kernel_rfl) (ar2 fun a b s => .of_eq (by kernel_rfl))
  f_Symbols_arity := fn0 (q := "Symbols.arity") (m := mo1) (c := 122) (by kernel_rfl) (by kernel_rfl) (ar2 fun a b s => .of_eq (by kernel_rfl))
  f_system_error := fn0 (q := "system_error") (m := mo2) (c := 164) (by kernel_rfl) (by kernel_rfl) (ar1 fun a s => .of_eq (by kernel_rfl))
  g_system_error := mg_of X g (by kernel_rfl)
  k_system_error := by kernel_rfl
  f_formal_of := fn0 (q := "formal_of") (m := mo2) (c := 171) (by kernel_rfl) (by kernel_rfl) (ar3 fun a b c s => .of_eq (by kernel_rfl))
  g_formal_of := mg_of X g (by kernel_rfl)
  k_formal_of := by kernel_rfl
  f_instantiation_error := fn0 (q := "instantiation_error") (m := mo2) (c := 178) (by kernel_rfl) (by kernel_rfl) (ar1 fun a s => .of_eq (by kernel_rfl))
  g_instantiation_error := mg_of X g (by kernel_rfl)
  k_instantiation_error := by kernel_rfl
  f_domain_error := fn0 (q := "domain_error") (m := mo2) (c := 185) (by kernel_rfl) (by kernel_rfl) (ar3 fun a b c s => .of_eq (by kernel_rfl))
  g_domain_error := mg_of X g (by kernel_rfl)
  k_domain_error := by kernel_rfl
  f_is_digit := fn0 (q := "is_digit") (m := mo3) (c := 199) (by kernel_rfl) (by kernel_rfl) (ar1 fun a s => .of_eq (by kernel_rfl))
  g_is_digit := mg_of X g (by kernel_rfl)
  k_is_digit := by kernel_rfl
  f_is_small := fn0 (q := "is_small") (m := mo3) (c := 206) (by kernel_rfl) (by kernel_rfl) (ar1 fun a s => .of_eq (by kernel_rfl))
  g_is_small := mg_of X g (by kernel_rfl)
  k_is_small := by kernel_rfl
  f_is_capital := fn0 (q := "is_capital") (m := mo3) (c := 213) (by kernel_rfl) (by kernel_rfl) (ar1 fun a s => .of_eq (by kernel_rfl))
  g_is_capital := mg_of X g (by kernel_rfl)
  k_is_capital := by kernel_rfl
  f_is_alnum := fn0 (q := "is_alnum") (m := mo3) (c := 220) (by kernel_rfl) (by kernel_rfl) (ar1 fun a s => .of_eq (by kernel_rfl))
  g_is_alnum := mg_of X g (by kernel_rfl)
  k_is_alnum := by kernel_rfl
  f_Cells___init__ := by
    obtain ⟨t, n, sl, d, ho⟩ : ∃ t n sl d, (Kf p).lookup 230 = some ⟨.type "tuple", d, .seq #[.int 100000 t] n, sl⟩ := ⟨_, _, _, _, by rfl⟩
    exact ⟨⟨_, _, _, _, _, _, _, _, _, _, _, _, _, [], fun z_ z_ z_ => VRs_nil, by rfl, by rfl, fun vals hl M A E s Q hx => ar3 (P := fun vals => Q ((["self", "symbols", "max_heap"] : List Str).zip (vals ++ [])) s → wpAny M A (bindArgs _ ⟨vals, []⟩) Q E s) (fun z_ z_ z_ => (binds_K hx rfl ho rfl rfl rfl : BindsTo s _ _ _) M A E Q) vals hl⟩⟩
  f_Cells_push := fn0 (q := "Cells.push") (m := mo4) (c := 243) (by kernel_rfl) (by kernel_rfl) (ar2 fun a b s => .of_eq (by kernel_rfl))
  f_Cells_new_var := fn0 (q := "Cells.new_var") (m := mo4) (c := 250) (by kernel_rfl) (by kernel_rfl) (ar1 fun a s => .of_eq (by kernel_rfl))
  f_Cells_reserve := fn0 (q := "Cells.reserve") (m := mo4) (c := 257) (by kernel_rfl) (by kernel_rfl) (ar2 fun a b s => .of_eq (by kernel_rfl))
  f_Cells_deref := fn0 (q := "Cells.deref") (m := mo4) (c := 271) (by kernel_rfl) (by kernel_rfl) (ar2 fun a b s => .of_eq (by kernel_rfl))
  f_Cells_is_unbound := fn0 (q := "Cells.is_unbound") (m := mo4) (c := 278) (by kernel_rfl) (by kernel_rfl) (ar2 fun a b s => .of_eq (by kernel_rfl))
  f_Cells_bind := fn0 (q := "Cells.bind") (m := mo4) (c := 285) (by kernel_rfl) (by kernel_rfl) (ar3 fun a b c s => .of_eq (by kernel_rfl))
  f_Cells_globalise := fn0 (q := "Cells.globalise") (m := mo4) (c := 299) (by kernel_rfl) (by kernel_rfl) (ar2 fun a b s => .of_eq (by kernel_rfl))
  f_Cells_is_compound := fn0 (q := "Cells.is_compound") (m := mo4) (c := 327) (by kernel_rfl) (by kernel_rfl) (ar2 fun a b s => .of_eq (by kernel_rfl))
  f_Cells_functor_of := fn0 (q := "Cells.functor_of") (m := mo4) (c := 334) (by kernel_rfl) (by kernel_rfl) (ar2 fun a b s => .of_eq (by kernel_rfl))
  f_Cells_width := fn0 (q := "Cells.width") (m := mo4) (c := 341) (by kernel_rfl) (by kernel_rfl) (ar2 fun a b s => .of_eq (by kernel_rfl))
  f_Cells_base := fn0 (q := "Cells.base") (m := mo4) (c := 348) (by kernel_rfl) (by kernel_rfl) (ar2 fun a b s => .of_eq (by kernel_rfl))
  f_Cells_arg := fn0 (q := "Cells.arg") (m := mo4) (c := 355) (by kernel_rfl) (by kernel_rfl) (ar3 fun a b c s => .of_eq (by kernel_rfl))
  f_Cells_new_block := fn0 (q := "Cells.new_block") (m := mo4) (c := 362) (by kernel_rfl) (by kernel_rfl) (ar2 fun a b s => .of_eq (by kernel_rfl))
  f_Store_new_struct := fn0 (q := "Store.new_struct") (m := mo4) (c := 383) (by kernel_rfl) (by kernel_rfl) (ar3 fun a b c s => .of_eq (by kernel_rfl))
  f_Store_build_list := by
    obtain ⟨n, sl, d, ho⟩ : ∃  n sl d, (Kf p).lookup 385 = some ⟨.type "tuple", d, .seq #[.none] n, sl⟩ := ⟨_, _, _, by rfl⟩
    exact ⟨⟨_, _, _, _, _, _, _, _, _, _, _, _, _, [.none], fun z_ z_ z_ => VRs_cons VR_none (VRs_nil), by rfl, by rfl, fun vals hl M A E s Q hx => ar2 (P := fun vals => Q ((["self", "cells", "tail"] : List Str).zip (vals ++ [.none])) s → wpAny M A (bindArgs _ ⟨vals, []⟩) Q E s) (fun z_ z_ => (binds_K hx rfl ho rfl rfl rfl : BindsTo s _ _ _) M A E Q) vals (Nat.succ.inj hl)⟩⟩
  f_Store_list_cells := fn0 (q := "Store.list_cells") (m := mo4) (c := 398) (by kernel_rfl) (by kernel_rfl) (ar2 fun a b s => .of_eq (by kernel_rfl))
  f_Store_put_term := fn0 (q := "Store.put_term") (m := mo4) (c := 405) (by kernel_rfl) (by kernel_rfl) (ar3 fun a b c s => .of_eq (by kernel_rfl))
  f_Store_whole_size := fn0 (q := "Store.whole_size") (m := mo4) (c := 412) (by kernel_rfl) (by kernel_rfl) (ar3 fun a b c s => .of_eq (by kernel_rfl))
  f_Store_take_term := fn0 (q := "Store.take_term") (m := mo4) (c := 419) (by kernel_rfl) (by kernel_rfl) (ar3 fun a b c s => .of_eq (by kernel_rfl))
  f_is_variable_name := fn0 (q := "is_variable_name") (m := mo5) (c := 431) (by kernel_rfl) (by kernel_rfl) (ar1 fun a s => .of_eq (by kernel_rfl))
  g_is_variable_name := mg_of X g (by kernel_rfl)
  k_is_variable_name := by kernel_rfl
  f_chosen_names := fn0 (q := "chosen_names") (m := mo5) (c := 438) (by kernel_rfl) (by kernel_rfl) (ar4 fun a b c d s => .of_eq (by kernel_rfl))
  g_chosen_names := mg_of X g (by kernel_rfl)
  k_chosen_names := by kernel_rfl
  f_Areas___init__ := by
    obtain ⟨t, u, n, sl, d, ho⟩ : ∃ t u n sl d, (Kf p).lookup 447 = some ⟨.type "tuple", d, .seq #[.int 100000 t, .bool true, .int 4096 u] n, sl⟩ := ⟨_, _, _, _, _, by rfl⟩
    exact ⟨⟨_, _, _, _, _, _, _, _, _, _, _, _, _, [.int 100000 t, .bool true, .int 4096 u], fun z_ z_ z_ => VRs_cons VR_int (VRs_cons VR_bool (VRs_cons VR_int (VRs_nil))), by rfl, by rfl, fun vals hl M A E s Q hx => ar3 (P := fun vals => Q ((["self", "symbols", "code", "max_heap", "occurs", "max_bits"] : List Str).zip (vals ++ [.int 100000 t, .bool true, .int 4096 u])) s → wpAny M A (bindArgs _ ⟨vals, []⟩) Q E s) (fun z_ z_ z_ => (binds_K hx rfl ho rfl rfl rfl : BindsTo s _ _ _) M A E Q) vals (Nat.succ.inj (Nat.succ.inj (Nat.succ.inj hl)))⟩⟩
  f_Areas_reset := fn0 (q := "Areas.reset") (m := mo6) (c := 460) (by kernel_rfl) (by kernel_rfl) (ar1 fun a s => .of_eq (by kernel_rfl))
  f_Areas_take := fn0 (q := "Areas.take") (m := mo6) (c := 495) (by kernel_rfl) (by kernel_rfl) (ar2 fun a b s => .of_eq (by kernel_rfl))
  f_pair_cells := fn0 (q := "pair_cells") (m := mo7) (c := 607) (by kernel_rfl) (by kernel_rfl) (ar3 fun a b c s => .of_eq (by kernel_rfl))
  g_pair_cells := mg_of X g (by kernel_rfl)
  k_pair_cells := by kernel_rfl
  f_law_draw := fn0 (q := "_law_draw") (m := mo8) (c := 614) (by kernel_rfl) (by kernel_rfl) (ar2 fun a b s => .of_eq (by kernel_rfl))
  g_law_draw := mg_of X g (by kernel_rfl)
  k_law_draw := by kernel_rfl
  f_law_word := fn0 (q := "_law_word") (m := mo8) (c := 621) (by kernel_rfl) (by kernel_rfl) (ar1 fun a s => .of_eq (by kernel_rfl))
  g_law_word := mg_of X g (by kernel_rfl)
  k_law_word := by kernel_rfl
  f_law_odd := fn0 (q := "_law_odd") (m := mo8) (c := 628) (by kernel_rfl) (by kernel_rfl) (ar2 fun a b s => .of_eq (by kernel_rfl))
  g_law_odd := mg_of X g (by kernel_rfl)
  k_law_odd := by kernel_rfl
  f_law_entry := fn0 (q := "_law_entry") (m := mo8) (c := 635) (by kernel_rfl) (by kernel_rfl) (ar2 fun a b s => .of_eq (by kernel_rfl))
  g_law_entry := mg_of X g (by kernel_rfl)
  k_law_entry := by kernel_rfl
  f_law_end := fn0 (q := "_law_end") (m := mo8) (c := 642) (by kernel_rfl) (by kernel_rfl) (ar2 fun a b s => .of_eq (by kernel_rfl))
  g_law_end := mg_of X g (by kernel_rfl)
  k_law_end := by kernel_rfl
  f_law_shown := fn0 (q := "_law_shown") (m := mo8) (c := 647) (by kernel_rfl) (by kernel_rfl) (ar3 fun a b c s => .of_eq (by kernel_rfl))
  g_law_shown := mg_of X g (by kernel_rfl)
  k_law_shown := by kernel_rfl
  f_law_fits := fn0 (q := "_law_fits") (m := mo8) (c := 652) (by kernel_rfl) (by kernel_rfl) (ar1 fun a s => .of_eq (by kernel_rfl))
  g_law_fits := mg_of X g (by kernel_rfl)
  k_law_fits := by kernel_rfl
  f_law_flaw := fn0 (q := "_law_flaw") (m := mo8) (c := 659) (by kernel_rfl) (by kernel_rfl) (ar3 fun a b c s => .of_eq (by kernel_rfl))
  g_law_flaw := mg_of X g (by kernel_rfl)
  k_law_flaw := by kernel_rfl
  f_law_due := fn0 (q := "_law_due") (m := mo8) (c := 664) (by kernel_rfl) (by kernel_rfl) (ar6 fun a b c d e f s => .of_eq (by kernel_rfl))
  g_law_due := mg_of X g (by kernel_rfl)
  k_law_due := by kernel_rfl
  f_law_told := fn0 (q := "_law_told") (m := mo8) (c := 671) (by kernel_rfl) (by kernel_rfl) (ar4 fun a b c d s => .of_eq (by kernel_rfl))
  g_law_told := mg_of X g (by kernel_rfl)
  k_law_told := by kernel_rfl
  f_law_list := fn0 (q := "_law_list") (m := mo8) (c := 678) (by kernel_rfl) (by kernel_rfl) (ar2 fun a b s => .of_eq (by kernel_rfl))
  g_law_list := mg_of X g (by kernel_rfl)
  k_law_list := by kernel_rfl
  f_law := fn0 (q := "law") (m := mo8) (c := 683) (by kernel_rfl) (by kernel_rfl) (ar1 fun a s => .of_eq (by kernel_rfl))
  g_law := mg_of X g (by kernel_rfl)
  c_Symbols := ⟨by kernel_rfl, by kernel_rfl, by kernel_rfl, by kernel_rfl, by kernel_rfl⟩
  gc_Symbols := mg_of X g (by kernel_rfl)
  kc_Symbols := by kernel_rfl
  mk_Symbols := by kernel_rfl
  in_Symbols := by kernel_rfl
  it_Symbols := by kernel_rfl
  m_Symbols_atom := ⟨by kernel_rfl, by kernel_rfl, by kernel_rfl⟩
  m_Symbols_text := ⟨by kernel_rfl, by kernel_rfl, by kernel_rfl⟩
  m_Symbols_functor := ⟨by kernel_rfl, by kernel_rfl, by kernel_rfl⟩
  m_Symbols_func := ⟨by kernel_rfl, by kernel_rfl, by kernel_rfl⟩
  m_Symbols_arity := ⟨by kernel_rfl, by kernel_rfl, by kernel_rfl⟩
  c_Store := ⟨by kernel_rfl, by kernel_rfl, by kernel_rfl, by kernel_rfl, by kernel_rfl⟩
  gc_Store := mg_of X g (by kernel_rfl)
  kc_Store := by kernel_rfl
  mk_Store := by kernel_rfl
  in_Store := by kernel_rfl
  it_Store := by kernel_rfl
  m_Store_push := ⟨by kernel_rfl, by kernel_rfl, by kernel_rfl⟩
  m_Store_new_var := ⟨by kernel_rfl, by kernel_rfl, by kernel_rfl⟩
  m_Store_reserve := ⟨by kernel_rfl, by kernel_rfl, by kernel_rfl⟩
  m_Store_deref := ⟨by kernel_rfl, by kernel_rfl, by kernel_rfl⟩
  m_Store_is_unbound := ⟨by kernel_rfl, by kernel_rfl, by kernel_rfl⟩
  m_Store_bind := ⟨by kernel_rfl, by kernel_rfl, by kernel_rfl⟩
  m_Store_globalise := ⟨by kernel_rfl, by kernel_rfl, by kernel_rfl⟩
  m_Store_is_compound := ⟨by kernel_rfl, by kernel_rfl, by kernel_rfl⟩
  m_Store_functor_of := ⟨by kernel_rfl, by kernel_rfl, by kernel_rfl⟩
  m_Store_width := ⟨by kernel_rfl, by kernel_rfl, by kernel_rfl⟩
  m_Store_base := ⟨by kernel_rfl, by kernel_rfl, by kernel_rfl⟩
  m_Store_arg := ⟨by kernel_rfl, by kernel_rfl, by kernel_rfl⟩
  m_Store_new_block := ⟨by kernel_rfl, by kernel_rfl, by kernel_rfl⟩
  m_Store_new_struct := ⟨by kernel_rfl, by kernel_rfl, by kernel_rfl⟩
  m_Store_build_list := ⟨by kernel_rfl, by kernel_rfl, by kernel_rfl⟩
  m_Store_list_cells := ⟨by kernel_rfl, by kernel_rfl, by kernel_rfl⟩
  m_Store_put_term := ⟨by kernel_rfl, by kernel_rfl, by kernel_rfl⟩
  m_Store_whole_size := ⟨by kernel_rfl, by kernel_rfl, by kernel_rfl⟩
  m_Store_take_term := ⟨by kernel_rfl, by kernel_rfl, by kernel_rfl⟩
  c_Areas := ⟨by kernel_rfl, by kernel_rfl, by kernel_rfl, by kernel_rfl, by kernel_rfl⟩
  gc_Areas := mg_of X g (by kernel_rfl)
  kc_Areas := by kernel_rfl
  mk_Areas := by kernel_rfl
  in_Areas := by kernel_rfl
  it_Areas := by kernel_rfl
  m_Areas_reset := ⟨by kernel_rfl, by kernel_rfl, by kernel_rfl⟩
  m_Areas_take := ⟨by kernel_rfl, by kernel_rfl, by kernel_rfl⟩
  a_Symbols_texts := by kernel_rfl
  t_Symbols_texts := by kernel_rfl
  a_Symbols_atom_numbers := by kernel_rfl
  t_Symbols_atom_numbers := by kernel_rfl
  a_Symbols_functors := by kernel_rfl
  t_Symbols_functors := by kernel_rfl
  a_Symbols_functor_numbers := by kernel_rfl
  t_Symbols_functor_numbers := by kernel_rfl
  a_Store_symbols := by kernel_rfl
  t_Store_symbols := by kernel_rfl
  a_Store_max_heap := by kernel_rfl
  t_Store_max_heap := by kernel_rfl
  a_Store_heap := by kernel_rfl
  t_Store_heap := by kernel_rfl
  a_Store_stack := by kernel_rfl
  t_Store_stack := by kernel_rfl
  t_Store_trail := by kernel_rfl
  a_Store_hb := by kernel_rfl
  t_Store_hb := by kernel_rfl
  t_Store_bb := by kernel_rfl
  a_Areas_symbols := by kernel_rfl
  t_Areas_symbols := by kernel_rfl
  t_Areas_code := by kernel_rfl
  a_Areas_max_heap := by kernel_rfl
  t_Areas_max_heap := by kernel_rfl
  t_Areas_occurs := by kernel_rfl
  t_Areas_max_bits := by kernel_rfl
  a_Areas_store := by kernel_rfl
  t_Areas_store := by kernel_rfl
  t_Areas_x := by kernel_rfl
  t_Areas_p := by kernel_rfl
  t_Areas_cp := by kernel_rfl
  t_Areas_e := by kernel_rfl
  t_Areas_b := by kernel_rfl
  t_Areas_b0 := by kernel_rfl
  t_Areas_mode := by kernel_rfl
  t_Areas_s := by kernel_rfl
  t_Areas_guard := by kernel_rfl
  t_Areas_roots := by kernel_rfl
  t_Areas_bags := by kernel_rfl
  t_Areas_collect_wanted := by kernel_rfl
  i_A_NIL := ⟨_, mg_of X g (by rfl)⟩
  i_A_SYSTEM := ⟨_, mg_of X g (by rfl)⟩
  i_F_DOT := ⟨_, mg_of X g (by rfl)⟩
  i_F_EQUAL := ⟨_, mg_of X g (by rfl)⟩
  i_F_ERROR := ⟨_, mg_of X g (by rfl)⟩
  i_REF := ⟨_, mg_of X g (by rfl)⟩
  i_SRF := ⟨_, mg_of X g (by rfl)⟩
  i_STR := ⟨_, mg_of X g (by rfl)⟩
  i_LIS := ⟨_, mg_of X g (by rfl)⟩
  i_CON := ⟨_, mg_of X g (by rfl)⟩
  i_INT := ⟨_, mg_of X g (by rfl)⟩
  i_FUN := ⟨_, mg_of X g (by rfl)⟩
  i_VISIT := ⟨_, mg_of X g (by rfl)⟩
  i_BUILD := ⟨_, mg_of X g (by rfl)⟩
  s_READ := ⟨_, mg_of X g (by rfl)⟩
  t_VOID := ⟨_, _, mg_of X g (by rfl), fun h x => ⟨_, x 222 _ (by rfl), rfl, 0, rfl⟩⟩
  x_exc := rfl
  g_exc := mg_of X g (by kernel_rfl)
  k_exc := by kernel_rfl
  n_range := mg_none_of X g (by kernel_rfl)
  n_len := mg_none_of X g (by kernel_rfl)
  n_list := mg_none_of X g (by kernel_rfl)
  n_tuple := mg_none_of X g (by kernel_rfl)
  n_set := mg_none_of X g (by kernel_rfl)
  n_isinstance := mg_none_of X g (by kernel_rfl)
  n_str := mg_none_of X g (by kernel_rfl)
  n_abs := mg_none_of X g (by kernel_rfl)
  n_ord := mg_none_of X g (by kernel_rfl)
  n_sorted := mg_none_of X g (by kernel_rfl)
set_option tactic.hygienic true in
theorem nsMap_some_of_in {K : Frag} {h : Heap} {N : Addr} {x : Str} {v : Value} (X : K.In h) (e : nsOkIn K N = true) (q : nsIn K N x = some (some v)) : h.nsMap N x = some v := by
  obtain ⟨o, es, ep, ho, hd, _, hf⟩ := (Heap.Ns.of_isNs (isNs_of_in X e) : h.Ns N (h.nsMap N))
  unfold nsIn at q
  split at q
  · rename_i c d es' n' sl q'
    have := X _ _ q'
    rw [ho] at this
    cases this
    cases hd
    split at q
    · rename_i en he
      cases q
      rw [← hf]
      unfold nsFind findBy
      rw [← Array.find?_toList, he]
      rfl
    · split at q <;> cases q
  · cases q
theorem nsMap_fix {K : Frag} {h h' : Heap} {N : Addr} {o : Obj} (X : K.In h) (X' : K.In h') (e : K.lookup N = some o) : h.nsMap N = h'.nsMap N := by
  have e1 := X _ _ e
  have e2 := X' _ _ e
  unfold Heap.nsMap
  rw [e1, e2]
theorem ns_fix {K : Frag} {h h' : Heap} {N : Addr} {o : Obj} (X : K.In h) (X' : K.In h') (e : K.lookup N = some o) (q : nsOkIn K N = true) : h'.Ns N (h.nsMap N) := by
  rw [nsMap_fix X X' e]
  exact Heap.Ns.of_isNs (isNs_of_in X' q)
set_option maxHeartbeats 8000000 in
theorem xp_of (prog : Program) (w : World) (h₀ : Heap) (p : Params) (mg mb : Str → Option Value) (X : (Kf p).In h₀) (g : h₀.Ns mainGlobals mg) (b : h₀.Ns builtinsNs mb) (bi : ∀ x : Str, x ≠ "__name__" → mb x = bootBuiltins x) (nolim : h₀.NoLimit) (nodig : ∃ mc, h₀.Ns cStatics mc ∧ mc "sys.int_max_str_digits" = none) : XP (BV prog w h₀ p mg mb X g b bi nolim nodig) := by
  refine ⟨48, fnS (meth 3 0), ⟨10, 8, 10, 12⟩, ⟨10, 8, 10, 17⟩, ⟨10, 20, 10, 24⟩, ⟨10, 8, 10, 24⟩, ⟨?_, ?_, ?_, ?_, ?_, ?_, ?_, ?_, ?_⟩, ?_⟩
  · exact ⟨31, 50, _, _, _, _, _, _, _, _, _, _, _, _, _, rfl, h₀.nsMap 50, fun h Y => ns_fix X Y rfl (by kernel_rfl), nsMap_some_of_in X (by kernel_rfl) rfl, _, _, _, _, h₀.nsMap 30, rfl, fun h Y => ns_fix X Y rfl (by kernel_rfl), nsMap_none_of_in X (by kernel_rfl) (by kernel_rfl)⟩
  · exact fn0 (st := meth 3 0) (q := "PrologError.__init__") (m := mo1) (c := 47) (by kernel_rfl) (by kernel_rfl) (ar2 fun a b s => .of_eq (by kernel_rfl))
  · exact ⟨_, rfl, rfl⟩
  · decide +kernel
  · decide +kernel
  · kernel_rfl
  · kernel_rfl
  · kernel_rfl
  · kernel_rfl
  · kernel_rfl
theorem law_close {c : ClaimW} {cl : Str → Option Addr} {mean : ExcName → Option Value} {args : List WData} {s₁ : Shared} (B : Bs) (hB : B.h₀ = s₁.heap) (P : PF B) (x : XP B) {fa a : Addr} {vs : List Value} {ns : List Int} (hfa : B.mg "law" = some (.ref fa)) (hL : s₁.heap.IsList a vs.toArray) (hI : IntsAre vs ns) (hz : ¬ (63 : Int) < (ns.length : Int)) (hg : s₁.gens = #[])
    (hn : ∀ cls, c.raises args cls = false) (hp : c.post args (.bool true) args = true) : codeAny (model B.prog B.w) callerA (.call (.ref fa) ⟨[.ref a], []⟩) (GoodW c cl mean args s₁) s₁ := by
  have e : some (Value.ref 684) = some (.ref fa) := P.g_law.symm.trans hfa
  cases e
  have rel : Rel B ⟨fun z_ => 0, fun z_ => 0⟩ [] s₁.heap := ⟨fun b o h => hB ▸ h, fun i h => absurd h (by simp), fun i j h => absurd h (by simp), fun i o h => absurd h (by simp), fun i o h => absurd h (by simp)⟩
  have ok : OkC B 10 callerA ⟨fun z_ => 0, fun z_ => 0⟩ [] s₁ := ⟨rel, by decide +kernel, by decide +kernel, rfl, ⟨[], rfl, trivial⟩, fun a h => by cases h⟩
  refine codeAny_mono (CA_law (n := 0) (X := NoX) P x (hB ▸ hL) hI (by omega) callerA ⟨fun z_ => 0, fun z_ => 0⟩ s₁ [.ref a] ok (VRs_one (Eq.refl (Value.ref a)))) fun r s' h => ?_
  match r, h with
  | .ok (.ret v), ⟨μ', σ', Po, v0, hv, e⟩ =>
    subst e
    have := VR_bool_of hv
    subst this
    have no : ∀ b : Addr, ¬ Own (⟨fun z_ => 0, fun z_ => 0⟩ : Mp) ([] : List AO).length b := fun b ⟨i, hi, _⟩ => absurd hi (by simp)
    exact ⟨.inl ⟨.bool true, .bool true, [], rfl, hn, ReadsW.bool _, hp, fun z_ => ⟨List.nodup_nil, by simp⟩⟩, fun b o hb => (Po.keep b o hb (no b) (by simp)).1 (by intro q; cases q), Po.os, Po.gens.trans hg⟩
  | .error e, h => exact nox h
noncomputable abbrev rwL : OpenLaw := PySem.Challenge.rw_rh0109_01
set_option maxHeartbeats 8000000 in
theorem law_said : rwL.wellSaid = true := (congrFun Fast.te9446332074065402090 rwL).trans (by kernel_rfl)
theorem law_def : defOf qV rwL.row.name = some (⟨"law", fnA (top 56), fnB (top 56), fnS (top 56), pEnd⟩, []) := by kernel_rfl
theorem law_the : pw.theDef rwL.row.name = some (fnA (top 56), fnB (top 56), fnS (top 56)) := by kernel_rfl
theorem law_ok : (chainsOk qV && opensWell pw && (frees rwL.row.toRowW && rwL.row.within.isEmpty)) = true := by kernel_rfl
theorem law_bare : pw.bare := ⟨rfl, rfl, rfl, rfl, rfl, by kernel_rfl⟩
end Mine
end
open PySem PySem.W PySem.Calls PyProof.Rows
set_option Elab.async false
set_option maxRecDepth 100000 in
set_option maxHeartbeats 8000000 in
theorem PySem.Challenge.cw_rh0109_01_holds : PySem.Challenge.rw_rh0109_01.Holds := by
  refine holds_law Mine.law_said fun said => ?_
  refine holds_open (q := Mine.qV) (loose := Mine.lsV) (Xt := Mine.XtV) (XP := XL Mine.qV []) (Yf := Mine.YfV) (Ya := Mine.YaV) (YP := InK Mine.Kf) (N := Mine.NV) Mine.left_V (fun w s y => InK.of Mine.adrs_of w s y) InK.keeps (fun s e => xl_of s (Bool.and_eq_true_iff.mp e).1) XL.keeps Mine.law_def Mine.law_the rfl (fun s e => recFacts_of (Bool.and_eq_true_iff.mp e).2) rfl said Mine.law_ok Mine.law_bare ?hw ?hc
  case hw => w_witness2
  case hc =>
  w_strict (
  intro w s₀ s₁ mg mb G Y fa o pm cd doc dV kV ho hd hcd hD hmg hg args vals as hpre hlay hrd hwl hlo
  have KX : (Mine.Kf w.params).In s₁.heap := Y
  clear hd hcd hD ho
  wrow_args hpre hlay hrd hwl hlo
  refine enter_call ?_
  refine codeAny_mono ?_ (fun _ _ g => GoodW.toG g)
  have T := G.T
  refine Mine.law_close _ rfl (Mine.pf_of _ w s₁.heap w.params mg mb KX T.g T.b T.builtins T.nolimit T.nodigits) (Mine.xp_of _ w s₁.heap w.params mg mb KX T.g T.b T.builtins T.nolimit T.nodigits) hmg (by assumption) (by assumption) (by assumption) hg ?_ ?_
  · exact raisesW_false (by wrow_none_raised)
  · wrow_post)
