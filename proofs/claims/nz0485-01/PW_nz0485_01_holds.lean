import PyProof.Rows.All
import Wide.All
import OpenK.AllK
import Wide.FinOn
import Lean
import PySem.Challenge.RW_nz0485_01
open PySem PySem.W PySem.Calls PyProof.Rows
set_option Elab.async false
set_option maxRecDepth 100000
set_option linter.unusedVariables false

/-! M0 -/
namespace Mine

/-- the world of the walk: what stands when the law is called -/
structure Wr where
  prog : Program
  w : World
  H : Heap
  mg : PySem.Str → Option Value
  mb : PySem.Str → Option Value
  C : Addr
  g : H.Ns mainGlobals mg
  b : H.Ns builtinsNs mb
  nolimit : H.NoLimit
  builtins : ∀ x : PySem.Str, x ≠ "__name__" → mb x = bootBuiltins x
  K : Frag
  kin : K.In H
  hasDict : hasDictIn K C = true
  pget : findIn K (.ref C) "__getattribute__" = some (some (.builtin "object.__getattribute__"))
  attr : ∀ x ∈ (["kind", "items", "attrs", "shared", "loose"] : List PySem.Str), findIn K (.ref C) x = some Option.none ∧ takerIn K C x = some Option.none
  sets : findIn K (.ref C) "__setattr__" = some (some (.builtin "object.__setattr__"))
  over : plainOver K C = true
  makes : makesIn K C = true
  I : Addr
  init : findIn K (.ref C) "__init__" = some (some (.ref I))
  initFn : typeIn K (.ref I) = some (.type "function")

abbrev Mo (W : Wr) : Model := model W.prog W.w

/-- keys that are an int or None -/
def isOpt : Option Int → Value → Bool
  | some i, v => Value.isInt i v
  | Option.none, v => v == Value.none
theorem isOpt_shape {k : Option Int} {v : Value} (h : isOpt k v = true) : (k = Option.none ∧ v = Value.none) ∨ ∃ i t, k = some i ∧ v = Value.int i t := by
  cases k with
  | none => exact .inl ⟨rfl, beq_iff_eq.mp h⟩
  | some i => obtain ⟨t, rfl⟩ := Value.isInt_shape h; exact .inr ⟨i, t, rfl, rfl⟩
theorem eqBool_int_none {prog : Program} {w : World} {A : Around} {E : Value → Shared → Prop} {s : Shared} {a : Int} {t : Tok} {Q : Bool → Shared → Prop} (h : Q false s) : wpAny (model prog w) A (PySem.eqBool (.int a t) Value.none) Q E s := by
  unfold PySem.eqBool
  refine wpAny_holding ?_
  rw [if_neg (by simp)]
  show wpAny _ _ (richCompare .Eq (Value.int a t) (Value.none) >>= fun r => truthOfDropped r) Q E s
  exact wpAny_bind (EqNone.eq_int_none (wpAny_truthy_bool h))
theorem eqBool_none_int {prog : Program} {w : World} {A : Around} {E : Value → Shared → Prop} {s : Shared} {a : Int} {t : Tok} {Q : Bool → Shared → Prop} (h : Q false s) : wpAny (model prog w) A (PySem.eqBool Value.none (.int a t)) Q E s := by
  unfold PySem.eqBool
  refine wpAny_holding ?_
  rw [if_neg (by simp)]
  show wpAny _ _ (richCompare .Eq (Value.none) (Value.int a t) >>= fun r => truthOfDropped r) Q E s
  exact wpAny_bind (EqNone.eq_none_int (wpAny_truthy_bool h))
theorem eqBool_none {prog : Program} {w : World} {A : Around} {E : Value → Shared → Prop} {s : Shared} {Q : Bool → Shared → Prop} (h : Q true s) : wpAny (model prog w) A (PySem.eqBool Value.none Value.none) Q E s := by
  unfold PySem.eqBool
  refine wpAny_holding ?_
  rw [if_pos (by simp)]
  exact wpAny_bind (wpAny_rule (wpAny_pure h))
def optKind (prog : Program) (w : World) : KeyKind prog w (Option Int) where
  is := isOpt
  hash := fun k => match k with | some i => hashInt i | Option.none => reduceHash 0xFCA86420
  inj := fun v a b ha hb => by
    rcases isOpt_shape ha with ⟨rfl, rfl⟩ | ⟨i, t, rfl, rfl⟩ <;> rcases isOpt_shape hb with ⟨rfl, h⟩ | ⟨j, u, rfl, h⟩
    · rfl
    · cases h
    · cases h
    · cases h; rfl
  byValue := fun k v h => by
    rcases isOpt_shape h with ⟨rfl, rfl⟩ | ⟨i, t, rfl, rfl⟩ <;> rfl
  pyHash := fun hv h => by
    rcases isOpt_shape hv with ⟨rfl, rfl⟩ | ⟨i, t, rfl, rfl⟩
    · exact pyHash_slot (T := "NoneType") rfl F.slot_NoneType_hash F.entry_NoneType_hash (F.args_NoneType_hash_1 _) (beq_builtin_none _) (.inl rfl) (wpAny_bind (wpAny_pure (wpAny_bind (wpAny_mkInt (wpAny_pure ⟨_, _, rfl, h⟩)))))
    · exact wpAny_pyHash_int h
  eqBool := fun {A E s a b u v Q} hu hv h => by
    rcases isOpt_shape hu with ⟨rfl, rfl⟩ | ⟨i, t, rfl, rfl⟩ <;> rcases isOpt_shape hv with ⟨rfl, rfl⟩ | ⟨j, u, rfl, rfl⟩
    · exact eqBool_none (by simpa using h)
    · exact eqBool_none_int (by simpa using h)
    · exact eqBool_int_none (by simpa using h)
    · exact wpAny_eqBool_int (by
        have e : (i == j) = decide (some i = some j) := by by_cases q : i = j <;> simp [q]
        rw [e]; exact h)
  «strs» := fun k x t v h => by
    rcases isOpt_shape h with ⟨rfl, q⟩ | ⟨i, t, rfl, q⟩ <;> cases q

/-- data as trees -/
inductive D where
  | none
  | bool (b : Bool)
  | int (i : Int)
  | str (x : PySem.Str)
  | tup (ds : List D)
  | lst (ds : List D)
  | dct (ks : List PySem.Str) (ds : List D)
  | dcx (ks : List (Option Int)) (ds : List D)
  | vec (k : PySem.Str) (items attrs : D)
  | fn (f : Value)
  | rng (a b c : Int)
  | slc (l u : Option Int)

/-- a part of a slice -/
def OptInt (v : Value) : Option Int → Prop
  | Option.none => v = Value.none
  | some i => ∃ t, v = Value.int i t

mutual
inductive Rd (W : Wr) (mu : List Addr) (h : Heap) : Value → D → Prop
  | none : Rd W mu h Value.none D.none
  | bool (b : Bool) : Rd W mu h (Value.bool b) (D.bool b)
  | int (i : Int) (t : Tok) : Rd W mu h (Value.int i t) (D.int i)
  | str (x : PySem.Str) (t : Tok) : Rd W mu h (Value.str x t) (D.str x)
  | fn (f : Value) : Rd W mu h f (D.fn f)
  | rng {r : Addr} {a b c : Int} {t u v : Tok} : r ∉ mu → IsRange h r a b c t u v → Rd W mu h (Value.ref r) (D.rng a b c)
  | slc {a : Addr} {vl vu : Value} {l u : Option Int} : a ∉ mu → h.get? a = some ({ cls := .type "slice", data := .fields #[vl, vu, Value.none] } : Obj) → OptInt vl l → OptInt vu u → Rd W mu h (Value.ref a) (D.slc l u)
  | tup {a : Addr} {vs : List Value} {n : Nat} {ds : List D} : a ∉ mu → h.get? a = some ({ cls := .type "tuple", data := .seq vs.toArray n } : Obj) → RdAll W mu h vs ds → Rd W mu h (Value.ref a) (D.tup ds)
  | lst {a : Addr} {vs : List Value} {n : Nat} {ds : List D} : a ∉ mu → h.get? a = some (listOf vs.toArray n) → RdAll W mu h vs ds → Rd W mu h (Value.ref a) (D.lst ds)
  | dcx {a : Addr} {kvs : List (Option Int × Value)} {ds : List D} : a ∉ mu → (a == sysModules) = false → h.DictOf (optKind W.prog W.w) a kvs → RdAll W mu h (kvs.map (·.2)) ds → Rd W mu h (Value.ref a) (D.dcx (kvs.map (·.1)) ds)
  | dct {a : Addr} {kvs : List (PySem.Str × Value)} {ds : List D} : a ∉ mu → (a == sysModules) = false → h.DictOf (strKind W.prog W.w) a kvs → RdAll W mu h (kvs.map (·.2)) ds → Rd W mu h (Value.ref a) (D.dct (kvs.map (·.1)) ds)
  | vec {a dx : Addr} {es : List DictEntry} {n : Nat} {k : PySem.Str} {t : Tok} {vi va : Value} {di da : D} : a ∉ mu → dx ∉ mu → h.get? a = some (instObj W.C dx) → h.get? dx = some (dictOf es n) →
      getL "kind" es = some (some (.str k t)) → getL "items" es = some (some vi) → getL "attrs" es = some (some va) → Rd W mu h vi di → Rd W mu h va da → Rd W mu h (Value.ref a) (D.vec k di da)
inductive RdAll (W : Wr) (mu : List Addr) (h : Heap) : List Value → List D → Prop
  | nil : RdAll W mu h [] []
  | cons {v : Value} {vs : List Value} {d : D} {ds : List D} : Rd W mu h v d → RdAll W mu h vs ds → RdAll W mu h (v :: vs) (d :: ds)
end

section
variable {W : Wr} {mu mu' : List Addr} {h h' : Heap}
mutual
theorem Rd.move (hs : ∀ a o, a ∉ mu → h.get? a = some o → a ∉ mu' ∧ h'.get? a = some o) : ∀ {v : Value} {d : D}, Rd W mu h v d → Rd W mu' h' v d
  | _, _, .none => .none
  | _, _, .bool b => .bool b
  | _, _, .int i t => .int i t
  | _, _, .str x t => .str x t
  | _, _, .fn f => .fn f
  | _, _, .rng n e => .rng (hs _ _ n e).1 (hs _ _ n e).2
  | _, _, .slc n e i j => .slc (hs _ _ n e).1 (hs _ _ n e).2 i j
  | _, _, .tup n e r => .tup (hs _ _ n e).1 (hs _ _ n e).2 (RdAll.move hs r)
  | _, _, .lst n e r => .lst (hs _ _ n e).1 (hs _ _ n e).2 (RdAll.move hs r)
  | _, _, .dcx n q e r => .dcx (let ⟨_, _, _, ho, _⟩ := e; (hs _ _ n ho).1) q (e.at fun o ho => (hs _ o n ho).2) (RdAll.move hs r)
  | _, _, .dct n q e r => .dct (let ⟨_, _, _, ho, _⟩ := e; (hs _ _ n ho).1) q (e.at fun o ho => (hs _ o n ho).2) (RdAll.move hs r)
  | _, _, .vec n nx e ex k i t ri rt => .vec (hs _ _ n e).1 (hs _ _ nx ex).1 (hs _ _ n e).2 (hs _ _ nx ex).2 k i t (Rd.move hs ri) (Rd.move hs rt)
theorem RdAll.move (hs : ∀ a o, a ∉ mu → h.get? a = some o → a ∉ mu' ∧ h'.get? a = some o) : ∀ {vs : List Value} {ds : List D}, RdAll W mu h vs ds → RdAll W mu' h' vs ds
  | _, _, .nil => .nil
  | _, _, .cons e r => .cons (Rd.move hs e) (RdAll.move hs r)
end

theorem Rd.keep (hs : ∀ a o, h.get? a = some o → h'.get? a = some o) {v : Value} {d : D} (r : Rd W mu h v d) : Rd W mu h' v d := r.move fun a o n e => ⟨n, hs a o e⟩
theorem RdAll.keep (hs : ∀ a o, h.get? a = some o → h'.get? a = some o) {v : List Value} {d : List D} (r : RdAll W mu h v d) : RdAll W mu h' v d := r.move fun a o n e => ⟨n, hs a o e⟩
/-- fewer places to shun -/
theorem Rd.shrink (hs : ∀ a, a ∈ mu' → a ∈ mu) {v : Value} {d : D} (r : Rd W mu h v d) : Rd W mu' h v d := r.move fun a _ n e => ⟨fun q => n (hs a q), e⟩
theorem RdAll.shrink (hs : ∀ a, a ∈ mu' → a ∈ mu) {v : List Value} {d : List D} (r : RdAll W mu h v d) : RdAll W mu' h v d := r.move fun a _ n e => ⟨fun q => n (hs a q), e⟩
/-- new places to shun, that did not stand -/
theorem Rd.shun {as : List Addr} (hs : ∀ a ∈ as, h.get? a = Option.none) {v : Value} {d : D} (r : Rd W mu h v d) : Rd W (as ++ mu) h v d := r.move fun a o n e => ⟨fun q => (List.mem_append.mp q).elim (fun q => by rw [hs a q] at e; cases e) n, e⟩
theorem RdAll.shun {as : List Addr} (hs : ∀ a ∈ as, h.get? a = Option.none) {v : List Value} {d : List D} (r : RdAll W mu h v d) : RdAll W (as ++ mu) h v d := r.move fun a o n e => ⟨fun q => (List.mem_append.mp q).elim (fun q => by rw [hs a q] at e; cases e) n, e⟩

theorem RdAll.length {vs : List Value} {ds : List D} (r : RdAll W mu h vs ds) : vs.length = ds.length := by
  induction vs generalizing ds with
  | nil => cases r; rfl
  | cons v vs ih => cases r with
    | cons _ r => simp [ih r]
theorem RdAll.append {vs ws : List Value} {ds es : List D} (r : RdAll W mu h vs ds) (q : RdAll W mu h ws es) : RdAll W mu h (vs ++ ws) (ds ++ es) := by
  induction vs generalizing ds with
  | nil => cases r; exact q
  | cons v vs ih => cases r with
    | cons e r => exact .cons e (ih r)
theorem RdAll.get {vs : List Value} {ds : List D} (r : RdAll W mu h vs ds) {i : Nat} {d : D} (hi : ds[i]? = some d) : ∃ v, vs[i]? = some v ∧ Rd W mu h v d := by
  induction vs generalizing ds i with
  | nil => cases r; simp at hi
  | cons v vs ih => cases r with
    | cons e r =>
      cases i with
      | zero => simp at hi; subst hi; exact ⟨v, rfl, e⟩
      | succ i => exact ih r (by simpa using hi)
theorem RdAll.take {vs : List Value} {ds : List D} (r : RdAll W mu h vs ds) (k : Nat) : RdAll W mu h (vs.take k) (ds.take k) := by
  induction vs generalizing ds k with
  | nil => cases r; simpa using RdAll.nil
  | cons v vs ih => cases r with
    | cons e r =>
      cases k with
      | zero => exact .nil
      | succ k => exact .cons e (ih r k)
theorem RdAll.drop {vs : List Value} {ds : List D} (r : RdAll W mu h vs ds) (k : Nat) : RdAll W mu h (vs.drop k) (ds.drop k) := by
  induction vs generalizing ds k with
  | nil => cases r; simpa using RdAll.nil
  | cons v vs ih => cases r with
    | cons e r =>
      cases k with
      | zero => exact .cons e r
      | succ k => exact ih r k
theorem RdAll.reverse {vs : List Value} {ds : List D} (r : RdAll W mu h vs ds) : RdAll W mu h vs.reverse ds.reverse := by
  induction vs generalizing ds with
  | nil => cases r; exact .nil
  | cons v vs ih => cases r with
    | cons e r => rw [List.reverse_cons, List.reverse_cons]; exact (ih r).append (.cons e .nil)
theorem RdAll.one {v : Value} {d : D} (r : Rd W mu h v d) : RdAll W mu h [v] [d] := .cons r .nil
end

/-- all that stood stands -/
abbrev Keep (h h' : Heap) : Prop := ∀ a o, h.get? a = some o → h'.get? a = some o
/-- all that stood stands but for the places of fp, where something stands still -/
def KB (fp : List Addr) (h h' : Heap) : Prop := ∀ a o, h.get? a = some o → ∃ o', h'.get? a = some o' ∧ (a ∉ fp → o' = o)
theorem KB.refl (fp : List Addr) (h : Heap) : KB fp h h := fun _ o e => ⟨o, e, fun _ => rfl⟩
theorem KB.trans {fp : List Addr} {h₁ h₂ h₃ : Heap} (x : KB fp h₁ h₂) (y : KB fp h₂ h₃) : KB fp h₁ h₃ := fun a o e => by
  obtain ⟨o', e', q⟩ := x a o e
  obtain ⟨o'', e'', q'⟩ := y a o' e'
  exact ⟨o'', e'', fun n => (q' n).trans (q n)⟩
theorem KB.of_keep {fp : List Addr} {h h' : Heap} (k : Keep h h') : KB fp h h' := fun a o e => ⟨o, k a o e, fun _ => rfl⟩
theorem KB.mono {fp fp' : List Addr} {h h' : Heap} (x : KB fp h h') (hs : ∀ a ∈ fp, a ∈ fp') : KB fp' h h' := fun a o e => by
  obtain ⟨o', e', q⟩ := x a o e
  exact ⟨o', e', fun n => q fun m => n (hs a m)⟩
/-- as KB, and what is no sequence stands as it stood (an expression turns own lists alone) -/
def KE (fp : List Addr) (h h' : Heap) : Prop := ∀ a o, h.get? a = some o → ∃ o', h'.get? a = some o' ∧ (a ∉ fp ∨ (∀ its k, o.data ≠ .seq its k) → o' = o)
theorem KE.refl (fp : List Addr) (h : Heap) : KE fp h h := fun _ o e => ⟨o, e, fun _ => rfl⟩
theorem KE.trans {fp : List Addr} {h₁ h₂ h₃ : Heap} (x : KE fp h₁ h₂) (y : KE fp h₂ h₃) : KE fp h₁ h₃ := fun a o e => by
  obtain ⟨o', e', q⟩ := x a o e
  obtain ⟨o'', e'', q'⟩ := y a o' e'
  refine ⟨o'', e'', fun n => ?_⟩
  have z := q n
  subst z
  exact q' n
theorem KE.of_keep {fp : List Addr} {h h' : Heap} (k : Keep h h') : KE fp h h' := fun a o e => ⟨o, k a o e, fun _ => rfl⟩
theorem KE.kb {fp : List Addr} {h h' : Heap} (x : KE fp h h') : KB fp h h' := fun a o e => let ⟨o', e', q⟩ := x a o e; ⟨o', e', fun n => q (.inl n)⟩
/-- fp' is fp and new places -/
def Gro (fp fp' : List Addr) (h : Heap) : Prop := (∀ a ∈ fp, a ∈ fp') ∧ ∀ a ∈ fp', a ∈ fp ∨ h.get? a = none
theorem Gro.refl (fp : List Addr) (h : Heap) : Gro fp fp h := ⟨fun _ m => m, fun _ m => .inl m⟩
theorem Gro.trans {fp₁ fp₂ fp₃ : List Addr} {h₁ h₂ : Heap} (x : Gro fp₁ fp₂ h₁) (k : KB fp₁ h₁ h₂) (y : Gro fp₂ fp₃ h₂) : Gro fp₁ fp₃ h₁ :=
  ⟨fun a m => y.1 a (x.1 a m), fun a m => by
    rcases y.2 a m with q | q
    · exact x.2 a q
    · right
      cases e : h₁.get? a with
      | none => rfl
      | some o => obtain ⟨o', e', _⟩ := k a o e; rw [q] at e'; cases e'⟩
theorem KB.gro {fp fp' : List Addr} {h₁ h₂ h₃ : Heap} (x : KB fp h₁ h₂) (g : Gro fp fp' h₁) (y : KB fp' h₂ h₃) : KB fp h₁ h₃ := fun a o e => by
  obtain ⟨o', e', q⟩ := x a o e
  obtain ⟨o'', e'', q'⟩ := y a o' e'
  refine ⟨o'', e'', fun n => ?_⟩
  rw [q' fun m => (g.2 a m).elim n fun z => (by rw [z] at e; cases e), q n]

/-- two states that part in the heap and the tokens alone -/
def Same (s s' : Shared) : Prop := ∃ h tk, s' = { s with heap := h, toks := tk }
theorem Same.refl (s : Shared) : Same s s := ⟨s.heap, s.toks, rfl⟩
theorem Same.trans {s₁ s₂ s₃ : Shared} (x : Same s₁ s₂) (y : Same s₂ s₃) : Same s₁ s₃ := by
  obtain ⟨h, t, rfl⟩ := x
  obtain ⟨h', t', rfl⟩ := y
  exact ⟨h', t', rfl⟩

/-- room for n calls within calls -/
def Room (n : Nat) (A : Around) : Prop := A.handled = none ∧ A.depth + 4 * n + 8 < recursionLimit ∧ A.units + 16 * n + 100 < cLine
theorem Room.mono {n m : Nat} {A : Around} (r : Room n A) (h : m ≤ n) : Room m A := ⟨r.1, by have := r.2.1; omega, by have := r.2.2; omega⟩
theorem Room.in1 {n : Nat} {A : Around} (r : Room (n + 1) A) : Room n A.in1 := ⟨r.1, by have := r.2.1; simp; omega, by have := r.2.2; simp; omega⟩
theorem Room.deeper {n : Nat} {A : Around} (r : Room (n + 1) A) (env : Env) : Room n (A.deeper env) := ⟨r.1, by have := r.2.1; show A.depth + 1 + 4 * n + 8 < _; omega, by have := r.2.2; show A.units + 3 + 16 * n + 100 < _; omega⟩
theorem Room.depth {n : Nat} {A : Around} (r : Room n A) : A.depth < recursionLimit := by have := r.2.1; omega
theorem Room.units {n : Nat} {A : Around} (r : Room n A) : A.units < cLine := by have := r.2.2; omega
theorem Room.units64 {n : Nat} {A : Around} (r : Room n A) : A.units + 64 < cLine := by have := r.2.2; omega

/-- what a name is bound to: data that nothing changes; a list of the frame's own -/
inductive B where
  | fz (d : D)
  | own (ds : List D) (pin : Option Addr := Option.none)

/-- an own list's items; its place, where that is known -/
def RdO (W : Wr) (mu : List Addr) (h : Heap) (pin : Option Addr) (a : Addr) (vs : List Value) (ds : List D) : Prop := RdAll W mu h vs ds ∧ ∀ b, pin = some b → b = a
theorem RdO.move {W : Wr} {mu mu' : List Addr} {h h' : Heap} {pin : Option Addr} {a : Addr} {vs : List Value} {ds : List D} (r : RdO W mu h pin a vs ds) (hs : ∀ a o, a ∉ mu → h.get? a = some o → a ∉ mu' ∧ h'.get? a = some o) : RdO W mu' h' pin a vs ds := ⟨RdAll.move hs r.1, r.2⟩
theorem RdO.keep {W : Wr} {mu : List Addr} {h h' : Heap} {pin : Option Addr} {a : Addr} {vs : List Value} {ds : List D} (r : RdO W mu h pin a vs ds) (hs : ∀ a o, h.get? a = some o → h'.get? a = some o) : RdO W mu h' pin a vs ds := ⟨r.1.keep hs, r.2⟩
theorem RdO.shrink {W : Wr} {mu mu' : List Addr} {h : Heap} {pin : Option Addr} {a : Addr} {vs : List Value} {ds : List D} (r : RdO W mu h pin a vs ds) (hs : ∀ a, a ∈ mu' → a ∈ mu) : RdO W mu' h pin a vs ds := ⟨r.1.shrink hs, r.2⟩
theorem RdO.of {W : Wr} {mu : List Addr} {h : Heap} {a : Addr} {vs : List Value} {ds : List D} (r : RdAll W mu h vs ds) : RdO W mu h Option.none a vs ds := ⟨r, fun _ e => by cases e⟩

def RdB (W : Wr) (fp av : List Addr) (h : Heap) (v : Value) : B → Prop
  | .fz d => Rd W (fp ++ av) h v d
  | .own ds pin => ∃ a vs n, v = .ref a ∧ (a ∈ fp ∧ a ∉ av) ∧ h.get? a = some (listOf vs.toArray n) ∧ RdO W (fp ++ av) h pin a vs ds

/-- the value of a name -/
def Seen (env : Env) (h : Heap) (x : PySem.Str) (v : Value) : Prop :=
  (env.kindOf x = some .local ∧ ∃ m, h.Ns env.locals m ∧ m x = some v) ∨
  ((env.kindOf x = some .cell ∨ (env.kindOf x = some .free ∧ (x == ("__classdict__" : PySem.Str)) = false)) ∧ ∃ c, env.cells.lookup x = some c ∧ h.IsCell c (some v))

abbrev Ga := List (PySem.Str × B)

structure EnvOk (env : Env) : Prop where
  kind : env.scope.kind = .function
  glob : env.globals = mainGlobals
  blt : env.builtins = builtinsNs

structure St (W : Wr) (env : Env) (fp av : List Addr) (G : Ga) (h : Heap) : Prop where
  ok : EnvOk env
  base : ∀ a o, W.H.get? a = some o → h.get? a = some o ∧ a ∉ fp
  live : ∀ a, a ∈ fp ++ av → ∃ o, h.get? a = some o
  loc : env.locals ∈ fp
  ns : ∃ m, h.Ns env.locals m
  cel : ∀ x c, env.cells.lookup x = some c → c ∈ fp ++ av ∧ (env.func.isSome = true → c ∈ fp) ∧ ∃ v, h.IsCell c v
  apart : ∀ x y c, env.cells.lookup x = some c → env.cells.lookup y = some c → x = y
  bd : ∀ x b, G.lookup x = some b → ∃ v, Seen env h x v ∧ RdB W fp av h v b
  odis : ∀ {p q} x y ds es a, G.lookup x = some (.own ds p) → G.lookup y = some (.own es q) → Seen env h x (.ref a) → Seen env h y (.ref a) → x = y

theorem Ns.uniq {h : Heap} {a : Addr} {m m' : PySem.Str → Option Value} (x : h.Ns a m) (y : h.Ns a m') : m = m' := by
  obtain ⟨o, es, ep, ho, hd, _, hf⟩ := x
  obtain ⟨o', es', ep', ho', hd', _, hf'⟩ := y
  rw [ho] at ho'; cases ho'
  rw [hd] at hd'; cases hd'
  funext z
  rw [← hf, ← hf']
theorem IsCell.uniq {h : Heap} {c : Addr} {v v' : Option Value} (x : h.IsCell c v) (y : h.IsCell c v') : v = v' := by
  obtain ⟨o, ho, hd⟩ := x
  obtain ⟨o', ho', hd'⟩ := y
  rw [ho] at ho'; cases ho'
  rw [hd] at hd'; cases hd'
  rfl
theorem Seen.uniq {env : Env} {h : Heap} {x : PySem.Str} {v v' : Value} (a : Seen env h x v) (b : Seen env h x v') : v = v' := by
  rcases a with ⟨k, m, hn, hm⟩ | ⟨k, c, hc, hv⟩ <;> rcases b with ⟨k', m', hn', hm'⟩ | ⟨k', c', hc', hv'⟩
  · rw [Ns.uniq hn hn', hm'] at hm; cases hm; rfl
  · rcases k' with k' | k'
    · rw [k] at k'; cases k'
    · rw [k] at k'; cases k'.1
  · rcases k with k | k
    · rw [k] at k'; cases k'
    · rw [k.1] at k'; cases k'
  · rw [hc] at hc'; cases hc'
    cases IsCell.uniq hv hv'; rfl
theorem Seen.move {env : Env} {h h' : Heap} {x : PySem.Str} {v : Value} (a : Seen env h x v) (hL : ∀ o, h.get? env.locals = some o → h'.get? env.locals = some o)
    (hc : ∀ c o, env.cells.lookup x = some c → h.get? c = some o → h'.get? c = some o) : Seen env h' x v := by
  rcases a with ⟨k, m, ⟨o, es, ep, ho, r⟩, hm⟩ | ⟨k, c, hk, o, ho, hd⟩
  · exact .inl ⟨k, m, ⟨o, es, ep, hL o ho, r⟩, hm⟩
  · exact .inr ⟨k, c, hk, o, hc c o hk ho, hd⟩

section
variable {W : Wr} {env : Env} {fp av : List Addr} {G : Ga} {h h' : Heap}
theorem RdB.keep {v : Value} {b : B} (k : Keep h h') (r : RdB W fp av h v b) : RdB W fp av h' v b := by
  cases b with
  | fz d => exact Rd.keep k r
  | own ds pin =>
    obtain ⟨a, vs, n, e, m, g, q⟩ := r
    exact ⟨a, vs, n, e, m, k _ _ g, q.keep k⟩
theorem St.keep (S : St W env fp av G h) (k : Keep h h') : St W env fp av G h' where
  ok := S.ok
  base := fun a o e => ⟨k a o (S.base a o e).1, (S.base a o e).2⟩
  live := fun a m => let ⟨o, e⟩ := S.live a m; ⟨o, k a o e⟩
  loc := S.loc
  ns := let ⟨m, n⟩ := S.ns; ⟨m, n.keeps k⟩
  cel := fun x c e => let ⟨a, b, v, q⟩ := S.cel x c e; ⟨a, b, v, q.keeps k⟩
  apart := S.apart
  bd := fun x b e => let ⟨v, q, r⟩ := S.bd x b e; ⟨v, q.move (fun o => k _ o) (fun c o _ => k c o), r.keep k⟩
  odis := fun x y ds es a ex ey sx sy => by
    obtain ⟨v, q, _⟩ := S.bd x _ ex
    obtain ⟨v', q', _⟩ := S.bd y _ ey
    have e1 := (q.move (fun o => k _ o) (fun c o _ => k c o)).uniq sx
    have e2 := (q'.move (fun o => k _ o) (fun c o _ => k c o)).uniq sy
    subst e1 e2
    exact S.odis x y ds es a ex ey q q'
/-- forget names -/
theorem St.weaken {G' : Ga} (S : St W env fp av G h) (hs : ∀ x b, G'.lookup x = some b → G.lookup x = some b) : St W env fp av G' h where
  ok := S.ok
  base := S.base
  live := S.live
  loc := S.loc
  ns := S.ns
  cel := S.cel
  apart := S.apart
  bd := fun x b e => S.bd x b (hs x b e)
  odis := fun x y ds es a ex ey => S.odis x y ds es a (hs _ _ ex) (hs _ _ ey)
end

end Mine

/-! M1 -/
namespace Mine

section
variable {W : Wr} {n : Nat} {env : Env} {fp av : List Addr} {G G₁ G₂ G' : Ga} {h h' : Heap}

theorem Rd.ke (k : KE fp h h') {v : Value} {d : D} (r : Rd W (fp ++ av) h v d) : Rd W (fp ++ av) h' v d := r.move fun a o m e => by
  obtain ⟨o', e', q⟩ := k.kb a o e
  rw [q fun z => m (List.mem_append_left _ z)] at e'
  exact ⟨m, e'⟩
theorem Rd.kb (k : KB fp h h') {v : Value} {d : D} (r : Rd W (fp ++ av) h v d) : Rd W (fp ++ av) h' v d := r.move fun a o m e => by
  obtain ⟨o', e', q⟩ := k a o e
  rw [q fun z => m (List.mem_append_left _ z)] at e'
  exact ⟨m, e'⟩
theorem RdAll.kb (k : KB fp h h') {v : List Value} {d : List D} (r : RdAll W (fp ++ av) h v d) : RdAll W (fp ++ av) h' v d := r.move fun a o m e => by
  obtain ⟨o', e', q⟩ := k a o e
  rw [q fun z => m (List.mem_append_left _ z)] at e'
  exact ⟨m, e'⟩

/-- what an operation asks of the heap -/
def Wd (W : Wr) (mu : List Addr) (h : Heap) : Prop := (∀ a o, W.H.get? a = some o → h.get? a = some o) ∧ ∀ a ∈ mu, ∃ o, h.get? a = some o
theorem St.wd (S : St W env fp av G h) : Wd W (fp ++ av) h := ⟨fun a o e => (S.base a o e).1, S.live⟩
theorem Wd.keep {mu : List Addr} (x : Wd W mu h) (k : Keep h h') : Wd W mu h' := ⟨fun a o e => k a o (x.1 a o e), fun a m => let ⟨o, e⟩ := x.2 a m; ⟨o, k a o e⟩⟩
theorem Wd.nolimit {mu : List Addr} (x : Wd W mu h) : h.NoLimit := W.nolimit.keeps x.1

/-- an operation's outcome: data, all that stood stands -/
def Op (W : Wr) (n : Nat) (mu : List Addr) (s : Shared) (t : Sem Value) (d : D) : Prop :=
  ∀ A E, Room n A → wpAny (Mo W) A t (fun v s' => Same s s' ∧ Keep s.heap s'.heap ∧ Rd W mu s'.heap v d) E s

/-- an expression's outcome -/
def EvP (W : Wr) (n : Nat) (env : Env) (G : Ga) (t : Sem Value) (G' : Ga) (P : List Addr → List Addr → Heap → Value → Prop) : Prop :=
  ∀ fp av A E s, Room n A → St W env fp av G s.heap → wpAny (Mo W) A t (fun v s' => Same s s' ∧ KE fp s.heap s'.heap ∧ St W env fp av G' s'.heap ∧ P fp av s'.heap v) E s
abbrev Ev (W : Wr) (n : Nat) (env : Env) (G : Ga) (e : Expr) (G' : Ga) (d : D) : Prop := EvP W n env G (eval e env) G' fun fp av h v => Rd W (fp ++ av) h v d
/-- a test's outcome -/
def Ts (W : Wr) (n : Nat) (env : Env) (G : Ga) (e : Expr) (G' : Ga) (b : Bool) : Prop :=
  ∀ fp av A E s, Room n A → St W env fp av G s.heap → wpAny (Mo W) A (isTrue e env (eval e env)) (fun v s' => v = b ∧ Same s s' ∧ KE fp s.heap s'.heap ∧ St W env fp av G' s'.heap) E s
/-- a list of expressions -/
def EvL (W : Wr) (n : Nat) (env : Env) (G : Ga) (pos : Pos) (es : List Expr) (G' : Ga) (ds : List D) : Prop :=
  ∀ fp av A E s, Room n A → St W env fp av G s.heap → wpAny (Mo W) A (spliced (backTo pos (starEach es env))) (fun vs s' => Same s s' ∧ KE fp s.heap s'.heap ∧ St W env fp av G' s'.heap ∧ RdAll W (fp ++ av) s'.heap vs ds) E s

/-- an operation as the last step -/
theorem Op.last {mu : List Addr} {s₀ s : Shared} {t : Sem Value} {d : D} {A : Around} {E : Value → Shared → Prop} (o : Op W n (fp ++ av) s t d) (R : Room n A) (sm : Same s₀ s) (k : KE fp s₀.heap s.heap) (S : St W env fp av G s.heap) :
    wpAny (Mo W) A t (fun v s' => Same s₀ s' ∧ KE fp s₀.heap s'.heap ∧ St W env fp av G s'.heap ∧ Rd W (fp ++ av) s'.heap v d) E s :=
  wpAny_mono (o A E R) (fun v s' q => ⟨sm.trans q.1, k.trans (.of_keep q.2.1), S.keep q.2.1, q.2.2⟩) fun _ _ x => x

theorem Ev.mono {e : Expr} {d : D} {m : Nat} (x : Ev W m env G e G' d) (hm : m ≤ n) : Ev W n env G e G' d := fun fp av A E s R S => x fp av A E s (R.mono hm) S

/-! names -/
theorem Ev.name {x : PySem.Str} {pos : Pos} {d : D} (hl : G.lookup x = some (.fz d)) (hd : (x == ("__debug__" : PySem.Str)) = false := by decide +kernel) : Ev W n env G (.Name x pos) G d := by
  intro fp av A E s R S
  obtain ⟨v, q, r⟩ := S.bd x _ hl
  have fin : Same s s ∧ KE fp s.heap s.heap ∧ St W env fp av G s.heap ∧ Rd W (fp ++ av) s.heap v d := ⟨Same.refl s, KE.refl _ _, S, r⟩
  refine wpAny_Name ?_ hd
  rcases q with ⟨k, m, hn, hm⟩ | ⟨k | k, c, hc, hv⟩
  · exact wpAny_loadName_local S.ok.kind k hn hm fin
  · exact wpAny_loadName_cell S.ok.kind k hc hv fin
  · exact wpAny_loadName_free S.ok.kind k.1 hc hv fin k.2
theorem Ev.glob {x : PySem.Str} {pos : Pos} {v : Value} (hk : env.kindOf x = some .globalImplicit) (hv : W.mg x = some v) (hd : (x == ("__debug__" : PySem.Str)) = false := by decide +kernel) : Ev W n env G (.Name x pos) G (.fn v) := by
  intro fp av A E s R S
  refine Name_function_global S.ok.kind hk (loadGlobal_global (by rw [S.ok.glob]; exact W.g.keeps S.wd.1) hv ⟨Same.refl s, KE.refl _ _, S, .fn v⟩) hd
theorem Ev.blt {x : PySem.Str} {pos : Pos} {v : Value} (hk : env.kindOf x = some .globalImplicit) (hm : W.mg x = none) (hv : bootBuiltins x = some v) (hn : x ≠ "__name__" := by decide +kernel) (hd : (x == ("__debug__" : PySem.Str)) = false := by decide +kernel) : Ev W n env G (.Name x pos) G (.fn v) := by
  intro fp av A E s R S
  refine Name_function_global S.ok.kind hk (loadGlobal_builtin (by rw [S.ok.glob]; exact W.g.keeps S.wd.1) hm (by rw [S.ok.blt]; exact W.b.keeps S.wd.1) ((W.builtins x hn).trans hv) ⟨Same.refl s, KE.refl _ _, S, .fn v⟩) hd

/-! constants -/
theorem Ev.int {i : Int} {k : Nat} {pos : Pos} : Ev W n env G (.Constant (.int i) k pos) G (.int i) := fun fp av A E s R S =>
  wpAny_Constant_int ⟨⟨_, _, rfl⟩, KE.refl _ _, S, .int _ _⟩
theorem Ev.str {x : PySem.Str} {k : Nat} {pos : Pos} : Ev W n env G (.Constant (.str x) k pos) G (.str x) := fun fp av A E s R S =>
  wpAny_Constant_str ⟨⟨_, _, rfl⟩, KE.refl _ _, S, .str _ _⟩
theorem Ev.none {k : Nat} {pos : Pos} : Ev W n env G (.Constant .none k pos) G .none := fun fp av A E s R S =>
  wpAny_Constant_none ⟨Same.refl s, KE.refl _ _, S, .none⟩
theorem Ev.bool {b : Bool} {k : Nat} {pos : Pos} : Ev W n env G (.Constant (.bool b) k pos) G (.bool b) := fun fp av A E s R S =>
  wpAny_Constant_bool ⟨Same.refl s, KE.refl _ _, S, .bool _⟩

/-! two operands -/
def Bin (W : Wr) (n : Nat) (op : Operator) (d₁ d₂ d : D) : Prop := ∀ mu s v₁ v₂, Wd W mu s.heap → Rd W mu s.heap v₁ d₁ → Rd W mu s.heap v₂ d₂ → Op W n mu s (binaryOp op v₁ v₂) d
def Cmp (W : Wr) (n : Nat) (op : CmpOp) (d₁ d₂ : D) (b : Bool) : Prop := ∀ mu s v₁ v₂, Wd W mu s.heap → Rd W mu s.heap v₁ d₁ → Rd W mu s.heap v₂ d₂ → Op W n mu s (compareOp op v₁ v₂) (.bool b)
def Una (W : Wr) (n : Nat) (op : UnaryOp) (d₁ d : D) : Prop := ∀ mu s v₁, Wd W mu s.heap → Rd W mu s.heap v₁ d₁ → Op W n mu s (unaryOp op v₁) d
/-- truth -/
def Tru (W : Wr) (n : Nat) (d : D) (b : Bool) : Prop := ∀ mu s v, Wd W mu s.heap → Rd W mu s.heap v d → ∀ A E, Room n A → wpAny (Mo W) A (truthy v) (fun v' s' => v' = b ∧ Same s s' ∧ Keep s.heap s'.heap) E s

theorem Ev.bin {l r : Expr} {op : Operator} {pos : Pos} {d₁ d₂ d : D} (x : Ev W n env G l G₁ d₁) (y : Ev W n env G₁ r G₂ d₂) (z : Bin W n op d₁ d₂ d) : Ev W n env G (.BinOp l op r pos) G₂ d := fun fp av A E s R S =>
  wpAny_BinOp (wpAny_mono (x fp av A E s R S) (fun v₁ s₁ q₁ => wpAny_mono (y fp av A E s₁ R q₁.2.2.1) (fun v₂ s₂ q₂ =>
    Op.last (z _ s₂ v₁ v₂ q₂.2.2.1.wd (q₁.2.2.2.ke q₂.2.1) q₂.2.2.2) (mu := []) R (q₁.1.trans q₂.1) (q₁.2.1.trans q₂.2.1) q₂.2.2.1) fun _ _ x => x) fun _ _ x => x)

theorem Ev.cmp {l r : Expr} {op : CmpOp} {pos : Pos} {d₁ d₂ : D} {b : Bool} (x : Ev W n env G l G₁ d₁) (y : Ev W n env G₁ r G₂ d₂) (z : Cmp W n op d₁ d₂ b) (hm : behindInMarks op r = false := by with_unfolding_all rfl) :
    Ev W n env G (.Compare l [op] [r] pos) G₂ (.bool b) := fun fp av A E s R S =>
  wpAny_Compare1 (wpAny_mono (x fp av A E s R S) (fun v₁ s₁ q₁ => wpAny_mono (y fp av A E s₁ R q₁.2.2.1) (fun v₂ s₂ q₂ =>
    Op.last (z _ s₂ v₁ v₂ q₂.2.2.1.wd (q₁.2.2.2.ke q₂.2.1) q₂.2.2.2) (mu := []) R (q₁.1.trans q₂.1) (q₁.2.1.trans q₂.2.1) q₂.2.2.1) fun _ _ x => x) fun _ _ x => x) hm

theorem Ev.una {e : Expr} {op : UnaryOp} {pos : Pos} {d₁ d : D} (x : Ev W n env G e G₁ d₁) (z : Una W n op d₁ d) : Ev W n env G (.UnaryOp op e pos) G₁ d := fun fp av A E s R S =>
  wpAny_UnaryOp (wpAny_mono (x fp av A E s R S) (fun v₁ s₁ q₁ => Op.last (z _ s₁ v₁ q₁.2.2.1.wd q₁.2.2.2) (mu := []) R q₁.1 q₁.2.1 q₁.2.2.1) fun _ _ x => x)

/-! tests -/
theorem Tru.bool {b : Bool} : Tru W n (.bool b) b := fun mu s v _ r A E _ => by
  cases r with
  | bool => exact wpAny_truthy_bool ⟨rfl, Same.refl s, fun _ _ e => e⟩
theorem tru_end {d : D} {b : Bool} (T : Tru W n d b) {v : Value} {A : Around} {E : Value → Shared → Prop} {s₀ s : Shared} (R : Room n A) (sm : Same s₀ s) (k : KE fp s₀.heap s.heap) (S : St W env fp av G s.heap) (r : Rd W (fp ++ av) s.heap v d) :
    wpAny (Mo W) A (truthy v) (fun v' s' => v' = b ∧ Same s₀ s' ∧ KE fp s₀.heap s'.heap ∧ St W env fp av G s'.heap) E s :=
  wpAny_mono (T _ s v S.wd r A E R) (fun v' s' q => ⟨q.1, sm.trans q.2.1, k.trans (.of_keep q.2.2), S.keep q.2.2⟩) fun _ _ x => x
theorem Ts.val {e : Expr} {d : D} {b : Bool} (x : Ev W n env G e G₁ d) (T : Tru W n d b) (he : isTrue e env (eval e env) = (do let v ← eval e env; standAt e.pos; holding [v] (truthy v)) := by rfl) : Ts W n env G e G₁ b := fun fp av A E s R S =>
  wpAny_isTrue_value (wpAny_mono (x fp av A E s R S) (fun v s₁ q => tru_end T R q.1 q.2.1 q.2.2.1 q.2.2.2) fun _ _ x => x) he
theorem Ts.cmp {l r : Expr} {op : CmpOp} {pos : Pos} {d₁ d₂ : D} {b : Bool} (x : Ev W n env G l G₁ d₁) (y : Ev W n env G₁ r G₂ d₂) (z : Cmp W n op d₁ d₂ b) (hm : behindInMarks op r = false := by with_unfolding_all rfl) :
    Ts W n env G (.Compare l [op] [r] pos) G₂ b := fun fp av A E s R S =>
  wpAny_isTrue_Compare1 (wpAny_mono (x fp av A E s R S) (fun v₁ s₁ q₁ => wpAny_mono (y fp av A E s₁ R q₁.2.2.1) (fun v₂ s₂ q₂ =>
    wpAny_mono (Op.last (z _ s₂ v₁ v₂ q₂.2.2.1.wd (q₁.2.2.2.ke q₂.2.1) q₂.2.2.2) (mu := []) R (q₁.1.trans q₂.1) (q₁.2.1.trans q₂.2.1) q₂.2.2.1)
      (fun v s' q => tru_end Tru.bool R q.1 q.2.1 q.2.2.1 q.2.2.2) fun _ _ x => x) fun _ _ x => x) fun _ _ x => x) hm
theorem Ts.not {e : Expr} {pos : Pos} {b : Bool} (x : Ts W n env G e G₁ b) : Ts W n env G (.UnaryOp .Not e pos) G₁ (!b) := fun fp av A E s R S =>
  wpAny_isTrue_Not (wpAny_mono (x fp av A E s R S) (fun b' s₁ q => ⟨by rw [q.1], q.2⟩) fun _ _ x => x)

def TsAll (W : Wr) (n : Nat) (env : Env) (op : BoolOp) (G : Ga) (es : List Expr) (b : Bool) : Prop :=
  ∀ fp av A E s, Room n A → St W env fp av G s.heap → wpAny (Mo W) A (allTrue op es env) (fun v s' => v = b ∧ Same s s' ∧ KE fp s.heap s'.heap ∧ St W env fp av G s'.heap) E s
theorem TsAll.and_nil : TsAll W n env .And G [] true := fun fp av A E s R S => wpAny_allTrue_And_nil ⟨rfl, Same.refl s, KE.refl _ _, S⟩
theorem TsAll.or_nil : TsAll W n env .Or G [] false := fun fp av A E s R S => wpAny_allTrue_Or_nil ⟨rfl, Same.refl s, KE.refl _ _, S⟩
theorem TsAll.and_cons {e : Expr} {es : List Expr} {b c : Bool} (x : Ts W n env G e G b) (y : b = true → TsAll W n env .And G es c) : TsAll W n env .And G (e :: es) (b && c) := fun fp av A E s R S =>
  wpAny_allTrue_And_cons (wpAny_mono (x fp av A E s R S) (fun b' s₁ q => by
    obtain ⟨rfl, sm, k, S₁⟩ := q
    cases b' with
    | false => exact ⟨rfl, sm, k, S₁⟩
    | true => exact wpAny_mono (y rfl fp av A E s₁ R S₁) (fun v s₂ q => ⟨by simpa using q.1, sm.trans q.2.1, k.trans q.2.2.1, q.2.2.2⟩) fun _ _ x => x) fun _ _ x => x)
theorem TsAll.or_cons {e : Expr} {es : List Expr} {b c : Bool} (x : Ts W n env G e G b) (y : b = false → TsAll W n env .Or G es c) : TsAll W n env .Or G (e :: es) (b || c) := fun fp av A E s R S =>
  wpAny_allTrue_Or_cons (wpAny_mono (x fp av A E s R S) (fun b' s₁ q => by
    obtain ⟨rfl, sm, k, S₁⟩ := q
    cases b' with
    | true => exact ⟨rfl, sm, k, S₁⟩
    | false => exact wpAny_mono (y rfl fp av A E s₁ R S₁) (fun v s₂ q => ⟨by simpa using q.1, sm.trans q.2.1, k.trans q.2.2.1, q.2.2.2⟩) fun _ _ x => x) fun _ _ x => x)
theorem Ts.bop {op : BoolOp} {es : List Expr} {pos : Pos} {b : Bool} (x : TsAll W n env op G es b) : Ts W n env G (.BoolOp op es pos) G b := fun fp av A E s R S => wpAny_isTrue_BoolOp (x fp av A E s R S)

/-! a chain of two comparisons, pure -/
theorem Ts.chain2 {l m r : Expr} {op₁ op₂ : CmpOp} {pos : Pos} {d₁ d₂ d₃ : D} {b c : Bool} (x : Ev W n env G l G d₁) (y : Ev W n env G m G d₂) (z : Cmp W n op₁ d₁ d₂ b) (y' : Ev W n env G r G d₃) (z' : b = true → Cmp W n op₂ d₂ d₃ c)
    (hm : lastMarks [op₁, op₂] [m, r] = false := by with_unfolding_all rfl) : Ts W n env G (.Compare l [op₁, op₂] [m, r] pos) G (b && c) := fun fp av A E s R S => by
  refine isTrue_chain (wpAny_mono (x fp av A E s R S) (fun v₁ s₁ q₁ => ?_) fun _ _ x => x) hm
  refine test_link (wpAny_mono (y fp av A E s₁ R q₁.2.2.1) (fun v₂ s₂ q₂ => ?_) fun _ _ x => x)
  refine wpAny_mono (z _ s₂ v₁ v₂ q₂.2.2.1.wd (q₁.2.2.2.ke q₂.2.1) q₂.2.2.2 A E R) (fun v s₃ q₃ => ?_) fun _ _ x => x
  obtain ⟨sm₃, k₃, r₃⟩ := q₃
  have S₃ := q₂.2.2.1.keep k₃
  have r₂ := q₂.2.2.2.keep k₃
  have sm := (q₁.1.trans q₂.1).trans sm₃
  have k := (q₁.2.1.trans q₂.2.1).trans (.of_keep k₃)
  cases r₃ with
  | bool =>
  refine wpAny_truthy_bool ?_
  cases b with
  | false => exact ⟨rfl, sm, k, S₃⟩
  | true =>
    refine test_last (wpAny_mono (y' fp av A E s₃ R S₃) (fun v₃ s₅ q₅ => ?_) fun _ _ x => x)
    refine wpAny_mono (Op.last (z' rfl _ s₅ v₂ v₃ q₅.2.2.1.wd (r₂.ke q₅.2.1) q₅.2.2.2) (mu := []) R (sm.trans q₅.1) (k.trans q₅.2.1) q₅.2.2.1) (fun v' s₆ q₆ => ?_) fun _ _ x => x
    exact wpAny_mono (tru_end Tru.bool R q₆.1 q₆.2.1 q₆.2.2.1 q₆.2.2.2) (fun t s₇ q₇ => ⟨by simpa using q₇.1, q₇.2⟩) fun _ _ x => x

/-! the conditional expression -/
theorem Ev.ite {t a c : Expr} {pos : Pos} {b : Bool} {d : D} (x : Ts W n env G t G₁ b) (ya : b = true → Ev W n env G₁ a G' d) (yc : b = false → Ev W n env G₁ c G' d) : Ev W n env G (.IfExp t a c pos) G' d := fun fp av A E s R S =>
  wpAny_IfExp (wpAny_mono (x fp av A E s R S) (fun b' s₁ q => by
    obtain ⟨rfl, sm, k, S₁⟩ := q
    cases b' with
    | true => exact wpAny_mono (ya rfl fp av A E s₁ R S₁) (fun v s₂ q => ⟨sm.trans q.1, k.trans q.2.1, q.2.2⟩) fun _ _ x => x
    | false => exact wpAny_mono (yc rfl fp av A E s₁ R S₁) (fun v s₂ q => ⟨sm.trans q.1, k.trans q.2.1, q.2.2⟩) fun _ _ x => x) fun _ _ x => x)

/-! lists of expressions; displays -/
theorem EvL.nil {pos : Pos} : EvL W n env G pos [] G [] := fun fp av A E s R S => wpAny_items_nil ⟨Same.refl s, KE.refl _ _, S, .nil⟩
theorem EvL.cons {pos : Pos} {e : Expr} {es : List Expr} {d : D} {ds : List D} (x : Ev W n env G e G₁ d) (y : EvL W n env G₁ pos es G₂ ds) (he : starEach (e :: es) env = (false, eval e env) :: starEach es env := by rfl) : EvL W n env G pos (e :: es) G₂ (d :: ds) := fun fp av A E s R S =>
  wpAny_items_cons (wpAny_mono (x fp av A E s R S) (fun v s₁ q₁ => wpAny_mono (y fp av A E s₁ R q₁.2.2.1) (fun vs s₂ q₂ =>
    ⟨q₁.1.trans q₂.1, q₁.2.1.trans q₂.2.1, q₂.2.2.1, .cons (q₁.2.2.2.ke q₂.2.1) q₂.2.2.2⟩) fun _ _ x => x) fun _ _ x => x) he

/-- a list that is new: nothing that stood knows it -/
def EvO (W : Wr) (n : Nat) (env : Env) (G : Ga) (t : Sem Value) (G' : Ga) (ds : List D) : Prop :=
  ∀ fp av A E s, Room n A → St W env fp av G s.heap → wpAny (Mo W) A t (fun v s' => Same s s' ∧ KE fp s.heap s'.heap ∧ St W env fp av G' s'.heap ∧ ∃ a vs k, v = .ref a ∧ s.heap.get? a = Option.none ∧ s'.heap.get? a = some (listOf vs.toArray k) ∧ RdAll W (a :: (fp ++ av)) s'.heap vs ds ∧ St W env (a :: fp) av G' s'.heap) E s

/-- what is new may join the frame's own -/
theorem St.join {a : Addr} {o : Obj} (S : St W env fp av G h) (k : Keep h h') (hn : h.get? a = Option.none) (ha : h'.get? a = some o) : St W env (a :: fp) av G h' where
  ok := S.ok
  base := fun b o e => ⟨k b o (S.base b o e).1, fun m => by
    rcases List.mem_cons.mp m with rfl | m
    · rw [(S.base _ _ e).1] at hn; cases hn
    · exact (S.base b o e).2 m⟩
  live := fun b m => by
    rcases List.mem_cons.mp m with rfl | m
    · exact ⟨o, ha⟩
    · obtain ⟨o, e⟩ := S.live b m; exact ⟨o, k b o e⟩
  loc := List.mem_cons_of_mem _ S.loc
  ns := let ⟨m, q⟩ := S.ns; ⟨m, q.keeps k⟩
  cel := fun x c e => let ⟨p, q, v, r⟩ := S.cel x c e; ⟨List.mem_cons_of_mem _ p, fun z => List.mem_cons_of_mem _ (q z), v, r.keeps k⟩
  apart := S.apart
  bd := fun x b e => by
    obtain ⟨v, q, r⟩ := S.bd x b e
    refine ⟨v, q.move (fun o => k _ o) (fun c o _ => k c o), ?_⟩
    have mv : ∀ b o, b ∉ fp ++ av → h.get? b = some o → b ∉ (a :: fp) ++ av ∧ h'.get? b = some o := fun b o m e => ⟨fun z => by
      rcases List.mem_cons.mp z with rfl | z
      · rw [hn] at e; cases e
      · exact m z, k b o e⟩
    cases b with
    | fz d => exact Rd.move mv r
    | own ds pin =>
      obtain ⟨a', vs, n, e, m, g, q⟩ := r
      exact ⟨a', vs, n, e, ⟨List.mem_cons_of_mem _ m.1, m.2⟩, k _ _ g, q.move mv⟩
  odis := fun x y ds es a' ex ey sx sy => by
    obtain ⟨v, q, _⟩ := S.bd x _ ex
    obtain ⟨v', q', _⟩ := S.bd y _ ey
    have e1 := (q.move (fun o => k _ o) (fun c o _ => k c o)).uniq sx
    have e2 := (q'.move (fun o => k _ o) (fun c o _ => k c o)).uniq sy
    subst e1 e2
    exact S.odis x y ds es a' ex ey q q'

/-- what is new may stand apart -/
theorem St.avoid {a : Addr} {o : Obj} (S : St W env fp av G h) (k : Keep h h') (hn : h.get? a = Option.none) (ha : h'.get? a = some o) : St W env fp (a :: av) G h' where
  ok := S.ok
  base := fun b o e => ⟨k b o (S.base b o e).1, (S.base b o e).2⟩
  live := fun b m => by
    have m' : b = a ∨ b ∈ fp ++ av := by
      rcases List.mem_append.mp m with m | m
      · exact .inr (List.mem_append_left _ m)
      · rcases List.mem_cons.mp m with m | m
        · exact .inl m
        · exact .inr (List.mem_append_right _ m)
    rcases m' with rfl | m
    · exact ⟨o, ha⟩
    · obtain ⟨o, e⟩ := S.live b m; exact ⟨o, k b o e⟩
  loc := S.loc
  ns := let ⟨m, q⟩ := S.ns; ⟨m, q.keeps k⟩
  cel := fun x c e => by
    obtain ⟨p, q, v, r⟩ := S.cel x c e
    refine ⟨?_, q, v, r.keeps k⟩
    rcases List.mem_append.mp p with p | p
    · exact List.mem_append_left _ p
    · exact List.mem_append_right _ (List.mem_cons_of_mem _ p)
  apart := S.apart
  bd := fun x b e => by
    obtain ⟨v, q, r⟩ := S.bd x b e
    refine ⟨v, q.move (fun o => k _ o) (fun c o _ => k c o), ?_⟩
    have mv : ∀ b o, b ∉ fp ++ av → h.get? b = some o → b ∉ fp ++ (a :: av) ∧ h'.get? b = some o := fun b o m e => ⟨fun z => by
      rcases List.mem_append.mp z with z | z
      · exact m (List.mem_append_left _ z)
      · rcases List.mem_cons.mp z with rfl | z
        · rw [hn] at e; cases e
        · exact m (List.mem_append_right _ z), k b o e⟩
    cases b with
    | fz d => exact Rd.move mv r
    | own ds pin =>
      obtain ⟨a', vs, n, e, m, g, q⟩ := r
      exact ⟨a', vs, n, e, ⟨m.1, fun z => (List.mem_cons.mp z).elim (fun z => by rw [z, hn] at g; cases g) m.2⟩, k _ _ g, q.move mv⟩
  odis := fun x y ds es a' ex ey sx sy => by
    obtain ⟨v, q, _⟩ := S.bd x _ ex
    obtain ⟨v', q', _⟩ := S.bd y _ ey
    have e1 := (q.move (fun o => k _ o) (fun c o _ => k c o)).uniq sx
    have e2 := (q'.move (fun o => k _ o) (fun c o _ => k c o)).uniq sy
    subst e1 e2
    exact S.odis x y ds es a' ex ey q q'
end

end Mine

/-! M2 -/
namespace Mine

section
variable {W : Wr} {n : Nat} {env : Env} {fp av : List Addr} {G G₁ G₂ G' : Ga} {h h' : Heap}

theorem EvO.ev {e : Expr} {ds : List D} (x : EvO W n env G (eval e env) G' ds) : Ev W n env G e G' (.lst ds) := fun fp av A E s R S =>
  wpAny_mono (x fp av A E s R S) (fun v s' q => by
    obtain ⟨sm, k, S', a, vs, j, rfl, hn, ha, r, _⟩ := q
    refine ⟨sm, k, S', .lst (fun m => ?_) ha (r.shrink fun b m => List.mem_cons_of_mem _ m)⟩
    obtain ⟨o, e⟩ := S.live a m
    rw [hn] at e; cases e) fun _ _ x => x

/-! storing -/
theorem St.setL {x : PySem.Str} {v : Value} {b : B} {m : PySem.Str → Option Value} (S : St W env fp av G h) (hx : env.kindOf x = some .local) (hns : h.Ns env.locals m) (hn : h'.Ns env.locals fun y => if y = x then some v else m y) (hs : Heap.SameBut env.locals h h')
    (r : RdB W fp av h v b) (ho : ∀ {p q} ds y es, b = .own ds p → G.lookup y = some (.own es q) → ¬ Seen env h y v) : St W env fp av ((x, b) :: G) h' := by
  have hL : ∀ a o, a ≠ env.locals → h.get? a = some o → h'.get? a = some o := fun a o n e => (hs.2 a n).trans e
  have cL : ∀ z c, env.cells.lookup z = some c → c ≠ env.locals := fun z c e q => by
    obtain ⟨_, _, w, o, hc, hd⟩ := S.cel z c e
    obtain ⟨o', es, ep, ho', hd', _⟩ := hns
    rw [q, ho'] at hc; cases hc; rw [hd'] at hd; cases hd
  have aL : ∀ a vs k, h.get? a = some (listOf vs k) → a ≠ env.locals := fun a vs k e q => by
    obtain ⟨o', es, ep, ho', hd', _⟩ := hns
    rw [q, ho'] at e; cases e; cases hd'
  have rb : ∀ w b, RdB W fp av h w b → RdB W fp av h' w b := fun w b r => by
    have mv : ∀ a o, a ∉ fp ++ av → h.get? a = some o → a ∉ fp ++ av ∧ h'.get? a = some o := fun a o q e => ⟨q, hL a o (fun z => q (z ▸ List.mem_append_left _ S.loc)) e⟩
    cases b with
    | fz d => exact Rd.move mv r
    | own ds pin =>
      obtain ⟨a, vs, n, e, q, g, r⟩ := r
      exact ⟨a, vs, n, e, q, hL _ _ (aL _ _ _ g) g, r.move mv⟩
  have sn : ∀ y w, y ≠ x → (Seen env h' y w ↔ Seen env h y w) := fun y w ne => by
    constructor
    · rintro (⟨k, m', q, e⟩ | ⟨k, c, hc, o, e, d⟩)
      · refine .inl ⟨k, m, hns, ?_⟩
        rw [← Ns.uniq hn q] at e
        simpa [ne] using e
      · exact .inr ⟨k, c, hc, o, (hs.2 c (cL y c hc)) ▸ e, d⟩
    · rintro (⟨k, m', q, e⟩ | ⟨k, c, hc, o, e, d⟩)
      · refine .inl ⟨k, _, hn, ?_⟩
        rw [← Ns.uniq hns q] at e
        simpa [ne] using e
      · exact .inr ⟨k, c, hc, o, hL _ _ (cL y c hc) e, d⟩
  have sx : ∀ w, Seen env h' x w → w = v := fun w q => q.uniq (.inl ⟨hx, _, hn, by simp⟩)
  have lk : ∀ y, ((x, b) :: G).lookup y = if y = x then some b else G.lookup y := fun y => by
    rw [List.lookup_cons]
    by_cases e : y = x
    · simp [e]
    · simp [e, beq_false_of_ne e]
  exact {
    ok := S.ok
    base := fun a o e => ⟨hL a o (fun z => (S.base a o e).2 (z ▸ S.loc)) (S.base a o e).1, (S.base a o e).2⟩
    live := fun a q => by
      by_cases z : a = env.locals
      · obtain ⟨o, _, _, e, _⟩ := hn; exact ⟨o, z ▸ e⟩
      · obtain ⟨o, e⟩ := S.live a q; exact ⟨o, hL a o z e⟩
    loc := S.loc
    ns := ⟨_, hn⟩
    cel := fun z c e => let ⟨p, q, w, r⟩ := S.cel z c e; ⟨p, q, w, r.sameBut hs (cL z c e)⟩
    apart := S.apart
    bd := fun y c e => by
      rw [lk] at e
      by_cases z : y = x
      · rw [if_pos z] at e; cases e
        exact ⟨v, .inl ⟨z ▸ hx, _, hn, by simp [z]⟩, rb _ _ r⟩
      · rw [if_neg z] at e
        obtain ⟨w, q, r⟩ := S.bd y c e
        exact ⟨w, (sn y w z).mpr q, rb _ _ r⟩
    odis := fun y z ds es a ey ez sy sz => by
      rw [lk] at ey ez
      by_cases e1 : y = x <;> by_cases e2 : z = x
      · rw [e1, e2]
      · rw [if_pos e1] at ey; rw [if_neg e2] at ez
        have := sx _ (e1 ▸ sy)
        exact absurd ((sn z _ e2).mp sz) (this ▸ ho ds z es (Option.some.inj ey) ez)
      · rw [if_neg e1] at ey; rw [if_pos e2] at ez
        have := sx _ (e2 ▸ sz)
        exact absurd ((sn y _ e1).mp sy) (this ▸ ho es y ds (Option.some.inj ez) ey)
      · rw [if_neg e1] at ey; rw [if_neg e2] at ez
        exact S.odis y z ds es a ey ez ((sn y _ e1).mp sy) ((sn z _ e2).mp sz) }

/-- a cell of the frame's own turned -/
theorem St.setC {x : PySem.Str} {v : Value} {b : B} {c : Addr} (S : St W env fp av G h) (hx : env.kindOf x = some .cell) (hc : env.cells.lookup x = some c) (hfp : c ∈ fp) (hn : h'.IsCell c (some v)) (hs : Heap.SameBut c h h')
    (r : RdB W fp av h v b) (ho : ∀ {p q} ds y es, b = .own ds p → G.lookup y = some (.own es q) → ¬ Seen env h y v) : St W env fp av ((x, b) :: G) h' := by
  have hL : ∀ a o, a ≠ c → h.get? a = some o → h'.get? a = some o := fun a o n e => (hs.2 a n).trans e
  obtain ⟨_, _, w₀, oc, hoc, hdc⟩ := S.cel x c hc
  have cL : env.locals ≠ c := fun q => by
    obtain ⟨m, o', es, ep, ho', hd', _⟩ := S.ns
    rw [q, hoc] at ho'; cases ho'; rw [hdc] at hd'; cases hd'
  have aL : ∀ a vs k, h.get? a = some (listOf vs k) → a ≠ c := fun a vs k e q => by
    rw [q, hoc] at e; cases e; cases hdc
  have rb : ∀ w b, RdB W fp av h w b → RdB W fp av h' w b := fun w b r => by
    have mv : ∀ a o, a ∉ fp ++ av → h.get? a = some o → a ∉ fp ++ av ∧ h'.get? a = some o := fun a o q e => ⟨q, hL a o (fun z => q (z ▸ List.mem_append_left _ hfp)) e⟩
    cases b with
    | fz d => exact Rd.move mv r
    | own ds pin =>
      obtain ⟨a, vs, n, e, q, g, r⟩ := r
      exact ⟨a, vs, n, e, q, hL _ _ (aL _ _ _ g) g, r.move mv⟩
  have sn : ∀ y w, y ≠ x → (Seen env h' y w ↔ Seen env h y w) := fun y w ne => by
    constructor
    · rintro (⟨k, m', ⟨o, es, ep, q, r⟩, e⟩ | ⟨k, c', hc', o, e, d⟩)
      · exact .inl ⟨k, m', ⟨o, es, ep, (hs.2 _ cL) ▸ q, r⟩, e⟩
      · have : c' ≠ c := fun z => ne (S.apart y x c (z ▸ hc') hc)
        exact .inr ⟨k, c', hc', o, (hs.2 c' this) ▸ e, d⟩
    · rintro (⟨k, m', ⟨o, es, ep, q, r⟩, e⟩ | ⟨k, c', hc', o, e, d⟩)
      · exact .inl ⟨k, m', ⟨o, es, ep, hL _ _ cL q, r⟩, e⟩
      · have : c' ≠ c := fun z => ne (S.apart y x c (z ▸ hc') hc)
        exact .inr ⟨k, c', hc', o, hL _ _ this e, d⟩
  have sx0 : Seen env h' x v := .inr ⟨.inl hx, c, hc, hn⟩
  have sx : ∀ w, Seen env h' x w → w = v := fun w q => q.uniq sx0
  have lk : ∀ y, ((x, b) :: G).lookup y = if y = x then some b else G.lookup y := fun y => by
    rw [List.lookup_cons]
    by_cases e : y = x
    · simp [e]
    · simp [e, beq_false_of_ne e]
  exact {
    ok := S.ok
    base := fun a o e => ⟨hL a o (fun z => (S.base a o e).2 (z ▸ hfp)) (S.base a o e).1, (S.base a o e).2⟩
    live := fun a q => by
      by_cases z : a = c
      · obtain ⟨o, e, _⟩ := hn; exact ⟨o, z ▸ e⟩
      · obtain ⟨o, e⟩ := S.live a q; exact ⟨o, hL a o z e⟩
    loc := S.loc
    ns := let ⟨m, q⟩ := S.ns; ⟨m, q.sameBut hs cL⟩
    cel := fun z c' e => by
      obtain ⟨p, q, w, r⟩ := S.cel z c' e
      by_cases z' : c' = c
      · exact ⟨p, q, _, z' ▸ hn⟩
      · exact ⟨p, q, w, r.sameBut hs z'⟩
    apart := S.apart
    bd := fun y c' e => by
      rw [lk] at e
      by_cases z : y = x
      · rw [if_pos z] at e; cases e
        exact ⟨v, z ▸ sx0, rb _ _ r⟩
      · rw [if_neg z] at e
        obtain ⟨w, q, r⟩ := S.bd y c' e
        exact ⟨w, (sn y w z).mpr q, rb _ _ r⟩
    odis := fun y z ds es a ey ez sy sz => by
      rw [lk] at ey ez
      by_cases e1 : y = x <;> by_cases e2 : z = x
      · rw [e1, e2]
      · rw [if_pos e1] at ey; rw [if_neg e2] at ez
        have := sx _ (e1 ▸ sy)
        exact absurd ((sn z _ e2).mp sz) (this ▸ ho ds z es (Option.some.inj ey) ez)
      · rw [if_neg e1] at ey; rw [if_pos e2] at ez
        have := sx _ (e2 ▸ sz)
        exact absurd ((sn y _ e1).mp sy) (this ▸ ho es y ds (Option.some.inj ez) ey)
      · rw [if_neg e1] at ey; rw [if_neg e2] at ez
        exact S.odis y z ds es a ey ez ((sn y _ e1).mp sy) ((sn z _ e2).mp sz) }

/-- an own list turned -/
theorem St.setO {x : PySem.Str} {a : Addr} {ds ds' : List D} {pin : Option Addr} {vs' : List Value} {k' : Nat} (S : St W env fp av G h) (hx : G.lookup x = some (.own ds pin)) (sx : Seen env h x (.ref a)) (hn : h'.get? a = some (listOf vs'.toArray k')) (hL : ∀ b o, b ≠ a → h.get? b = some o → h'.get? b = some o)
    (r : RdAll W (fp ++ av) h' vs' ds') : St W env fp av ((x, .own ds' pin) :: G) h' := by
  obtain ⟨v₀, s₀, a₀, vs, k, e₀, hfp, hg, hr⟩ := S.bd x _ hx
  have := s₀.uniq sx
  rw [this] at e₀
  cases e₀
  have lL : env.locals ≠ a := fun q => by
    obtain ⟨m, o', es, ep, ho', hd', _⟩ := S.ns
    rw [q, hg] at ho'; cases ho'; cases hd'
  have cL : ∀ z c, env.cells.lookup z = some c → c ≠ a := fun z c e q => by
    obtain ⟨_, _, w, o, hc, hd⟩ := S.cel z c e
    rw [q, hg] at hc; cases hc; cases hd
  have mv : ∀ b o, b ∉ fp ++ av → h.get? b = some o → b ∉ fp ++ av ∧ h'.get? b = some o := fun b o q e => ⟨q, hL b o (fun z => q (z ▸ List.mem_append_left _ hfp.1)) e⟩
  have sn : ∀ y w, (Seen env h' y w ↔ Seen env h y w) := fun y w => by
    constructor
    · rintro (⟨k, m', q, e⟩ | ⟨k, c', hc', q⟩)
      · obtain ⟨m, hn⟩ := S.ns
        have hn' : h'.Ns env.locals m := hn.at' fun o e => hL _ o lL e
        exact .inl ⟨k, m, hn, by rw [Ns.uniq hn' q]; exact e⟩
      · obtain ⟨_, _, w', o, ho, hd⟩ := S.cel y c' hc'
        have : h'.IsCell c' w' := ⟨o, hL _ _ (cL y c' hc') ho, hd⟩
        exact .inr ⟨k, c', hc', by rw [IsCell.uniq q this]; exact ⟨o, ho, hd⟩⟩
    · rintro (⟨k, m', ⟨o, es, ep, q, r⟩, e⟩ | ⟨k, c', hc', o, e, d⟩)
      · exact .inl ⟨k, m', ⟨o, es, ep, hL _ _ lL q, r⟩, e⟩
      · exact .inr ⟨k, c', hc', o, hL _ _ (cL y c' hc') e, d⟩
  have lk : ∀ y, ((x, B.own ds' pin) :: G).lookup y = if y = x then some (B.own ds' pin) else G.lookup y := fun y => by
    rw [List.lookup_cons]
    by_cases e : y = x
    · simp [e]
    · simp [e, beq_false_of_ne e]
  exact {
    ok := S.ok
    base := fun b o e => ⟨hL b o (fun z => (S.base b o e).2 (z ▸ hfp.1)) (S.base b o e).1, (S.base b o e).2⟩
    live := fun b q => by
      by_cases z : b = a
      · exact ⟨_, z ▸ hn⟩
      · obtain ⟨o, e⟩ := S.live b q; exact ⟨o, hL b o z e⟩
    loc := S.loc
    ns := let ⟨m, q⟩ := S.ns; ⟨m, q.at' fun o e => hL _ o lL e⟩
    cel := fun z c' e => let ⟨p, q, w, o, ho, hd⟩ := S.cel z c' e; ⟨p, q, w, o, hL _ _ (cL z c' e) ho, hd⟩
    apart := S.apart
    bd := fun y c' e => by
      rw [lk] at e
      by_cases z : y = x
      · rw [if_pos z] at e; cases e
        exact ⟨.ref a, (sn y _).mpr (z ▸ sx), a, vs', k', rfl, hfp, hn, r, hr.2⟩
      · rw [if_neg z] at e
        obtain ⟨w, q, r⟩ := S.bd y c' e
        refine ⟨w, (sn y w).mpr q, ?_⟩
        cases c' with
        | fz d => exact Rd.move mv r
        | own es pin =>
          obtain ⟨a', us, j, e', m', g, r⟩ := r
          refine ⟨a', us, j, e', m', hL _ _ (fun q' => ?_) g, r.move mv⟩
          subst q'
          exact z (S.odis y x es ds a' e hx (e' ▸ q) sx)
    odis := fun y z es fs b ey ez sy sz => by
      rw [lk] at ey ez
      have fy : ∃ es p, G.lookup y = some (.own es p) := by
        by_cases e1 : y = x
        · exact ⟨ds, _, e1 ▸ hx⟩
        · rw [if_neg e1] at ey; exact ⟨es, _, ey⟩
      have fz : ∃ es p, G.lookup z = some (.own es p) := by
        by_cases e1 : z = x
        · exact ⟨ds, _, e1 ▸ hx⟩
        · rw [if_neg e1] at ez; exact ⟨fs, _, ez⟩
      obtain ⟨es', _, ey'⟩ := fy
      obtain ⟨fs', _, ez'⟩ := fz
      exact S.odis y z es' fs' b ey' ez' ((sn y _).mp sy) ((sn z _).mp sz) }

/-- an own list that nothing turns any more -/
theorem St.freeze {x : PySem.Str} {ds : List D} {pin : Option Addr} (S : St W env fp av G h) (hx : G.lookup x = some (.own ds pin)) : ∃ fp', (∀ a ∈ fp', a ∈ fp) ∧ St W env fp' av ((x, .fz (.lst ds)) :: G) h := by
  obtain ⟨v, sx, a, vs, k, rfl, hfp, hg, hr⟩ := S.bd x _ hx
  have hsub : ∀ b, b ∈ fp.filter (· ≠ a) → b ∈ fp := fun b m => (List.mem_filter.mp m).1
  have hsub' : ∀ b, b ∈ fp.filter (· ≠ a) ++ av → b ∈ fp ++ av := fun b m => (List.mem_append.mp m).elim (fun m => List.mem_append_left _ (hsub b m)) (List.mem_append_right _)
  have mem : ∀ b, b ∈ fp → b ≠ a → b ∈ fp.filter (· ≠ a) := fun b m ne => List.mem_filter.mpr ⟨m, by simpa using ne⟩
  have lL : env.locals ≠ a := fun q => by
    obtain ⟨m, o', es, ep, ho', hd', _⟩ := S.ns
    rw [q, hg] at ho'; cases ho'; cases hd'
  have cL : ∀ z c, env.cells.lookup z = some c → c ≠ a := fun z c e q => by
    obtain ⟨_, _, w, o, hc, hd⟩ := S.cel z c e
    rw [q, hg] at hc; cases hc; cases hd
  have lk : ∀ y, ((x, B.fz (.lst ds)) :: G).lookup y = if y = x then some (B.fz (.lst ds)) else G.lookup y := fun y => by
    rw [List.lookup_cons]
    by_cases e : y = x
    · simp [e]
    · simp [e, beq_false_of_ne e]
  refine ⟨fp.filter (· ≠ a), hsub, ?_⟩
  exact {
    ok := S.ok
    base := fun b o e => ⟨(S.base b o e).1, fun m => (S.base b o e).2 (hsub b m)⟩
    live := fun b q => S.live b (hsub' b q)
    loc := mem _ S.loc lL
    ns := S.ns
    cel := fun z c e => by
      obtain ⟨p, q, w⟩ := S.cel z c e
      refine ⟨?_, fun f => mem _ (q f) (cL z c e), w⟩
      rcases List.mem_append.mp p with p | p
      · exact List.mem_append_left _ (mem _ p (cL z c e))
      · exact List.mem_append_right _ p
    apart := S.apart
    bd := fun y c' e => by
      rw [lk] at e
      by_cases z : y = x
      · rw [if_pos z] at e; cases e
        refine ⟨.ref a, z ▸ sx, .lst (fun m => ?_) hg (hr.1.shrink hsub')⟩
        rcases List.mem_append.mp m with m | m
        · simpa using (List.mem_filter.mp m).2
        · exact hfp.2 m
      · rw [if_neg z] at e
        obtain ⟨w, q, r⟩ := S.bd y c' e
        refine ⟨w, q, ?_⟩
        cases c' with
        | fz d => exact Rd.shrink hsub' r
        | own es pin =>
          obtain ⟨a', us, j, e', m', g, r⟩ := r
          refine ⟨a', us, j, e', ⟨mem _ m'.1 fun q' => ?_, m'.2⟩, g, r.shrink hsub'⟩
          subst q'
          exact z (S.odis y x es ds a' e hx (e' ▸ q) sx)
    odis := fun y z es fs b ey ez sy sz => by
      rw [lk] at ey ez
      by_cases e1 : y = x
      · rw [if_pos e1] at ey; cases ey
      · by_cases e2 : z = x
        · rw [if_pos e2] at ez; cases ez
        · rw [if_neg e1] at ey; rw [if_neg e2] at ez
          exact S.odis y z es fs b ey ez sy sz }
end

end Mine

/-! M3 -/
namespace Mine

abbrev Post := Flow → List Addr → List Addr → Heap → Prop

/-- the outcome of statements -/
def Exs (W : Wr) (n : Nat) (env : Env) (G : Ga) (ss : List Stmt) (R : Post) : Prop :=
  ∀ fp av A E s, Room n A → St W env fp av G s.heap → wpAny (Mo W) A (execs ss env) (fun f s' => Same s s' ∧ KB fp s.heap s'.heap ∧ ∃ fp', (∀ a ∈ fp', a ∈ fp ∨ s.heap.get? a = Option.none) ∧ R f fp' av s'.heap) E s
/-- of one statement -/
def Ex1 (W : Wr) (n : Nat) (env : Env) (G : Ga) (st : Stmt) (R : Post) : Prop :=
  ∀ fp av A E s, Room n A → St W env fp av G s.heap → wpAny (Mo W) A (exec st env) (fun f s' => Same s s' ∧ KB fp s.heap s'.heap ∧ ∃ fp', (∀ a ∈ fp', a ∈ fp ∨ s.heap.get? a = Option.none) ∧ R f fp' av s'.heap) E s

abbrev Nx (W : Wr) (env : Env) (G : Ga) : Post := fun f fp av h => f = .next ∧ St W env fp av G h
abbrev Rt (W : Wr) (d : D) : Post := fun f fp av h => ∃ v, f = .ret v ∧ Rd W (fp ++ av) h v d
/-- a list of its own is handed back -/
abbrev RtO (W : Wr) (ds : List D) : Post := fun f fp av h => ∃ a vs k, f = .ret (.ref a) ∧ a ∈ fp ∧ a ∉ av ∧ h.get? a = some (listOf vs.toArray k) ∧ RdAll W (fp ++ av) h vs ds

section
variable {W : Wr} {n : Nat} {env : Env} {fp av : List Addr} {G G₁ G₂ G' : Ga} {h h' : Heap} {R R' : Post} {rest : List Stmt}

theorem fresh_trans {fp fp₁ fp₂ : List Addr} {h₁ h₂ : Heap} (x : ∀ a ∈ fp₁, a ∈ fp ∨ h₁.get? a = none) (k : KB fp h₁ h₂) (y : ∀ a ∈ fp₂, a ∈ fp₁ ∨ h₂.get? a = none) : ∀ a ∈ fp₂, a ∈ fp ∨ h₁.get? a = none := fun a m => by
  rcases y a m with q | q
  · exact x a q
  · right
    cases e : h₁.get? a with
    | none => rfl
    | some o => obtain ⟨o', e', _⟩ := k a o e; rw [q] at e'; cases e'
theorem KB.step {fp fp' : List Addr} {h₁ h₂ h₃ : Heap} (x : KB fp h₁ h₂) (g : ∀ a ∈ fp', a ∈ fp ∨ h₁.get? a = none) (y : KB fp' h₂ h₃) : KB fp h₁ h₃ := fun a o e => by
  obtain ⟨o', e', q⟩ := x a o e
  obtain ⟨o'', e'', q'⟩ := y a o' e'
  refine ⟨o'', e'', fun n => ?_⟩
  rw [q' fun m => (g a m).elim n fun z => (by rw [z] at e; cases e), q n]

theorem Exs.mono {ss : List Stmt} (x : Exs W n env G ss R) (h : ∀ f fp av h, R f fp av h → R' f fp av h) : Exs W n env G ss R' := fun fp av A E s r S =>
  wpAny_mono (x fp av A E s r S) (fun f s' ⟨a, b, fp', c, d⟩ => ⟨a, b, fp', c, h _ _ _ _ d⟩) fun _ _ x => x
theorem Exs.weaken {ss : List Stmt} (hs : ∀ x b, G'.lookup x = some b → G.lookup x = some b) (x : Exs W n env G' ss R) : Exs W n env G ss R := fun fp av A E s r S => x fp av A E s r (S.weaken hs)
theorem Exs.nil (h : ∀ fp av h, St W env fp av G h → R .next fp av h) : Exs W n env G [] R := fun fp av A E s r S => wpAny_execs_nil ⟨Same.refl s, KB.refl _ _, fp, fun a m => .inl m, h _ _ _ S⟩
theorem Exs.done : Exs W n env G [] (Nx W env G) := Exs.nil fun _ _ _ S => ⟨rfl, S⟩
theorem Exs.ups {ss : List Stmt} {m : Nat} (x : Exs W m env G ss R) (hm : m ≤ n) : Exs W n env G ss R := fun fp av A E s r S => x fp av A E s (r.mono hm) S

theorem Exs.cons {st : Stmt} (x : Ex1 W n env G st (Nx W env G₁)) (y : Exs W n env G₁ rest R) : Exs W n env G (st :: rest) R := fun fp av A E s r S =>
  wpAny_execs_cons (wpAny_mono (x fp av A E s r S) (fun f s₁ q => by
    obtain ⟨sm, k, fp₁, g, rfl, S₁⟩ := q
    exact wpAny_mono (y fp₁ av A E s₁ r S₁) (fun f s₂ q => by
      obtain ⟨sm₂, k₂, fp₂, g₂, q⟩ := q
      exact ⟨sm.trans sm₂, k.step g k₂, fp₂, fresh_trans g k g₂, q⟩) fun _ _ x => x) fun _ _ x => x)
theorem wp_execs_append {M : Model} {Γ : Ctx} {Q : Flow → Pos → Shared → Prop} {E : Value → Pos → Shared → Prop} : ∀ (ss : List Stmt) (p : Pos) (s : Shared),
    Sem.wp M Γ (execs (ss ++ rest) env) Q E p s = Sem.wp M Γ (execs ss env) (fun f p' s' => Sem.wp M Γ (match f with | .next => execs rest env | f => pure f) Q E p' s') E p s
  | [], p, s => by rw [execs_nil, Sem.wp_pure']; rfl
  | st :: ss, p, s => by
    rw [List.cons_append, execs_cons, Sem.wp_bind', execs_cons, Sem.wp_bind']
    congr 1
    funext f p' s'
    cases f with
    | next => exact wp_execs_append ss p' s'
    | brk => simp only [Sem.wp_pure']
    | cont => simp only [Sem.wp_pure']
    | ret v => simp only [Sem.wp_pure']
theorem Exs.append {ss : List Stmt} (x : Exs W n env G ss (fun f fp av h => match f with | .next => ∃ G₁, St W env fp av G₁ h ∧ Exs W n env G₁ rest R | f => R f fp av h)) : Exs W n env G (ss ++ rest) R := by
  intro fp av A E s r S Γ p hΓ
  rw [wp_execs_append]
  refine Sem.wp_mono _ Γ _ (fun f p' s₁ q => ?_) (fun _ _ _ x => x) p s (x fp av A E s r S Γ p hΓ)
  obtain ⟨sm, k, fp₁, g, q⟩ := q
  cases f with
  | next =>
    obtain ⟨G₁, S₁, y⟩ := q
    refine Sem.wp_mono _ Γ _ (fun f p' s₂ q => ?_) (fun _ _ _ x => x) p' s₁ (y fp₁ av A E s₁ r S₁ Γ p' hΓ)
    obtain ⟨sm₂, k₂, fp₂, g₂, q⟩ := q
    exact ⟨sm.trans sm₂, k.step g k₂, fp₂, fresh_trans g k g₂, q⟩
  | brk => exact ⟨sm, k, fp₁, g, q⟩
  | cont => exact ⟨sm, k, fp₁, g, q⟩
  | ret v => exact ⟨sm, k, fp₁, g, q⟩

theorem Ex1.last {st : Stmt} (x : Ex1 W n env G st R) (h : ∀ fp av h, ¬ R .next fp av h) : Exs W n env G (st :: rest) R := fun fp av A E s r S =>
  wpAny_execs_cons (wpAny_mono (x fp av A E s r S) (fun f s₁ q => by
    obtain ⟨sm, k, fp₁, g, q⟩ := q
    cases f with
    | next => exact absurd q (h _ _ _)
    | brk => exact ⟨sm, k, fp₁, g, q⟩
    | cont => exact ⟨sm, k, fp₁, g, q⟩
    | ret v => exact ⟨sm, k, fp₁, g, q⟩) fun _ _ x => x)

theorem Ex1.of_exs {st : Stmt} (x : Exs W n env G [st] R) : Ex1 W n env G st R := by
  intro fp av A E s r S Γ p hΓ
  have := x fp av A E s r S Γ p hΓ
  rw [execs_cons, Sem.wp_bind'] at this
  refine Sem.wp_mono _ Γ _ (fun f p' s₁ q => ?_) (fun _ _ _ x => x) p s this
  cases f with
  | next => rw [execs_nil, Sem.wp_pure'] at q; exact q
  | brk => rw [Sem.wp_pure'] at q; exact q
  | cont => rw [Sem.wp_pure'] at q; exact q
  | ret v => rw [Sem.wp_pure'] at q; exact q

/-! the conditional statement -/
theorem Exs.ite {t : Expr} {body orelse : List Stmt} {pos : Pos} {b : Bool} (x : Ts W n env G t G₁ b) (ya : b = true → Exs W n env G₁ (body ++ rest) R) (yc : b = false → Exs W n env G₁ (orelse ++ rest) R) :
    Exs W n env G (.If t body orelse pos :: rest) R := by
  intro fp av A E s r S Γ p hΓ
  rw [execs_cons, Sem.wp_bind', exec_If]
  simp only [Sem.wp_bind', Sem.wp_cmd_standAt]
  refine Sem.wp_mono _ Γ _ (fun b' p₁ s₁ q => ?_) (fun _ _ _ x => x) _ s (x fp av A E s r S Γ _ hΓ)
  obtain ⟨rfl, sm, k', S₁⟩ := q
  have k := k'.kb
  have fin : ∀ ss, Exs W n env G₁ (ss ++ rest) R → Sem.wp (Mo W) Γ (execs ss env) (fun f p' s' => Sem.wp (Mo W) Γ (match f with | .next => execs rest env | f => pure f)
      (fun f _ s' => Same s s' ∧ KB fp s.heap s'.heap ∧ ∃ fp', (∀ a ∈ fp', a ∈ fp ∨ s.heap.get? a = Option.none) ∧ R f fp' av s'.heap) (fun e _ s' => E e s') p' s') (fun e _ s' => E e s') p₁ s₁ := fun ss y => by
    rw [← wp_execs_append]
    refine Sem.wp_mono _ Γ _ (fun f p' s₂ q => ?_) (fun _ _ _ x => x) p₁ s₁ (y fp av A E s₁ r S₁ Γ p₁ hΓ)
    obtain ⟨sm₂, k₂, fp₂, g₂, q⟩ := q
    exact ⟨sm.trans sm₂, k.trans k₂, fp₂, fresh_trans (fun a m => .inl m) k g₂, q⟩
  cases b' with
  | true => exact fin _ (ya rfl)
  | false => exact fin _ (yc rfl)

theorem Exs.iteJ {t : Expr} {body orelse : List Stmt} {pos : Pos} {b : Bool} (x : Ts W n env G t G₁ b) (ya : b = true → Exs W n env G₁ body (Nx W env G₂)) (yc : b = false → Exs W n env G₁ orelse (Nx W env G₂)) (z : Exs W n env G₂ rest R) :
    Exs W n env G (.If t body orelse pos :: rest) R :=
  Exs.ite x (fun e => Exs.append ((ya e).mono fun f fp av h q => by obtain ⟨rfl, S⟩ := q; exact ⟨_, S, z⟩)) fun e => Exs.append ((yc e).mono fun f fp av h q => by obtain ⟨rfl, S⟩ := q; exact ⟨_, S, z⟩)

/-! return -/
theorem Exs.ret {e : Expr} {pos : Pos} {d : D} (x : Ev W n env G e G₁ d) : Exs W n env G (.Return (some e) pos :: rest) (Rt W d) :=
  Ex1.last (fun fp av A E s r S => wpAny_Return_some (wpAny_mono (x fp av A E s r S) (fun v s₁ q => ⟨q.1, q.2.1.kb, fp, fun a m => .inl m, v, rfl, q.2.2.2⟩) fun _ _ x => x)) fun fp av h q => by obtain ⟨v, q, _⟩ := q; cases q
theorem Exs.retO {e : Expr} {pos : Pos} {ds : List D} (x : EvO W n env G (eval e env) G₁ ds) : Exs W n env G (.Return (some e) pos :: rest) (RtO W ds) :=
  Ex1.last (fun fp av A E s r S => wpAny_Return_some (wpAny_mono (x fp av A E s r S) (fun v s₁ q => by
    obtain ⟨sm, k, _, a, vs, j, rfl, hn, ha, r, S'⟩ := q
    refine ⟨sm, k.kb, a :: fp, fun b m => ?_, a, vs, j, rfl, List.mem_cons_self, fun m => ?_, ha, r⟩
    · rcases List.mem_cons.mp m with rfl | m
      · exact .inr hn
      · exact .inl m
    · obtain ⟨o, e⟩ := S.live a (List.mem_append_right _ m)
      rw [hn] at e; cases e) fun _ _ x => x)) fun fp av h q => by obtain ⟨a, vs, k, q, _⟩ := q; cases q
theorem Exs.retOwn {x : PySem.Str} {np pos : Pos} {ds : List D} {pin : Option Addr} (hx : G.lookup x = some (.own ds pin)) (hk : env.kindOf x = some .local) (hd : (x == ("__debug__" : PySem.Str)) = false := by decide +kernel) : Exs W n env G (.Return (some (.Name x np)) pos :: rest) (RtO W ds) :=
  Ex1.last (fun fp av A E s r S => wpAny_Return_some (by
    obtain ⟨v, sx, a, vs, k, rfl, hfp, hg, hr⟩ := S.bd x _ hx
    refine wpAny_Name ?_ hd
    rcases sx with ⟨_, m, hn, hm⟩ | ⟨k', _⟩
    · exact wpAny_loadName_local S.ok.kind hk hn hm ⟨Same.refl s, KB.refl _ _, fp, fun a m => .inl m, a, vs, k, rfl, hfp.1, hfp.2, hg, hr.1⟩
    · rw [hk] at k'
      rcases k' with k' | k'
      · cases k'
      · cases k'.1)) fun fp av h q => by obtain ⟨a, vs, k, q, _⟩ := q; cases q
theorem Exs.ret0 {pos : Pos} : Exs W n env G (.Return none pos :: rest) (Rt W .none) :=
  Ex1.last (fun fp av A E s r S => wpAny_Return_none ⟨Same.refl s, KB.refl _ _, fp, fun a m => .inl m, .none, rfl, .none⟩) fun fp av h q => by obtain ⟨v, q, _⟩ := q; cases q

/-! assignment to a name -/
theorem store_fz {x : PySem.Str} {v : Value} {d : D} {A : Around} {E : Value → Shared → Prop} {s₀ s : Shared} (hk : env.kindOf x = some .local) (S : St W env fp av G s.heap) (r : Rd W (fp ++ av) s.heap v d) (sm : Same s₀ s) (k : KB fp s₀.heap s.heap) :
    wpAny (Mo W) A (storeName env x v) (fun _ s' => Same s₀ s' ∧ KB fp s₀.heap s'.heap ∧ St W env fp av ((x, .fz d) :: G) s'.heap) E s := by
  obtain ⟨m, hn⟩ := S.ns
  refine wpAny_storeName_local hk hn (fun h' hn' hs => ⟨sm.trans ⟨_, _, rfl⟩, k.trans fun a o e => ?_, S.setL hk hn hn' hs r fun ds y es q => by cases q⟩) (by rw [S.ok.kind]; rfl)
  by_cases z : a = env.locals
  · obtain ⟨o', _, _, e', _⟩ := hn'; exact ⟨o', z ▸ e', fun q => absurd (z ▸ S.loc) q⟩
  · exact ⟨o, (hs.2 a z).trans e, fun _ => rfl⟩
theorem storeC_fz {x : PySem.Str} {v : Value} {d : D} {A : Around} {E : Value → Shared → Prop} {s₀ s : Shared} {c : Addr} (hk : env.kindOf x = some .cell) (hf : env.func.isSome = true) (hc : env.cells.lookup x = some c) (S : St W env fp av G s.heap) (r : Rd W (fp ++ av) s.heap v d) (sm : Same s₀ s) (k : KB fp s₀.heap s.heap) :
    wpAny (Mo W) A (storeName env x v) (fun _ s' => Same s₀ s' ∧ KB fp s₀.heap s'.heap ∧ St W env fp av ((x, .fz d) :: G) s'.heap) E s := by
  obtain ⟨_, hfp, w, hcell⟩ := S.cel x c hc
  refine wpAny_storeName_cell S.ok.kind hk hc hcell fun h' hn' hs => ⟨sm.trans ⟨_, _, rfl⟩, k.trans fun a o e => ?_, S.setC hk hc (hfp hf) hn' hs r fun ds y es q => by cases q⟩
  by_cases z : a = c
  · obtain ⟨o', e', _⟩ := hn'; exact ⟨o', z ▸ e', fun q => absurd (z ▸ hfp hf) q⟩
  · exact ⟨o, (hs.2 a z).trans e, fun _ => rfl⟩

theorem Exs.assign {x : PySem.Str} {np pos : Pos} {e : Expr} {d : D} (v : Ev W n env G e G₁ d) (hk : env.kindOf x = some .local) (y : Exs W n env ((x, .fz d) :: G₁) rest R)
    (hs : swapsWith e (some (.Name x np)) pos.line env = pure false := by rfl) : Exs W n env G (.Assign [.Name x np] e pos :: rest) R :=
  Exs.cons (fun fp av A E s r S => wpAny_Assign_Name (wpAny_mono (v fp av A E s r S) (fun v s₁ q => wpAny_mono (store_fz hk q.2.2.1 q.2.2.2 q.1 q.2.1.kb) (fun _ s₂ q => ⟨q.1, q.2.1, fp, fun a m => .inl m, rfl, q.2.2⟩) fun _ _ x => x) fun _ _ x => x) hs) y
theorem Exs.assignC {x : PySem.Str} {np pos : Pos} {e : Expr} {d : D} {c : Addr} (v : Ev W n env G e G₁ d) (hk : env.kindOf x = some .cell) (hc : env.cells.lookup x = some c) (y : Exs W n env ((x, .fz d) :: G₁) rest R) (hf : env.func.isSome = true := by rfl)
    (hs : swapsWith e (some (.Name x np)) pos.line env = pure false := by rfl) : Exs W n env G (.Assign [.Name x np] e pos :: rest) R :=
  Exs.cons (fun fp av A E s r S => wpAny_Assign_Name (wpAny_mono (v fp av A E s r S) (fun v s₁ q => wpAny_mono (storeC_fz hk hf hc q.2.2.1 q.2.2.2 q.1 q.2.1.kb) (fun _ s₂ q => ⟨q.1, q.2.1, fp, fun a m => .inl m, rfl, q.2.2⟩) fun _ _ x => x) fun _ _ x => x) hs) y

/-- a new list becomes the frame's own -/
theorem Exs.assignO {x : PySem.Str} {np pos : Pos} {e : Expr} {ds : List D} (v : EvO W n env G (eval e env) G₁ ds) (hk : env.kindOf x = some .local) (y : Exs W n env ((x, .own ds) :: G₁) rest R)
    (hs : swapsWith e (some (.Name x np)) pos.line env = pure false := by rfl) : Exs W n env G (.Assign [.Name x np] e pos :: rest) R :=
  Exs.cons (fun fp av A E s r S => wpAny_Assign_Name (wpAny_mono (v fp av A E s r S) (fun v s₁ q => by
    obtain ⟨sm, k, S₀, a, vs, j, rfl, hn, ha, rd, S₁⟩ := q
    obtain ⟨m, hns⟩ := S₁.ns
    have hav : a ∉ fp ++ av := fun m => by
      obtain ⟨o, e⟩ := S.live a m
      rw [hn] at e; cases e
    refine wpAny_storeName_local hk hns (fun h' hn' hs => ⟨sm.trans ⟨_, _, rfl⟩, k.kb.trans fun b o e => ?_, a :: fp, fun b m => ?_, rfl, S₁.setL hk hns hn' hs ⟨a, vs, j, rfl, ⟨List.mem_cons_self, fun m => hav (List.mem_append_right _ m)⟩, ha, .of rd⟩ fun ds y es _ ey sy => ?_⟩) (by rw [S.ok.kind]; rfl)
    · by_cases z : b = env.locals
      · obtain ⟨o', _, _, e', _⟩ := hn'; exact ⟨o', z ▸ e', fun q => absurd (z ▸ S.loc) q⟩
      · exact ⟨o, (hs.2 b z).trans e, fun _ => rfl⟩
    · rcases List.mem_cons.mp m with rfl | m
      · exact .inr hn
      · exact .inl m
    · obtain ⟨v', sy', a', vs', j', e', hf', _⟩ := S₀.bd y _ ey
      have := sy'.uniq sy
      rw [this] at e'
      cases e'
      exact hav (List.mem_append_left _ hf'.1)) fun _ _ x => x) hs) y

/-! augmented assignment to a name -/
def Inp (W : Wr) (n : Nat) (op : Operator) (d₁ d₂ d : D) : Prop := ∀ mu s v₁ v₂, Wd W mu s.heap → Rd W mu s.heap v₁ d₁ → Rd W mu s.heap v₂ d₂ → Op W n mu s (inplaceOp op v₁ v₂) d
theorem Exs.aug {x : PySem.Str} {np pos : Pos} {e : Expr} {op : Operator} {d₁ d₂ d : D} (hl : G.lookup x = some (.fz d₁)) (v : Ev W n env G e G d₂) (z : Inp W n op d₁ d₂ d) (hk : env.kindOf x = some .local) (y : Exs W n env ((x, .fz d) :: G) rest R) :
    Exs W n env G (.AugAssign (.Name x np) op e pos :: rest) R :=
  Exs.cons (fun fp av A E s r S => by
    refine wpAny_AugAssign_Name ?_
    obtain ⟨w, sx, rw'⟩ := S.bd x _ hl
    rcases sx with ⟨_, m, hn, hm⟩ | ⟨k', _⟩
    · refine wpAny_loadName_local S.ok.kind hk hn hm ?_
      refine wpAny_mono (v fp av A E s r S) (fun v₂ s₂ q => ?_) fun _ _ x => x
      refine wpAny_mono (Op.last (z _ s₂ w v₂ q.2.2.1.wd (rw'.ke q.2.1) q.2.2.2) (mu := []) r q.1 q.2.1 q.2.2.1) (fun v₃ s₃ q => ?_) fun _ _ x => x
      exact wpAny_mono (store_fz hk q.2.2.1 q.2.2.2 q.1 q.2.1.kb) (fun _ s₂ q => ⟨q.1, q.2.1, fp, fun a m => .inl m, rfl, q.2.2⟩) fun _ _ x => x
    · rw [hk] at k'
      rcases k' with k' | k'
      · cases k'
      · cases k'.1) y

/-- freeze an own list -/
theorem Exs.freeze {x : PySem.Str} {ds : List D} {pin : Option Addr} {ss : List Stmt} (hx : G.lookup x = some (.own ds pin)) (y : Exs W n env ((x, .fz (.lst ds)) :: G) ss R) : Exs W n env G ss R := fun fp av A E s r S => by
  obtain ⟨fp', hs, S'⟩ := S.freeze hx
  exact wpAny_mono (y fp' av A E s r S') (fun f s₁ q => by
    obtain ⟨sm, k, fp₁, g, q⟩ := q
    exact ⟨sm, k.mono hs, fp₁, fun a m => (g a m).imp (hs a) id, q⟩) fun _ _ x => x
end
end Mine

/-! M4 -/
namespace Mine

section
variable {W : Wr} {n : Nat} {env : Env} {fp av : List Addr} {G G₁ G₂ G' : Ga} {h h' : Heap} {R R' : Post} {rest : List Stmt}

/-! calls -/
/-- what may be called -/
def Cee (W : Wr) (f : Value) : Prop := ∀ h, Keep W.H h → ∃ k, (k = Keeper.frame ∨ k = Keeper.machine ∨ k = Keeper.boundFrame) ∧ Looks (Mo W) h (keeperOf f) k
theorem Cee.builtin {id : String} : Cee W (.builtin id) := fun h _ => ⟨.machine, .inr (.inl rfl), Looks.of_pure rfl⟩
theorem Cee.type {T : String} : Cee W (.type T) := fun h _ => ⟨.machine, .inr (.inl rfl), Looks.of_pure rfl⟩
theorem Cee.fn {a : Addr} {o : Obj} {fd : FuncData} (ho : W.H.get? a = some o) (hd : o.data = .func fd) : Cee W (.ref a) := fun h k => ⟨.frame, .inl rfl, by
  unfold keeperOf
  refine (Looks.ld (part := none) (k a o ho)).andThen ?_
  rw [hd]
  exact .now⟩

/-- a call's value -/
def Cal (W : Wr) (n : Nat) (f : Value) (ds : List D) (d : D) : Prop := ∀ mu s vs, Wd W mu s.heap → RdAll W mu s.heap vs ds → Op W n mu s (call f vs) d
/-- a call's value that is a new list -/
def CalO (W : Wr) (n : Nat) (f : Value) (ds es : List D) : Prop := ∀ mu s vs, Wd W mu s.heap → RdAll W mu s.heap vs ds → ∀ A E, Room n A →
  wpAny (Mo W) A (call f vs) (fun v s' => Same s s' ∧ Keep s.heap s'.heap ∧ ∃ a vs k, v = .ref a ∧ s.heap.get? a = Option.none ∧ s'.heap.get? a = some (listOf vs.toArray k) ∧ RdAll W (a :: mu) s'.heap vs es) E s
theorem CalO.cal {f : Value} {ds es : List D} (x : CalO W n f ds es) : Cal W n f ds (.lst es) := fun mu s vs w r A E R =>
  wpAny_mono (x mu s vs w r A E R) (fun v s' q => by
    obtain ⟨sm, k, a, vs, j, rfl, hn, ha, rd⟩ := q
    refine ⟨sm, k, .lst (fun m => ?_) ha (rd.shrink fun b m => List.mem_cons_of_mem _ m)⟩
    obtain ⟨o, e⟩ := w.2 a m
    rw [hn] at e; cases e) fun _ _ x => x
theorem Cal.ups {f : Value} {ds : List D} {d : D} {m : Nat} (x : Cal W m f ds d) (hm : m ≤ n) : Cal W n f ds d := fun mu s vs w r A E R => x mu s vs w r A E (R.mono hm)
theorem CalO.ups {f : Value} {ds es : List D} {m : Nat} (x : CalO W m f ds es) (hm : m ≤ n) : CalO W n f ds es := fun mu s vs w r A E R => x mu s vs w r A E (R.mono hm)

theorem callWith_go {f : Value} {first : List Value} {pos : Pos} {e : Expr} {args : List Expr} {A : Around} {E : Value → Shared → Prop} {s : Shared} {Q : Value → Shared → Prop} (c : Cee W f)
    (h : wpAny (Mo W) A (spliced (backTo pos (starEach (e :: args) env))) (fun vs s₁ => Keep W.H s₁.heap ∧ wpAny (Mo W) A (call f (first ++ vs)) Q E s₁) E s)
    (he : starEach (e :: args) env = (false, eval e env) :: starEach args env := by rfl) (hp : (backTo pos (starEach args env)).any (·.1) = false := by rfl) :
    wpAny (Mo W) A (callWith pos f first (backTo pos (starEach (e :: args) env)) []) Q E s := by
  rw [he] at h ⊢
  refine callWith_of (P := fun h => Keep W.H h) (by show ((false || (backTo pos (starEach args env)).any (·.1)) || false) = false; rw [hp]; rfl) c (evalArgs_plain h)
theorem callWith_go0 {f : Value} {first : List Value} {pos : Pos} {A : Around} {E : Value → Shared → Prop} {s : Shared} {Q : Value → Shared → Prop} (c : Cee W f)
    (k : Keep W.H s.heap) (h : wpAny (Mo W) A (call f (first ++ [])) Q E s) : wpAny (Mo W) A (callWith pos f first (backTo pos (starEach [] env)) []) Q E s :=
  callWith_of (P := fun h => Keep W.H h) rfl c (evalArgs_nil3 ⟨k, h⟩)

theorem Ev.call {f : Expr} {fv : Value} {e : Expr} {args : List Expr} {pos : Pos} {ds : List D} {d : D} (x : Ev W n env G f G₁ (.fn fv)) (a : EvL W n env G₁ pos (e :: args) G₂ ds) (c : Cee W fv) (z : Cal W n fv ds d)
    (hc : eval (.Call f (e :: args) [] pos) env = (do callWith pos (← eval f env) [] (backTo pos (starEach (e :: args) env)) (backToKw pos (keywordEach [] env))) := by rfl)
    (he : starEach (e :: args) env = (false, eval e env) :: starEach args env := by rfl) (hp : (backTo pos (starEach args env)).any (·.1) = false := by rfl) : Ev W n env G (.Call f (e :: args) [] pos) G₂ d := fun fp av A E s r S =>
  Call_ (wpAny_mono (x fp av A E s r S) (fun v s₁ q => by
    obtain ⟨sm, k, S₁, rf⟩ := q
    cases rf
    refine callWith_go c (wpAny_mono (a fp av A E s₁ r S₁) (fun vs s₂ q => ⟨fun a o e => (q.2.2.1.base a o e).1, ?_⟩) fun _ _ x => x) he hp
    exact Op.last (z _ s₂ vs q.2.2.1.wd q.2.2.2) (mu := []) r (sm.trans q.1) (k.trans q.2.1) q.2.2.1) fun _ _ x => x) hc
theorem Ev.call0 {f : Expr} {fv : Value} {pos : Pos} {d : D} (x : Ev W n env G f G₁ (.fn fv)) (c : Cee W fv) (z : Cal W n fv [] d)
    (hc : eval (.Call f [] [] pos) env = (do callWith pos (← eval f env) [] (backTo pos (starEach [] env)) (backToKw pos (keywordEach [] env))) := by rfl) : Ev W n env G (.Call f [] [] pos) G₁ d := fun fp av A E s r S =>
  Call_ (wpAny_mono (x fp av A E s r S) (fun v s₁ q => by
    obtain ⟨sm, k, S₁, rf⟩ := q
    cases rf
    exact callWith_go0 c (fun a o e => (S₁.base a o e).1) (Op.last (z _ s₁ [] S₁.wd .nil) (mu := []) r sm k S₁)) fun _ _ x => x) hc

theorem EvO.call {f : Expr} {fv : Value} {e : Expr} {args : List Expr} {pos : Pos} {ds es : List D} (x : Ev W n env G f G (.fn fv)) (a : EvL W n env G pos (e :: args) G ds) (c : Cee W fv) (z : CalO W n fv ds es)
    (hc : eval (.Call f (e :: args) [] pos) env = (do callWith pos (← eval f env) [] (backTo pos (starEach (e :: args) env)) (backToKw pos (keywordEach [] env))) := by rfl)
    (he : starEach (e :: args) env = (false, eval e env) :: starEach args env := by rfl) (hp : (backTo pos (starEach args env)).any (·.1) = false := by rfl) : EvO W n env G (eval (.Call f (e :: args) [] pos) env) G es := fun fp av A E s r S =>
  Call_ (wpAny_mono (x fp av A E s r S) (fun v s₁ q => by
    obtain ⟨sm, k, S₁, rf⟩ := q
    cases rf
    refine callWith_go c (wpAny_mono (a fp av A E s₁ r S₁) (fun vs s₂ q => ⟨fun a o e => (q.2.2.1.base a o e).1, ?_⟩) fun _ _ x => x) he hp
    refine wpAny_mono (z _ s₂ vs q.2.2.1.wd q.2.2.2 A E r) (fun v s₃ p => ?_) fun _ _ x => x
    obtain ⟨sm₃, k₃, a, ws, j, rfl, hn, ha, rd⟩ := p
    refine ⟨(sm.trans q.1).trans sm₃, (k.trans q.2.1).trans (KE.of_keep k₃), q.2.2.1.keep k₃, a, ws, j, rfl, ?_, ha, rd, q.2.2.1.join k₃ hn ha⟩
    cases e : s.heap.get? a with
    | none => rfl
    | some o => obtain ⟨o', e', _⟩ := (k.trans q.2.1) a o e; rw [hn] at e'; cases e') fun _ _ x => x) hc

/-! methods of the built-in types -/
/-- a method's name upon a value -/
def Mth (W : Wr) (name : PySem.Str) (d : D) (f : Value) : Prop := ∀ mu (s : Shared) v, Wd W mu s.heap → Rd W mu s.heap v d → ∀ (A : Around) (E : Value → Shared → Prop) (pl : Sem Bool) (Q : Value × List Value → Shared → Prop), Q (f, [v]) s → wpAny (Mo W) A (getMethod v name pl) Q E s
theorem Ev.meth {o : Expr} {name : PySem.Str} {fv : Value} {e : Expr} {args : List Expr} {apos pos : Pos} {pl : Sem Bool} {d₀ : D} {ds : List D} {d : D} (x : Ev W n env G o G₁ d₀) (m : Mth W name d₀ fv) (a : EvL W n env G₁ pos (e :: args) G₂ ds) (c : Cee W fv) (z : Cal W n fv (d₀ :: ds) d)
    (hc : eval (.Call (.Attribute o name apos) (e :: args) [] pos) env = (do
      let ov ← eval o env
      standAt apos.atName
      let (f, first) ← holding [ov] (getMethod ov name pl)
      callWith pos f first (backTo pos (starEach (e :: args) env)) []) := by rfl)
    (he : starEach (e :: args) env = (false, eval e env) :: starEach args env := by rfl) (hp : (backTo pos (starEach args env)).any (·.1) = false := by rfl) : Ev W n env G (.Call (.Attribute o name apos) (e :: args) [] pos) G₂ d := fun fp av A E s r S =>
  MethodCall_ (wpAny_mono (x fp av A E s r S) (fun v s₁ q => m _ s₁ v q.2.2.1.wd q.2.2.2 A E pl _ (by
    obtain ⟨sm, k, S₁, rv⟩ := q
    refine callWith_go c (wpAny_mono (a fp av A E s₁ r S₁) (fun vs s₂ q => ⟨fun a o e => (q.2.2.1.base a o e).1, ?_⟩) fun _ _ x => x) he hp
    exact Op.last (z _ s₂ (v :: vs) q.2.2.1.wd (.cons (rv.ke q.2.1) q.2.2.2)) (mu := []) r (sm.trans q.1) (k.trans q.2.1) q.2.2.1)) fun _ _ x => x) hc
theorem Ev.meth0 {o : Expr} {name : PySem.Str} {fv : Value} {apos pos : Pos} {pl : Sem Bool} {d₀ : D} {d : D} (x : Ev W n env G o G₁ d₀) (m : Mth W name d₀ fv) (c : Cee W fv) (z : Cal W n fv [d₀] d)
    (hc : eval (.Call (.Attribute o name apos) [] [] pos) env = (do
      let ov ← eval o env
      standAt apos.atName
      let (f, first) ← holding [ov] (getMethod ov name pl)
      callWith pos f first (backTo pos (starEach [] env)) []) := by rfl) : Ev W n env G (.Call (.Attribute o name apos) [] [] pos) G₁ d := fun fp av A E s r S =>
  MethodCall_ (wpAny_mono (x fp av A E s r S) (fun v s₁ q => m _ s₁ v q.2.2.1.wd q.2.2.2 A E pl _ (by
    obtain ⟨sm, k, S₁, rv⟩ := q
    exact callWith_go0 c (fun a o e => (S₁.base a o e).1) (Op.last (z _ s₁ [v] S₁.wd (.cons rv .nil)) (mu := []) r sm k S₁))) fun _ _ x => x) hc

/-! an own list's append and reverse -/
theorem Exs.appendOwn {x : PySem.Str} {e : Expr} {np apos pos spos : Pos} {pl : Sem Bool} {ds : List D} {pin : Option Addr} {d : D} (hx : G.lookup x = some (.own ds pin)) (hk : env.kindOf x = some .local) (v : Ev W n env G e G d) (hz : ds.length ≤ 10000) (y : Exs W n env ((x, .own (ds ++ [d]) pin) :: G) rest R)
    (hc : eval (.Call (.Attribute (.Name x np) "append" apos) [e] [] pos) env = (do
      let ov ← eval (.Name x np) env
      standAt apos.atName
      let (f, first) ← holding [ov] (getMethod ov "append" pl)
      callWith pos f first (backTo pos (starEach [e] env)) []) := by rfl)
    (he : starEach [e] env = [(false, eval e env)] := by rfl) (hd : (x == ("__debug__" : PySem.Str)) = false := by decide +kernel)
    (hi : interactive env = false := by rfl) (hs : swapsWith (.Call (.Attribute (.Name x np) "append" apos) [e] [] pos) none spos.line env = pure false := by rfl) :
    Exs W n env G (.Expr (.Call (.Attribute (.Name x np) "append" apos) [e] [] pos) spos :: rest) R :=
  Exs.cons (fun fp av A E s r S => by
    refine wpAny_Expr (MethodCall_ ?_ hc) hi hs
    obtain ⟨w, sx, a, vs, k, rfl, hfp, hg, hr⟩ := S.bd x _ hx
    refine wpAny_Name ?_ hd
    have nsq : ∀ o its k, s.heap.get? env.locals = some o → o.data ≠ .seq its k := fun o its k e q => by
      obtain ⟨m, o', es, ep, ho', hd', _⟩ := S.ns
      rw [ho'] at e; cases e; rw [hd'] at q; cases q
    have go : wpAny (Mo W) A (getMethod (.ref a) "append" pl) (fun fx s₂ => wpAny (Mo W) A (callWith pos fx.1 fx.2 (backTo pos (starEach [e] env)) []) (fun v s' => match v with | .ref _ => False | _ => Same s s' ∧ KB fp s.heap s'.heap ∧ ∃ fp', (∀ a ∈ fp', a ∈ fp ∨ s.heap.get? a = Option.none) ∧ Flow.next = .next ∧ St W env fp' av ((x, .own (ds ++ [d]) pin) :: G) s'.heap) E s₂) E s := by
      refine getMethod_list_append hg rfl rfl ?_
      refine callWith_go Cee.builtin (wpAny_mono (EvL.cons v EvL.nil he fp av A E s r S) (fun us s₂ q => ⟨fun a o e => (q.2.2.1.base a o e).1, ?_⟩) fun _ _ x => x) he rfl
      obtain ⟨sm, k, S₂, ru⟩ := q
      cases ru with
      | cons r₁ r₂ =>
      cases r₂
      have sx₂ : Seen env s₂.heap x (.ref a) := by
        rcases sx with ⟨q, m, ⟨o, es, ep, ho, hd', r'⟩, hm⟩ | ⟨k', _⟩
        · obtain ⟨o', e', z⟩ := k _ _ ho
          rw [z (.inr fun its j => nsq o its j ho)] at e'
          exact .inl ⟨q, m, ⟨o, es, ep, e', hd', r'⟩, hm⟩
        · rw [hk] at k'
          rcases k' with k' | k'
          · cases k'
          · cases k'.1
      obtain ⟨v', sx', a', vs', k', e', hfp', hg', hr'⟩ := S₂.bd x _ hx
      rw [sx'.uniq sx₂] at e'
      cases e'
      have hl := hr'.1.length
      have hz' : vs'.toArray.size ≤ sizeLine := by rw [sizeLine_eq]; simp; omega
      refine wpAny_list_append_plain (hsz := hz') ⟨k', hg'⟩ fun h' hp hs => ?_
      · obtain ⟨k'', hp⟩ := hp
        rw [List.push_toArray] at hp
        refine ⟨sm.trans ⟨_, _, rfl⟩, k.kb.trans fun b o e => ?_, fp, fun a m => .inl m, rfl, S₂.setO hx sx₂ hp (fun b o ne e => (hs.2 b ne).trans e) ((hr'.1.append (.cons r₁ .nil)).move fun b o m e => ⟨m, (hs.2 b fun z => m (z ▸ List.mem_append_left _ hfp.1)).trans e⟩)⟩
        by_cases z : b = a
        · exact ⟨_, z ▸ hp, fun q => absurd (z ▸ hfp.1) q⟩
        · exact ⟨o, (hs.2 b z).trans e, fun _ => rfl⟩
    rcases sx with ⟨_, m, hn, hm⟩ | ⟨k', _⟩
    · exact wpAny_loadName_local S.ok.kind hk hn hm go
    · rw [hk] at k'
      rcases k' with k' | k'
      · cases k'
      · cases k'.1) y
end
end Mine

/-! M5 -/
namespace Mine

section
variable {W : Wr} {n : Nat} {env : Env} {fp av : List Addr} {G G₁ G₂ G' : Ga} {h h' : Heap} {R R' : Post} {rest : List Stmt}

/-- what may be gone through -/
def Itr (W : Wr) (n : Nat) (d : D) (items : List D) : Prop := ∀ mu s v, Wd W mu s.heap → Rd W mu s.heap v d → ∀ A E, Room n A →
  wpAny (Mo W) A (pyIter v) (fun it s' => Same s s' ∧ Keep s.heap s'.heap ∧ ∃ (I : Addr) (fq : List Addr) (Pt : Nat → Value → Prop) (Stt : Nat → Heap → Prop), it = .ref I ∧ s.heap.get? I = Option.none ∧
    (∀ A' : Around, A'.handled = Option.none → Walks W.prog W.w A' I fq [I] items.length Pt Stt) ∧ Stt 0 s'.heap ∧ (∀ i h, Stt i h → ∃ o, h.get? I = some o) ∧
    (∀ b ∈ fq, b = I ∨ (b ∉ mu ∧ ∃ o, s.heap.get? b = some o)) ∧ ∀ i v, Pt i v → ∃ d', items[i]? = some d' ∧ Rd W mu s.heap v d') E s

theorem fresh_size (h : Heap) : h.get? h.objs.size = Option.none := by
  cases e : h.get? h.objs.size with
  | none => rfl
  | some o => exact absurd (Heap.lt_size e) (Nat.lt_irrefl _)

theorem Itr.lst {ds : List D} : Itr W n (.lst ds) ds := fun mu s v w r A E R => by
  cases r with
  | lst na ho rs =>
  rename_i a vs k
  have hl : s.heap.IsList a vs.toArray := ⟨_, ho, rfl, k, rfl⟩
  have hne : a ≠ s.heap.objs.size := Nat.ne_of_lt (Heap.lt_size ho)
  refine wpAny_pyIter_list hl ⟨⟨_, _, rfl⟩, fun b o e => Heap.get?_push_of_some _ e, s.heap.objs.size, [s.heap.objs.size, a], fun i v => vs.toArray[i]? = some v, fun i h => h.IsListIter s.heap.objs.size a i ∧ h.IsList a vs.toArray, rfl, fresh_size _, fun A' hA => ?_, ⟨⟨_, Heap.get?_push_size _ rfl, rfl, rfl⟩, hl.at fun o e => Heap.get?_push_of_some _ e⟩, fun i h st => ?_, fun b m => ?_, fun i v hv => ?_⟩
  · have := Walks.list (prog := W.prog) (w := W.w) hA s.heap.objs.size a hne vs.toArray
    rw [show vs.toArray.size = ds.length by simp [rs.length]] at this
    exact this
  · obtain ⟨⟨o, e, _⟩, _⟩ := st; exact ⟨o, e⟩
  · rcases List.mem_cons.mp m with m | m
    · exact .inl m
    · rw [List.mem_singleton] at m; subst m; exact .inr ⟨na, _, ho⟩
  · have hv' : vs[i]? = some v := by simpa using hv
    have hi : i < ds.length := by rw [← rs.length]; exact (List.getElem?_eq_some_iff.mp hv').1
    obtain ⟨v', e, r'⟩ := rs.get (List.getElem?_eq_getElem hi)
    rw [hv'] at e; cases e
    exact ⟨_, List.getElem?_eq_getElem hi, r'⟩

/-- the ints of a range by ones or by more -/
def rngInts (a c : Int) (k : Nat) : List D := (List.range k).map fun (i : Nat) => D.int (a + i * c)
theorem Itr.rng {a b c : Int} {k : Nat} (hs : Builtin.Range.small a b c = true) (hk : Builtin.Range.rangeSize a b c = (k : Int)) : Itr W n (.rng a b c) (rngInts a c k) := fun mu s v w r A E R => by
  cases r with
  | rng na ho =>
  refine wpAny_pyIter_range ho hs ⟨⟨_, _, rfl⟩, fun b o e => Heap.get?_push_of_some _ e, _, _, fun i v => i < k ∧ ∃ t, v = .int (a + i * c) t, fun i h => IsRangeIter h s.heap.objs.size (a + (i : Nat) * c) ((k : Int) - (i : Nat)) c, rfl, fresh_size _, fun A' hA => ?_, ?_, fun i h st => ⟨_, st⟩, fun b m => .inl (List.mem_singleton.mp m), fun i v hv => ?_⟩
  · have := (Walks.range (prog := W.prog) (w := W.w) hA s.heap.objs.size a c k).bound
    rw [show (rngInts a c k).length = k by simp [rngInts]]
    exact this
  · show IsRangeIter _ _ _ _ _
    rw [hk]; simpa using Heap.get?_push_size _ rfl
  · obtain ⟨hi, t, rfl⟩ := hv
    exact ⟨.int (a + i * c), by simp [rngInts, hi], .int _ _⟩

def signs (x : PySem.Str) : List D := x.cps.toList.map fun c => D.str ⟨#[c]⟩
theorem Itr.str {x : PySem.Str} : Itr W n (.str x) (signs x) := fun mu s v w r A E R => by
  cases r with
  | str x t =>
  refine wpAny_pyIter_strU ⟨⟨_, _, rfl⟩, fun b o e => Heap.get?_push_of_some _ e, _, _, SignAt x, fun i h => h.IsStrIter s.heap.objs.size (strIterType x) x t i, rfl, fresh_size _, fun A' hA => ?_, ⟨_, Heap.get?_push_size _ rfl, rfl, rfl⟩, fun i h st => ?_, fun b m => .inl (List.mem_singleton.mp m), fun i v hv => ?_⟩
  · rw [show (signs x).length = x.cps.size by simp [signs]]
    cases ha : x.cps.all (· < 128)
    · simp only [strIterType, ha]; exact Walks.strWide hA _ x t
    · simp only [strIterType, ha]; exact Walks.strAscii hA _ x t
  · obtain ⟨o, e, _⟩ := st; exact ⟨o, e⟩
  · obtain ⟨c, u, hc, rfl⟩ := hv
    refine ⟨.str ⟨#[c]⟩, ?_, .str _ _⟩
    simp only [signs, List.getElem?_map, Array.getElem?_toList, hc, Option.map_some]

/-- a place turned that no data knows -/
theorem St.offI {I : Addr} {av' : List Addr} (S : St W env fp (I :: av) G h) (hI : I ∉ fp) (hc : ∀ x c, env.cells.lookup x = some c → c ≠ I) (hH : W.H.get? I = none) (hk : ∀ b o, b ≠ I → h.get? b = some o → h'.get? b = some o)
    (h1 : ∀ a ∈ av', a ∈ I :: av) (h2 : ∀ a ∈ av, a ∈ av') (hl : I ∈ av' → ∃ o, h'.get? I = some o) : St W env fp av' G h' := by
  have neL : env.locals ≠ I := fun q => hI (q ▸ S.loc)
  have mv : ∀ b o, b ∉ fp ++ (I :: av) → h.get? b = some o → b ∉ fp ++ av' ∧ h'.get? b = some o := fun b o m e =>
    ⟨fun z => m ((List.mem_append.mp z).elim (List.mem_append_left _) fun z => List.mem_append_right _ (h1 b z)), hk b o (fun z => m (z ▸ List.mem_append_right _ List.mem_cons_self)) e⟩
  have sn : ∀ y w, Seen env h' y w ↔ Seen env h y w := fun y w => by
    have f : ∀ y w, Seen env h y w → Seen env h' y w := fun y w s => s.move (fun o e => hk _ o neL e) fun c o e => hk c o (hc y c e)
    refine ⟨fun s => ?_, f y w⟩
    rcases s with ⟨k, m', q, e⟩ | ⟨k, c', hc', q⟩
    · obtain ⟨m, hn⟩ := S.ns
      obtain ⟨o, es, ep, ho, r⟩ := hn
      have hn' : h'.Ns env.locals m := ⟨o, es, ep, hk _ _ neL ho, r⟩
      exact .inl ⟨k, m, ⟨o, es, ep, ho, r⟩, by rw [Ns.uniq hn' q]; exact e⟩
    · obtain ⟨_, _, w', o, ho, hd⟩ := S.cel y c' hc'
      have : h'.IsCell c' w' := ⟨o, hk _ _ (hc y c' hc') ho, hd⟩
      exact .inr ⟨k, c', hc', by rw [IsCell.uniq q this]; exact ⟨o, ho, hd⟩⟩
  exact {
    ok := S.ok
    base := fun a o e => ⟨hk a o (fun z => by rw [z, hH] at e; cases e) (S.base a o e).1, (S.base a o e).2⟩
    live := fun a m => by
      by_cases z : a = I
      · subst z
        exact hl ((List.mem_append.mp m).elim (fun m => absurd m hI) id)
      · have m' : a ∈ fp ++ (I :: av) := (List.mem_append.mp m).elim (List.mem_append_left _) fun m => List.mem_append_right _ (h1 a m)
        obtain ⟨o, e⟩ := S.live a m'
        exact ⟨o, hk a o z e⟩
    loc := S.loc
    ns := let ⟨m, o, es, ep, ho, r⟩ := S.ns; ⟨m, o, es, ep, hk _ _ neL ho, r⟩
    cel := fun x c e => by
      obtain ⟨p, q, v, o, ho, hd⟩ := S.cel x c e
      refine ⟨?_, q, v, o, hk _ _ (hc x c e) ho, hd⟩
      rcases List.mem_append.mp p with p | p
      · exact List.mem_append_left _ p
      · rcases List.mem_cons.mp p with p | p
        · exact absurd p (hc x c e)
        · exact List.mem_append_right _ (h2 c p)
    apart := S.apart
    bd := fun x b e => by
      obtain ⟨v, q, r⟩ := S.bd x b e
      refine ⟨v, (sn x v).mpr q, ?_⟩
      cases b with
      | fz d => exact Rd.move mv r
      | own ds pin =>
        obtain ⟨a', vs, n, e, m, g, q⟩ := r
        exact ⟨a', vs, n, e, ⟨m.1, fun z => m.2 (h1 _ z)⟩, hk _ _ (fun z => hI (z ▸ m.1)) g, q.move mv⟩
    odis := fun x y ds es a ex ey sx sy => S.odis x y ds es a ex ey ((sn x _).mp sx) ((sn y _).mp sy) }

set_option maxHeartbeats 1000000 in
/-- a for loop by its turns -/
theorem Exs.for_ {x : PySem.Str} {np pos : Pos} {iter : Expr} {body : List Stmt} {d : D} {items : List D} (Γ : Nat → Ga) (v : Ev W n env G iter G₁ d) (it : Itr W n d items) (hk : env.kindOf x = some .local)
    (h0 : ∀ x b, (Γ 0).lookup x = some b → G₁.lookup x = some b)
    (turn : ∀ i d', items[i]? = some d' → Exs W n env ((x, .fz d') :: Γ i) body (fun f fp av h => (f = .next ∨ f = .cont) ∧ St W env fp av (Γ (i + 1)) h))
    (y : Exs W n env (Γ items.length) rest R) (hs : ∀ x, foldedSetIterable iter env x = pure x := by intro _; rfl) (hlet : ∀ it v, letOwnedTupleGo (.Name x np) it v = pure () := by intro _ _; rfl) :
    Exs W n env G (.For (.Name x np) iter body [] pos :: rest) R := fun fp av A E s r S => by
  refine wpAny_execs_cons (wpAny_For (wpAny_mono (v fp av A E s r S) (fun w s₁ q₁ => ?_) fun _ _ x => x) hs)
  obtain ⟨sm₁, k₁, S₁, r₁⟩ := q₁
  refine wpAny_mono (it _ s₁ w S₁.wd r₁ A E r) (fun iv s₂ q₂ => ?_) fun _ _ x => x
  obtain ⟨sm₂, k₂, I, fq, Pt, Stt, rfl, hI, hW, hst, hlive, hfq, hPt⟩ := q₂
  have hIm : I ∉ fp ++ av := fun m => by
    obtain ⟨o, e⟩ := S₁.live I m
    rw [hI] at e; cases e
  obtain ⟨oI, hoI⟩ := hlive _ _ hst
  have S₂ : St W env fp (I :: av) (Γ 0) s₂.heap := (S₁.avoid k₂ hI hoI).weaken h0
  have hc : ∀ x c, env.cells.lookup x = some c → c ≠ I := fun x c e z => by
    obtain ⟨_, _, v, o, ho, _⟩ := S₁.cel x c e
    rw [z, hI] at ho; cases ho
  have hH : W.H.get? I = none := by
    cases e : W.H.get? I with
    | none => rfl
    | some o => have := (S₁.base I o e).1; rw [hI] at this; cases this
  have WW := hW A r.1
  refine codeAny_forLoop_any (fun m s' => ∃ i fp', i ≤ items.length ∧ m = items.length - i ∧ Same s s' ∧ KB fp s.heap s'.heap ∧ KB (I :: fp) s₂.heap s'.heap ∧ (∀ a ∈ fp', a ∈ fp ∨ s₂.heap.get? a = Option.none) ∧ St W env fp' (I :: av) (Γ i) s'.heap ∧ Stt i s'.heap) (fun m s' hI' => ?_) items.length
    ⟨0, fp, Nat.zero_le _, rfl, sm₁.trans sm₂, k₁.kb.trans (.of_keep k₂), KB.refl _ _, fun a m => .inl m, S₂, hst⟩
  obtain ⟨i, fp', hi, rfl, sm, k, kb, g, S', st⟩ := hI'
  have hIfp : I ∉ fp' := fun m => (g I m).elim (fun z => hIm (List.mem_append_left _ z)) fun z => by rw [hoI] at z; cases z
  by_cases hlt : i < items.length
  · refine WW.item i s' _ _ hlt st fun w' h₁ tk hP st₁ hk₁ => ?_
    dsimp only
    refine wpAny_of_eq (hlet _ _) ?_
    obtain ⟨d', hd', rd⟩ := hPt i w' hP
    have S₃ : St W env fp' (I :: av) (Γ i) h₁ := S'.offI hIfp hc hH (fun b o ne e => hk₁ b o (by simpa using ne) e) (fun a m => m) (fun a m => List.mem_cons_of_mem _ m) fun _ => hlive _ _ st₁
    have rd₃ : Rd W (fp' ++ (I :: av)) h₁ w' d' := rd.move fun a o m e => by
      have e₂ := k₂ a o e
      have aI : a ≠ I := fun z => by rw [z, hI] at e; cases e
      have afp' : a ∉ fp' := fun z => (g a z).elim (fun z => m (List.mem_append_left _ z)) fun z => by rw [e₂] at z; cases z
      obtain ⟨o', e', q⟩ := kb a o e₂
      rw [q fun z => (List.mem_cons.mp z).elim aI fun z => m (List.mem_append_left _ z)] at e'
      refine ⟨fun z => ?_, hk₁ a o (by simpa using aI) e'⟩
      rcases List.mem_append.mp z with z | z
      · exact afp' z
      · rcases List.mem_cons.mp z with z | z
        · exact aI z
        · exact m (List.mem_append_right _ z)
    have hnI : ∀ a o, s.heap.get? a = some o → a ≠ I := fun a o e z => by
      obtain ⟨o', e', _⟩ := k₁.kb a o e
      rw [z, hI] at e'; cases e'
    have kI : KB (I :: fp) s'.heap h₁ := fun b o e => by
      by_cases z : b = I
      · obtain ⟨o', e'⟩ := hlive _ _ st₁; exact ⟨o', z ▸ e', fun q => absurd (z ▸ List.mem_cons_self) q⟩
      · exact ⟨o, hk₁ b o (by simpa using z) e, fun _ => rfl⟩
    have kS : KB fp s.heap h₁ := fun b o e => by
      obtain ⟨o', e', q⟩ := k b o e
      exact ⟨o', hk₁ b o' (by simpa using hnI b o e) e', q⟩
    refine wpAny_assign_Name (wpAny_mono (store_fz (s₀ := { s' with heap := h₁, toks := tk }) hk S₃ rd₃ (Same.refl _) (KB.refl _ _)) (fun _ s₄ q => ?_) fun _ _ x => x)
    obtain ⟨sm₄, k₄, S₄⟩ := q
    refine wpAny_mono (turn i d' hd' fp' (I :: av) A _ s₄ r S₄) (fun f s₅ q => ?_) fun _ _ x => x
    obtain ⟨sm₅, k₅, fp₅, g₅, hf, S₅⟩ := q
    have g₄ : ∀ a ∈ fp₅, a ∈ fp' ∨ h₁.get? a = none := fresh_trans (fun a m => .inl m) k₄ g₅
    have k₄₅ : KB fp' h₁ s₅.heap := k₄.trans k₅
    have inv : ∃ m, m < items.length - i ∧ ∃ j fp'', j ≤ items.length ∧ m = items.length - j ∧ Same s s₅ ∧ KB fp s.heap s₅.heap ∧ KB (I :: fp) s₂.heap s₅.heap ∧ (∀ a ∈ fp'', a ∈ fp ∨ s₂.heap.get? a = Option.none) ∧ St W env fp'' (I :: av) (Γ j) s₅.heap ∧ Stt j s₅.heap := by
      refine ⟨items.length - (i + 1), by omega, i + 1, fp₅, hlt, rfl, sm.trans (Same.trans (⟨_, _, rfl⟩ : Same s' { s' with heap := h₁, toks := tk }) (sm₄.trans sm₅)), ?_, ?_, ?_, S₅, ?_⟩
      · refine kS.step (fun a m => ?_) k₄₅
        rcases g a m with z | z
        · exact .inl z
        · right
          cases e : s.heap.get? a with
          | none => rfl
          | some o =>
            obtain ⟨o', e', _⟩ := k₁.kb a o e
            rw [k₂ a o' e'] at z; cases z
      · refine (kb.trans kI).step (fun a m => ?_) k₄₅
        rcases g a m with z | z
        · exact .inl (List.mem_cons_of_mem _ z)
        · exact .inr z
      · refine fun a m => ?_
        rcases g₄ a m with z | z
        · exact g a z
        · right
          cases e : s₂.heap.get? a with
          | none => rfl
          | some o => obtain ⟨o', e', _⟩ := (kb.trans kI) a o e; rw [z] at e'; cases e'
      · refine WW.frame (i + 1) h₁ s₅.heap st₁ fun b m o e => ?_
        have nb : b ∉ fp' := by
          rcases hfq b m with z | ⟨z, o', e'⟩
          · exact z ▸ hIfp
          · exact fun z' => (g b z').elim (fun z' => z (List.mem_append_left _ z')) fun z' => by rw [k₂ b o' e'] at z'; cases z'
        obtain ⟨o', e', q⟩ := k₄₅ b o e
        rw [q nb] at e'; exact e'
    rcases hf with rfl | rfl <;> exact inv
  · have hi' : i = items.length := by omega
    subst hi'
    refine WW.done s' _ _ st fun h₁ tk hk₁ => ?_
    dsimp only
    refine wpAny_execs_nil ?_
    have hnI : ∀ a o, s.heap.get? a = some o → a ≠ I := fun a o e z => by
      obtain ⟨o', e', _⟩ := k₁.kb a o e
      rw [z, hI] at e'; cases e'
    have S₃ : St W env fp' av (Γ items.length) h₁ := S'.offI hIfp hc hH (fun b o ne e => hk₁ b o (by simpa using ne) e) (fun a m => List.mem_cons_of_mem _ m) (fun a m => m) fun m => absurd (List.mem_append_right _ m) hIm
    have kS : KB fp s.heap h₁ := fun b o e => by
      obtain ⟨o', e', q⟩ := k b o e
      exact ⟨o', hk₁ b o' (by simpa using hnI b o e) e', q⟩
    have gS : ∀ a ∈ fp', a ∈ fp ∨ s.heap.get? a = none := fun a m => by
      rcases g a m with z | z
      · exact .inl z
      · right
        cases e : s.heap.get? a with
        | none => rfl
        | some o =>
          obtain ⟨o', e', _⟩ := k₁.kb a o e
          rw [k₂ a o' e'] at z; cases z
    refine wpAny_mono (y fp' av A E { s' with heap := h₁, toks := tk } r S₃) (fun f s₅ q => ?_) fun _ _ x => x
    obtain ⟨sm₅, k₅, fp₅, g₅, q⟩ := q
    exact ⟨sm.trans (Same.trans (⟨_, _, rfl⟩ : Same s' { s' with heap := h₁, toks := tk }) sm₅), kS.step gS k₅, fp₅, fresh_trans gS kS g₅, q⟩

/-- a while loop of k turns -/
theorem Exs.while_ {t : Expr} {body : List Stmt} {pos : Pos} (Γ : Nat → Ga) (k : Nat) (h0 : ∀ x b, (Γ 0).lookup x = some b → G.lookup x = some b)
    (tt : ∀ i, i < k → Ts W n env (Γ i) t (Γ i) true) (tf : Ts W n env (Γ k) t (Γ k) false) (turn : ∀ i, i < k → Exs W n env (Γ i) body (Nx W env (Γ (i + 1)))) (y : Exs W n env (Γ k) rest R) :
    Exs W n env G (.While t body [] pos :: rest) R := fun fp av A E s r S => by
  refine wpAny_execs_cons (wpAny_While ?_)
  refine codeAny_whileLoop (fun m s' => ∃ i fp', i ≤ k ∧ m = k - i ∧ Same s s' ∧ KB fp s.heap s'.heap ∧ (∀ a ∈ fp', a ∈ fp ∨ s.heap.get? a = Option.none) ∧ St W env fp' av (Γ i) s'.heap) (fun m s' hI => ?_) k ⟨0, fp, Nat.zero_le _, rfl, Same.refl _, KB.refl _ _, fun a m => .inl m, S.weaken h0⟩
  obtain ⟨i, fp', hi, rfl, sm, kk, g, S'⟩ := hI
  by_cases hlt : i < k
  · refine wpAny_mono (tt i hlt fp' av A _ s' r S') (fun b s₁ q => ?_) fun _ _ x => x
    obtain ⟨rfl, sm₁, k₁, S₁⟩ := q
    rw [if_pos rfl]
    refine wpAny_mono (turn i hlt fp' av A _ s₁ r S₁) (fun f s₂ q => ?_) fun _ _ x => x
    obtain ⟨sm₂, k₂, fp₂, g₂, rfl, S₂⟩ := q
    have kk₁ := kk.step g k₁.kb
    exact ⟨k - (i + 1), by omega, i + 1, fp₂, hlt, rfl, sm.trans (sm₁.trans sm₂), kk₁.step g k₂, fresh_trans g kk₁ g₂, S₂⟩
  · have hi' : i = k := by omega
    subst hi'
    refine wpAny_mono (tf fp' av A _ s' r S') (fun b s₁ q => ?_) fun _ _ x => x
    obtain ⟨rfl, sm₁, k₁, S₁⟩ := q
    rw [if_neg Bool.false_ne_true]
    refine wpAny_execs_nil ?_
    refine wpAny_mono (y fp' av A E s₁ r S₁) (fun f s₂ q => ?_) fun _ _ x => x
    obtain ⟨sm₂, k₂, fp₂, g₂, q⟩ := q
    have kk₁ := kk.step g k₁.kb
    exact ⟨sm.trans (sm₁.trans sm₂), kk₁.step g k₂, fp₂, fresh_trans g kk₁ g₂, q⟩
end
end Mine

/-! M6 -/
namespace Mine

/-- the tests of a comprehension -/
def Ifs (W : Wr) (n : Nat) (env : Env) (G : Ga) : List Expr → Bool → Prop
  | [], b => b = true
  | [c], b => Ts W n env G c G b
  | _, _ => False

section
variable {W : Wr} {n : Nat} {env : Env} {fp av : List Addr} {G G₁ G₂ G' : Ga} {h h' : Heap} {R R' : Post} {rest : List Stmt}

theorem Ifs.run {ifs : List Expr} {b : Bool} (x : Ifs W n env G ifs b) {A : Around} {E : Value → Shared → Prop} {s : Shared} (r : Room n A) (S : St W env fp av G s.heap) :
    wpAny (Mo W) A (forIn ifs true fun c r => if r = true then do let ok ← isTrue c env (eval c env); pure (ForInStep.yield ok) else pure (ForInStep.yield r)) (fun ok s' => ok = b ∧ Same s s' ∧ KE fp s.heap s'.heap ∧ St W env fp av G s'.heap) E s := by
  match ifs, x with
  | [], x => exact wpAny_tests_nil ⟨Eq.symm x, Same.refl _, KE.refl _ _, S⟩
  | [c], x => exact wpAny_tests_one (x fp av A E s r S)

theorem KE.one {C : Addr} {h h' : Heap} {m : PySem.Str → Option Value} (k : KE [C] h h') (hn : h.Ns C m) : Keep h h' := fun a o e => by
  obtain ⟨o', e', q⟩ := k a o e
  by_cases z : a = C
  · obtain ⟨o'', es, ep, ho, hd, _⟩ := hn
    subst z
    rw [ho] at e; cases e
    rw [q (.inr fun its k z => by rw [hd] at z; cases z)] at e'
    exact e'
  · rw [q (.inl (by simpa using z))] at e'; exact e'

/-- what a comprehension leaves, within -/
structure CompEnd (W : Wr) (fp av : List Addr) (s s' : Shared) (C L : Addr) (es : List D) : Prop where
  sm : Same s s'
  keep : Keep s.heap s'.heap
  nC : s.heap.get? C = Option.none
  nL : s.heap.get? L = Option.none
  ne : C ≠ L
  ns : ∃ m, s'.heap.Ns C m
  lst : ∃ vs k, s'.heap.get? L = some (listOf vs.toArray k) ∧ RdAll W (C :: L :: (fp ++ av)) s'.heap vs es

theorem lookup_filterMap {names : List (PySem.Str × NameKind)} : True := trivial

set_option maxHeartbeats 2000000 in
theorem comp_run {α : Type} {x : PySem.Str} {np cpos : Pos} {elt iter : Expr} {ifs : List Expr} {scope : Scope} {cl : List (PySem.Str × Addr)} {d : D} (as : List α) (mk : α → D) (bq : α → Bool) (eq : α → D) (Gc : Ga) {use : Option (Value → Sem Unit)}
    (it : Itr W n d (as.map mk)) (hz : as.length ≤ 10000)
    (hclos : closureFor scope env = pure cl) (hcl : ∀ y c, cl.lookup y = some c → env.cells.lookup y = some c)
    (hcell : (scope.names.all fun y => y.2 != .cell) = true) (hkind : scope.kind = .function) (hnames : (scope.names.all fun y => y.2 != .local || scope.names.lookup y.1 == some .local) = true) (hx : scope.names.lookup x = some .local)
    (hGc : ∀ y b, Gc.lookup y = some b → y ≠ x ∧ (∃ d, b = .fz d) ∧ G.lookup y = some b ∧ env.kindOf y = some .cell ∧ (relabel scope env).names.lookup y = some .cell ∧ ∃ c, cl.lookup y = some c)
    (turn : ∀ a ∈ as, ∀ C, Ifs W n (compEnvC scope cl C env) ((x, .fz (mk a)) :: Gc) ifs (bq a) ∧ (bq a = true → Ev W n (compEnvC scope cl C env) ((x, .fz (mk a)) :: Gc) elt ((x, .fz (mk a)) :: Gc) (eq a)))
    {A : Around} {E : Value → Shared → Prop} {s : Shared} {v : Value} (r : Room n A) (S : St W env fp av G s.heap) (rv : Rd W (fp ++ av) s.heap v d) {Q : Value → Shared → Prop}
    (fin : ∀ C L s', CompEnd W fp av s s' C L ((as.filter bq).map eq) → compPost (Mo W) A E use Q (.ref L) C (.ok .next) s') :
    wpAny (Mo W) A (pyIter v) (fun it s₂ => wpAny (Mo W) A (newList []) (fun acc s₃ => wpAny (Mo W) A (newFunctionEnv scope env.globals cl [] env.qual none .none (some env)) (fun cenv s₄ =>
      codeAny (Mo W) A (.compStart (.ListComp elt [⟨.Name x np, iter, ifs, 0⟩] scope cpos) 0 it acc { cenv with scope := relabel scope env }) (compPost (Mo W) A E use Q acc cenv.locals) s₄) E s₃) E s₂) E s := by
  refine wpAny_mono (it _ s v S.wd rv A E r) (fun iv s₂ q₂ => ?_) fun _ _ x => x
  obtain ⟨sm₂, k₂, I, fq, Pt, Stt, rfl, hI, hW, hst, hlive, hfq, hPt⟩ := q₂
  have WW := hW A r.1
  refine wpAny_newObj_type (wpAny_newFunctionEnv (fun y hy => by simpa using List.all_eq_true.mp hcell y hy) (by intro y hy; simp at hy) (fun h₁ hns₁ hsb₁ => ?_) hkind)
  dsimp only at hns₁ hsb₁ ⊢
  have hL : s₂.heap.get? s₂.heap.objs.size = none := fresh_size _
  generalize hLe : s₂.heap.objs.size = L at hL ⊢
  generalize hH2 : s₂.heap.push { cls := .type "list", dict := none, data := .seq ([] : List Value).toArray } = H2 at hns₁ hsb₁ ⊢
  have hLo : H2.get? L = some (listOf ([] : List Value).toArray 0) := by rw [← hH2, ← hLe]; exact Heap.get?_push_size _ rfl
  have kH2 : Keep s₂.heap H2 := fun b o e => by rw [← hH2]; exact Heap.get?_push_of_some _ e
  have hC : H2.get? H2.objs.size = none := fresh_size _
  generalize hCe : H2.objs.size = C at hns₁ hsb₁ hC ⊢
  have k₁ : Keep H2 h₁ := fun b o e => hsb₁.extBut b o (fun z => by rw [z, hC] at e; cases e) (Heap.get?_push_of_some _ e)
  have kk : Keep s.heap h₁ := fun b o e => k₁ b o (kH2 b o (k₂ b o e))
  have none_of : ∀ {h h' : Heap} {a : Addr}, Keep h h' → h'.get? a = none → h.get? a = none := fun {h h' a} k e => by
    cases z : h.get? a with
    | none => rfl
    | some o => rw [k a o z] at e; cases e
  obtain ⟨oI, hoI⟩ := hlive _ _ hst
  have neLI : L ≠ I := fun z => by rw [z, hoI] at hL; cases hL
  have neCL : C ≠ L := fun z => by rw [z, hLo] at hC; cases hC
  have neCI : C ≠ I := fun z => by rw [z, kH2 _ _ hoI] at hC; cases hC
  have hLs : s.heap.get? L = none := none_of k₂ hL
  have hCs : s.heap.get? C = none := none_of (fun b o e => kH2 b o (k₂ b o e)) hC
  have hst₁ : Stt 0 h₁ := WW.frame _ _ _ hst fun b _ o e => k₁ b o (kH2 b o e)
  have old : ∀ a o, s.heap.get? a = some o → a ≠ C ∧ a ≠ I ∧ a ≠ L := fun a o e => ⟨fun z => by (rw [z, hCs] at e; cases e), fun z => by (rw [z, hI] at e; cases e), fun z => by (rw [z, hLs] at e; cases e)⟩
  -- data of the outer frame, seen from within
  have mv : ∀ (g : Heap), (∀ a o, s.heap.get? a = some o → g.get? a = some o) → ∀ a o, a ∉ fp ++ av → s.heap.get? a = some o → a ∉ [C] ++ (L :: I :: (fp ++ av)) ∧ g.get? a = some o := fun g kg a o m e => by
    obtain ⟨n1, n2, n3⟩ := old a o e
    refine ⟨fun z => ?_, kg a o e⟩
    rcases List.mem_cons.mp z with z | z
    · exact n1 z
    · rcases List.mem_cons.mp z with z | z
      · exact n3 z
      · rcases List.mem_cons.mp z with z | z
        · exact n2 z
        · exact m z
  -- the frame within
  have inner : ∀ (g : Heap) (m : PySem.Str → Option Value), (∀ a o, s.heap.get? a = some o → g.get? a = some o) → g.Ns C m → (∃ o, g.get? L = some o) → (∃ o, g.get? I = some o) → St W (compEnvC scope cl C env) [C] (L :: I :: (fp ++ av)) Gc g := fun g m kg hn hgL hgI => {
    ok := ⟨hkind, S.ok.glob, S.ok.blt⟩
    base := fun a o e => by
      have e' := (S.base a o e).1
      exact ⟨kg a o e', fun z => (old a o e').1 (List.mem_singleton.mp z)⟩
    live := fun a z => by
      rcases List.mem_cons.mp z with rfl | z
      · obtain ⟨o, _, _, e, _⟩ := hn; exact ⟨o, e⟩
      · rcases List.mem_cons.mp z with rfl | z
        · exact hgL
        · rcases List.mem_cons.mp z with rfl | z
          · exact hgI
          · obtain ⟨o, e⟩ := S.live a z; exact ⟨o, kg a o e⟩
    loc := List.mem_singleton.mpr rfl
    ns := ⟨m, hn⟩
    cel := fun y c e => by
      obtain ⟨p, _, w, o, ho, hd⟩ := S.cel y c (hcl y c e)
      exact ⟨List.mem_append_right _ (List.mem_cons_of_mem _ (List.mem_cons_of_mem _ p)), fun z => (Bool.false_ne_true z).elim, w, o, kg _ _ ho, hd⟩
    apart := fun y z c e e' => S.apart y z c (hcl y c e) (hcl z c e')
    bd := fun y b e => by
      obtain ⟨_, ⟨d', rfl⟩, hG, hkc, hkr, c, hc⟩ := hGc y b e
      obtain ⟨w, sw, rw'⟩ := S.bd y _ hG
      refine ⟨w, ?_, rw'.move (mv g kg)⟩
      rcases sw with ⟨k', _⟩ | ⟨_, c', hc', o, ho, hd⟩
      · rw [hkc] at k'; cases k'
      · have ec : c' = c := Option.some.inj (hc'.symm.trans (hcl y c hc))
        rw [ec] at ho
        exact .inr ⟨.inl hkr, c, hc, o, kg _ _ ho, hd⟩
    odis := fun y z ds es a ey _ _ _ => by
      obtain ⟨_, ⟨d', q⟩, _⟩ := hGc y _ ey
      cases q }
  have hxk : (compEnvC scope cl C env).kindOf x = some .local := lookup_relabel_local hx
  -- the loop
  have loop : ∀ s₃ : Shared, s₃ = { s₂ with heap := h₁, toks := s₂.toks + ([] : List (PySem.Str × Value)).length } →
      codeAny (Mo W) A (.compLoop (.ListComp elt [⟨.Name x np, iter, ifs, 0⟩] scope cpos) 0 (.ref I) (.ref L) (compEnvC scope cl C env)) (compPost (Mo W) A E use Q (.ref L) C) s₃ := by
    intro s₃ hs₃
    refine codeAny_compLoop_tests (fun m s' => ∃ i, i ≤ as.length ∧ m = as.length + 1 - i ∧ Same s s' ∧ Keep s.heap s'.heap ∧ (∃ m, s'.heap.Ns C m) ∧ Stt i s'.heap ∧
      ∃ vs k, s'.heap.get? L = some (listOf vs.toArray k) ∧ RdAll W (C :: L :: I :: (fp ++ av)) s'.heap vs (((as.take i).filter bq).map eq)) (fun m s' hinv => ?_) (as.length + 1)
      ⟨0, Nat.zero_le _, rfl, sm₂.trans ⟨h₁, _, hs₃⟩, hs₃ ▸ kk, hs₃ ▸ ⟨_, hns₁⟩, hs₃ ▸ hst₁, [], 0, hs₃ ▸ k₁ _ _ hLo, by simpa using RdAll.nil⟩
    obtain ⟨i, hi, rfl, sm, kS, ⟨m, hn⟩, st, vs, k, hl, hr⟩ := hinv
    have hlen : (as.map mk).length = as.length := by simp
    by_cases hlt : i < as.length
    · refine WW.item i s' _ _ (by rw [hlen]; exact hlt) st fun w' h₂ tk hP st₂ hk₂ => ?_
      dsimp only
      have kI : ∀ a o, a ≠ I → s'.heap.get? a = some o → h₂.get? a = some o := fun a o ne e => hk₂ a o (by simpa using ne) e
      have kS₂ : Keep s.heap h₂ := fun a o e => kI a o (old a o e).2.1 (kS a o e)
      have hn₂ : h₂.Ns C m := hn.at' fun o e => kI _ o neCI e
      have hl₂ := kI _ _ neLI hl
      obtain ⟨d', hd', rd⟩ := hPt i w' hP
      have ha : as[i]? = some as[i] := List.getElem?_eq_getElem hlt
      rw [List.getElem?_map, ha] at hd'
      cases hd'
      have ham : as[i] ∈ as := List.getElem_mem hlt
      have Si := inner h₂ m kS₂ hn₂ ⟨_, hl₂⟩ (hlive _ _ st₂)
      have rd₂ : Rd W ([C] ++ (L :: I :: (fp ++ av))) h₂ w' (mk as[i]) := rd.move (mv h₂ kS₂)
      refine wpAny_assign_Name (wpAny_mono (store_fz (s₀ := { s' with heap := h₂, toks := tk }) hxk Si rd₂ (Same.refl _) (KB.refl _ _)) (fun _ s₄ q => ?_) fun _ _ x => x)
      obtain ⟨sm₄, k₄, S₄⟩ := q
      have kC : ∀ a o, a ≠ C → h₂.get? a = some o → s₄.heap.get? a = some o := fun a o ne e => by
        obtain ⟨o', e', q⟩ := k₄ a o e
        rw [q (by simpa using ne)] at e'; exact e'
      obtain ⟨m₄, hn₄⟩ := S₄.ns
      have st₄ : Stt (i + 1) s₄.heap := WW.frame _ _ _ st₂ fun b hb o e => kC b o (fun z => by
        rcases hfq b hb with q | ⟨_, o', e'⟩
        · exact neCI (z ▸ q)
        · exact (old b o' e').1 z) e
      refine wpAny_mono ((turn as[i] ham C).1.run r S₄) (fun ok s₅ q => ?_) fun _ _ x => x
      obtain ⟨rfl, sm₅, k₅, S₅⟩ := q
      have k₅' := k₅.one hn₄
      have smm : Same s s₅ := sm.trans (Same.trans (⟨_, _, rfl⟩ : Same s' { s' with heap := h₂, toks := tk }) (sm₄.trans sm₅))
      have kk₅ : ∀ a o, a ≠ C → a ≠ I → s'.heap.get? a = some o → s₅.heap.get? a = some o := fun a o n1 n2 e => k₅' a o (kC a o n1 (kI a o n2 e))
      have hr₅ : RdAll W (C :: L :: I :: (fp ++ av)) s₅.heap vs (((as.take i).filter bq).map eq) := hr.move fun a o z e => ⟨z, kk₅ a o (fun q => z (q ▸ .head _)) (fun q => z (q ▸ .tail _ (.tail _ (.head _)))) e⟩
      have hl₅ := kk₅ _ _ neCL.symm neLI hl
      have htk : as.take (i + 1) = as.take i ++ [as[i]] := by rw [List.take_add_one, ha]; rfl
      cases hb : bq as[i] with
      | false =>
        simp only [Bool.false_eq_true, if_false]
        refine ⟨as.length + 1 - (i + 1), by omega, i + 1, hlt, rfl, smm, fun a o e => kk₅ a o (old a o e).1 (old a o e).2.1 (kS a o e), S₅.ns, WW.frame _ _ _ st₄ fun b _ o e => k₅' b o e, vs, k, hl₅, ?_⟩
        rw [htk, List.filter_append]
        simpa [hb] using hr₅
      | true =>
        simp only [if_true]
        refine wpAny_mono ((turn as[i] ham C).2 hb [C] (L :: I :: (fp ++ av)) A _ s₅ r S₅) (fun y s₆ q => ?_) fun _ _ x => x
        obtain ⟨sm₆, k₆, S₆, ry⟩ := q
        obtain ⟨m₅, hn₅⟩ := S₅.ns
        have k₆' := k₆.one hn₅
        have hz' : vs.toArray.size ≤ sizeLine := by
          have e1 := hr.length
          have e2 : (((as.take i).filter bq).map eq).length ≤ as.length := by
            rw [List.length_map]
            exact Nat.le_trans (List.length_filter_le _ _) (by rw [List.length_take]; omega)
          rw [sizeLine_eq]; simp; omega
        refine wpAny_list_append_plain (hsz := hz') ⟨k, k₆' _ _ hl₅⟩ fun h₇ hp hs => ?_
        obtain ⟨k₇, hp⟩ := hp
        rw [List.push_toArray] at hp
        have kL : ∀ a o, a ≠ L → s₆.heap.get? a = some o → h₇.get? a = some o := fun a o ne e => (hs.2 a ne).trans e
        refine ⟨as.length + 1 - (i + 1), by omega, i + 1, hlt, rfl, smm.trans (sm₆.trans ⟨_, _, rfl⟩), fun a o e => kL a o (old a o e).2.2 (k₆' a o (kk₅ a o (old a o e).1 (old a o e).2.1 (kS a o e))), ?_, ?_, vs ++ [y], k₇, hp, ?_⟩
        · obtain ⟨m₆, hn₆⟩ := S₆.ns
          exact ⟨m₆, hn₆.at' fun o e => kL _ o neCL e⟩
        · refine WW.frame _ _ _ st₄ fun b hb o e => kL b o (fun z => ?_) (k₆' b o (k₅' b o e))
          rcases hfq b hb with q | ⟨_, o', e'⟩
          · exact neLI (z ▸ q)
          · exact (old b o' e').2.2 z
        · rw [htk, List.filter_append, List.map_append]
          have a1 : RdAll W (C :: L :: I :: (fp ++ av)) h₇ vs (((as.take i).filter bq).map eq) := hr₅.move fun a o z e => ⟨z, kL a o (fun q => z (q ▸ .tail _ (.head _))) (k₆' a o e)⟩
          refine a1.append ?_
          simp only [List.filter_cons, hb, if_true, List.filter_nil, List.map_cons, List.map_nil]
          exact .cons (ry.move fun a o z e => ⟨z, kL a o (fun q => z (q ▸ .tail _ (.head _))) e⟩) .nil
    · have hi' : i = as.length := by omega
      subst hi'
      rw [← hlen] at st
      refine WW.done s' _ _ st fun h₂ tk hk₂ => ?_
      dsimp only
      have kI : ∀ a o, a ≠ I → s'.heap.get? a = some o → h₂.get? a = some o := fun a o ne e => hk₂ a o (by simpa using ne) e
      refine fin C L _ ⟨sm.trans ⟨_, _, rfl⟩, fun a o e => kI a o (old a o e).2.1 (kS a o e), hCs, hLs, neCL, ⟨m, hn.at' fun o e => kI _ o neCI e⟩, vs, k, kI _ _ neLI hl, ?_⟩
      rw [List.take_length] at hr
      exact hr.move fun a o z e => ⟨fun q => z (by
        rcases List.mem_cons.mp q with q | q
        · exact q ▸ .head _
        · rcases List.mem_cons.mp q with q | q
          · exact q ▸ .tail _ (.head _)
          · exact .tail _ (.tail _ (.tail _ q))), kI a o (fun q => z (q ▸ .tail _ (.tail _ (.head _)))) e⟩
  exact codeAny_compStart_list (loop _ rfl) (WW.self 0 _ _ _ hst₁ (loop _ rfl))

theorem St.both {a c : Addr} {o oc : Obj} (S : St W env fp av G h) (k : Keep h h') (hn : h.get? a = Option.none) (ha : h'.get? a = some o) (hnc : h.get? c = Option.none) (hc : h'.get? c = some oc) (ne : c ≠ a) : St W env (a :: fp) (c :: av) G h' where
  ok := S.ok
  base := (S.join k hn ha).base
  live := fun b m => by
    rcases List.mem_append.mp m with m | m
    · exact (S.join k hn ha).live b (List.mem_append_left _ m)
    · rcases List.mem_cons.mp m with rfl | m
      · exact ⟨_, hc⟩
      · exact (S.join k hn ha).live b (List.mem_append_right _ m)
  loc := List.mem_cons_of_mem _ S.loc
  ns := (S.join k hn ha).ns
  cel := fun x e he => by
    obtain ⟨p, q, r⟩ := (S.join k hn ha).cel x e he
    refine ⟨?_, q, r⟩
    rcases List.mem_append.mp p with p | p
    · exact List.mem_append_left _ p
    · exact List.mem_append_right _ (List.mem_cons_of_mem _ p)
  apart := S.apart
  bd := fun x b e => by
    obtain ⟨v, q, r⟩ := S.bd x b e
    refine ⟨v, q.move (fun o => k _ o) (fun c o _ => k c o), ?_⟩
    have mv : ∀ b o, b ∉ fp ++ av → h.get? b = some o → b ∉ (a :: fp) ++ (c :: av) ∧ h'.get? b = some o := fun b o m e => by
      have n1 : b ≠ a := fun z => by rw [z, hn] at e; cases e
      have n2 : b ≠ c := fun z => by rw [z, hnc] at e; cases e
      refine ⟨fun z => ?_, k b o e⟩
      rcases List.mem_append.mp z with z | z
      · exact (List.mem_cons.mp z).elim n1 fun z => m (List.mem_append_left _ z)
      · exact (List.mem_cons.mp z).elim n2 fun z => m (List.mem_append_right _ z)
    cases b with
    | fz d => exact Rd.move mv r
    | own ds pin =>
      obtain ⟨a', vs, n, e, m, g, q⟩ := r
      have n2 : a' ≠ c := fun z => by rw [z, hnc] at g; cases g
      exact ⟨a', vs, n, e, ⟨List.mem_cons_of_mem _ m.1, fun z => (List.mem_cons.mp z).elim n2 m.2⟩, k _ _ g, q.move mv⟩
  odis := (S.join k hn ha).odis

theorem CompEnd.out {s s' : Shared} {C L : Addr} {es : List D} (c : CompEnd W fp av s s' C L es) {h' : Heap} (hs : Heap.SameBut C s'.heap h') :
    Keep s.heap h' ∧ ∃ vs k, h'.get? L = some (listOf vs.toArray k) ∧ RdAll W (L :: (fp ++ av)) h' vs es := by
  obtain ⟨vs, k, hl, hr⟩ := c.lst
  refine ⟨fun a o e => (hs.2 a fun z => ?_).trans (c.keep a o e), vs, k, (hs.2 L c.ne.symm).trans hl, hr.move fun a o z e => ⟨fun q => z (.tail _ q), (hs.2 a fun q => z (q ▸ .head _)).trans e⟩⟩
  rw [z, c.nC] at e; cases e

section
variable {α : Type} {x : PySem.Str} {np pos cpos : Pos} {elt iter : Expr} {ifs : List Expr} {scope : Scope} {cl : List (PySem.Str × Addr)} {d : D} (as : List α) (mk : α → D) (bq : α → Bool) (eq : α → D) (Gc : Ga)

/-- what a comprehension's text and frame must show -/
structure CompOk (env : Env) (G : Ga) (scope : Scope) (cl : List (PySem.Str × Addr)) (x : PySem.Str) (iter : Expr) (Gc : Ga) : Prop where
  fold : ∀ x, foldedSetIterable iter env x = pure x
  clos : closureFor scope env = pure cl
  sub : ∀ y c, cl.lookup y = some c → env.cells.lookup y = some c
  cell : (scope.names.all fun y => y.2 != .cell) = true
  kind : scope.kind = .function
  names : (scope.names.all fun y => y.2 != .local || scope.names.lookup y.1 == some .local) = true
  var : scope.names.lookup x = some .local
  gc : ∀ y b, Gc.lookup y = some b → y ≠ x ∧ (∃ d, b = .fz d) ∧ G.lookup y = some b ∧ env.kindOf y = some .cell ∧ (relabel scope env).names.lookup y = some .cell ∧ ∃ c, cl.lookup y = some c

theorem EvO.comp (v : Ev W n env G iter G₁ d) (it : Itr W n d (as.map mk)) (hz : as.length ≤ 10000) (ok : CompOk env G₁ scope cl x iter Gc)
    (turn : ∀ a ∈ as, ∀ C, Ifs W n (compEnvC scope cl C env) ((x, .fz (mk a)) :: Gc) ifs (bq a) ∧ (bq a = true → Ev W n (compEnvC scope cl C env) ((x, .fz (mk a)) :: Gc) elt ((x, .fz (mk a)) :: Gc) (eq a))) :
    EvO W n env G (eval (.ListComp elt [⟨.Name x np, iter, ifs, 0⟩] scope cpos) env) G₁ ((as.filter bq).map eq) := fun fp av A E s r S => by
  rw [eval_ListComp]
  refine wpAny_comprehension_free (use := Option.none) rfl ok.fold ok.clos ok.kind (fun y hy hl => by simpa [hl] using List.all_eq_true.mp ok.names y hy) (wpAny_mono (v fp av A E s r S) (fun w s₁ q => ?_) fun _ _ x => x)
  obtain ⟨sm, k, S₁, rw'⟩ := q
  refine comp_run as mk bq eq Gc it hz ok.clos ok.sub ok.cell ok.kind ok.names ok.var ok.gc turn r S₁ rw' fun C L s' ce => ?_
  obtain ⟨m, hn⟩ := ce.ns
  refine ⟨m, hn, fun h' hs => ?_⟩
  obtain ⟨kp, vs, j, hl, hr⟩ := ce.out hs
  refine ⟨sm.trans (ce.sm.trans ⟨_, _, rfl⟩), k.trans (.of_keep kp), S₁.keep kp, L, vs, j, rfl, ?_, hl, hr, S₁.join kp ce.nL hl⟩
  cases e : s.heap.get? L with
  | none => rfl
  | some o => obtain ⟨o', e', _⟩ := k L o e; rw [ce.nL] at e'; cases e'

/-- a comprehension bound to a local name of its own row -/
theorem Exs.assignComp {y : PySem.Str} {py spos : Pos} {rest : List Stmt} {R : Post} (v : Ev W n env G iter G₁ d) (it : Itr W n d (as.map mk)) (hz : as.length ≤ 10000) (ok : CompOk env G₁ scope cl x iter Gc)
    (turn : ∀ a ∈ as, ∀ C, Ifs W n (compEnvC scope cl C env) ((x, .fz (mk a)) :: Gc) ifs (bq a) ∧ (bq a = true → Ev W n (compEnvC scope cl C env) ((x, .fz (mk a)) :: Gc) elt ((x, .fz (mk a)) :: Gc) (eq a)))
    (hy : env.kindOf y = some .local) (z : Exs W n env ((y, .own ((as.filter bq).map eq)) :: G₁) rest R)
    (hsw : swapsWith (.ListComp elt [⟨.Name x np, iter, ifs, 0⟩] scope cpos) (some (.Name y py)) spos.line env = pure true := by rfl) :
    Exs W n env G (.Assign [.Name y py] (.ListComp elt [⟨.Name x np, iter, ifs, 0⟩] scope cpos) spos :: rest) R := Exs.cons (fun fp av A E s r S => by
  rw [exec_Assign_Name_used _ _ _ _ hsw]
  refine wpAny_bind (wpAny_standAt (wpAny_bind ?_))
  show wpAny _ A (do let _ ← comprehension (.ListComp elt [⟨.Name x np, iter, ifs, 0⟩] scope cpos) scope env _ (newList []) false (eval iter env) (some (PySem.assign (.Name y py) env))) _ _ s
  let PP : Shared → Prop := fun s' => Same s s' ∧ KB fp s.heap s'.heap ∧ ∃ fp', (∀ a ∈ fp', a ∈ fp ∨ s.heap.get? a = Option.none) ∧ Flow.next = Flow.next ∧ St W env fp' av ((y, .own ((as.filter bq).map eq)) :: G₁) s'.heap
  refine wpAny_bind (wpAny_mono (wpAny_comprehension_free (use := some (PySem.assign (.Name y py) env)) (Q := fun _ s' => PP s') rfl ok.fold ok.clos ok.kind (fun y hy hl => by simpa [hl] using List.all_eq_true.mp ok.names y hy)
    (wpAny_mono (v fp av A E s r S) (fun w s₁ q => ?_) fun _ _ x => x)) (fun _ s' hq => wpAny_pure (wpAny_pure hq)) fun _ _ e => e)
  obtain ⟨sm, k, S₁, rw'⟩ := q
  refine comp_run as mk bq eq Gc it hz ok.clos ok.sub ok.cell ok.kind ok.names ok.var ok.gc turn r S₁ rw' fun C L s' ce => ?_
  show wpAny _ A (PySem.assign (.Name y py) env (.ref L)) _ _ _
  obtain ⟨mC, hnC⟩ := ce.ns
  obtain ⟨vs, j, hl, hr⟩ := ce.lst
  have oC : ∃ o, s'.heap.get? C = some o := let ⟨o, _, _, e, _⟩ := hnC; ⟨o, e⟩
  obtain ⟨oC, hoC⟩ := oC
  have S₂ : St W env (L :: fp) (C :: av) G₁ s'.heap := S₁.both ce.keep ce.nL hl ce.nC hoC ce.ne
  obtain ⟨m, hns⟩ := S₂.ns
  have hLav : L ∉ fp ++ av := fun q => by
    obtain ⟨o, e⟩ := S₁.live L q
    rw [ce.nL] at e; cases e
  have hCav : C ∉ fp ++ av := fun q => by
    obtain ⟨o, e⟩ := S₁.live C q
    rw [ce.nC] at e; cases e
  refine wpAny_assign_Name (wpAny_storeName_local hy hns (fun h₂ hn₂ hs₂ => ?_) (by rw [S.ok.kind]; rfl))
  have S₃ : St W env (L :: fp) (C :: av) ((y, .own ((as.filter bq).map eq)) :: G₁) h₂ := S₂.setL hy hns hn₂ hs₂ ⟨L, vs, j, rfl, ⟨.head _, fun q => (List.mem_cons.mp q).elim ce.ne.symm fun q => hLav (List.mem_append_right _ q)⟩, hl, .of <| hr.shrink fun a q => by
      rcases List.mem_append.mp q with q | q
      · exact (List.mem_cons.mp q).elim (fun q => q ▸ .tail _ (.head _)) fun q => .tail _ (.tail _ (List.mem_append_left _ q))
      · exact (List.mem_cons.mp q).elim (fun q => q ▸ .head _) fun q => .tail _ (.tail _ (List.mem_append_right _ q))⟩ fun ds z es _ ez sz => by
    obtain ⟨v', sz', a', us, j', e', hf', _⟩ := S₁.bd z _ ez
    have := (sz'.move (fun o => ce.keep _ o) (fun c o _ => ce.keep c o)).uniq sz
    rw [this] at e'
    cases e'
    exact hLav (List.mem_append_left _ hf'.1)
  have neLC : env.locals ≠ C := fun q => hCav (q ▸ List.mem_append_left _ S₁.loc)
  refine ⟨mC, hnC.at' fun o e => (hs₂.2 C neLC.symm).trans e, fun h₃ hs₃ => ?_⟩
  have kk : KB fp s₁.heap h₃ := fun a o e => by
    have n1 : a ≠ C := fun q => by rw [q, ce.nC] at e; cases e
    by_cases q : a = env.locals
    · obtain ⟨o', _, _, e', _⟩ := hn₂
      exact ⟨o', by rw [hs₃.2 a n1, q]; exact e', fun z => absurd (q ▸ S₁.loc) z⟩
    · exact ⟨o, (hs₃.2 a n1).trans ((hs₂.2 a q).trans (ce.keep a o e)), fun _ => rfl⟩
  refine ⟨sm.trans (ce.sm.trans ⟨_, _, rfl⟩), k.kb.trans kk, L :: fp, fun a q => ?_, rfl, ?_⟩
  · rcases List.mem_cons.mp q with rfl | q
    · right
      cases e : s.heap.get? a with
      | none => rfl
      | some o => obtain ⟨o', e', _⟩ := k a o e; rw [ce.nL] at e'; cases e'
    · exact .inl q
  · refine S₃.offI (fun q => (List.mem_cons.mp q).elim ce.ne fun q => hCav (List.mem_append_left _ q)) (fun z c e q => hCav (q ▸ (S₁.cel z c e).1)) ?_ (fun b o ne e => (hs₃.2 b ne).trans e) (fun a q => .tail _ q) (fun a q => q) fun q => absurd (List.mem_append_right _ q) hCav
    cases e : W.H.get? C with
    | none => rfl
    | some o => have := (S₁.base C o e).1; rw [ce.nC] at this; cases this) z
end
end
end Mine

/-! M7 -/
namespace Mine

theorem bindL_other {kindOf : PySem.Str → Option NameKind} {x : PySem.Str} : ∀ (binds : List (PySem.Str × Value)) (m : PySem.Str → Option Value), x ∉ binds.map (·.1) → bindL kindOf binds m x = m x
  | [], m, _ => rfl
  | (k, v) :: r, m, h => by
    have h1 : x ≠ k := fun e => h (by simp [e])
    have h2 : x ∉ r.map (·.1) := fun e => h (by simp at e ⊢; exact .inr e)
    unfold bindL
    rw [bindL_other r _ h2]
    split
    · simp [h1]
    · rfl
theorem bindC_other {kindOf : PySem.Str → Option NameKind} {x : PySem.Str} : ∀ (binds : List (PySem.Str × Value)) (m : PySem.Str → Option Value), x ∉ binds.map (·.1) → bindC kindOf binds m x = m x
  | [], m, _ => rfl
  | (k, v) :: r, m, h => by
    have h1 : x ≠ k := fun e => h (by simp [e])
    have h2 : x ∉ r.map (·.1) := fun e => h (by simp at e ⊢; exact .inr e)
    unfold bindC
    rw [bindC_other r _ h2]
    split
    · rfl
    · simp [h1]
theorem bindL_at {kindOf : PySem.Str → Option NameKind} {x : PySem.Str} {v : Value} : ∀ (binds : List (PySem.Str × Value)) (m : PySem.Str → Option Value), (binds.map (·.1)).Nodup → binds.lookup x = some v → kindOf x = some .local → bindL kindOf binds m x = some v
  | (k, w) :: r, m, nd, h, hk => by
    rw [List.map_cons, List.nodup_cons] at nd
    rw [List.lookup_cons] at h
    unfold bindL
    by_cases e : x = k
    · subst e
      simp at h; subst h
      rw [bindL_other r _ nd.1, if_pos hk]; simp
    · rw [beq_false_of_ne e] at h
      exact bindL_at r _ nd.2 h hk
theorem bindC_at {kindOf : PySem.Str → Option NameKind} {x : PySem.Str} {v : Value} : ∀ (binds : List (PySem.Str × Value)) (m : PySem.Str → Option Value), (binds.map (·.1)).Nodup → binds.lookup x = some v → kindOf x ≠ some .local → bindC kindOf binds m x = some v
  | (k, w) :: r, m, nd, h, hk => by
    rw [List.map_cons, List.nodup_cons] at nd
    rw [List.lookup_cons] at h
    unfold bindC
    by_cases e : x = k
    · subst e
      simp at h; subst h
      rw [bindC_other r _ nd.1, if_neg hk]; simp
    · rw [beq_false_of_ne e] at h
      exact bindC_at r _ nd.2 h hk

/-- the parameters' bindings -/
abbrev pars (names : List PySem.Str) (ds : List D) : Ga := names.zip (ds.map B.fz)

section
variable {W : Wr} {n : Nat} {env : Env} {mu : List Addr} {h : Heap}
theorem pars_at {x : PySem.Str} {b : B} : ∀ {names : List PySem.Str} {vs : List Value} {ds : List D}, RdAll W mu h vs ds → (pars names ds).lookup x = some b → ∃ v d, b = .fz d ∧ (names.zip vs).lookup x = some v ∧ Rd W mu h v d
  | [], _, _, _, e => by simp [pars] at e
  | _ :: _, _, _, .nil, e => by simp [pars] at e
  | k :: names, v :: vs, d :: ds, .cons r rs, e => by
    simp only [pars, List.map_cons, List.zip_cons_cons, List.lookup_cons] at e ⊢
    cases hx : x == k with
    | true => rw [hx] at e; simp at e; exact ⟨v, d, e.symm, rfl, r⟩
    | false => rw [hx] at e; exact pars_at rs e

/-- a def as it stands -/
structure Fun (W : Wr) (fa : Addr) (fd : FuncData) (body : List Stmt) : Prop where
  at_ : ∃ o, W.H.get? fa = some o ∧ o.data = .func fd
  cd : W.H.CodeRec fd.code fd.qualname
  body : fd.body = .stmts body
  clo : fd.closure = []
  glob : fd.globals = mainGlobals
  blt : fd.builtins = builtinsNs
  co : fd.scope.isCoroutine = false
  gen : fd.scope.isGenerator = false
  kind : fd.scope.kind = .function
  cnd : ((cellsFrom 0 fd.scope.names []).map (·.1)).Nodup
theorem Fun.cee {fa : Addr} {fd : FuncData} {body : List Stmt} (F : Fun W fa fd body) : Cee W (.ref fa) := let ⟨_, a, b⟩ := F.at_; Cee.fn a b

/-- how a call's arguments fall to the names -/
structure Par (W : Wr) (fd : FuncData) (k : Nat) (names : List PySem.Str) (dv : List Value) (dd : List D) : Prop where
  bind : ∀ (s : Shared) (vs : List Value), Keep W.H s.heap → vs.length = k → BindsTo s fd ⟨vs, []⟩ (names.zip (vs ++ dv))
  dflt : ∀ mu h, RdAll W mu h dv dd
  nodup : names.Nodup
  kinds : (names.all fun y => fd.scope.names.lookup y == some .local || fd.scope.names.lookup y == some .cell) = true

theorem mem_zip_fst {α β : Type} {x : α × β} : ∀ {l : List α} {r : List β}, x ∈ l.zip r → x.1 ∈ l := fun h => (List.of_mem_zip h).1
theorem nodup_zip {α β : Type} : ∀ {l : List α} {r : List β}, l.Nodup → ((l.zip r).map (·.1)).Nodup
  | [], _, _ => by simp
  | _ :: _, [], _ => by simp
  | a :: l, b :: r, h => by
    rw [List.nodup_cons] at h
    simp only [List.zip_cons_cons, List.map_cons, List.nodup_cons]
    refine ⟨fun m => h.1 ?_, nodup_zip h.2⟩
    obtain ⟨p, hp, e⟩ := List.mem_map.mp m
    exact e ▸ mem_zip_fst hp

/-- entering a def -/
theorem enter {fa : Addr} {fd : FuncData} {body : List Stmt} {k : Nat} {names : List PySem.Str} {dv : List Value} {dd ds : List D} (F : Fun W fa fd body) (P : Par W fd k names dv dd) {R : Post}
    (h : ∀ L, Exs W n (callEnvC fd L fa) (pars names (ds ++ dd)) body R) {s : Shared} {vs : List Value} (w : Wd W mu s.heap) (r : RdAll W mu s.heap vs ds) (hk : ds.length = k) {A : Around} {E : Value → Shared → Prop} (Rm : Room (n + 1) A) {Q : Value → Shared → Prop}
    (fin : ∀ (f : Flow) (s' : Shared) (fp : List Addr), Same s s' → Keep s.heap s'.heap → (∀ a ∈ fp, s.heap.get? a = Option.none) → R f fp mu s'.heap → Q (match f with | .ret v => v | _ => .none) s') :
    wpAny (Mo W) A (call (.ref fa) vs) Q E s := by
  obtain ⟨o, ho, hdata⟩ := F.at_
  have hb : ((names.zip (vs ++ dv)).all fun y => fd.scope.names.lookup y.1 == some .local || fd.scope.names.lookup y.1 == some .cell) = true := by
    rw [List.all_eq_true]
    exact fun y hy => List.all_eq_true.mp P.kinds y.1 (mem_zip_fst hy)
  refine wpAny_call (codeAny_call_function Rm.depth (w.1 _ _ ho) hdata F.co F.gen F.body (F.cd.keeps w.1) ((P.bind s vs w.1 (by rw [r.length, hk])) _ _ _ _ ?_))
  rw [F.clo]
  refine wpAny_newFunctionEnv_cells F.kind (kindsX hb _) fun env he s' x => ?_
  subst he
  refine ⟨w.nolimit.keeps x.toInCall.keep, codeAny_func ?_⟩
  obtain ⟨h₁, tk, rfl⟩ := x.toInCall.same
  have sz : ∀ a o, s.heap.get? a = some o → a < s.heap.objs.size := fun a o e => Heap.lt_size e
  have fresh : ∀ a, s.heap.objs.size ≤ a → s.heap.get? a = none := fun a ha => by
    cases e : s.heap.get? a with
    | none => rfl
    | some o' => exact absurd (Heap.lt_size e) (Nat.not_lt.mpr ha)
  have kp := x.toInCall.keep
  have hL : ∃ o, h₁.get? s.heap.objs.size = some o := let ⟨o, _, _, e, _⟩ := x.toInCall.ns; ⟨o, e⟩
  have r₁ : RdAll W (s.heap.objs.size :: (cellsFrom (s.heap.objs.size + 1) fd.scope.names []).map (·.2) ++ mu) h₁ (vs ++ dv) (ds ++ dd) := (RdAll.append (r.move fun a o m e => ⟨fun q => by
    rcases List.mem_append.mp q with q | q
    · rcases List.mem_cons.mp q with q | q
      · exact absurd (sz a o e) (q ▸ Nat.lt_irrefl _)
      · obtain ⟨p, hp, rfl⟩ := List.mem_map.mp q
        have := x.above p.1 p.2 hp
        exact absurd (Nat.lt_trans (sz _ o e) this) (Nat.lt_irrefl _)
    · exact m q, kp a o e⟩) (P.dflt _ _))
  have S : St W (callEnvC fd s.heap.objs.size fa) (s.heap.objs.size :: (cellsFrom (s.heap.objs.size + 1) fd.scope.names []).map (·.2)) mu (pars names (ds ++ dd)) h₁ := {
    ok := ⟨F.kind, F.glob, F.blt⟩
    base := fun a o e => by
      refine ⟨kp a o (w.1 a o e), fun q => ?_⟩
      have lt := sz a o (w.1 a o e)
      rcases List.mem_cons.mp q with q | q
      · exact absurd lt (q ▸ Nat.lt_irrefl _)
      · obtain ⟨p, hp, rfl⟩ := List.mem_map.mp q
        exact absurd (Nat.lt_trans lt (x.above p.1 p.2 hp)) (Nat.lt_irrefl _)
    live := fun a q => by
      rcases List.mem_append.mp q with q | q
      · rcases List.mem_cons.mp q with q | q
        · exact q ▸ hL
        · obtain ⟨p, hp, rfl⟩ := List.mem_map.mp q
          obtain ⟨o, e, _⟩ := x.cell p.1 p.2 (lookup_of_mem_nodup (cellsFrom_names fd.scope.names 0 (s.heap.objs.size + 1) [] [] rfl ▸ F.cnd) hp)
          exact ⟨o, e⟩
      · obtain ⟨o, e⟩ := w.2 a q; exact ⟨o, kp a o e⟩
    loc := .head _
    ns := ⟨_, x.toInCall.ns⟩
    cel := fun y c e => by
      have m := List.mem_map_of_mem (f := (·.2)) (mem_of_lookup e)
      exact ⟨List.mem_append_left _ (.tail _ m), fun _ => .tail _ m, _, x.cell y c e⟩
    apart := fun y z c e e' => name_of_addr x.apart (mem_of_lookup e) (mem_of_lookup e')
    bd := fun y b e => by
      obtain ⟨v, d, rfl, hv, rd⟩ := pars_at r₁ e
      refine ⟨v, ?_, rd⟩
      have nd : ((names.zip (vs ++ dv)).map (·.1)).Nodup := nodup_zip P.nodup
      have hm := mem_of_lookup hv
      rcases kindsX hb (s.heap.objs.size + 1) _ hm with q | ⟨q, qc⟩
      · exact .inl ⟨q, _, x.toInCall.ns, bindL_at _ _ nd hv q⟩
      · obtain ⟨c, hc⟩ := Option.isSome_iff_exists.mp qc
        have := x.cell y c hc
        rw [bindC_at _ _ nd hv (fun z => by have z' := Eq.trans (Eq.symm q) z; cases z')] at this
        exact .inr ⟨.inl q, c, hc, this⟩
    odis := fun y z ds es a ey _ _ _ => by
      obtain ⟨v, d, q, _⟩ := pars_at r₁ ey
      cases q }
  refine wpAny_mono (h s.heap.objs.size _ mu _ _ { s with heap := h₁, toks := tk } (Rm.deeper _) S) (fun f s₂ q => ?_) fun _ _ x => x
  obtain ⟨sm, k, fp, g, q⟩ := q
  have nfp : ∀ a ∈ s.heap.objs.size :: (cellsFrom (s.heap.objs.size + 1) fd.scope.names []).map (·.2), s.heap.get? a = none := fun a m => by
    rcases List.mem_cons.mp m with m | m
    · exact m ▸ fresh _ (Nat.le_refl _)
    · obtain ⟨p, hp, rfl⟩ := List.mem_map.mp m
      exact fresh _ (Nat.le_of_lt (x.above p.1 p.2 hp))
  refine fin f s₂ fp (Same.trans ⟨_, _, rfl⟩ sm) (fun a o e => ?_) (fun a m => ?_) q
  · obtain ⟨o', e', z⟩ := k a o (kp a o e)
    rw [z fun m => by rw [nfp a m] at e; cases e] at e'
    exact e'
  · rcases g a m with z | z
    · exact nfp a z
    · cases e : s.heap.get? a with
      | none => rfl
      | some o =>
        have := kp a o e
        rw [show h₁.get? a = none from z] at this; cases this

theorem Cal.of_def {fa : Addr} {fd : FuncData} {body : List Stmt} {k : Nat} {names : List PySem.Str} {dv : List Value} {dd ds : List D} {d : D} (F : Fun W fa fd body) (P : Par W fd k names dv dd)
    (h : ∀ L, Exs W n (callEnvC fd L fa) (pars names (ds ++ dd)) body (Rt W d)) (hk : ds.length = k := by rfl) : Cal W (n + 1) (.ref fa) ds d := fun mu s vs w r A E Rm =>
  enter F P h w r hk Rm fun f s' fp sm kp nf q => by
    obtain ⟨v, rfl, rd⟩ := q
    exact ⟨sm, kp, rd.shrink fun a m => List.mem_append_right _ m⟩
theorem CalO.of_def {fa : Addr} {fd : FuncData} {body : List Stmt} {k : Nat} {names : List PySem.Str} {dv : List Value} {dd ds es : List D} (F : Fun W fa fd body) (P : Par W fd k names dv dd)
    (h : ∀ L, Exs W n (callEnvC fd L fa) (pars names (ds ++ dd)) body (RtO W es)) (hk : ds.length = k := by rfl) : CalO W (n + 1) (.ref fa) ds es := fun mu s vs w r A E Rm =>
  enter F P h w r hk Rm fun f s' fp sm kp nf q => by
    obtain ⟨a, us, j, rfl, hfp, hmu, hg, rd⟩ := q
    refine ⟨sm, kp, a, us, j, rfl, nf a hfp, hg, rd.shrink fun b m => ?_⟩
    rcases List.mem_cons.mp m with m | m
    · exact m ▸ List.mem_append_left _ hfp
    · exact List.mem_append_right _ m
end
end Mine

/-! M8 -/
namespace Mine

section
variable {W : Wr} {n : Nat} {mu : List Addr}

abbrev OpOut (W : Wr) (mu : List Addr) (s : Shared) (d : D) (v : Value) (s' : Shared) : Prop := Same s s' ∧ Keep s.heap s'.heap ∧ Rd W mu s'.heap v d
theorem out_int {s : Shared} (i : Int) (t k : Nat) : OpOut W mu s (.int i) (.int i t) { s with toks := k } := ⟨⟨_, _, rfl⟩, fun _ _ e => e, .int _ _⟩
theorem out_intH {s : Shared} {h' : Heap} (i : Int) (t k : Nat) (kp : Keep s.heap h') : OpOut W mu s (.int i) (.int i t) { s with heap := h', toks := k } := ⟨⟨_, _, rfl⟩, kp, .int _ _⟩
theorem out_bool {s : Shared} (b : Bool) : OpOut W mu s (.bool b) (.bool b) s := ⟨Same.refl _, fun _ _ e => e, .bool _⟩
theorem out_str {s : Shared} (x : PySem.Str) (t k : Nat) : OpOut W mu s (.str x) (.str x t) { s with toks := k } := ⟨⟨_, _, rfl⟩, fun _ _ e => e, .str _ _⟩

/-! ints -/
theorem Bin.addI {a b : Int} : Bin W n .Add (.int a) (.int b) (.int (a + b)) := fun mu s v w wd r q A E R => by
  cases r; cases q; exact add_int (out_int _ _ _)
theorem Bin.subI {a b : Int} : Bin W n .Sub (.int a) (.int b) (.int (a - b)) := fun mu s v w wd r q A E R => by
  cases r; cases q; exact sub_int (out_int _ _ _)
theorem intBits_le {a : Int} (h : -9223372036854775808 < a ∧ a < 9223372036854775808) : Builtin.Int.intBits a ≤ 64 := by
  unfold Builtin.Int.intBits
  split
  · omega
  · rename_i hz
    have hz' : a ≠ 0 := by simpa using hz
    have h2 : a.natAbs < 2 ^ 63 := by omega
    have : a.natAbs.log2 < 63 := (Nat.log2_lt (by omega)).mpr h2
    omega
theorem Bin.mulI {a b : Int} (hb : (-9223372036854775808 < a ∧ a < 9223372036854775808) ∨ (-9223372036854775808 < b ∧ b < 9223372036854775808)) : Bin W n .Mult (.int a) (.int b) (.int (a * b)) := fun mu s v w wd r q A E R => by
  cases r; cases q
  exact mul_int (out_int _ _ _) (hb.elim (fun h => IntMulOk.of_left (intBits_le h)) fun h => IntMulOk.of_right (intBits_le h))
theorem Bin.modI {a b : Int} (hb : b ≠ 0) : Bin W n .Mod (.int a) (.int b) (.int (a.fmod b)) := fun mu s v w wd r q A E R => by
  cases r; cases q; exact mod_int hb (out_int _ _ _)
theorem Bin.divI {a b : Int} (hb : b ≠ 0) (hs : b.natAbs < 1073741824) : Bin W n .FloorDiv (.int a) (.int b) (.int (a.fdiv b)) := fun mu s v w wd r q A E R => by
  cases r; cases q
  exact floordiv_int hb (out_int _ _ _) (Or.inl (PyProof.noPylong_small (by omega)))
theorem Bin.powI {a k : Int} (hk : 0 ≤ k) (hz : (Builtin.Int.intBits a : Int) * k ≤ 2 ^ 27) : Bin W n .Pow (.int a) (.int k) (.int (a ^ k.toNat)) := fun mu s v w wd r q A E R => by
  cases r; cases q; exact pow_int hk hz (out_int _ _ _)
theorem Cmp.eqI {a b : Int} : Cmp W n .Eq (.int a) (.int b) (decide (a = b)) := fun mu s v w wd r q A E R => by
  cases r; cases q; exact eq_int (by rw [show (a == b) = decide (a = b) from by by_cases h : a = b <;> simp [h]]; exact out_bool _)
theorem Cmp.neI {a b : Int} : Cmp W n .NotEq (.int a) (.int b) (decide (a ≠ b)) := fun mu s v w wd r q A E R => by
  cases r; cases q; exact ne_int (by rw [show (a != b) = decide (a ≠ b) from by by_cases h : a = b <;> simp [h]]; exact out_bool _)
theorem Cmp.ltI {a b : Int} : Cmp W n .Lt (.int a) (.int b) (decide (a < b)) := fun mu s v w wd r q A E R => by
  cases r; cases q; exact lt_int (out_bool _)
theorem Cmp.leI {a b : Int} : Cmp W n .LtE (.int a) (.int b) (decide (a ≤ b)) := fun mu s v w wd r q A E R => by
  cases r; cases q; exact le_int (out_bool _)
theorem Cmp.gtI {a b : Int} : Cmp W n .Gt (.int a) (.int b) (decide (b < a)) := fun mu s v w wd r q A E R => by
  cases r; cases q; exact gt_int (out_bool _)
theorem Cmp.geI {a b : Int} : Cmp W n .GtE (.int a) (.int b) (decide (b ≤ a)) := fun mu s v w wd r q A E R => by
  cases r; cases q; exact ge_int (out_bool _)
theorem Una.negI {a : Int} : Una W n .USub (.int a) (.int (-a)) := fun mu s v wd r A E R => by
  cases r; exact neg_int (out_int _ _ _)
theorem Cal.absI {a : Int} : Cal W n (.builtin "abs") [.int a] (.int (if a < 0 then -a else a)) := fun mu s vs wd r A E R => by
  cases r with
  | cons r rs => cases r; cases rs; exact call_abs_int fun u tk => out_int _ _ _
theorem Cal.maxI {a b : Int} : Cal W n (.builtin "max") [.int a, .int b] (.int (max a b)) := fun mu s vs wd r A E R => by
  cases r with
  | cons r rs =>
    cases r
    cases rs with
    | cons r rs =>
      cases r; cases rs
      refine max_two_ints R.1 fun h' tk k => ?_
      by_cases c : b > a
      · rw [if_pos c, show max a b = b by omega]; exact out_intH _ _ _ k
      · rw [if_neg c, show max a b = a by omega]; exact out_intH _ _ _ k

/-! none -/
theorem Rd.notNone {h : Heap} {v : Value} {d : D} (r : Rd W mu h v d) (hd : d ≠ .none) (hf : ∀ f, d ≠ .fn f) : v ≠ Value.none := by
  cases r <;> first | exact absurd rfl hd | exact absurd rfl (hf _) | (intro e; cases e)
theorem Cmp.isNone : Cmp W n .Is .none .none true := fun mu s v w wd r q A E R => by
  cases r; cases q; exact is_none (out_bool _)
/-- neither None nor a function -/
def isVal : D → Bool
  | .none => false
  | .fn _ => false
  | _ => true
theorem isVal_ne {d : D} (h : isVal d = true) : d ≠ .none ∧ ∀ f, d ≠ .fn f := ⟨fun e => (by rw [e] at h; cases h), fun f e => (by rw [e] at h; cases h)⟩
theorem Cmp.isNot {d : D} (h : isVal d = true := by rfl) : Cmp W n .Is d .none false := fun mu s v w wd r q A E R => by
  obtain ⟨hd, hf⟩ := isVal_ne h
  cases q
  refine is_none ?_
  rw [show (v == Value.none) = false from beq_false_of_ne (r.notNone hd hf)]
  exact out_bool _
theorem Cmp.notNone : Cmp W n .IsNot .none .none false := fun mu s v w wd r q A E R => by
  cases r; cases q; exact isNot_none (out_bool _)
theorem Cmp.notNot {d : D} (h : isVal d = true := by rfl) : Cmp W n .IsNot d .none true := fun mu s v w wd r q A E R => by
  obtain ⟨hd, hf⟩ := isVal_ne h
  cases q
  refine isNot_none ?_
  rw [show (v == Value.none) = false from beq_false_of_ne (r.notNone hd hf)]
  exact out_bool _

/-! texts, as lists of signs -/
abbrev Tx := List Nat
def T (l : Tx) : D := .str ⟨l.toArray⟩
theorem T_inj {a b : Tx} (h : T a = T b) : a = b := by
  unfold T at h; injection h with h; injection h with h; simpa using congrArg Array.toList h
theorem str_T (x : PySem.Str) : D.str x = T x.cps.toList := by unfold T; simp
theorem Ev.lit {env : Env} {G : Ga} {x : PySem.Str} {k : Nat} {pos : Pos} {l : Tx} (h : x.cps.toList = l := by decide +kernel) : Ev W n env G (.Constant (.str x) k pos) G (T l) := by
  subst h; rw [← str_T]; exact Ev.str
theorem out_T {s : Shared} {l : Tx} {x : PySem.Str} (t k : Nat) (h : x.cps.toList = l) : OpOut W mu s (T l) (.str x t) { s with toks := k } := by
  subst h; rw [← str_T]; exact out_str _ _ _
theorem rd_T {h : Heap} {v : Value} {l : Tx} (r : Rd W mu h v (T l)) : ∃ t, v = .str ⟨l.toArray⟩ t := by
  unfold T at r; cases r; exact ⟨_, rfl⟩
theorem len_T (l : Tx) : (⟨l.toArray⟩ : PySem.Str).length = l.length := by simp [PySem.Str.length]
theorem Bin.addT {a b : Tx} (hz : a.length + b.length ≤ 1000000) : Bin W n .Add (T a) (T b) (T (a ++ b)) := fun mu s v w wd r q A E R => by
  obtain ⟨t, rfl⟩ := rd_T r
  obtain ⟨u, rfl⟩ := rd_T q
  refine SB.add (fun t' k => out_T _ _ ?_) (by rw [len_T, len_T, sizeLine_eq]; omega)
  show ((⟨a.toArray⟩ : PySem.Str).cps ++ (⟨b.toArray⟩ : PySem.Str).cps).toList = _
  simp
theorem Inp.addT {a b : Tx} (hz : a.length + b.length ≤ 1000000) : Inp W n .Add (T a) (T b) (T (a ++ b)) := fun mu s v w wd r q A E R => by
  obtain ⟨t, rfl⟩ := rd_T r
  obtain ⟨u, rfl⟩ := rd_T q
  refine SB.iadd (fun t' k => out_T _ _ ?_) (by rw [len_T, len_T, sizeLine_eq]; omega)
  show ((⟨a.toArray⟩ : PySem.Str).cps ++ (⟨b.toArray⟩ : PySem.Str).cps).toList = _
  simp
theorem Cmp.eqT {a b : Tx} : Cmp W n .Eq (T a) (T b) (decide (a = b)) := fun mu s v w wd r q A E R => by
  obtain ⟨t, rfl⟩ := rd_T r
  obtain ⟨u, rfl⟩ := rd_T q
  refine P.eq_str ?_
  rw [show ((⟨a.toArray⟩ : PySem.Str).cps.toList == (⟨b.toArray⟩ : PySem.Str).cps.toList) = decide (a = b) from by by_cases h : a = b <;> simp [h]]
  exact out_bool _
theorem Cmp.neT {a b : Tx} : Cmp W n .NotEq (T a) (T b) (decide (a ≠ b)) := fun mu s v w wd r q A E R => by
  obtain ⟨t, rfl⟩ := rd_T r
  obtain ⟨u, rfl⟩ := rd_T q
  refine P.ne_str ?_
  rw [show ((⟨a.toArray⟩ : PySem.Str).cps.toList != (⟨b.toArray⟩ : PySem.Str).cps.toList) = decide (a ≠ b) from by by_cases h : a = b <;> simp [h]]
  exact out_bool _
theorem Cal.lenT {a : Tx} (hz : a.length ≤ 1000000) : Cal W n (.builtin "len") [T a] (.int a.length) := fun mu s vs wd r A E R => by
  cases r with
  | cons r rs =>
    obtain ⟨t, rfl⟩ := rd_T r
    cases rs
    refine P.len_str (by rw [len_T]; omega) ?_
    rw [len_T]
    exact out_int _ _ _
theorem PadOk_of {i : Int} (h : -1000000 ≤ i ∧ i ≤ 1000000) : PadOk i = true := by
  unfold PadOk Builtin.Str.tooLong
  rw [sizeLine_eq]
  simp only [fitsSsize, Bool.and_eq_true, Bool.not_eq_true', Bool.or_eq_false_iff, decide_eq_false_iff_not]
  omega
/-- padding at the left | right up to a width -/
def padL (i : Int) (a : Tx) : Tx := List.replicate (i.toNat - a.length) 32 ++ a
def padR (i : Int) (a : Tx) : Tx := a ++ List.replicate (i.toNat - a.length) 32
theorem rjust_list (x : PySem.Str) (i : Int) : (Txt.rjust x i).cps.toList = List.replicate (i.toNat - x.length) 32 ++ x.cps.toList := rjustF_list x i 32
theorem ljust_list (x : PySem.Str) (i : Int) : (Txt.ljust x i).cps.toList = x.cps.toList ++ List.replicate (i.toNat - x.length) 32 := ljustF_list x i 32
theorem Cal.rjustT {a : Tx} {i : Int} (hz : -1000000 ≤ i ∧ i ≤ 1000000) : Cal W n (.builtin "str.rjust") [T a, .int i] (T (padL i a)) := fun mu s vs wd r A E R => by
  cases r with
  | cons r rs =>
    obtain ⟨t, rfl⟩ := rd_T r
    cases rs with
    | cons r rs =>
      cases r; cases rs
      refine SC.rjust (PadOk_of hz) fun t' k => out_T _ _ ?_
      rw [rjust_list, len_T]; rfl
theorem Cal.ljustT {a : Tx} {i : Int} (hz : -1000000 ≤ i ∧ i ≤ 1000000) : Cal W n (.builtin "str.ljust") [T a, .int i] (T (padR i a)) := fun mu s vs wd r A E R => by
  cases r with
  | cons r rs =>
    obtain ⟨t, rfl⟩ := rd_T r
    cases rs with
    | cons r rs =>
      cases r; cases rs
      refine SC.ljust (PadOk_of hz) fun t' k => out_T _ _ ?_
      rw [ljust_list, len_T]; rfl
theorem Cal.rjustF {a : Tx} {i : Int} {c : Nat} (hz : -1000000 ≤ i ∧ i ≤ 1000000) : Cal W n (.builtin "str.rjust") [T a, .int i, T [c]] (T (List.replicate (i.toNat - a.length) c ++ a)) := fun mu s vs wd r A E R => by
  cases r with
  | cons r rs =>
    obtain ⟨t, rfl⟩ := rd_T r
    cases rs with
    | cons r rs =>
      cases r
      cases rs with
      | cons r rs =>
        obtain ⟨u, rfl⟩ := rd_T r
        cases rs
        refine rjust_fill (PadOk_of hz) (by rfl) fun t' k => out_T _ _ ?_
        rw [rjustF_list, len_T]; rfl
theorem Mth.rjust {a : Tx} : Mth W "rjust" (T a) (.builtin "str.rjust") := fun mu s v wd r A E pl Q h => by
  obtain ⟨t, rfl⟩ := rd_T r; exact GM.rjust h
theorem Mth.ljust {a : Tx} : Mth W "ljust" (T a) (.builtin "str.ljust") := fun mu s v wd r A E pl Q h => by
  obtain ⟨t, rfl⟩ := rd_T r; exact GM.ljust h
theorem Mth.join {a : Tx} : Mth W "join" (T a) (.builtin "str.join") := fun mu s v wd r A E pl Q h => by
  obtain ⟨t, rfl⟩ := rd_T r; exact GM.join h

/-- an int's digits -/
def itoa (i : Int) : Tx := (PySem.Str.ofString (toString i)).cps.toList
theorem log2_small {a : Int} (h : -1000000000000000000000000000000 < a ∧ a < 1000000000000000000000000000000) : a.natAbs.log2 < 1920 := by
  have h2 : a.natAbs < 2 ^ 100 := by omega
  by_cases hz : a.natAbs = 0
  · rw [hz]; decide
  · have : a.natAbs.log2 < 100 := (Nat.log2_lt hz).mpr h2
    omega
theorem Cal.strI {a : Int} (h : -1000000000000000000000000000000 < a ∧ a < 1000000000000000000000000000000) : Cal W n (.type "str") [.int a] (T (itoa a)) := fun mu s vs wd r A E R => by
  cases r with
  | cons r rs =>
    cases r; cases rs
    exact P.str_of_int (log2_small h) (out_T _ _ rfl)
theorem Cal.ordT {c : Nat} : Cal W n (.builtin "ord") [T [c]] (.int c) := fun mu s vs wd r A E R => by
  cases r with
  | cons r rs =>
    obtain ⟨t, rfl⟩ := rd_T r
    cases rs
    exact P.ord_of_char (out_int _ _ _)
end
end Mine

/-! M9 -/
namespace Mine

section
variable {W : Wr} {n : Nat} {mu : List Addr} {env : Env} {G G₁ G₂ : Ga} {fp av : List Addr}

/-- an operation that makes a list -/
def OpO (W : Wr) (n : Nat) (mu : List Addr) (s : Shared) (t : Sem Value) (es : List D) : Prop := ∀ A E, Room n A →
  wpAny (Mo W) A t (fun v s' => Same s s' ∧ Keep s.heap s'.heap ∧ ∃ a vs k, v = .ref a ∧ s.heap.get? a = Option.none ∧ s'.heap.get? a = some (listOf vs.toArray k) ∧ RdAll W (a :: mu) s'.heap vs es) E s
theorem OpO.last {s₀ s : Shared} {t : Sem Value} {es : List D} {A : Around} {E : Value → Shared → Prop} (o : OpO W n (fp ++ av) s t es) (R : Room n A) (sm : Same s₀ s) (k : KE fp s₀.heap s.heap) (S : St W env fp av G s.heap) :
    wpAny (Mo W) A t (fun v s' => Same s₀ s' ∧ KE fp s₀.heap s'.heap ∧ St W env fp av G s'.heap ∧ ∃ a vs k, v = .ref a ∧ s₀.heap.get? a = Option.none ∧ s'.heap.get? a = some (listOf vs.toArray k) ∧ RdAll W (a :: (fp ++ av)) s'.heap vs es ∧ St W env (a :: fp) av G s'.heap) E s :=
  wpAny_mono (o A E R) (fun v s' q => by
    obtain ⟨sm', k', a, vs, j, rfl, hn, ha, r⟩ := q
    refine ⟨sm.trans sm', k.trans (.of_keep k'), S.keep k', a, vs, j, rfl, ?_, ha, r, S.join k' hn ha⟩
    cases e : s₀.heap.get? a with
    | none => rfl
    | some o => obtain ⟨o', e', _⟩ := k a o e; rw [hn] at e'; cases e') fun _ _ x => x
theorem opO_new {s : Shared} {vs : List Value} {es : List D} (wd : Wd W mu s.heap) (r : RdAll W mu s.heap vs es) {h' : Heap} {a : Addr} (hn : s.heap.get? a = none) (kp : Keep s.heap h') (ho : h'.get? a = some (listOf vs.toArray 0)) (tk : Nat) :
    Same s { s with heap := h', toks := tk } ∧ Keep s.heap h' ∧ ∃ a' vs' k, Value.ref a = .ref a' ∧ s.heap.get? a' = Option.none ∧ h'.get? a' = some (listOf vs'.toArray k) ∧ RdAll W (a' :: mu) h' vs' es :=
  ⟨⟨_, _, rfl⟩, kp, a, vs, 0, rfl, hn, ho, r.move fun b o m e => ⟨fun q => (List.mem_cons.mp q).elim (fun q => by rw [q, hn] at e; cases e) m, kp b o e⟩⟩

/-- a list display -/
theorem EvO.display {es : List Expr} {pos : Pos} {ds : List D} (x : EvL W n env G pos es G₁ ds) (hz : ds.length ≤ 1000000) : EvO W n env G (eval (.List es pos) env) G₁ ds := fun fp av A E s r S =>
  List_ (wpAny_mono (x fp av A E s r S) (fun vs s₁ q => by
    obtain ⟨sm, k, S₁, rs⟩ := q
    have hl := rs.length
    refine wpAny_newObj_type ?_ (by show vs.toArray.size ≤ sizeLine; rw [sizeLine_eq]; simp; omega)
    have kp : Keep s₁.heap (s₁.heap.push { cls := .type "list", data := .seq vs.toArray }) := fun b o e => Heap.get?_push_of_some _ e
    have hn := fresh_size s₁.heap
    have ho : (s₁.heap.push { cls := .type "list", data := .seq vs.toArray }).get? s₁.heap.objs.size = some (listOf vs.toArray 0) := Heap.get?_push_size _ rfl
    refine ⟨sm.trans ⟨_, _, rfl⟩, k.trans (.of_keep kp), S₁.keep kp, _, vs, 0, rfl, ?_, ho, rs.move fun b o m e => ⟨fun q => (List.mem_cons.mp q).elim (fun q => by rw [q, hn] at e; cases e) m, kp b o e⟩, S₁.join kp hn ho⟩
    cases e : s.heap.get? s₁.heap.objs.size with
    | none => rfl
    | some o => obtain ⟨o', e', _⟩ := k _ o e; rw [hn] at e'; cases e') fun _ _ x => x)
theorem Ev.display {es : List Expr} {pos : Pos} {ds : List D} (x : EvL W n env G pos es G₁ ds) (hz : ds.length ≤ 1000000) : Ev W n env G (.List es pos) G₁ (.lst ds) := (EvO.display x hz).ev
/-- a tuple display -/
theorem Ev.tuple {es : List Expr} {k : Nat} {pos : Pos} {ds : List D} (x : EvL W n env G pos es G₁ ds) (hz : ds.length ≤ 1000000) : Ev W n env G (.Tuple es k pos) G₁ (.tup ds) := fun fp av A E s r S =>
  wpAny_Tuple (wpAny_mono (x fp av A E s r S) (fun vs s₁ q => by
    obtain ⟨sm, k, S₁, rs⟩ := q
    have hl := rs.length
    have kp : Keep s₁.heap (s₁.heap.push { cls := .type "tuple", data := .seq vs.toArray }) := fun b o e => Heap.get?_push_of_some _ e
    have hn := fresh_size s₁.heap
    refine ⟨by rw [sizeLine_eq]; omega, sm.trans ⟨_, _, rfl⟩, k.trans (.of_keep kp), S₁.keep kp, .tup (n := 0) (fun m => ?_) (Heap.get?_push_size _ rfl) (rs.keep kp)⟩
    obtain ⟨o, e⟩ := S₁.live _ m
    rw [hn] at e; cases e) fun _ _ x => x)

/-- joined texts -/
def joinT (sep : Tx) : List Tx → Tx
  | [] => []
  | [x] => x
  | x :: rest => x ++ sep ++ joinT sep rest
theorem txt_join (sep : Tx) : ∀ (l : List Tx), (Txt.join ⟨sep.toArray⟩ (l.map fun x => (⟨x.toArray⟩ : PySem.Str))).cps.toList = joinT sep l := by
  have key : ∀ (l : List Tx), (PySem.Str.join ⟨sep.toArray⟩ (l.map fun x => (⟨x.toArray⟩ : PySem.Str))).cps.toList = joinT sep l := by
    intro l
    induction l with
    | nil => rfl
    | cons x l ih =>
      cases l with
      | nil => simp [PySem.Str.join, joinT]
      | cons y l =>
        simp only [List.map_cons, PySem.Str.join, joinT] at ih ⊢
        show ((x.toArray ++ sep.toArray) ++ (PySem.Str.join ⟨sep.toArray⟩ (⟨y.toArray⟩ :: l.map fun x => (⟨x.toArray⟩ : PySem.Str))).cps).toList = _
        rw [Array.toList_append, ih]
        simp
  intro l
  rw [← key l, ← StrLaws.glued_eq_join]
  rfl
theorem strsAre_T {h : Heap} : ∀ {vs : List Value} {l : List Tx}, RdAll W mu h vs (l.map T) → StrsAre vs (l.map fun x => (⟨x.toArray⟩ : PySem.Str))
  | _, [], .nil => .nil
  | _, x :: l, .cons r rs => by
    obtain ⟨t, rfl⟩ := rd_T r
    exact .cons _ _ (strsAre_T rs)
theorem Cal.joinT {sep : Tx} {l : List Tx} (hz : (l.map (·.length)).sum + l.length * sep.length ≤ 1000000) : Cal W n (.builtin "str.join") [T sep, .lst (l.map T)] (T (Mine.joinT sep l)) := fun mu s vs wd r A E R => by
  cases r with
  | cons r rs =>
    obtain ⟨t, rfl⟩ := rd_T r
    cases rs with
    | cons r rs =>
      cases rs
      cases r with
      | lst na ho ra =>
      rename_i a us k
      refine join_list (D := a) (items := us.toArray) ⟨_, ho, rfl, k, rfl⟩ (by simpa using strsAre_T ra) ?_ fun t' k => out_T _ _ (txt_join sep l)
      rw [List.map_map, List.length_map, len_T]
      have : (l.map ((fun x => x.length) ∘ fun x => (⟨x.toArray⟩ : PySem.Str))) = l.map (·.length) := by
        apply List.map_congr_left
        intro x _
        exact len_T x
      rw [this]; omega

/-! subscripts -/
def Sub (W : Wr) (n : Nat) (d₁ d₂ d : D) : Prop := ∀ mu s v₁ v₂, Wd W mu s.heap → Rd W mu s.heap v₁ d₁ → Rd W mu s.heap v₂ d₂ → (∃ T id, s.TypeIs v₁ T ∧ typeLookup (.type T) "__getitem__" = pure (some (.builtin id))) ∧ Op W n mu s (getItem v₁ v₂) d
theorem Ev.sub {value slice : Expr} {pos : Pos} {d₁ d₂ d : D} (x : Ev W n env G value G₁ d₁) (y : Ev W n env G₁ slice G₂ d₂) (z : Sub W n d₁ d₂ d)
    (hs : ∀ o i, ∃ ops, subscripted slice false o i = operate ops (getItem o i) := by intro o i; exact ⟨_, by with_unfolding_all rfl⟩) : Ev W n env G (.Subscript value slice pos) G₂ d := fun fp av A E s r S =>
  Subscript_ (wpAny_mono (x fp av A E s r S) (fun v₁ s₁ q₁ => wpAny_mono (y fp av A E s₁ r q₁.2.2.1) (fun v₂ s₂ q₂ => by
    obtain ⟨⟨T, id, hT, hl⟩, o⟩ := z _ s₂ v₁ v₂ q₂.2.2.1.wd (q₁.2.2.2.ke q₂.2.1) q₂.2.2.2
    obtain ⟨ops, hs⟩ := hs v₁ v₂
    exact tail_any hT hl (Op.last o (mu := []) r (q₁.1.trans q₂.1) (q₁.2.1.trans q₂.2.1) q₂.2.2.1) hs) fun _ _ x => x) fun _ _ x => x)
theorem out_keep {s : Shared} {v : Value} {d : D} (r : Rd W mu s.heap v d) : OpOut W mu s d v s := ⟨Same.refl s, fun _ _ e => e, r⟩
theorem Sub.lst {ds : List D} {i : Int} {d : D} (h0 : 0 ≤ i) (hi : i < 1000000) (hd : ds[i.toNat]? = some d) : Sub W n (.lst ds) (.int i) d := fun mu s v₁ v₂ wd r q => by
  cases q
  cases r with
  | lst na ho ra =>
  rename_i a us k
  obtain ⟨v, hv, rv⟩ := ra.get hd
  have hl : s.heap.IsList a us.toArray := ⟨_, ho, rfl, k, rfl⟩
  exact ⟨⟨"list", _, hl.typeIs, slot_list_getitem.lookup⟩, fun A E R => wpAny_getItem_list hl h0 (by omega) (by simpa using hv) (out_keep rv)⟩
theorem Sub.tup {ds : List D} {i : Int} {d : D} (h0 : 0 ≤ i) (hi : i < 1000000) (hd : ds[i.toNat]? = some d) : Sub W n (.tup ds) (.int i) d := fun mu s v₁ v₂ wd r q => by
  cases q
  cases r with
  | tup na ho ra =>
  rename_i a us k
  obtain ⟨v, hv, rv⟩ := ra.get hd
  have hl : IsTup s.heap a us.toArray := ⟨_, ho, rfl, k, rfl⟩
  refine ⟨⟨"tuple", _, hl.typeIs, slot_tuple_getitem.lookup⟩, fun A E R => getItem_tuple hl (by omega) (by omega) (j := i.toNat) ?_ (by simpa using hv) (out_keep rv)⟩
  have hlt : i.toNat < us.length := (List.getElem?_eq_some_iff.mp hv).1
  exact seqIndex_of h0 (by simp; omega)
theorem Sub.chr {a : Tx} {i : Int} {c : Nat} (h0 : 0 ≤ i) (hi : i < 1000000) (hd : a[i.toNat]? = some c) : Sub W n (T a) (.int i) (T [c]) := fun mu s v₁ v₂ wd r q => by
  cases q
  obtain ⟨t, rfl⟩ := rd_T r
  have hlt : i.toNat < a.length := (List.getElem?_eq_some_iff.mp hd).1
  have hc : Txt.charAt ⟨a.toArray⟩ i = some c := by
    unfold Txt.charAt
    rw [len_T, seqIndex_of h0 (by omega)]
    simpa using hd
  refine ⟨⟨"str", _, typeIs_str _ _ _, F.slot_str_getitem.lookup⟩, fun A E R => SB.getItem (by unfold fitsSsize; simp; omega) (by rw [hc]; rfl) (out_T _ _ ?_)⟩
  unfold Txt.item
  rw [hc]; rfl

/-! slices -/
/-- what a slice picks -/
def pyS {α : Type} (lo hi : Option Int) (l : List α) : List α := (l.drop (lo.elim 0 (clipAt l.length))).take (hi.elim l.length (clipAt l.length) - lo.elim 0 (clipAt l.length))
theorem pyS_map {α β : Type} (f : α → β) (lo hi : Option Int) (l : List α) : pyS lo hi (l.map f) = (pyS lo hi l).map f := by
  unfold pyS; rw [List.length_map, List.map_take, List.map_drop]
theorem Rd.pyS {h : Heap} {vs : List Value} {ds : List D} (r : RdAll W mu h vs ds) (lo hi : Option Int) : RdAll W mu h (Mine.pyS lo hi vs) (Mine.pyS lo hi ds) := by
  unfold Mine.pyS; rw [r.length]; exact (r.drop _).take _
theorem OptInt.part {v : Value} {o : Option Int} (h : OptInt v o) : IsPart v o := by
  cases o with
  | none => cases h; exact .none
  | some i => obtain ⟨t, rfl⟩ := h; exact .int i t
theorem OptInt.val {v : Value} {o : Option Int} (h : OptInt v o) : ∃ p : Option (Int × Tok), v = partValue p ∧ p.map (·.1) = o := by
  cases o with
  | none => cases h; exact ⟨Option.none, rfl, rfl⟩
  | some i => obtain ⟨t, rfl⟩ := h; exact ⟨some (i, t), rfl, rfl⟩
theorem Sub.slcL {ds : List D} {lo hi : Option Int} (hz : ds.length ≤ 1000000) : Sub W n (.lst ds) (.slc lo hi) (.lst (pyS lo hi ds)) := fun mu s v₁ v₂ wd r q => by
  cases q with
  | slc nb hb il iu =>
  cases r with
  | lst na ho ra =>
  rename_i a us k
  have hl : s.heap.IsList a us.toArray := ⟨_, ho, rfl, k, rfl⟩
  have hlen := ra.length
  refine ⟨⟨"list", _, hl.typeIs, slot_list_getitem.lookup⟩, fun A E R => wpAny_getItem_list_slice (hsz := by rw [sizeLine_eq]; simp; omega) hl ⟨_, hb, rfl, rfl⟩ il.part iu.part .none (by simp) ?_⟩
  have kp : Keep s.heap (s.heap.push { cls := .type "list", data := .seq (slicePick us.toArray lo hi none) }) := fun b o e => Heap.get?_push_of_some _ e
  have hn := fresh_size s.heap
  refine ⟨⟨_, _, rfl⟩, kp, .lst (n := 0) (vs := Mine.pyS lo hi us) (fun m => ?_) ?_ ((Rd.pyS ra lo hi).keep kp)⟩
  · obtain ⟨o, e⟩ := wd.2 _ m
    rw [hn] at e; cases e
  · have := Heap.get?_push_size (h := s.heap) (o := { cls := .type "list", data := .seq (slicePick us.toArray lo hi none) }) rfl
    rw [slicePick_plain] at this
    rw [slicePick_plain]
    simpa [Mine.pyS] using this
theorem picked_eq (x : PySem.Str) (l u : Option (Int × Tok)) : slicePicked x l u Option.none = (List.range ((u.map (·.1)).elim x.length (clipAt x.length) - (l.map (·.1)).elim 0 (clipAt x.length))).map ((l.map (·.1)).elim 0 (clipAt x.length) + ·) := by
  have h : slicePicked x l u Option.none = sliceRange (sliceBounds (l.map (·.1)) (u.map (·.1)) Option.none x.length).1 (sliceBounds (l.map (·.1)) (u.map (·.1)) Option.none x.length).2.1 1 := rfl
  rw [h, sliceBounds_plain, sliceRange_one]
theorem picked (x : PySem.Str) (l u : Option (Int × Tok)) : (slicePicked x l u Option.none).filterMap (x.cps[·]?) = pyS (l.map (·.1)) (u.map (·.1)) x.cps.toList := by
  rw [picked_eq, pick_run]
  unfold pyS
  rw [Array.length_toList]
  rfl
theorem clipAt_le (n : Nat) (i : Int) : clipAt n i ≤ n := by
  have := clipAt_cast n i
  omega
theorem Sub.slcT {a : Tx} {lo hi : Option Int} (hz : a.length ≤ 1000000) : Sub W n (T a) (.slc lo hi) (T (pyS lo hi a)) := fun mu s v₁ v₂ wd r q => by
  cases q with
  | slc nb hb il iu =>
  obtain ⟨t, rfl⟩ := rd_T r
  obtain ⟨p, rfl, hp⟩ := il.val
  obtain ⟨q, rfl, hq⟩ := iu.val
  refine ⟨⟨"str", _, typeIs_str _ _ _, F.slot_str_getitem.lookup⟩, fun A E R => wpAny_getItem_str_slice (l := p) (u := q) (st := Option.none) ⟨_, hb, rfl, rfl⟩ (by rfl) ?_⟩
  have e := picked ⟨a.toArray⟩ p q
  rw [hp, hq] at e
  have le : (pyS lo hi a).length ≤ a.length := by unfold pyS; rw [List.length_take, List.length_drop]; omega
  unfold sliceMade
  split
  · rename_i h
    have hl : (slicePicked ⟨a.toArray⟩ p q Option.none).length = a.length := by
      have := (Bool.and_eq_true_iff.mp h).2
      rw [len_T] at this
      exact beq_iff_eq.mp this
    rw [picked_eq, hp, hq, len_T, List.length_map, List.length_range] at hl
    have hh : hi.elim a.length (clipAt a.length) ≤ a.length := by
      cases hi with
      | none => exact Nat.le_refl _
      | some i => exact clipAt_le _ _
    have : pyS lo hi a = a := by
      unfold pyS
      by_cases z : a.length = 0
      · rw [List.length_eq_zero_iff.mp z]; simp
      · have h0 : lo.elim 0 (clipAt a.length) = 0 := by omega
        have h1 : hi.elim a.length (clipAt a.length) = a.length := by omega
        rw [h0, h1]; simp
    rw [this]
    exact ⟨Same.refl s, fun _ _ e => e, r⟩
  · have e' : ((⟨((slicePicked ⟨a.toArray⟩ p q Option.none).filterMap ((⟨a.toArray⟩ : PySem.Str).cps[·]?)).toArray⟩ : PySem.Str)) = ⟨(pyS lo hi a).toArray⟩ := by
      rw [e]
    rw [e']
    refine ⟨?_, out_T _ _ rfl⟩
    rw [len_T, sizeLine_eq]; omega

/-- a slice's parts -/
def EvPart (W : Wr) (n : Nat) (env : Env) (G : Ga) (e : Option Expr) (o : Option Int) : Prop := match e, o with
  | Option.none, Option.none => True
  | some e, some i => Ev W n env G e G (.int i)
  | _, _ => False
theorem EvPart.run {e : Option Expr} {o : Option Int} (x : EvPart W n env G e o) {A : Around} {E : Value → Shared → Prop} {s : Shared} (r : Room n A) (S : St W env fp av G s.heap) :
    wpAny (Mo W) A (evalPart e env) (fun v s' => Same s s' ∧ KE fp s.heap s'.heap ∧ St W env fp av G s'.heap ∧ OptInt v o) E s := by
  match e, o, x with
  | Option.none, Option.none, _ => rw [evalPart_none]; exact wpAny_pure ⟨Same.refl _, KE.refl _ _, S, rfl⟩
  | some e, some i, x => rw [evalPart_some]; exact wpAny_mono (x fp av A E s r S) (fun v s' q => ⟨q.1, q.2.1, q.2.2.1, by cases q.2.2.2; exact ⟨_, rfl⟩⟩) fun _ _ x => x
theorem Ev.slice {l u : Option Expr} {lo hi : Option Int} {pos : Pos} (x : EvPart W n env G l lo) (y : EvPart W n env G u hi) : Ev W n env G (.Slice l u Option.none pos) G (.slc lo hi) := fun fp av A E s r S =>
  wpAny_Slice (wpAny_mono (x.run r S) (fun v₁ s₁ q₁ => wpAny_mono (y.run r q₁.2.2.1) (fun v₂ s₂ q₂ => by
    rw [evalPart_none]
    refine wpAny_pure ?_
    have kp : Keep s₂.heap (s₂.heap.push { cls := .type "slice", data := .fields #[v₁, v₂, .none] }) := fun b o e => Heap.get?_push_of_some _ e
    have hn := fresh_size s₂.heap
    refine ⟨(q₁.1.trans q₂.1).trans ⟨_, _, rfl⟩, (q₁.2.1.trans q₂.2.1).trans (.of_keep kp), q₂.2.2.1.keep kp, .slc (fun m => ?_) (Heap.get?_push_size _ rfl) q₁.2.2.2 q₂.2.2.2⟩
    obtain ⟨o, e⟩ := q₂.2.2.1.live _ m
    rw [hn] at e; cases e) fun _ _ x => x) fun _ _ x => x)
end
end Mine

/-! M10 -/
namespace Mine

section
variable {W : Wr} {n : Nat} {mu : List Addr} {env : Env} {G G₁ G₂ : Ga} {fp av : List Addr}

/-! lists -/
def BinO (W : Wr) (n : Nat) (op : Operator) (d₁ d₂ : D) (es : List D) : Prop := ∀ mu s v₁ v₂, Wd W mu s.heap → Rd W mu s.heap v₁ d₁ → Rd W mu s.heap v₂ d₂ → OpO W n mu s (binaryOp op v₁ v₂) es
theorem EvO.bin {l r : Expr} {op : Operator} {pos : Pos} {d₁ d₂ : D} {es : List D} (x : Ev W n env G l G₁ d₁) (y : Ev W n env G₁ r G₂ d₂) (z : BinO W n op d₁ d₂ es) : EvO W n env G (eval (.BinOp l op r pos) env) G₂ es := fun fp av A E s R S =>
  wpAny_BinOp (wpAny_mono (x fp av A E s R S) (fun v₁ s₁ q₁ => wpAny_mono (y fp av A E s₁ R q₁.2.2.1) (fun v₂ s₂ q₂ =>
    OpO.last (z _ s₂ v₁ v₂ q₂.2.2.1.wd (q₁.2.2.2.ke q₂.2.1) q₂.2.2.2) R (q₁.1.trans q₂.1) (q₁.2.1.trans q₂.2.1) q₂.2.2.1) fun _ _ x => x) fun _ _ x => x)
theorem BinO.addL {as bs : List D} (hz : as.length + bs.length ≤ 1000000) : BinO W n .Add (.lst as) (.lst bs) (as ++ bs) := fun mu s v w wd r q A E R => by
  cases r with
  | lst na ho ra =>
  cases q with
  | lst nb hb rb =>
  rename_i a us k b ws j
  have h1 := ra.length
  have h2 := rb.length
  have kp : Keep s.heap (s.heap.push { cls := .type "list", data := .seq (us ++ ws).toArray }) := fun b o e => Heap.get?_push_of_some _ e
  refine concat_meets ⟨_, ho, rfl⟩ ⟨_, hb, rfl⟩ noFill_list_add seq_list_add PySem.F.slot_list_add PySem.F.entry_list_add (PySem.F.args_list_add_2 _ _) (list_addW a b us.toArray ws.toArray k j none none #[] #[] (by rw [sizeLine_eq]; simp; omega)) ⟨ho, hb, ?_⟩
  have e : us.toArray ++ ws.toArray = (us ++ ws).toArray := by simp
  rw [e]
  exact opO_new wd (ra.append rb) (fresh_size _) kp (Heap.get?_push_size _ rfl) _
theorem Tru.lst {ds : List D} (hz : ds.length ≤ 1000000) : Tru W n (.lst ds) (!ds.isEmpty) := fun mu s v wd r A E R => by
  cases r with
  | lst na ho ra =>
  rename_i a us k
  have h1 := ra.length
  refine wpAny_truthy_list (items := us.toArray) ⟨_, ho, rfl, k, rfl⟩ (by simp; omega) ⟨?_, ⟨_, _, rfl⟩, fun _ _ e => e⟩
  cases us <;> cases ds <;> simp_all
theorem Tru.int {i : Int} : Tru W n (.int i) (i != 0) := fun mu s v wd r A E R => by
  cases r; exact truthy_int ⟨rfl, Same.refl _, fun _ _ e => e⟩
theorem Tru.none : Tru W n .none false := fun mu s v wd r A E R => by
  cases r; exact truthy_none ⟨rfl, Same.refl _, fun _ _ e => e⟩
theorem Cal.lenL {ds : List D} (hz : ds.length ≤ 1000000) : Cal W n (.builtin "len") [.lst ds] (.int ds.length) := fun mu s vs wd r A E R => by
  cases r with
  | cons r rs =>
    cases rs
    cases r with
    | lst na ho ra =>
    rename_i a us k
    have h1 := ra.length
    refine call_len_list (items := us.toArray) ⟨_, ho, rfl, k, rfl⟩ (by simp; omega) ?_
    rw [show ((us.toArray.size : Nat) : Int) = (ds.length : Int) by simp [h1]]
    exact out_int _ _ _
theorem Cal.listL {ds : List D} (hz : ds.length ≤ 1000000) : CalO W n (.type "list") [.lst ds] ds := fun mu s vs wd r A E R => by
  cases r with
  | cons r rs =>
    cases rs
    cases r with
    | lst na ho ra =>
    rename_i a us k
    have h1 := ra.length
    refine call_list_seq (hsz := by rw [sizeLine_eq]; simp; omega) a (.inl rfl) ho rfl rfl fun h' c' kp hD => ?_
    exact ⟨⟨_, _, rfl⟩, kp, _, us, c', rfl, fresh_size _, hD, ra.move fun b o m e => ⟨fun q => (List.mem_cons.mp q).elim (fun q => by rw [q, fresh_size] at e; cases e) m, kp b o e⟩⟩

/-! lists of ilist -/
def ilist (l : List Int) : List D := l.map D.int
theorem ints_items {h : Heap} : ∀ {vs : List Value} {l : List Int}, RdAll W mu h vs (ilist l) → ∃ xs : List (Int × Tok), vs.toArray = intItems xs.toArray ∧ xs.map (·.1) = l
  | _, [], .nil => ⟨[], by simp [intItems], rfl⟩
  | _, x :: l, .cons r rs => by
    cases r with
    | int i t =>
    obtain ⟨xs, e, e'⟩ := ints_items rs
    refine ⟨(x, t) :: xs, ?_, by simp [e']⟩
    apply Array.toList_inj.mp
    have := congrArg Array.toList e
    simp [intItems] at this ⊢
    exact this
theorem numAt_list (xs : List (Int × Tok)) (i : Nat) : numAt xs.toArray i = (xs.map (·.1)).getD i 0 := by
  simp [numAt, List.getD]
theorem Cal.sumL {l : List Int} : Cal W n (.builtin "sum") [.lst (ilist l)] (.int l.sum) := fun mu s vs wd r A E R => by
  cases r with
  | cons r rs =>
    cases rs
    cases r with
    | lst na ho ra =>
    rename_i a us k
    obtain ⟨xs, e, e'⟩ := ints_items ra
    refine sum_intListG (xs := xs.toArray) R.1 ⟨_, ho, rfl, k, by rw [e]⟩ fun h' tk t' kp => ?_
    rw [preSum_eq, List.take_of_length_le (by simp)]
    rw [show (xs.toArray.toList.map (·.1)) = l by simpa using e']
    exact out_intH _ _ _ kp
/-- the greatest -/
theorem Cal.maxL {l : List Int} {m : Int} (hm : m ∈ l) (hg : ∀ a ∈ l, a ≤ m) : Cal W n (.builtin "max") [.lst (ilist l)] (.int m) := fun mu s vs wd r A E R => by
  cases r with
  | cons r rs =>
    cases rs
    cases r with
    | lst na ho ra =>
    rename_i a us k
    obtain ⟨xs, e, e'⟩ := ints_items ra
    have hpos : 0 < xs.length := by
      rw [← List.length_map (f := (·.1)), e']
      exact List.length_pos_of_mem hm
    refine max_intList (xs := xs.toArray) R.1 ⟨_, ho, rfl, k, by rw [e]⟩ (by simpa using hpos) fun v h' tk hv kp => ?_
    obtain ⟨t, rfl⟩ := intItems_at hv
    obtain ⟨h1, h2⟩ := argBest_gt (numAt xs.toArray) (xs.toArray.size - 1)
    generalize argBest (fun i j => decide (numAt xs.toArray i > numAt xs.toArray j)) (xs.toArray.size - 1) = b at h1 h2 hv
    have hsz : xs.toArray.size = l.length := by simp [← e']
    have hb : b < l.length := by
      have : 0 < l.length := List.length_pos_of_mem hm
      omega
    have e1 : numAt xs.toArray b = l[b] := by rw [numAt_list, e']; simp [List.getD, hb]
    have : numAt xs.toArray b = m := by
      obtain ⟨i, hi, rfl⟩ := List.mem_iff_getElem.mp hm
      have a1 := h2 i (by omega)
      rw [numAt_list, e', show l.getD i 0 = l[i] by simp [List.getD, hi]] at a1
      have a2 := hg l[b] (List.getElem_mem hb)
      omega
    rw [this]
    exact out_intH _ _ _ kp

/-! ranges -/
theorem Cal.range1 {k : Int} : Cal W n (.type "range") [.int k] (.rng 0 k 1) := fun mu s vs wd r A E R => by
  cases r with
  | cons r rs =>
    cases rs
    cases r
    refine call_range_1 ⟨⟨_, _, rfl⟩, fun b o e => Heap.get?_push_of_some _ e, .rng (fun m => ?_) (IsRange.new ..)⟩
    obtain ⟨o, e⟩ := wd.2 _ m
    rw [fresh_size] at e; cases e
theorem Cal.range3 {a b c : Int} (hc : c ≠ 0) (hs : c.natAbs < 1073741824) : Cal W n (.type "range") [.int a, .int b, .int c] (.rng a b c) := fun mu s vs wd r A E R => by
  cases r with
  | cons r rs =>
    cases r
    cases rs with
    | cons r rs =>
      cases r
      cases rs with
      | cons r rs =>
        cases r; cases rs
        refine call_range_3 hc ⟨⟨_, _, rfl⟩, fun b o e => Heap.get?_push_of_some _ e, .rng (fun m => ?_) (IsRange.new ..)⟩ (Or.inl (PyProof.noPylong_small (by omega)))
        obtain ⟨o, e⟩ := wd.2 _ m
        rw [fresh_size] at e; cases e
theorem small_step {b c : Int} (hb : -1000000 ≤ b ∧ b ≤ 1000000) (hc : 1 ≤ c ∧ c ≤ 1000000) : Builtin.Range.small 0 b c = true ∧ ∃ k : Nat, Builtin.Range.rangeSize 0 b c = (k : Int) ∧ (k = if 0 < b then ((b - 1) / c).toNat + 1 else 0) := by
  have hsz : Builtin.Range.rangeSize 0 b c = if 0 < b then (b - 0 - 1) / c + 1 else 0 := by
    unfold Builtin.Range.rangeSize
    rw [if_pos (by omega)]
  have hle : 0 < b → 0 ≤ (b - 0 - 1) / c ∧ (b - 0 - 1) / c ≤ b - 0 - 1 := fun h => ⟨Int.ediv_nonneg (by omega) (by omega), Int.ediv_le_self _ (by omega)⟩
  constructor
  · unfold Builtin.Range.small
    rw [hsz]
    unfold Builtin.Range.rangeFitsLong
    by_cases h : 0 < b
    · have := hle h
      simp only [if_pos h, if_pos (show c > 0 by omega), Bool.and_eq_true, Bool.or_eq_true, decide_eq_true_eq]
      omega
    · simp only [if_neg h, if_pos (show c > 0 by omega), Bool.and_eq_true, Bool.or_eq_true, decide_eq_true_eq]
      refine ⟨by omega, .inl rfl⟩
  · by_cases h : 0 < b
    · have := hle h
      refine ⟨((b - 1) / c).toNat + 1, ?_, by rw [if_pos h]⟩
      rw [hsz, if_pos h, show b - 0 - 1 = b - 1 by omega] at *
      omega
    · exact ⟨0, by rw [hsz, if_neg h]; rfl, by rw [if_neg h]⟩
theorem Itr.range1 {k : Int} (h : -1000000 ≤ k ∧ k ≤ 1000000) : Itr W n (.rng 0 k 1) ((List.range k.toNat).map fun (i : Nat) => D.int i) := by
  have := Itr.rng (W := W) (n := n) (a := 0) (b := k) (c := 1) (k := k.toNat) (small_step h (by omega)).1 (by rw [rangeSize_one]; split <;> omega)
  unfold rngInts at this
  simpa using this
/-- the starts of the chunks *)-/
theorem Itr.range3 {b c : Int} (hb : -1000000 ≤ b ∧ b ≤ 1000000) (hc : 1 ≤ c ∧ c ≤ 1000000) : Itr W n (.rng 0 b c) ((List.range (if 0 < b then ((b - 1) / c).toNat + 1 else 0)).map fun (i : Nat) => D.int (i * c)) := by
  obtain ⟨h1, k, h2, h3⟩ := small_step hb hc
  have := Itr.rng (W := W) (n := n) h1 h2
  rw [h3] at this
  unfold rngInts at this
  simpa using this

/-! comparisons of lists of texts, membership -/
def okT (l : Tx) : Bool := l.all (· < 1114112)
theorem reads_T {h : Heap} : ∀ {vs : List Value} {l : List Tx}, RdAll W mu h vs (l.map T) → ∃ as, ReadsAll h vs (l.map fun x => PyData.str ⟨x.toArray⟩) as
  | _, [], .nil => ⟨_, ReadsAll.nil⟩
  | _, x :: l, .cons r rs => by
    obtain ⟨t, rfl⟩ := rd_T r
    obtain ⟨as, q⟩ := reads_T rs
    exact ⟨_, ReadsAll.cons (Reads.str _ _) q⟩
theorem eqvAll_T : ∀ (a b : List Tx), PyData.eqvAll (a.map fun x => PyData.str ⟨x.toArray⟩) (b.map fun x => PyData.str ⟨x.toArray⟩) = decide (a = b)
  | [], [] => by simp [PyData.eqvAll]
  | [], _ :: _ => by simp [PyData.eqvAll]
  | _ :: _, [] => by simp [PyData.eqvAll]
  | x :: a, y :: b => by
    simp only [List.map_cons, PyData.eqvAll, PyData.eqv, eqvAll_T a b]
    by_cases h : x = y <;> by_cases h' : a = b <;> simp [h, h']
theorem shaped_T (l : List Tx) (h : (l.all okT) = true) : SeqAt.shaped (.list (l.map fun x => PyData.str ⟨x.toArray⟩)) = true := by
  have h1 : PyData.canLayAll0 (l.map fun x => PyData.str ⟨x.toArray⟩) = true ∧ PyData.depthAll (l.map fun x => PyData.str ⟨x.toArray⟩) = 0 := by
    induction l with
    | nil => simp [PyData.canLayAll0, PyData.depthAll]
    | cons x l ih =>
      simp only [List.all_cons, Bool.and_eq_true] at h
      obtain ⟨a, b⟩ := ih h.2
      simp only [List.map_cons, PyData.canLayAll0, PyData.canLay0, PyData.depthAll, PyData.depth, a, b, Bool.and_true, Nat.max_self, and_true]
      unfold PyData.strOk
      have := h.1
      unfold okT at this
      simpa using this
  unfold SeqAt.shaped
  simp only [PyData.canLay0, PyData.depth, h1.1, h1.2]
  decide
theorem Cmp.eqL {a b : List Tx} (ha : (a.all okT) = true) (hb : (b.all okT) = true) : Cmp W n .Eq (.lst (a.map T)) (.lst (b.map T)) (decide (a = b)) := fun mu s v w wd r q A E R => by
  cases r with
  | lst na ho ra =>
  cases q with
  | lst nb hb' rb =>
  obtain ⟨as, r1⟩ := reads_T ra
  obtain ⟨bs, r2⟩ := reads_T rb
  refine eq_dataH (reads_list_at ho rfl rfl (by simpa using r1)) (reads_list_at hb' rfl rfl (by simpa using r2)) (shaped_T a ha) (shaped_T b hb) R.units64 ?_
  rw [show PyData.eqv (.list (a.map fun x => PyData.str ⟨x.toArray⟩)) (.list (b.map fun x => PyData.str ⟨x.toArray⟩)) = decide (a = b) by simp only [PyData.eqv, eqvAll_T]]
  exact out_bool _
theorem Cmp.neL {a b : List Tx} (ha : (a.all okT) = true) (hb : (b.all okT) = true) : Cmp W n .NotEq (.lst (a.map T)) (.lst (b.map T)) (!decide (a = b)) := fun mu s v w wd r q A E R => by
  cases r with
  | lst na ho ra =>
  cases q with
  | lst nb hb' rb =>
  obtain ⟨as, r1⟩ := reads_T ra
  obtain ⟨bs, r2⟩ := reads_T rb
  refine ne_dataH (reads_list_at ho rfl rfl (by simpa using r1)) (reads_list_at hb' rfl rfl (by simpa using r2)) (shaped_T a ha) (shaped_T b hb) R.units64 ?_
  rw [show PyData.eqv (.list (a.map fun x => PyData.str ⟨x.toArray⟩)) (.list (b.map fun x => PyData.str ⟨x.toArray⟩)) = decide (a = b) by simp only [PyData.eqv, eqvAll_T]]
  exact out_bool _
theorem any_T (a : Tx) : ∀ l : List Tx, (l.map fun x => (⟨x.toArray⟩ : PySem.Str)).any (· == ⟨a.toArray⟩) = l.contains a
  | [] => rfl
  | x :: l => by
    rw [List.map_cons, List.any_cons, any_T a l, List.contains_cons]
    by_cases h : x = a
    · simp [h]
    · have h' : a ≠ x := fun e => h e.symm
      have h2 : (⟨x.toArray⟩ : PySem.Str) ≠ ⟨a.toArray⟩ := fun e => h (by injection e with e; simpa using congrArg Array.toList e)
      rw [beq_false_of_ne h2, beq_false_of_ne h']
theorem Cmp.inL {a : Tx} {l : List Tx} : Cmp W n .In (T a) (.lst (l.map T)) (l.contains a) := fun mu s v w wd r q A E R => by
  obtain ⟨t, rfl⟩ := rd_T r
  cases q with
  | lst nb hb rb =>
  refine in_list_strs ⟨_, hb, rfl, _, rfl⟩ (strsAre_T rb) ?_
  rw [any_T]; exact out_bool _
theorem Cmp.notInTup {a : Tx} {l : List Tx} : Cmp W n .NotIn (T a) (.tup (l.map T)) (!l.contains a) := fun mu s v w wd r q A E R => by
  obtain ⟨t, rfl⟩ := rd_T r
  cases q with
  | tup nb hb rb =>
  refine notin_tuple_strs ⟨_, hb, rfl, _, rfl⟩ (by simpa using strsAre_T rb) ?_
  rw [any_T]; exact out_bool _
end
end Mine

/-! M11 -/
namespace Mine

section
variable {W : Wr} {n : Nat} {mu : List Addr} {env : Env} {G G₁ G₂ : Ga} {fp av : List Addr}

/-! dicts keyed by texts -/
def key (a : Tx) : PySem.Str := ⟨a.toArray⟩
/-- what a dict holds under a key -/
def atK {κ : Type} [DecidableEq κ] : List κ → List D → κ → Option D
  | k :: ks, d :: ds, x => if k = x then some d else atK ks ds x
  | _, _, _ => Option.none
theorem atK_val {κ : Type} [DecidableEq κ] {h : Heap} (x : κ) : ∀ {kvs : List (κ × Value)} {ds : List D}, RdAll W mu h (kvs.map (·.2)) ds → (match atK (kvs.map (·.1)) ds x with | some d => ∃ v, valueAt kvs x = some v ∧ Rd W mu h v d | Option.none => valueAt kvs x = Option.none)
  | [], _, .nil => by simp [atK, valueAt]
  | (k, v) :: kvs, d :: ds, .cons r rs => by
    have ih := atK_val x rs
    unfold valueAt at ih ⊢
    simp only [List.map_cons, atK, List.find?_cons]
    by_cases e : k = x
    · rw [if_pos e]
      simp only [e, decide_true]
      exact ⟨v, rfl, r⟩
    · rw [if_neg e]
      simp only [e, decide_false]
      exact ih
theorem Cmp.inD {a : Tx} {ks : List PySem.Str} {ds : List D} : Cmp W n .In (T a) (.dct ks ds) (atK ks ds (key a)).isSome := fun mu s v w wd r q A E R => by
  obtain ⟨t, rfl⟩ := rd_T r
  cases q with
  | dct na hs hd ra =>
  refine wpAny_in_of (knd := strKind W.prog W.w) (k := key a) (by simp [PySem.strKind, Value.isStrOf, key]) hs hd.mapOf ?_
  have := atK_val (key a) ra
  rename_i kvs
  cases e : atK (kvs.map (·.1)) ds (key a) with
  | none => rw [e] at this; rw [this]; exact ⟨⟨_, _, rfl⟩, fun _ _ e => e, .bool _⟩
  | some d => rw [e] at this; obtain ⟨v, e', _⟩ := this; rw [e']; exact ⟨⟨_, _, rfl⟩, fun _ _ e => e, .bool _⟩
theorem Sub.dct {a : Tx} {ks : List PySem.Str} {ds : List D} {d : D} (h : atK ks ds (key a) = some d) : Sub W n (.dct ks ds) (T a) d := fun mu s v₁ v₂ wd r q => by
  obtain ⟨t, rfl⟩ := rd_T q
  cases r with
  | dct na hs hd ra =>
  have := atK_val (key a) ra
  rw [h] at this
  obtain ⟨v, e, rv⟩ := this
  exact ⟨⟨"dict", _, hd.typeIs, slot_dict_getitem.lookup⟩, fun A E R => wpAny_getItem_of (knd := strKind W.prog W.w) (k := key a) (by simp [PySem.strKind, Value.isStrOf, key]) hd.mapOf e ⟨⟨_, _, rfl⟩, fun _ _ e => e, rv⟩⟩
theorem Sub.dcx {k : Option Int} {ks : List (Option Int)} {ds : List D} {d : D} (h : atK ks ds k = some d) : Sub W n (.dcx ks ds) (match k with | some i => .int i | Option.none => .none) d := fun mu s v₁ v₂ wd r q => by
  cases r with
  | dcx na hs hd ra =>
  have := atK_val k ra
  rw [h] at this
  obtain ⟨v, e, rv⟩ := this
  refine ⟨⟨"dict", _, hd.typeIs, slot_dict_getitem.lookup⟩, fun A E R => wpAny_getItem_of (knd := optKind W.prog W.w) (k := k) ?_ hd.mapOf e ⟨⟨_, _, rfl⟩, fun _ _ e => e, rv⟩⟩
  cases k with
  | none => cases q; rfl
  | some i => cases q; simp [optKind, isOpt, Value.isInt]
theorem Mth.get {ks : List PySem.Str} {ds : List D} : Mth W "get" (.dct ks ds) (.builtin "dict.get") := fun mu s v wd r A E pl Q h => by
  cases r with
  | dct na hs hd ra =>
  exact getMethod_builtin hd.typeIs F.plainAttrs_dict F.slot_dict_get F.type_dict_get hd.mapOf.noDict h
theorem Cal.get1 {a : Tx} {ks : List PySem.Str} {ds : List D} : Cal W n (.builtin "dict.get") [.dct ks ds, T a] ((atK ks ds (key a)).getD .none) := fun mu s vs wd r A E R => by
  cases r with
  | cons r rs =>
  cases rs with
  | cons q rs =>
  cases rs
  obtain ⟨t, rfl⟩ := rd_T q
  cases r with
  | dct na hs hd ra =>
  refine call_meetsIn F.slot_dict_get hd.typeIs F.entry_dict_get (F.args_dict_get_2 _ _) (meets_dict_get (strKind W.prog W.w) _ (k := key a) (by simp [PySem.strKind, Value.isStrOf, key]) hs) ⟨_, hd.mapOf, ?_⟩
  have := atK_val (key a) ra
  rename_i kvs
  cases e : atK (kvs.map (·.1)) ds (key a) with
  | none => rw [e] at this; rw [this]; exact ⟨⟨_, _, rfl⟩, fun _ _ e => e, .none⟩
  | some d => rw [e] at this; obtain ⟨v, e', rv⟩ := this; rw [e']; exact ⟨⟨_, _, rfl⟩, fun _ _ e => e, rv⟩
theorem Cal.get2 {a : Tx} {ks : List PySem.Str} {ds : List D} {d₀ : D} : Cal W n (.builtin "dict.get") [.dct ks ds, T a, d₀] ((atK ks ds (key a)).getD d₀) := fun mu s vs wd r A E R => by
  cases r with
  | cons r rs =>
  cases rs with
  | cons q rs =>
  cases rs with
  | cons q₂ rs =>
  cases rs
  obtain ⟨t, rfl⟩ := rd_T q
  cases r with
  | dct na hs hd ra =>
  refine call_meetsIn F.slot_dict_get hd.typeIs F.entry_dict_get (F.args_dict_get_3 _ _ _) (meets_dict_get_default (strKind W.prog W.w) _ (k := key a) (by simp [PySem.strKind, Value.isStrOf, key]) hs _) ⟨_, hd.mapOf, ?_⟩
  have := atK_val (key a) ra
  rename_i kvs
  cases e : atK (kvs.map (·.1)) ds (key a) with
  | none => rw [e] at this; rw [this]; exact ⟨⟨_, _, rfl⟩, fun _ _ e => e, q₂⟩
  | some d => rw [e] at this; obtain ⟨v, e', rv⟩ := this; rw [e']; exact ⟨⟨_, _, rfl⟩, fun _ _ e => e, rv⟩

/-! a vector's attributes -/
theorem handed_of {h : Heap} {v : Value} {d : D} (r : Rd W mu h v d) (hf : ∀ f, d ≠ .fn f) : handedIn v = true := by
  cases r <;> first | rfl | exact absurd rfl (hf _)
def Att (W : Wr) (d : D) (name : PySem.Str) (d' : D) : Prop := ∀ mu (s : Shared) v, Wd W mu s.heap → Rd W mu s.heap v d → ∀ A E, wpAny (Mo W) A (getAttr v name true) (fun v' s' => Same s s' ∧ Keep s.heap s'.heap ∧ Rd W mu s'.heap v' d') E s
theorem att_go {s : Shared} {x dx : Addr} {es : List DictEntry} {k : Nat} {name : PySem.Str} {v : Value} {d : D} (wd : Wd W mu s.heap) (hn : name ∈ (["kind", "items", "attrs", "shared", "loose"] : List PySem.Str)) (hx : s.heap.get? x = some (instObj W.C dx)) (hdx : s.heap.get? dx = some (dictOf es k))
    (hl : getL name es = some (some v)) (r : Rd W mu s.heap v d) (hf : ∀ f, d ≠ .fn f) {A : Around} {E : Value → Shared → Prop} : wpAny (Mo W) A (getAttr (.ref x) name true) (fun v' s' => Same s s' ∧ Keep s.heap s'.heap ∧ Rd W mu s'.heap v' d) E s := by
  obtain ⟨ha, _⟩ := W.attr name hn
  exact get_value (K := W.K) (fun a o e => wd.1 a o (W.kin a o e)) (C := W.C) (od := some (dictOf es k)) ⟨hx, rfl, rfl, hdx⟩ W.pget (findObj_own W.hasDict ha rfl hl) (handed_of r hf) ⟨⟨_, _, rfl⟩, fun _ _ e => e, r⟩
theorem Att.kind {k : Tx} {di da : D} : Att W (.vec (key k) di da) "kind" (T k) := fun mu s v wd r A E => by
  cases r with
  | vec n1 n2 hx hdx hk hi ha ri ra => exact att_go wd (by simp) hx hdx hk (.str _ _) (fun f e => by cases e)
/-- no function -/
def noFn : D → Bool
  | .fn _ => false
  | _ => true
theorem noFn_ne {d : D} (h : noFn d = true) : ∀ f, d ≠ .fn f := fun f e => by rw [e] at h; cases h
theorem Att.items {k : PySem.Str} {di da : D} (h : noFn di = true := by rfl) : Att W (.vec k di da) "items" di := fun mu s v wd r A E => by
  have hf := noFn_ne h
  cases r with
  | vec n1 n2 hx hdx hk hi ha ri ra => exact att_go wd (by simp) hx hdx hi ri hf
theorem Att.attrs {k : PySem.Str} {di da : D} (h : noFn da = true := by rfl) : Att W (.vec k di da) "attrs" da := fun mu s v wd r A E => by
  have hf := noFn_ne h
  cases r with
  | vec n1 n2 hx hdx hk hi ha ri ra => exact att_go wd (by simp) hx hdx ha ra hf
theorem Ev.attr {e : Expr} {name : PySem.Str} {pos : Pos} {d d' : D} (x : Ev W n env G e G₁ d) (z : Att W d name d')
    (he : eval (.Attribute e name pos) env = (do
      let o ← eval e env
      standAt pos.atName
      let r ← holding [o] (getAttr o name true)
      letTemporaryGo e o r
      pure r) := by with_unfolding_all rfl) : Ev W n env G (.Attribute e name pos) G₁ d' := fun fp av A E s r S =>
  Attribute_any_ (wpAny_mono (x fp av A E s r S) (fun v s₁ q => wpAny_mono (z _ s₁ v q.2.2.1.wd q.2.2.2 A E) (fun v' s₂ p =>
    ⟨q.1.trans p.1, q.2.1.trans (.of_keep p.2.1), q.2.2.1.keep p.2.1, p.2.2⟩) fun _ _ x => x) fun _ _ x => x) he
end
end Mine

/-! M12 -/
namespace Mine

section
variable {W : Wr} {n : Nat} {mu : List Addr} {env : Env} {G G₁ G₂ : Ga} {fp av : List Addr} {h h' : Heap} {R R' : Post} {rest : List Stmt}

/-! And as a value, of two truth values -/
theorem Ev.and2 {x y : Expr} {pos : Pos} {b : Bool} {d : D} (p : Ev W n env G x G (.bool b)) (q : b = true → Ev W n env G y G d) (hd : b = false → d = .bool false) : Ev W n env G (.BoolOp .And [x, y] pos) G d := fun fp av A E s r S =>
  wpAny_And2 (wpAny_mono (p fp av A E s r S) (fun v s₁ q₁ => by
    obtain ⟨sm, k, S₁, rv⟩ := q₁
    cases rv
    refine wpAny_truthy_bool ?_
    cases b with
    | true => exact wpAny_mono (q rfl fp av A E s₁ r S₁) (fun v s₂ q => ⟨sm.trans q.1, k.trans q.2.1, q.2.2⟩) fun _ _ x => x
    | false => exact ⟨sm, k, S₁, by rw [hd rfl]; exact .bool _⟩) fun _ _ x => x)

/-! texts with holes -/
theorem Ev.fmtI {e : Expr} {pos : Pos} {i : Int} (x : Ev W n env G e G₁ (.int i)) (hi : -1000000000000000000000000000000 < i ∧ i < 1000000000000000000000000000000) : Ev W n env G (.FormattedValue e (-1) Option.none pos) G₁ (T (itoa i)) := fun fp av A E s r S =>
  wpAny_FormattedValue_plain (wpAny_mono (x fp av A E s r S) (fun v s₁ q₁ => by
    obtain ⟨sm, k, S₁, rv⟩ := q₁
    cases rv
    refine wpAny_formatField_int (log2_small hi) ?_
    exact ⟨sm.trans ⟨_, _, rfl⟩, k, S₁, (out_T (W := W) (mu := fp ++ av) (s := s₁) _ (s₁.toks + 1 + 1) rfl).2.2⟩) fun _ _ x => x)
def JP (W : Wr) (n : Nat) (env : Env) (G : Ga) : List Expr → List Tx → Prop
  | [], [] => True
  | e :: es, t :: ts => Ev W n env G e G (T t) ∧ JP W n env G es ts
  | _, _ => False
theorem JP.run {A : Around} {E : Value → Shared → Prop} (r : Room n A) {s₀ : Shared} {es : List Expr} {ts : List Tx} {acc : PySem.Str} {s : Shared} {Q : PySem.Str → Shared → Prop} (j : JP W n env G es ts) (hz : acc.cps.size + (ts.map (·.length)).sum ≤ 1000000) (sm : Same s₀ s) (k : KE fp s₀.heap s.heap) (S : St W env fp av G s.heap)
    (h : ∀ out s', out.cps.toList = acc.cps.toList ++ ts.flatten → Same s₀ s' → KE fp s₀.heap s'.heap → St W env fp av G s'.heap → Q out s') : Joins (Mo W) A E (evalEach es env) acc Q s := by
  induction es generalizing ts acc s with
  | nil =>
    cases ts with
    | nil => exact h acc s (by simp) sm k S
    | cons t ts => exact (j : False).elim
  | cons e es ih =>
    cases ts with
    | nil => exact (j : False).elim
    | cons t ts =>
      refine Joins_cons (wpAny_mono (j.1 fp av A E s r S) (fun v s₁ q => ?_) fun _ _ x => x)
      obtain ⟨sm₁, k₁, S₁, rv⟩ := q
      obtain ⟨t', rfl⟩ := rd_T rv
      have e1 : (acc ++ (⟨t.toArray⟩ : PySem.Str)).cps = acc.cps ++ t.toArray := rfl
      simp only [List.map_cons, List.sum_cons] at hz
      refine ⟨_, _, rfl, ?_, ih j.2 ?_ (sm.trans sm₁) (k.trans k₁) S₁ fun out s' ho => h out s' ?_⟩
      · show (acc ++ (⟨t.toArray⟩ : PySem.Str)).cps.size ≤ _
        rw [e1, sizeLine_eq]; simp; omega
      · rw [e1]; simp; omega
      · rw [ho, e1]; simp
theorem Ev.joined {v₁ v₂ : Expr} {rest : List Expr} {pos : Pos} {ts : List Tx} (j : JP W n env G (v₁ :: v₂ :: rest) ts) (hz : (ts.map (·.length)).sum ≤ 1000000) : Ev W n env G (.JoinedStr (v₁ :: v₂ :: rest) pos) G (T ts.flatten) := fun fp av A E s r S =>
  wpAny_JoinedStr (JP.run r j (by show 0 + _ ≤ _; omega) (Same.refl s) (KE.refl _ _) S fun out s' ho sm k S' => by
    have e : out.cps.toList = ts.flatten := by rw [ho]; rfl
    refine ⟨?_, sm.trans ⟨_, _, rfl⟩, k, S', (out_T (W := W) (mu := fp ++ av) (s := s') _ (s'.toks + 1) e).2.2⟩
    show out.cps.size ≤ _
    have h2 : ∀ ts : List Tx, ts.flatten.length = (ts.map (·.length)).sum := fun ts => by rw [List.length_flatten]
    rw [sizeLine_eq, ← Array.length_toList, e, h2]; omega)

/-! a sign so often -/
theorem mul_list (c : Nat) (i : Int) : (Txt.mul ⟨[c].toArray⟩ i).cps.toList = List.replicate i.toNat c := by
  unfold Txt.mul
  by_cases h1 : i < 1
  · rw [if_pos h1, show i.toNat = 0 by omega]; rfl
  · rw [if_neg h1]
    split
    · rename_i hc
      have : i = 1 := by simpa [PySem.Str.length] using hc
      rw [this]; rfl
    · have : ∀ (k : Nat) (acc : Array Nat), ((List.replicate k ([c].toArray)).foldl (· ++ ·) acc).toList = acc.toList ++ List.replicate k c := by
        intro k
        induction k with
        | zero => intro acc; simp
        | succ k ih => intro acc; rw [List.replicate_succ, List.foldl_cons, ih, List.replicate_succ]; simp
      rw [this]; simp
theorem Bin.mulT {c : Nat} {i : Int} (hi : -1000000 ≤ i ∧ i ≤ 1000000) : Bin W n .Mult (T [c]) (.int i) (T (List.replicate i.toNat c)) := fun mu s v w wd r q A E R => by
  obtain ⟨t, rfl⟩ := rd_T r
  cases q
  exact SB.mul (mulOk_of 1 1000000 (by rw [len_T]; simp) (by omega) (by omega) (by decide) (by decide)) fun t' k => out_T _ _ (mul_list c i)

/-! names bound to a tuple's items -/
def nmOf : Expr → PySem.Str
  | .Name x _ => x
  | _ => ""
def NamesL (env : Env) : List Expr → Prop
  | [] => True
  | .Name x _ :: es => env.kindOf x = some .local ∧ NamesL env es
  | _ => False
theorem Exs.assignTup {elts : List Expr} {kk : Nat} {tpos pos : Pos} {e : Expr} {ds : List D} (v : Ev W n env G e G₁ (.tup ds)) (hk : NamesL env elts) (hl : elts.length = ds.length)
    (y : Exs W n env (((elts.map nmOf).zip (ds.map B.fz)).reverse ++ G₁) rest R) (ht : (assignEach elts env).map (·.2) = elts.map fun e => PySem.assign e env := by rfl)
    (hn : (assignEach elts env).length = elts.length := by rfl) (hstar : (assignEach elts env).findIdx? (·.1) = Option.none := by rfl)
    (hs : swapsWithSole [.Tuple elts kk tpos] e pos.line env = pure false := by rfl) (hw : swappedStores [.Tuple elts kk tpos] e env = pure Option.none := by rfl) :
    Exs W n env G (.Assign [.Tuple elts kk tpos] e pos :: rest) R := Exs.cons (G₁ := ((elts.map nmOf).zip (ds.map B.fz)).reverse ++ G₁) (fun fp av A E s r S => by
  refine Assign_Tuple (wpAny_mono (v fp av A E s r S) (fun v s₁ q => ?_) fun _ _ x => x) hs hw
  obtain ⟨sm, k, S₁, rv⟩ := q
  cases rv with
  | tup na ho rs =>
  rename_i a vs j
  have hlen := rs.length
  refine assign_Tuple_tuple r.1 (items := vs.toArray) ⟨_, ho, rfl, j, rfl⟩ (by rw [hn, hl]; simp [hlen]) hstar fun h₁ ex => ?_
  rw [ht]
  have kp : Keep s₁.heap h₁ := fun b o e => ex b o (Nat.ne_of_lt (Heap.lt_size e)) e
  have S₂ : St W env fp av G₁ h₁ := S₁.keep kp
  have rs₂ := rs.keep kp
  have sm₂ : Same s { s₁ with heap := h₁ } := sm.trans ⟨_, _, rfl⟩
  have k₂ : KB fp s.heap h₁ := k.kb.trans (.of_keep kp)
  clear ho hn hstar hs hw ht
  have go : ∀ (xs : List Expr) (vs : List Value) (ds : List D) (G : Ga) (s₂ : Shared), NamesL env xs → xs.length = ds.length → Same s s₂ → KB fp s.heap s₂.heap → St W env fp av G s₂.heap → RdAll W (fp ++ av) s₂.heap vs ds →
      wpAny (Mo W) A (assignInOrder (xs.map fun x => PySem.assign x env) vs) (fun _ s' => Same s s' ∧ KB fp s.heap s'.heap ∧ St W env fp av (((xs.map nmOf).zip (ds.map B.fz)).reverse ++ G) s'.heap) E s₂ := by
    intro xs
    induction xs with
    | nil =>
      intro vs ds G s₂ _ hl sm k S rs
      cases ds with
      | nil => cases rs; exact assignInOrder_nil ⟨sm, k, by simpa using S⟩
      | cons => cases hl
    | cons x xs ih =>
      intro vs ds G s₂ hk hl sm k S rs
      cases ds with
      | nil => cases hl
      | cons d ds =>
        cases rs with
        | cons r₁ rs =>
        cases x with
        | Name x p =>
          refine assignInOrder_cons (PyProof.Rows.assign_Name (wpAny_mono (store_fz (s₀ := s₂) hk.1 S r₁ (Same.refl _) (KB.refl _ _)) (fun _ s₃ q => ?_) fun _ _ x => x))
          obtain ⟨sm₃, k₃, S₃⟩ := q
          refine wpAny_mono (ih _ ds _ s₃ hk.2 (by simpa using hl) (sm.trans sm₃) (k.trans k₃) S₃ (rs.kb k₃)) (fun _ s₄ q => ⟨q.1, q.2.1, ?_⟩) fun _ _ x => x
          have := q.2.2
          simpa [nmOf] using this
        | _ => exact hk.elim
  refine wpAny_mono (go elts vs ds G₁ { s₁ with heap := h₁ } hk hl sm₂ k₂ S₂ rs₂) (fun _ s' q => ⟨q.1, q.2.1, fp, fun a m => .inl m, rfl, q.2.2⟩) fun _ _ x => x) y

/-! dict displays -/
def EvPairs (W : Wr) (n : Nat) (env : Env) (G : Ga) (pos : Pos) (ks : List (Option Expr)) (vs : List Expr) (kd vd : List D) : Prop :=
  ∀ fp av A E s, Room n A → St W env fp av G s.heap → wpAny (Mo W) A (evalPairs (pairTrees ks vs env pos)) (fun r s' => Same s s' ∧ KE fp s.heap s'.heap ∧ St W env fp av G s'.heap ∧ RdAll W (fp ++ av) s'.heap (r.map (·.1)) kd ∧ RdAll W (fp ++ av) s'.heap (r.map (·.2)) vd) E s
theorem EvPairs.nil {pos : Pos} : EvPairs W n env G pos [] [] [] [] := fun fp av A E s r S => pairTrees_nil_walk ⟨Same.refl s, KE.refl _ _, S, .nil, .nil⟩
theorem RdAll.ke {vs : List Value} {ds : List D} (k : KE fp h h') (r : RdAll W (fp ++ av) h vs ds) : RdAll W (fp ++ av) h' vs ds := RdAll.kb k.kb r
theorem EvPairs.cons {pos : Pos} {k v : Expr} {ks : List (Option Expr)} {vs : List Expr} {d d' : D} {kd vd : List D} (x : Ev W n env G k G d) (y : Ev W n env G v G d') (z : EvPairs W n env G pos ks vs kd vd) : EvPairs W n env G pos (some k :: ks) (v :: vs) (d :: kd) (d' :: vd) := fun fp av A E s r S =>
  pairTrees_cons_walk (wpAny_mono (x fp av A E s r S) (fun kv s₁ q₁ => wpAny_mono (y fp av A E s₁ r q₁.2.2.1) (fun vv s₂ q₂ => wpAny_mono (z fp av A E s₂ r q₂.2.2.1) (fun ps s₃ q₃ =>
    ⟨q₁.1.trans (q₂.1.trans q₃.1), q₁.2.1.trans (q₂.2.1.trans q₃.2.1), q₃.2.2.1, .cons (Rd.ke (q₂.2.1.trans q₃.2.1) q₁.2.2.2) q₃.2.2.2.1, .cons (Rd.ke q₃.2.1 q₂.2.2.2) q₃.2.2.2.2⟩) fun _ _ x => x) fun _ _ x => x) fun _ _ x => x)

theorem Wr.above (W : Wr) {mu : List Addr} {h : Heap} (w : Wd W mu h) : (h.objs.size == sysModules) = false := by
  obtain ⟨o, _, _, e, _⟩ := W.g
  have := Heap.lt_size (w.1 _ _ e)
  have h2 : sysModules < mainGlobals := by decide
  exact beq_false_of_ne (Nat.ne_of_gt (Nat.lt_trans h2 this))

theorem dict_go {κ : Type} [DecidableEq κ] {knd : KeyKind W.prog W.w κ} {keys : List (Option Expr)} {values : List Expr} {pos : Pos} {kd vd : List D} {ks : List κ} {d : D} (p : EvPairs W n env G pos keys values kd vd)
    (hc : ∀ mu h (vs : List (Value × Value)), RdAll W mu h (vs.map (·.1)) kd → RdAll W mu h (vs.map (·.2)) vd → ∃ kvs : List (κ × Value), kvs.map (·.1) = ks ∧ kvs.map (·.2) = vs.map (·.2) ∧ Carries knd vs kvs) (hnd : ks.Nodup)
    (mk : ∀ mu h a (kvs : List (κ × Value)), a ∉ mu → (a == sysModules) = false → h.DictOf knd a kvs → kvs.map (·.1) = ks → RdAll W mu h (kvs.map (·.2)) vd → Rd W mu h (.ref a) d)
    (hall : keys.all (·.isSome) = true) (hl : keys.length = values.length) (h0 : keys ≠ []) (hlen : keys.length ≤ 15) : Ev W n env G (.Dict keys values pos) G d := fun fp av A E s r S => by
  have hn := fresh_size s.heap
  have hab := W.above S.wd
  refine wpAny_Dict_walk (knd := knd) hall hl h0 hlen ?_
  generalize hae : s.heap.objs.size = a at hn hab ⊢
  have ha : (s.heap.push { cls := .type "dict", data := .dict #[] }).get? a = some { cls := .type "dict", data := .dict #[] } := hae ▸ Heap.get?_push_size _ rfl
  have hD : (s.heap.push { cls := .type "dict", data := .dict #[] }).DictOf knd a [] := hae ▸ Heap.DictOf.new _
  have kp : Keep s.heap (s.heap.push { cls := .type "dict", data := .dict #[] }) := fun b o e => Heap.get?_push_of_some _ e
  have S₁ : St W env fp (a :: av) G (s.heap.push { cls := .type "dict", data := .dict #[] }) := S.avoid kp hn ha
  have hafp : a ∉ fp := fun m => by
    obtain ⟨o, e⟩ := S.live a (List.mem_append_left _ m)
    rw [hn] at e; cases e
  have haav : a ∉ fp ++ av := fun m => by
    obtain ⟨o, e⟩ := S.live a m
    rw [hn] at e; cases e
  refine wpAny_mono (p fp (a :: av) A E { s with heap := s.heap.push { cls := .type "dict", data := .dict #[] } } r S₁) (fun vs s₁ q => ?_) fun _ _ x => x
  obtain ⟨sm, k, S₂, rk, rv⟩ := q
  obtain ⟨kvs, e1, e2, ca⟩ := hc _ _ vs rk rv
  refine ⟨kvs, ca, hD.at fun o e => ?_, fun h₂ hm hs => ?_⟩
  · obtain ⟨o', e', z⟩ := k a o e
    rw [z (.inl hafp)] at e'; exact e'
  rw [merged_nil_of_nodup _ (e1 ▸ hnd)] at hm
  have hk : ∀ b o, b ≠ a → s₁.heap.get? b = some o → h₂.get? b = some o := fun b o ne e => (hs.2 b ne).trans e
  have S₃ : St W env fp av G h₂ := S₂.offI hafp (fun x c e z => haav (z ▸ (S.cel x c e).1)) (by
    cases e : W.H.get? a with
    | none => rfl
    | some o => have := (S.base a o e).1; rw [hn] at this; cases this) hk (fun b m => List.mem_cons_of_mem _ m) (fun b m => m) fun m => absurd (List.mem_append_right _ m) haav
  refine ⟨Same.trans (Same.trans ⟨_, _, rfl⟩ sm) ⟨_, _, rfl⟩, fun b o e => ?_, S₃, mk _ _ a kvs haav hab hm e1 (e2 ▸ rv.move fun b o m e => ?_)⟩
  · have ne : b ≠ a := fun z => by rw [z, hn] at e; cases e
    obtain ⟨o', e', z⟩ := k b o (kp b o e)
    exact ⟨o', hk b o' ne e', z⟩
  · have ne : b ≠ a := fun z => m (z ▸ List.mem_append_right _ (.head _))
    exact ⟨fun z => m ((List.mem_append.mp z).elim (List.mem_append_left _) fun z => List.mem_append_right _ (List.mem_cons_of_mem _ z)), hk b o ne e⟩

theorem RdAll.tail {h : Heap} {v : Value} {vs : List Value} {d : D} {ds : List D} (r : RdAll W mu h (v :: vs) (d :: ds)) : Rd W mu h v d ∧ RdAll W mu h vs ds := by cases r with | cons a b => exact ⟨a, b⟩
theorem RdAll.split {h : Heap} {v : Value} {vs : List Value} {ds : List D} (r : RdAll W mu h (v :: vs) ds) : ∃ d es, ds = d :: es ∧ Rd W mu h v d ∧ RdAll W mu h vs es := by cases r with | cons a b => exact ⟨_, _, rfl, a, b⟩
theorem carr_str {h : Heap} (ks : List Tx) : ∀ (vd : List D) (vs : List (Value × Value)), RdAll W mu h (vs.map (·.1)) (ks.map T) → RdAll W mu h (vs.map (·.2)) vd → ∃ kvs : List (PySem.Str × Value), kvs.map (·.1) = ks.map key ∧ kvs.map (·.2) = vs.map (·.2) ∧ Carries (strKind W.prog W.w) vs kvs := by
  induction ks with
  | nil =>
    intro vd vs r q
    cases vs with
    | nil => exact ⟨[], rfl, rfl, trivial⟩
    | cons x vs => have := r.length; cases this
  | cons k ks ih =>
    intro vd vs r q
    cases vs with
    | nil => have := r.length; cases this
    | cons x vs =>
      obtain ⟨r1, r2⟩ := RdAll.tail r
      obtain ⟨d, es, rfl, q1, q2⟩ := RdAll.split q
      obtain ⟨kvs, e1, e2, c⟩ := ih _ vs r2 q2
      obtain ⟨t, e⟩ := rd_T r1
      obtain ⟨kv, vv⟩ := x
      subst e
      exact ⟨(key k, vv) :: kvs, by simp [e1], by simp [e2], by simp [PySem.strKind, Value.isStrOf, key], rfl, c⟩
theorem Ev.dictS {keys : List (Option Expr)} {values : List Expr} {pos : Pos} {ks : List Tx} {vd : List D} (p : EvPairs W n env G pos keys values (ks.map T) vd) (hnd : (ks.map key).Nodup)
    (hall : keys.all (·.isSome) = true := by rfl) (hl : keys.length = values.length := by rfl) (h0 : keys ≠ [] := by nofun) (hlen : keys.length ≤ 15 := by decide) : Ev W n env G (.Dict keys values pos) G (.dct (ks.map key) vd) :=
  dict_go (knd := strKind W.prog W.w) p (fun mu h vs r q => carr_str ks vd vs r q) hnd (fun mu h a kvs na hs hd e r => e ▸ .dct na hs hd r) hall hl h0 hlen
def optD : Option Int → D
  | some i => .int i
  | Option.none => .none
theorem opt_is {h : Heap} {k : Option Int} {v : Value} (r : Rd W mu h v (optD k)) : isOpt k v = true := by
  cases k with
  | none => cases r; rfl
  | some i => cases r; simp [isOpt, Value.isInt]
theorem carr_opt {h : Heap} (ks : List (Option Int)) : ∀ (vd : List D) (vs : List (Value × Value)), RdAll W mu h (vs.map (·.1)) (ks.map optD) → RdAll W mu h (vs.map (·.2)) vd → ∃ kvs : List (Option Int × Value), kvs.map (·.1) = ks ∧ kvs.map (·.2) = vs.map (·.2) ∧ Carries (optKind W.prog W.w) vs kvs := by
  induction ks with
  | nil =>
    intro vd vs r q
    cases vs with
    | nil => exact ⟨[], rfl, rfl, trivial⟩
    | cons x vs => have := r.length; cases this
  | cons k ks ih =>
    intro vd vs r q
    cases vs with
    | nil => have := r.length; cases this
    | cons x vs =>
      obtain ⟨r1, r2⟩ := RdAll.tail r
      obtain ⟨d, es, rfl, q1, q2⟩ := RdAll.split q
      obtain ⟨kvs, e1, e2, c⟩ := ih _ vs r2 q2
      exact ⟨(k, x.2) :: kvs, by simp [e1], by simp [e2], opt_is r1, rfl, c⟩
theorem Ev.dictX {keys : List (Option Expr)} {values : List Expr} {pos : Pos} {ks : List (Option Int)} {vd : List D} (p : EvPairs W n env G pos keys values (ks.map optD) vd) (hnd : ks.Nodup)
    (hall : keys.all (·.isSome) = true := by rfl) (hl : keys.length = values.length := by rfl) (h0 : keys ≠ [] := by nofun) (hlen : keys.length ≤ 15 := by decide) : Ev W n env G (.Dict keys values pos) G (.dcx ks vd) :=
  dict_go (knd := optKind W.prog W.w) p (fun mu h vs r q => carr_opt ks vd vs r q) hnd (fun mu h a kvs na hs hd e r => e ▸ .dcx na hs hd r) hall hl h0 hlen
end
end Mine

/-! M13 -/
namespace Mine

section
variable {W : Wr} {n : Nat} {mu : List Addr} {env : Env} {G G₁ G₂ : Ga} {fp av : List Addr} {h h' : Heap} {R R' : Post} {rest : List Stmt} {pin : Option Addr}

theorem Seen.ke {x : PySem.Str} {v : Value} (S : St W env fp av G h) (k : KE fp h h') (s : Seen env h x v) : Seen env h' x v := s.move (fun o e => by
    obtain ⟨m, o', es, ep, ho', hd', _⟩ := S.ns
    obtain ⟨o₂, e₂, z⟩ := k _ o e
    rw [ho'] at e; cases e
    rw [z (.inr fun its j q => by rw [hd'] at q; cases q)] at e₂
    exact e₂) fun c o hc e => by
    obtain ⟨_, _, w, o', ho', hd'⟩ := S.cel x c hc
    obtain ⟨o₂, e₂, z⟩ := k _ o e
    rw [ho'] at e; cases e
    rw [z (.inr fun its j q => by rw [hd'] at q; cases q)] at e₂
    exact e₂

/-- an own list as it stands -/
theorem own_at {x : PySem.Str} {ds : List D} (S : St W env fp av G h) (hx : G.lookup x = some (.own ds pin)) : ∃ a vs k, Seen env h x (.ref a) ∧ (a ∈ fp ∧ a ∉ av) ∧ h.get? a = some (listOf vs.toArray k) ∧ RdO W (fp ++ av) h pin a vs ds := by
  obtain ⟨v, sx, a, vs, k, rfl, q⟩ := S.bd x _ hx
  exact ⟨a, vs, k, sx, q⟩
theorem own_uniq {x : PySem.Str} {ds : List D} {a : Addr} (S : St W env fp av G h) (hx : G.lookup x = some (.own ds pin)) (sx : Seen env h x (.ref a)) : ∃ vs k, (a ∈ fp ∧ a ∉ av) ∧ h.get? a = some (listOf vs.toArray k) ∧ RdO W (fp ++ av) h pin a vs ds := by
  obtain ⟨a', vs, k, sx', q⟩ := own_at S hx
  cases sx.uniq sx'
  exact ⟨vs, k, q⟩
theorem own_name {x : PySem.Str} {pos : Pos} {a : Addr} {A : Around} {E : Value → Shared → Prop} {s : Shared} {Q : Value → Shared → Prop} (S : St W env fp av G s.heap) (sx : Seen env s.heap x (.ref a)) (q : Q (.ref a) s) (hd : (x == ("__debug__" : PySem.Str)) = false) :
    wpAny (Mo W) A (eval (.Name x pos) env) Q E s := by
  refine wpAny_Name ?_ hd
  rcases sx with ⟨k, m, hn, hm⟩ | ⟨k | k, c, hc, hv⟩
  · exact wpAny_loadName_local S.ok.kind k hn hm q
  · exact wpAny_loadName_cell S.ok.kind k hc hv q
  · exact wpAny_loadName_free S.ok.kind k.1 hc hv q k.2

/-- an item of an own list -/
theorem Ev.subOwn {x : PySem.Str} {np pos : Pos} {slice : Expr} {ds : List D} {i : Int} {d : D} (hx : G.lookup x = some (.own ds pin)) (y : Ev W n env G slice G (.int i)) (h0 : 0 ≤ i) (hi : i < 1000000) (hd : ds[i.toNat]? = some d)
    (hs : ∀ o i, ∃ ops, subscripted slice false o i = operate ops (getItem o i) := by intro o i; exact ⟨_, by with_unfolding_all rfl⟩) (hb : (x == ("__debug__" : PySem.Str)) = false := by decide +kernel) : Ev W n env G (.Subscript (.Name x np) slice pos) G d := fun fp av A E s r S => by
  obtain ⟨a, vs, k, sx, _⟩ := own_at S hx
  refine Subscript_ (own_name S sx ?_ hb)
  refine wpAny_mono (y fp av A E s r S) (fun v₂ s₂ q₂ => ?_) fun _ _ x => x
  obtain ⟨sm, ke, S₂, rv⟩ := q₂
  obtain ⟨us, j, hfp, ho, ra⟩ := own_uniq S₂ hx (sx.ke S ke)
  cases rv
  obtain ⟨v, hv, rv⟩ := ra.1.get hd
  have hl : s₂.heap.IsList a us.toArray := ⟨_, ho, rfl, j, rfl⟩
  obtain ⟨ops, hs⟩ := hs (.ref a) (Value.int i _)
  exact tail_any hl.typeIs slot_list_getitem.lookup (wpAny_getItem_list hl h0 (by omega) (by simpa using hv) ⟨sm, ke, S₂, rv⟩) hs

/-- an own list turned, as a state -/
theorem own_turn {x : PySem.Str} {ds ds' : List D} {a : Addr} {vs : List Value} {k : Nat} (S : St W env fp av G h) (hx : G.lookup x = some (.own ds pin)) (sx : Seen env h x (.ref a)) (f : Array Value → Array Value) {us us' : List Value} {j : Nat} (ho : h.get? a = some (listOf us.toArray j)) (hf : f us.toArray = us'.toArray)
    (hfp : a ∈ fp) (r : RdAll W (fp ++ av) h us' ds') : St W env fp av ((x, .own ds' pin) :: G) (h.update a (Obj.mapSeq f)) ∧ KB fp h (h.update a (Obj.mapSeq f)) := by
  have q := PySem.IsL.update ho f
  rw [hf] at q
  have hL : ∀ b o, b ≠ a → h.get? b = some o → (h.update a (Obj.mapSeq f)).get? b = some o := fun b o ne e => by rw [Heap.get?_update_other h _ ne.symm]; exact e
  refine ⟨S.setO hx sx q hL (r.move fun b o m e => ⟨m, hL b o (fun z => m (z ▸ List.mem_append_left _ hfp)) e⟩), fun b o e => ?_⟩
  by_cases z : b = a
  · subst z; exact ⟨_, q, fun n => absurd hfp n⟩
  · exact ⟨o, hL b o z e, fun _ => rfl⟩
theorem RdAll.set {vs : List Value} {ds : List D} {v : Value} {d : D} (rv : Rd W mu h v d) : ∀ {vs : List Value} {ds : List D} (i : Nat), RdAll W mu h vs ds → RdAll W mu h (vs.set i v) (ds.set i d)
  | [], _, _, .nil => .nil
  | _ :: _, _ :: _, 0, .cons _ rs => .cons rv rs
  | _ :: _, _ :: _, i + 1, .cons r rs => .cons r (RdAll.set (vs := vs) (ds := ds) rv i rs)

/-- an item of an own list set -/
theorem Exs.setSub {x : PySem.Str} {np pos pos' : Pos} {idx e : Expr} {ds : List D} {i : Int} {d : D} (hx : G.lookup x = some (.own ds pin)) (v : Ev W n env G e G d) (y : Ev W n env G idx G (.int i)) (h0 : 0 ≤ i) (hi : i < ds.length) (hz : ds.length ≤ 1000000) (z : Exs W n env ((x, .own (ds.set i.toNat d) pin) :: G) rest R)
    (hs : swapsWith e (some (.Subscript (.Name x np) idx pos')) pos.line env = pure false := by rfl) (hb : (x == ("__debug__" : PySem.Str)) = false := by decide +kernel) : Exs W n env G (.Assign [.Subscript (.Name x np) idx pos'] e pos :: rest) R :=
  Exs.cons (fun fp av A E s r S => wpAny_Assign_Subscript (wpAny_mono (v fp av A E s r S) (fun w s₁ q => by
    obtain ⟨sm₁, k₁, S₁, rw'⟩ := q
    obtain ⟨a, vs, k, sx, _⟩ := own_at S₁ hx
    refine own_name S₁ sx ?_ hb
    refine wpAny_mono (y fp av A E s₁ r S₁) (fun iv s₂ q => ?_) fun _ _ x => x
    obtain ⟨sm₂, k₂, S₂, ri⟩ := q
    cases ri
    have sx₂ := sx.ke S₁ k₂
    obtain ⟨us, j, hfp, ho, ra⟩ := own_uniq S₂ hx sx₂
    have hlen := ra.1.length
    refine ki_setAt ho h0 (by omega) (by simp; omega) ?_
    obtain ⟨S₃, k₃⟩ := own_turn (vs := vs) (k := k) S₂ hx sx₂ (·.setIfInBounds i.toNat w) ho (us' := us.set i.toNat w) (by simp) hfp.1 (RdAll.set (vs := us) (ds := ds) (rw'.ke k₂) i.toNat ra.1)
    exact ⟨(sm₁.trans sm₂).trans ⟨_, _, rfl⟩, (k₁.trans k₂).kb.trans k₃, fp, fun a m => .inl m, rfl, S₃⟩) fun _ _ x => x) hs) z

/-- an own list reversed -/
theorem Exs.reverseOwn {x : PySem.Str} {np apos pos spos : Pos} {pl : Sem Bool} {ds : List D} (hx : G.lookup x = some (.own ds pin)) (hz : ds.length ≤ 10000) (y : Exs W n env ((x, .own ds.reverse pin) :: G) rest R)
    (hc : eval (.Call (.Attribute (.Name x np) "reverse" apos) [] [] pos) env = (do
      let ov ← eval (.Name x np) env
      standAt apos.atName
      let (f, first) ← holding [ov] (getMethod ov "reverse" pl)
      callWith pos f first (backTo pos (starEach [] env)) []) := by rfl)
    (hd : (x == ("__debug__" : PySem.Str)) = false := by decide +kernel)
    (hi : interactive env = false := by rfl) (hs : swapsWith (.Call (.Attribute (.Name x np) "reverse" apos) [] [] pos) none spos.line env = pure false := by rfl) :
    Exs W n env G (.Expr (.Call (.Attribute (.Name x np) "reverse" apos) [] [] pos) spos :: rest) R :=
  Exs.cons (fun fp av A E s r S => by
    refine wpAny_Expr (MethodCall_ ?_ hc) hi hs
    obtain ⟨a, us, j, sx, hfp, ho, ra⟩ := own_at S hx
    have hlen := ra.1.length
    refine own_name S sx ?_ hd
    refine getMethod_builtin ⟨_, ho, rfl⟩ PySem.F.plainAttrs_list PySem.F.slot_list_reverse PySem.F.type_list_reverse (fun a e => by cases e; exact ⟨_, ho, rfl⟩) ?_
    refine callWith_go0 Cee.builtin (fun a o e => (S.base a o e).1) ?_
    refine call_meets PySem.F.slot_list_reverse ⟨_, ho, rfl⟩ PySem.F.entry_list_reverse (PySem.F.args_list_reverse_1 _) (PySem.AutoSeq1.list_reverse_list_0 a us.toArray j (by rw [sizeLine_eq]; simp; omega)) ⟨ho, ?_⟩
    obtain ⟨S₃, k₃⟩ := own_turn (vs := us) (k := j) S hx sx (fun x => x.reverse) ho (us' := us.reverse) (by simp) hfp.1 ra.1.reverse
    exact ⟨⟨_, _, rfl⟩, k₃, fp, fun a m => .inl m, rfl, S₃⟩) y

/-! calls that turn an own list, their first argument -/
def CalM (W : Wr) (n : Nat) (f : Value) (ds₀ args ds₁ : List D) (d : D) : Prop := ∀ mu s a vs k ws, Wd W mu s.heap → a ∈ mu → W.H.get? a = Option.none → s.heap.get? a = some (listOf vs.toArray k) → RdAll W mu s.heap vs ds₀ → RdAll W mu s.heap ws args → ∀ A E, Room n A →
  wpAny (Mo W) A (call f (.ref a :: ws)) (fun v s' => Same s s' ∧ (∀ b o, b ≠ a → s.heap.get? b = some o → s'.heap.get? b = some o) ∧ (∃ vs' k', s'.heap.get? a = some (listOf vs'.toArray k') ∧ RdAll W mu s'.heap vs' ds₁) ∧ Rd W mu s'.heap v d) E s
theorem CalM.ups {f : Value} {ds₀ args ds₁ : List D} {d : D} {m : Nat} (x : CalM W m f ds₀ args ds₁ d) (hm : m ≤ n) : CalM W n f ds₀ args ds₁ d := fun mu s a vs k ws w ha hH ho r q A E R => x mu s a vs k ws w ha hH ho r q A E (R.mono hm)

theorem Ev.callM {f : Expr} {fv : Value} {x : PySem.Str} {np pos : Pos} {args : List Expr} {ds₀ ds ds₁ : List D} {d : D} (p : Ev W n env G f G (.fn fv)) (hx : G.lookup x = some (.own ds₀ pin)) (a : EvL W n env G pos args G ds) (c : Cee W fv) (z : CalM W n fv ds₀ ds ds₁ d)
    (hc : eval (.Call f (.Name x np :: args) [] pos) env = (do callWith pos (← eval f env) [] (backTo pos (starEach (.Name x np :: args) env)) (backToKw pos (keywordEach [] env))) := by rfl)
    (he : starEach (.Name x np :: args) env = (false, eval (.Name x np) env) :: starEach args env := by rfl) (hp : (backTo pos (starEach args env)).any (·.1) = false := by rfl) (hd : (x == ("__debug__" : PySem.Str)) = false := by decide +kernel) :
    Ev W n env G (.Call f (.Name x np :: args) [] pos) ((x, .own ds₁ pin) :: G) d := fun fp av A E s r S =>
  Call_ (wpAny_mono (p fp av A E s r S) (fun v s₁ q => by
    obtain ⟨sm, k, S₁, rf⟩ := q
    cases rf
    obtain ⟨ad, us, j, sx, hfp, ho, ra⟩ := own_at S₁ hx
    refine callWith_go c (wpAny_items_cons (own_name S₁ sx (wpAny_mono (a fp av A E s₁ r S₁) (fun vs s₂ q => ⟨fun a o e => (q.2.2.1.base a o e).1, ?_⟩) fun _ _ x => x) hd) he) he hp
    obtain ⟨sm₂, k₂, S₂, rv⟩ := q
    have sx₂ := sx.ke S₁ k₂
    obtain ⟨us₂, j₂, _, ho₂, ra₂⟩ := own_uniq S₂ hx sx₂
    have hH : W.H.get? ad = Option.none := by
      cases e : W.H.get? ad with
      | none => rfl
      | some o => exact absurd hfp.1 (S.base _ _ e).2
    refine wpAny_mono (z _ s₂ ad us₂ j₂ vs S₂.wd (List.mem_append_left _ hfp.1) hH ho₂ ra₂.1 rv A E r) (fun v s₃ q => ?_) fun _ _ x => x
    obtain ⟨sm₃, k₃, ⟨us₃, j₃, ho₃, ra₃⟩, rr⟩ := q
    refine ⟨(sm.trans sm₂).trans sm₃, (k.trans k₂).trans fun b o e => ?_, S₂.setO hx sx₂ ho₃ k₃ ra₃, rr⟩
    by_cases z : b = ad
    · subst z
      rw [ho₂] at e; cases e
      exact ⟨_, ho₃, fun q => q.elim (fun q => absurd hfp.1 q) fun q => absurd rfl (q us₂.toArray j₂)⟩
    · exact ⟨o, k₃ b o z e, fun _ => rfl⟩) fun _ _ x => x) hc

/-- handing back, with the turned list told -/
abbrev RtM (W : Wr) (a : Addr) (ds₁ : List D) (d : D) : Post := fun f fp av h => ∃ v, f = .ret v ∧ Rd W (fp ++ av) h v d ∧ a ∈ fp ∧ ∃ vs k, h.get? a = some (listOf vs.toArray k) ∧ RdAll W (fp ++ av) h vs ds₁
theorem Exs.retM {x : PySem.Str} {a : Addr} {e : Expr} {pos : Pos} {ds₁ : List D} {d : D} (v : Ev W n env G e G₁ d) (hx : G₁.lookup x = some (.own ds₁ (some a))) : Exs W n env G (.Return (some e) pos :: rest) (RtM W a ds₁ d) :=
  Ex1.last (fun fp av A E s r S => wpAny_Return_some (wpAny_mono (v fp av A E s r S) (fun v s₁ q => by
    obtain ⟨a', us, j, sx, hfp, ho, ra⟩ := own_at q.2.2.1 hx
    cases ra.2 a rfl
    exact ⟨q.1, q.2.1.kb, fp, fun a m => .inl m, v, rfl, q.2.2.2, hfp.1, us, j, ho, ra.1⟩) fun _ _ x => x)) fun fp av h q => by obtain ⟨v, q, _⟩ := q; cases q

set_option maxHeartbeats 1000000 in
/-- entering a def with an own list -/
theorem CalM.of_def {fa : Addr} {fd : FuncData} {body : List Stmt} {k : Nat} {x : PySem.Str} {names : List PySem.Str} {ds₀ ds ds₁ : List D} {d : D} (F : Fun W fa fd body) (P : Par W fd (k + 1) (x :: names) [] []) (hxl : fd.scope.names.lookup x = some .local)
    (h : ∀ L a, Exs W n (callEnvC fd L fa) ((x, .own ds₀ (some a)) :: pars names ds) body (RtM W a ds₁ d)) (hk : ds.length = k := by rfl) : CalM W (n + 1) (.ref fa) ds₀ ds ds₁ d := by
  intro mu s al us j ws w hal hH hol rl r A E Rm
  obtain ⟨o, ho, hdata⟩ := F.at_
  have hb : (((x :: names).zip ((.ref al :: ws) ++ [])).all fun y => fd.scope.names.lookup y.1 == some .local || fd.scope.names.lookup y.1 == some .cell) = true := by
    rw [List.all_eq_true]
    exact fun y hy => List.all_eq_true.mp P.kinds y.1 (mem_zip_fst hy)
  refine wpAny_call (codeAny_call_function Rm.depth (w.1 _ _ ho) hdata F.co F.gen F.body (F.cd.keeps w.1) ((P.bind s (.ref al :: ws) w.1 (by rw [List.length_cons, r.length, hk])) _ _ _ _ ?_))
  rw [F.clo]
  refine wpAny_newFunctionEnv_cells F.kind (kindsX hb _) fun env he s' xx => ?_
  subst he
  refine ⟨w.nolimit.keeps xx.toInCall.keep, codeAny_func ?_⟩
  obtain ⟨h₁, tk, rfl⟩ := xx.toInCall.same
  have sz : ∀ a o, s.heap.get? a = some o → a < s.heap.objs.size := fun a o e => Heap.lt_size e
  have fresh : ∀ a, s.heap.objs.size ≤ a → s.heap.get? a = none := fun a ha => by
    cases e : s.heap.get? a with
    | none => rfl
    | some o' => exact absurd (Heap.lt_size e) (Nat.not_lt.mpr ha)
  have kp := xx.toInCall.keep
  have hL : ∃ o, h₁.get? s.heap.objs.size = some o := let ⟨o, _, _, e, _⟩ := xx.toInCall.ns; ⟨o, e⟩
  generalize hfr : s.heap.objs.size :: (cellsFrom (s.heap.objs.size + 1) fd.scope.names []).map (·.2) = fr at *
  have nfr : ∀ a ∈ fr, s.heap.get? a = none := fun a m => by
    subst hfr
    rcases List.mem_cons.mp m with m | m
    · exact m ▸ fresh _ (Nat.le_refl _)
    · obtain ⟨p, hp, rfl⟩ := List.mem_map.mp m
      exact fresh _ (Nat.le_of_lt (xx.above p.1 p.2 hp))
  let av := mu.filter (· ≠ al)
  have avmu : ∀ a, a ∈ av → a ∈ mu := fun a m => (List.mem_filter.mp m).1
  have alav : al ∉ av := fun m => by simpa using (List.mem_filter.mp m).2
  have muav : ∀ a, a ∈ mu → a = al ∨ a ∈ av := fun a m => by
    by_cases z : a = al
    · exact .inl z
    · exact .inr (List.mem_filter.mpr ⟨m, by simpa using z⟩)
  have mv : ∀ a o, a ∉ mu → s.heap.get? a = some o → a ∉ (al :: fr) ++ av ∧ h₁.get? a = some o := fun a o m e => ⟨fun q => by
    rcases List.mem_append.mp q with q | q
    · rcases List.mem_cons.mp q with q | q
      · exact m (q ▸ hal)
      · rw [nfr a q] at e; cases e
    · exact m (avmu a q), kp a o e⟩
  have r₁ : RdAll W ((al :: fr) ++ av) h₁ ws ds := r.move mv
  have S : St W (callEnvC fd s.heap.objs.size fa) (al :: fr) av ((x, .own ds₀ (some al)) :: pars names ds) h₁ := {
    ok := ⟨F.kind, F.glob, F.blt⟩
    base := fun a o e => by
      refine ⟨kp a o (w.1 a o e), fun q => ?_⟩
      rcases List.mem_cons.mp q with q | q
      · rw [q, hH] at e; cases e
      · have := nfr a q
        rw [w.1 a o e] at this; cases this
    live := fun a q => by
      rcases List.mem_append.mp q with q | q
      · rcases List.mem_cons.mp q with q | q
        · exact ⟨_, q ▸ kp _ _ hol⟩
        · subst hfr
          rcases List.mem_cons.mp q with q | q
          · exact q ▸ hL
          · obtain ⟨p, hp, rfl⟩ := List.mem_map.mp q
            obtain ⟨o, e, _⟩ := xx.cell p.1 p.2 (lookup_of_mem_nodup (cellsFrom_names fd.scope.names 0 (s.heap.objs.size + 1) [] [] rfl ▸ F.cnd) hp)
            exact ⟨o, e⟩
      · obtain ⟨o, e⟩ := w.2 a (avmu a q); exact ⟨o, kp a o e⟩
    loc := by subst hfr; exact .tail _ (.head _)
    ns := ⟨_, xx.toInCall.ns⟩
    cel := fun y c e => by
      have m : c ∈ fr := by subst hfr; exact .tail _ (List.mem_map_of_mem (f := (·.2)) (mem_of_lookup e))
      exact ⟨List.mem_append_left _ (.tail _ m), fun _ => .tail _ m, _, xx.cell y c e⟩
    apart := fun y z c e e' => name_of_addr xx.apart (mem_of_lookup e) (mem_of_lookup e')
    bd := fun y b e => by
      have nd : (((x :: names).zip ((.ref al :: ws) ++ [])).map (·.1)).Nodup := nodup_zip P.nodup
      rw [List.append_nil] at nd
      rw [List.lookup_cons] at e
      cases hy : y == x with
      | true =>
        rw [hy] at e; cases e
        have hyx : y = x := beq_iff_eq.mp hy
        subst hyx
        refine ⟨.ref al, .inl ⟨hxl, _, xx.toInCall.ns, bindL_at _ _ (by simpa using nd) (by simp) hxl⟩, al, us, j, rfl, ⟨.head _, alav⟩, kp _ _ hol, rl.move mv, fun b e => by cases e; rfl⟩
      | false =>
        rw [hy] at e
        obtain ⟨v, d, rfl, hv, rd⟩ := pars_at r₁ e
        refine ⟨v, ?_, rd⟩
        have hv' : ((x :: names).zip ((.ref al :: ws) ++ [])).lookup y = some v := by
          rw [List.append_nil, List.zip_cons_cons, List.lookup_cons, hy]; exact hv
        have hm := mem_of_lookup hv'
        rcases kindsX hb (s.heap.objs.size + 1) _ hm with q | ⟨q, qc⟩
        · exact .inl ⟨q, _, xx.toInCall.ns, bindL_at _ _ (by simpa using nd) hv' q⟩
        · obtain ⟨c, hc⟩ := Option.isSome_iff_exists.mp qc
          have := xx.cell y c hc
          rw [bindC_at _ _ (by simpa using nd) hv' (fun z => by have z' := Eq.trans (Eq.symm q) z; cases z')] at this
          exact .inr ⟨.inl q, c, hc, this⟩
    odis := fun y z ds' es' a' ey ez _ _ => by
      have own : ∀ y ds' p, ((x, B.own ds₀ (some al)) :: pars names ds).lookup y = some (.own ds' p) → y = x := fun y ds' p e => by
        rw [List.lookup_cons] at e
        cases hy : y == x with
        | true => exact beq_iff_eq.mp hy
        | false =>
          rw [hy] at e
          obtain ⟨v, d, q, _⟩ := pars_at r₁ e
          cases q
      exact (own y _ _ ey).trans (own z _ _ ez).symm }
  refine wpAny_mono (h s.heap.objs.size al _ av _ _ { s with heap := h₁, toks := tk } (Rm.deeper _) S) (fun f s₂ q => ?_) fun _ _ x => x
  obtain ⟨sm, k, fp', g, v, rfl, rd, hfp, us₁, j₁, ho₁, ra₁⟩ := q
  have mu' : ∀ a, a ∈ mu → a ∈ fp' ++ av := fun a m => (muav a m).elim (fun q => q ▸ List.mem_append_left _ hfp) (List.mem_append_right _)
  refine ⟨Same.trans ⟨_, _, rfl⟩ sm, fun a o ne e => ?_, ⟨us₁, j₁, ho₁, ra₁.shrink mu'⟩, rd.shrink mu'⟩
  obtain ⟨o', e', z⟩ := k a o (kp a o e)
  rw [z fun m => (List.mem_cons.mp m).elim ne fun m => by rw [nfr a m] at e; cases e] at e'
  exact e'
end
end Mine

/-! M14 -/
namespace Mine

section
variable {W : Wr} {n : Nat} {env : Env} {fp av : List Addr} {G G₁ G₂ G' : Ga} {h h' : Heap} {R R' : Post} {rest : List Stmt} {pin : Option Addr}

/-- what a comprehension leaves that turned the list at al -/
structure CompEndM (W : Wr) (fp av : List Addr) (s s' : Shared) (C L al : Addr) (es ds : List D) : Prop where
  sm : Same s s'
  keep : ∀ a o, a ≠ al → s.heap.get? a = some o → s'.heap.get? a = some o
  nC : s.heap.get? C = Option.none
  nL : s.heap.get? L = Option.none
  ne : C ≠ L
  ns : ∃ m, s'.heap.Ns C m
  lst : ∃ vs k, s'.heap.get? L = some (listOf vs.toArray k) ∧ RdAll W (C :: L :: (fp ++ av)) s'.heap vs es
  own : ∃ vs k, s'.heap.get? al = some (listOf vs.toArray k) ∧ RdAll W (C :: L :: (fp ++ av)) s'.heap vs ds

set_option maxHeartbeats 2000000 in
theorem comp_runM {α : Type} {x x0 : PySem.Str} {np cpos : Pos} {elt iter : Expr} {scope : Scope} {cl : List (PySem.Str × Addr)} {d : D} (as : List α) (mk : α → D) (eq : Nat → D) (dh : Nat → List D) (Gc : Ga) {use : Option (Value → Sem Unit)} {al : Addr}
    (it : Itr W n d (as.map mk)) (hz : as.length ≤ 10000)
    (hclos : closureFor scope env = pure cl) (hcl : ∀ y c, cl.lookup y = some c → env.cells.lookup y = some c)
    (hcell : (scope.names.all fun y => y.2 != .cell) = true) (hkind : scope.kind = .function) (hnames : (scope.names.all fun y => y.2 != .local || scope.names.lookup y.1 == some .local) = true) (hx : scope.names.lookup x = some .local)
    (hGc : ∀ y b, Gc.lookup y = some b → y ≠ x ∧ y ≠ x0 ∧ (∃ d, b = .fz d) ∧ G.lookup y = some b ∧ env.kindOf y = some .cell ∧ (relabel scope env).names.lookup y = some .cell ∧ ∃ c, cl.lookup y = some c)
    (hx0 : x0 ≠ x) (hg0 : G.lookup x0 = some (.own (dh 0) pin)) (hk0 : env.kindOf x0 = some .cell) (hr0 : (relabel scope env).names.lookup x0 = some .cell) (hc0 : ∃ c, cl.lookup x0 = some c)
    (turn : ∀ i a, as[i]? = some a → ∀ C al, ∃ G', Ev W n (compEnvC scope cl C env) ((x, .fz (mk a)) :: (x0, .own (dh i) (some al)) :: Gc) elt G' (eq i) ∧ G'.lookup x0 = some (.own (dh (i + 1)) (some al)))
    {A : Around} {E : Value → Shared → Prop} {s : Shared} {v : Value} (r : Room n A) (S : St W env fp av G s.heap) (hal : Seen env s.heap x0 (.ref al)) (rv : Rd W (fp ++ av) s.heap v d) {Q : Value → Shared → Prop}
    (fin : ∀ C L s', CompEndM W fp av s s' C L al ((List.range as.length).map eq) (dh as.length) → compPost (Mo W) A E use Q (.ref L) C (.ok .next) s') :
    wpAny (Mo W) A (pyIter v) (fun it s₂ => wpAny (Mo W) A (newList []) (fun acc s₃ => wpAny (Mo W) A (newFunctionEnv scope env.globals cl [] env.qual none .none (some env)) (fun cenv s₄ =>
      codeAny (Mo W) A (.compStart (.ListComp elt [⟨.Name x np, iter, [], 0⟩] scope cpos) 0 it acc { cenv with scope := relabel scope env }) (compPost (Mo W) A E use Q acc cenv.locals) s₄) E s₃) E s₂) E s := by
  obtain ⟨us0, j0, hafp, ho0, ra0⟩ := own_uniq S hg0 hal
  refine wpAny_mono (it _ s v S.wd rv A E r) (fun iv s₂ q₂ => ?_) fun _ _ x => x
  obtain ⟨sm₂, k₂, I, fq, Pt, Stt, rfl, hI, hW, hst, hlive, hfq, hPt⟩ := q₂
  have WW := hW A r.1
  refine wpAny_newObj_type (wpAny_newFunctionEnv (fun y hy => by simpa using List.all_eq_true.mp hcell y hy) (by intro y hy; simp at hy) (fun h₁ hns₁ hsb₁ => ?_) hkind)
  dsimp only at hns₁ hsb₁ ⊢
  have hL : s₂.heap.get? s₂.heap.objs.size = none := fresh_size _
  generalize hLe : s₂.heap.objs.size = L at hL ⊢
  generalize hH2 : s₂.heap.push { cls := .type "list", dict := none, data := .seq ([] : List Value).toArray } = H2 at hns₁ hsb₁ ⊢
  have hLo : H2.get? L = some (listOf ([] : List Value).toArray 0) := by rw [← hH2, ← hLe]; exact Heap.get?_push_size _ rfl
  have kH2 : Keep s₂.heap H2 := fun b o e => by rw [← hH2]; exact Heap.get?_push_of_some _ e
  have hC : H2.get? H2.objs.size = none := fresh_size _
  generalize hCe : H2.objs.size = C at hns₁ hsb₁ hC ⊢
  have k₁ : Keep H2 h₁ := fun b o e => hsb₁.extBut b o (fun z => by rw [z, hC] at e; cases e) (Heap.get?_push_of_some _ e)
  have kk : Keep s.heap h₁ := fun b o e => k₁ b o (kH2 b o (k₂ b o e))
  have none_of : ∀ {h h' : Heap} {a : Addr}, Keep h h' → h'.get? a = none → h.get? a = none := fun {h h' a} k e => by
    cases z : h.get? a with
    | none => rfl
    | some o => rw [k a o z] at e; cases e
  obtain ⟨oI, hoI⟩ := hlive _ _ hst
  have neLI : L ≠ I := fun z => by rw [z, hoI] at hL; cases hL
  have neCL : C ≠ L := fun z => by rw [z, hLo] at hC; cases hC
  have neCI : C ≠ I := fun z => by rw [z, kH2 _ _ hoI] at hC; cases hC
  have hLs : s.heap.get? L = none := none_of k₂ hL
  have hCs : s.heap.get? C = none := none_of (fun b o e => kH2 b o (k₂ b o e)) hC
  have hst₁ : Stt 0 h₁ := WW.frame _ _ _ hst fun b _ o e => k₁ b o (kH2 b o e)
  have old : ∀ a o, s.heap.get? a = some o → a ≠ C ∧ a ≠ I ∧ a ≠ L := fun a o e => ⟨fun z => by (rw [z, hCs] at e; cases e), fun z => by (rw [z, hI] at e; cases e), fun z => by (rw [z, hLs] at e; cases e)⟩
  obtain ⟨neaC, neaI, neaL⟩ := old _ _ ho0
  let avi := L :: I :: (fp.filter (· ≠ al) ++ av)
  have memi : ∀ a, a ∈ [C, al] ++ avi ↔ a ∈ C :: L :: I :: (fp ++ av) := fun a => by
    simp only [avi, List.cons_append, List.nil_append, List.mem_cons, List.mem_append, List.mem_filter, decide_eq_true_eq]
    constructor
    · rintro (q | q | q | q | q | q)
      · exact .inl q
      · exact .inr (.inr (.inr (.inl (q ▸ hafp.1))))
      · exact .inr (.inl q)
      · exact .inr (.inr (.inl q))
      · exact .inr (.inr (.inr (.inl q.1)))
      · exact .inr (.inr (.inr (.inr q)))
    · rintro (q | q | q | q | q)
      · exact .inl q
      · exact .inr (.inr (.inl q))
      · exact .inr (.inr (.inr (.inl q)))
      · by_cases z : a = al
        · exact .inr (.inl z)
        · exact .inr (.inr (.inr (.inr (.inl ⟨q, z⟩))))
      · exact .inr (.inr (.inr (.inr (.inr q))))
  have al_avi : al ∉ avi := fun q => by
    simp only [avi, List.mem_cons, List.mem_append, List.mem_filter, decide_eq_true_eq] at q
    rcases q with q | q | q | q
    · exact neaL q
    · exact neaI q
    · exact q.2 rfl
    · exact hafp.2 q
  -- data of the outer frame, seen from within
  have mv : ∀ (g : Heap), (∀ a o, a ≠ al → s.heap.get? a = some o → g.get? a = some o) → ∀ a o, a ∉ fp ++ av → s.heap.get? a = some o → a ∉ [C, al] ++ avi ∧ g.get? a = some o := fun g kg a o m e => by
    obtain ⟨n1, n2, n3⟩ := old a o e
    refine ⟨fun z => ?_, kg a o (fun z => m (z ▸ List.mem_append_left _ hafp.1)) e⟩
    rw [memi] at z
    rcases List.mem_cons.mp z with z | z
    · exact n1 z
    · rcases List.mem_cons.mp z with z | z
      · exact n3 z
      · rcases List.mem_cons.mp z with z | z
        · exact n2 z
        · exact m z
  -- the frame within
  have inner : ∀ (g : Heap) (m : PySem.Str → Option Value) (us : List Value) (j : Nat) (dsi : List D), (∀ a o, a ≠ al → s.heap.get? a = some o → g.get? a = some o) → g.Ns C m → (∃ o, g.get? L = some o) → (∃ o, g.get? I = some o) →
      g.get? al = some (listOf us.toArray j) → RdAll W ([C, al] ++ avi) g us dsi → St W (compEnvC scope cl C env) [C, al] avi ((x0, .own dsi (some al)) :: Gc) g := fun g m us j dsi kg hn hgL hgI hga ral => {
    ok := ⟨hkind, S.ok.glob, S.ok.blt⟩
    base := fun a o e => by
      have e' := (S.base a o e).1
      have nal : a ≠ al := fun z => (S.base a o e).2 (z ▸ hafp.1)
      exact ⟨kg a o nal e', fun z => by
        rcases List.mem_cons.mp z with z | z
        · exact (old a o e').1 z
        · exact nal (List.mem_singleton.mp z)⟩
    live := fun a z => by
      rw [memi] at z
      rcases List.mem_cons.mp z with rfl | z
      · obtain ⟨o, _, _, e, _⟩ := hn; exact ⟨o, e⟩
      · rcases List.mem_cons.mp z with rfl | z
        · exact hgL
        · rcases List.mem_cons.mp z with rfl | z
          · exact hgI
          · obtain ⟨o, e⟩ := S.live a z
            by_cases q : a = al
            · exact ⟨_, q ▸ hga⟩
            · exact ⟨o, kg a o q e⟩
    loc := .head _
    ns := ⟨m, hn⟩
    cel := fun y c e => by
      obtain ⟨p, _, w, o, ho, hd⟩ := S.cel y c (hcl y c e)
      have nal : c ≠ al := fun z => by rw [z, ho0] at ho; cases ho; cases hd
      refine ⟨?_, fun z => (Bool.false_ne_true z).elim, w, o, kg _ _ nal ho, hd⟩
      rw [memi]
      exact .tail _ (.tail _ (.tail _ p))
    apart := fun y z c e e' => S.apart y z c (hcl y c e) (hcl z c e')
    bd := fun y b e => by
      have see : ∀ w, Seen env s.heap y w → env.kindOf y = some .cell → (relabel scope env).names.lookup y = some .cell → (∃ c, cl.lookup y = some c) → Seen (compEnvC scope cl C env) g y w := fun w sw hkc hkr ⟨c, hc⟩ => by
        rcases sw with ⟨k', _⟩ | ⟨_, c', hc', o, ho, hd⟩
        · rw [hkc] at k'; cases k'
        · have ec : c' = c := Option.some.inj (hc'.symm.trans (hcl y c hc))
          rw [ec] at ho
          have nal : c ≠ al := fun z => by rw [z, ho0] at ho; cases ho; cases hd
          exact .inr ⟨.inl hkr, c, hc, o, kg _ _ nal ho, hd⟩
      rw [List.lookup_cons] at e
      cases hy : y == x0 with
      | true =>
        rw [hy] at e; cases e
        have hyx : y = x0 := beq_iff_eq.mp hy
        subst hyx
        exact ⟨.ref al, see _ hal hk0 hr0 hc0, al, us, j, rfl, ⟨.tail _ (.head _), al_avi⟩, hga, ral, fun b e => by cases e; rfl⟩
      | false =>
        rw [hy] at e
        obtain ⟨_, _, ⟨d', rfl⟩, hG, hkc, hkr, hc⟩ := hGc y b e
        obtain ⟨w, sw, rw'⟩ := S.bd y _ hG
        exact ⟨w, see w sw hkc hkr hc, rw'.move (mv g kg)⟩
    odis := fun y z ds' es' a' ey ez _ _ => by
      have own : ∀ y ds' p, ((x0, B.own dsi (some al)) :: Gc).lookup y = some (.own ds' p) → y = x0 := fun y ds' p e => by
        rw [List.lookup_cons] at e
        cases hy : y == x0 with
        | true => exact beq_iff_eq.mp hy
        | false =>
          rw [hy] at e
          obtain ⟨_, _, ⟨d', q⟩, _⟩ := hGc y _ e
          cases q
      exact (own y _ _ ey).trans (own z _ _ ez).symm }
  have hxk : (compEnvC scope cl C env).kindOf x = some .local := lookup_relabel_local hx
  -- the loop
  have loop : ∀ s₃ : Shared, s₃ = { s₂ with heap := h₁, toks := s₂.toks + ([] : List (PySem.Str × Value)).length } →
      codeAny (Mo W) A (.compLoop (.ListComp elt [⟨.Name x np, iter, [], 0⟩] scope cpos) 0 (.ref I) (.ref L) (compEnvC scope cl C env)) (compPost (Mo W) A E use Q (.ref L) C) s₃ := by
    intro s₃ hs₃
    refine codeAny_compLoop_tests (fun m s' => ∃ i, i ≤ as.length ∧ m = as.length + 1 - i ∧ Same s s' ∧ (∀ a o, a ≠ al → s.heap.get? a = some o → s'.heap.get? a = some o) ∧ (∃ m, s'.heap.Ns C m) ∧ Stt i s'.heap ∧
      (∃ vs k, s'.heap.get? L = some (listOf vs.toArray k) ∧ RdAll W (C :: L :: I :: (fp ++ av)) s'.heap vs ((List.range i).map eq)) ∧
      ∃ us j, s'.heap.get? al = some (listOf us.toArray j) ∧ RdAll W (C :: L :: I :: (fp ++ av)) s'.heap us (dh i)) (fun m s' hinv => ?_) (as.length + 1)
      ⟨0, Nat.zero_le _, rfl, sm₂.trans ⟨h₁, _, hs₃⟩, hs₃ ▸ fun a o _ e => kk a o e, hs₃ ▸ ⟨_, hns₁⟩, hs₃ ▸ hst₁, ⟨[], 0, hs₃ ▸ k₁ _ _ hLo, by simpa using RdAll.nil⟩, us0, j0, hs₃ ▸ kk _ _ ho0, hs₃ ▸ (RdAll.move (mv h₁ fun a o _ e => kk a o e) ra0.1).shrink fun a m => (memi a).mpr m⟩
    obtain ⟨i, hi, rfl, sm, kS, ⟨m, hn⟩, st, ⟨vs, k, hl, hr⟩, us, j, hu, ru⟩ := hinv
    have hlen : (as.map mk).length = as.length := by simp
    by_cases hlt : i < as.length
    · refine WW.item i s' _ _ (by rw [hlen]; exact hlt) st fun w' h₂ tk hP st₂ hk₂ => ?_
      dsimp only
      have kI : ∀ a o, a ≠ I → s'.heap.get? a = some o → h₂.get? a = some o := fun a o ne e => hk₂ a o (by simpa using ne) e
      have kS₂ : ∀ a o, a ≠ al → s.heap.get? a = some o → h₂.get? a = some o := fun a o ne e => kI a o (old a o e).2.1 (kS a o ne e)
      have hn₂ : h₂.Ns C m := hn.at' fun o e => kI _ o neCI e
      have hl₂ := kI _ _ neLI hl
      have hu₂ := kI _ _ neaI hu
      obtain ⟨d', hd', rd⟩ := hPt i w' hP
      have ha : as[i]? = some as[i] := List.getElem?_eq_getElem hlt
      rw [List.getElem?_map, ha] at hd'
      cases hd'
      have ru₂ : RdAll W ([C, al] ++ avi) h₂ us (dh i) := ru.move fun a o z e => ⟨fun q => z ((memi a).mp q), kI a o (fun q => z (q ▸ .tail _ (.tail _ (.head _)))) e⟩
      have Si := inner h₂ m us j (dh i) kS₂ hn₂ ⟨_, hl₂⟩ (hlive _ _ st₂) hu₂ ru₂
      have rd₂ : Rd W ([C, al] ++ avi) h₂ w' (mk as[i]) := rd.move (mv h₂ kS₂)
      refine wpAny_assign_Name (wpAny_mono (store_fz (s₀ := { s' with heap := h₂, toks := tk }) hxk Si rd₂ (Same.refl _) (KB.refl _ _)) (fun _ s₄ q => ?_) fun _ _ x => x)
      obtain ⟨sm₄, k₄, S₄⟩ := q
      have kC : ∀ a o, a ≠ C → a ≠ al → h₂.get? a = some o → s₄.heap.get? a = some o := fun a o ne ne' e => by
        obtain ⟨o', e', q⟩ := k₄ a o e
        rw [q (by simp [ne, ne'])] at e'; exact e'
      have fqal : ∀ b ∈ fq, b ≠ al := fun b hb z => by
        rcases hfq b hb with q | ⟨q, _⟩
        · exact neaI (z ▸ q)
        · exact q (z ▸ List.mem_append_left _ hafp.1)
      have st₄ : Stt (i + 1) s₄.heap := WW.frame _ _ _ st₂ fun b hb o e => kC b o (fun z => by
        rcases hfq b hb with q | ⟨_, o', e'⟩
        · exact neCI (z ▸ q)
        · exact (old b o' e').1 z) (fqal b hb) e
      refine wpAny_tests_nil ?_
      simp only [if_true]
      obtain ⟨G', ev, hG'⟩ := turn i as[i] ha C al
      refine wpAny_mono (ev [C, al] avi A _ s₄ r S₄) (fun y s₆ q => ?_) fun _ _ x => x
      obtain ⟨sm₆, k₆, S₆, ry⟩ := q
      obtain ⟨m₄, hn₄'⟩ := S₄.ns
      have hn₄ : s₄.heap.Ns C m₄ := hn₄'
      have k₆' : ∀ a o, a ≠ al → s₄.heap.get? a = some o → s₆.heap.get? a = some o := fun a o ne e => by
        obtain ⟨o', e', q⟩ := k₆ a o e
        by_cases z : a = C
        · obtain ⟨o'', es, ep, ho, hd, _⟩ := hn₄
          subst z
          rw [ho] at e; cases e
          rw [q (.inr fun its k z => by rw [hd] at z; cases z)] at e'
          exact e'
        · rw [q (.inl (by simp [z, ne]))] at e'; exact e'
      obtain ⟨al', us₆, j₆, _, hal6, hu₆, ru₆⟩ := own_at S₆ hG'
      cases ru₆.2 al rfl
      have smm : Same s s₆ := (sm.trans (Same.trans (⟨_, _, rfl⟩ : Same s' { s' with heap := h₂, toks := tk }) sm₄)).trans sm₆
      have kk₅ : ∀ a o, a ≠ C → a ≠ I → a ≠ al → s'.heap.get? a = some o → s₆.heap.get? a = some o := fun a o n1 n2 n3 e => k₆' a o n3 (kC a o n1 n3 (kI a o n2 e))
      have hr₅ : RdAll W (C :: L :: I :: (fp ++ av)) s₆.heap vs ((List.range i).map eq) := hr.move fun a o z e => ⟨z, kk₅ a o (fun q => z (q ▸ .head _)) (fun q => z (q ▸ .tail _ (.tail _ (.head _)))) (fun q => z (q ▸ .tail _ (.tail _ (.tail _ (List.mem_append_left _ hafp.1))))) e⟩
      have hl₅ := kk₅ _ _ neCL.symm neLI neaL.symm hl
      have hz' : vs.toArray.size ≤ sizeLine := by
        have e1 := hr.length
        rw [List.length_map, List.length_range] at e1
        rw [sizeLine_eq]; simp; omega
      refine wpAny_list_append_plain (hsz := hz') ⟨k, hl₅⟩ fun h₇ hp hs => ?_
      obtain ⟨k₇, hp⟩ := hp
      rw [List.push_toArray] at hp
      have kL : ∀ a o, a ≠ L → s₆.heap.get? a = some o → h₇.get? a = some o := fun a o ne e => (hs.2 a ne).trans e
      refine ⟨as.length + 1 - (i + 1), by omega, i + 1, hlt, rfl, smm.trans ⟨_, _, rfl⟩, fun a o ne e => kL a o (old a o e).2.2 (kk₅ a o (old a o e).1 (old a o e).2.1 ne (kS a o ne e)), ?_, ?_, ⟨vs ++ [y], k₇, hp, ?_⟩, us₆, j₆, kL _ _ neaL hu₆, ru₆.1.move fun a o z e => ⟨fun q => z ((memi a).mpr q), kL a o (fun q => z ((memi a).mpr (q ▸ .tail _ (.head _)))) e⟩⟩
      · obtain ⟨m₆, hn₆⟩ := S₆.ns
        exact ⟨m₆, hn₆.at' fun o e => kL _ o neCL e⟩
      · refine WW.frame _ _ _ st₄ fun b hb o e => kL b o (fun z => ?_) (k₆' b o (fqal b hb) e)
        rcases hfq b hb with q | ⟨_, o', e'⟩
        · exact neLI (z ▸ q)
        · exact (old b o' e').2.2 z
      · rw [List.range_succ, List.map_append]
        have a1 : RdAll W (C :: L :: I :: (fp ++ av)) h₇ vs ((List.range i).map eq) := hr₅.move fun a o z e => ⟨z, kL a o (fun q => z (q ▸ .tail _ (.head _))) e⟩
        refine a1.append ?_
        exact .cons (ry.move fun a o z e => ⟨fun q => z ((memi a).mpr q), kL a o (fun q => z ((memi a).mpr (q ▸ .tail _ (.head _)))) e⟩) .nil
    · have hi' : i = as.length := by omega
      subst hi'
      rw [← hlen] at st
      refine WW.done s' _ _ st fun h₂ tk hk₂ => ?_
      dsimp only
      have kI : ∀ a o, a ≠ I → s'.heap.get? a = some o → h₂.get? a = some o := fun a o ne e => hk₂ a o (by simpa using ne) e
      have mvI : ∀ a o, a ∉ C :: L :: I :: (fp ++ av) → s'.heap.get? a = some o → a ∉ C :: L :: (fp ++ av) ∧ h₂.get? a = some o := fun a o z e => ⟨fun q => z (by
        rcases List.mem_cons.mp q with q | q
        · exact q ▸ .head _
        · rcases List.mem_cons.mp q with q | q
          · exact q ▸ .tail _ (.head _)
          · exact .tail _ (.tail _ (.tail _ q))), kI a o (fun q => z (q ▸ .tail _ (.tail _ (.head _)))) e⟩
      exact fin C L _ ⟨sm.trans ⟨_, _, rfl⟩, fun a o ne e => kI a o (old a o e).2.1 (kS a o ne e), hCs, hLs, neCL, ⟨m, hn.at' fun o e => kI _ o neCI e⟩, ⟨vs, k, kI _ _ neLI hl, hr.move mvI⟩, us, j, kI _ _ neaI hu, ru.move mvI⟩
  exact codeAny_compStart_list (loop _ rfl) (WW.self 0 _ _ _ hst₁ (loop _ rfl))

section
variable {α : Type} {x x0 : PySem.Str} {np pos cpos : Pos} {elt iter : Expr} {scope : Scope} {cl : List (PySem.Str × Addr)} {d : D} (as : List α) (mk : α → D) (eq : Nat → D) (dh : Nat → List D) (Gc : Ga)

set_option maxHeartbeats 1000000 in
/-- a comprehension whose element turns an own list, bound to a local name of its own row -/
theorem Exs.assignCompM {y : PySem.Str} {py spos : Pos} (v : Ev W n env G iter G₁ d) (it : Itr W n d (as.map mk)) (hz : as.length ≤ 10000) (ok : CompOk env G₁ scope cl x iter Gc) (hGx : Gc.lookup x0 = Option.none)
    (hx0 : x0 ≠ x) (hg0 : G₁.lookup x0 = some (.own (dh 0) pin)) (hk0 : env.kindOf x0 = some .cell) (hr0 : (relabel scope env).names.lookup x0 = some .cell) (hc0 : ∃ c, cl.lookup x0 = some c)
    (turn : ∀ i a, as[i]? = some a → ∀ C al, ∃ G', Ev W n (compEnvC scope cl C env) ((x, .fz (mk a)) :: (x0, .own (dh i) (some al)) :: Gc) elt G' (eq i) ∧ G'.lookup x0 = some (.own (dh (i + 1)) (some al)))
    (hy : env.kindOf y = some .local) (z : Exs W n env ((y, .own ((List.range as.length).map eq)) :: (x0, .own (dh as.length) pin) :: G₁) rest R)
    (hsw : swapsWith (.ListComp elt [⟨.Name x np, iter, [], 0⟩] scope cpos) (some (.Name y py)) spos.line env = pure true := by rfl) :
    Exs W n env G (.Assign [.Name y py] (.ListComp elt [⟨.Name x np, iter, [], 0⟩] scope cpos) spos :: rest) R := Exs.cons (fun fp av A E s r S => by
  rw [exec_Assign_Name_used _ _ _ _ hsw]
  refine wpAny_bind (wpAny_standAt (wpAny_bind ?_))
  show wpAny _ A (do let _ ← comprehension (.ListComp elt [⟨.Name x np, iter, [], 0⟩] scope cpos) scope env _ (newList []) false (eval iter env) (some (PySem.assign (.Name y py) env))) _ _ s
  let GG : Ga := (y, .own ((List.range as.length).map eq)) :: (x0, .own (dh as.length) pin) :: G₁
  let PP : Shared → Prop := fun s' => Same s s' ∧ KB fp s.heap s'.heap ∧ ∃ fp', (∀ a ∈ fp', a ∈ fp ∨ s.heap.get? a = Option.none) ∧ Flow.next = Flow.next ∧ St W env fp' av GG s'.heap
  refine wpAny_bind (wpAny_mono (wpAny_comprehension_free (use := some (PySem.assign (.Name y py) env)) (Q := fun _ s' => PP s') rfl ok.fold ok.clos ok.kind (fun y hy hl => by simpa [hl] using List.all_eq_true.mp ok.names y hy)
    (wpAny_mono (v fp av A E s r S) (fun w s₁ q => ?_) fun _ _ x => x)) (fun _ s' hq => wpAny_pure (wpAny_pure hq)) fun _ _ e => e)
  obtain ⟨sm, k, S₁, rw'⟩ := q
  obtain ⟨al, us0, j0, hal, hafp, ho0, ra0⟩ := own_at S₁ hg0
  refine comp_runM as mk eq dh Gc it hz ok.clos ok.sub ok.cell ok.kind ok.names ok.var (fun y b e => by
    obtain ⟨p1, p2, p3, p4, p5, p6⟩ := ok.gc y b e
    exact ⟨p1, fun q => (by rw [q, hGx] at e; cases e), p2, p3, p4, p5, p6⟩) hx0 hg0 hk0 hr0 hc0 turn r S₁ hal rw' fun C L s' ce => ?_
  show wpAny _ A (PySem.assign (.Name y py) env (.ref L)) _ _ _
  obtain ⟨mC, hnC⟩ := ce.ns
  obtain ⟨vs, j, hl, hr⟩ := ce.lst
  obtain ⟨us, ju, hu, ru⟩ := ce.own
  have oC : ∃ o, s'.heap.get? C = some o := let ⟨o, _, _, e, _⟩ := hnC; ⟨o, e⟩
  obtain ⟨oC, hoC⟩ := oC
  have neaL : al ≠ L := fun q => by rw [q, ce.nL] at ho0; cases ho0
  have neaC : al ≠ C := fun q => by rw [q, ce.nC] at ho0; cases ho0
  have hLav : L ∉ fp ++ av := fun q => by
    obtain ⟨o, e⟩ := S₁.live L q
    rw [ce.nL] at e; cases e
  have hCav : C ∉ fp ++ av := fun q => by
    obtain ⟨o, e⟩ := S₁.live C q
    rw [ce.nC] at e; cases e
  -- the heap with the old list back
  have hself : (s'.heap.update al fun _ => listOf us0.toArray j0).get? al = some (listOf us0.toArray j0) := Heap.get?_update_self _ hu rfl
  have hoth : ∀ b, b ≠ al → (s'.heap.update al fun _ => listOf us0.toArray j0).get? b = s'.heap.get? b := fun b ne => Heap.get?_update_other _ _ ne.symm
  have kmid : Keep s₁.heap (s'.heap.update al fun _ => listOf us0.toArray j0) := fun b o e => by
    by_cases q : b = al
    · subst q; rw [ho0] at e; cases e; exact hself
    · rw [hoth b q]; exact ce.keep b o q e
  generalize (s'.heap.update al fun _ => listOf us0.toArray j0) = hm at hself hoth kmid
  have S₂m : St W env (L :: fp) (C :: av) G₁ hm := S₁.both kmid ce.nL ((hoth L neaL.symm).trans hl) ce.nC ((hoth C neaC.symm).trans hoC) ce.ne
  have sub1 : ∀ a, a ∈ (L :: fp) ++ (C :: av) → a ∈ C :: L :: (fp ++ av) := fun a q => by
    rcases List.mem_append.mp q with q | q
    · exact (List.mem_cons.mp q).elim (fun q => q ▸ .tail _ (.head _)) fun q => .tail _ (.tail _ (List.mem_append_left _ q))
    · exact (List.mem_cons.mp q).elim (fun q => q ▸ .head _) fun q => .tail _ (.tail _ (List.mem_append_right _ q))
  have halm : Seen env hm x0 (.ref al) := hal.move (fun o e => kmid _ o e) fun c o _ e => kmid c o e
  have S₂ : St W env (L :: fp) (C :: av) ((x0, .own (dh as.length) pin) :: G₁) s'.heap := S₂m.setO hg0 halm hu (fun b o ne e => by rw [hoth b ne] at e; exact e) (ru.shrink sub1)
  obtain ⟨m, hns⟩ := S₂.ns
  refine wpAny_assign_Name (wpAny_storeName_local hy hns (fun h₂ hn₂ hs₂ => ?_) (by rw [S.ok.kind]; rfl))
  have seen0 : ∀ z w, Seen env s₁.heap z w → Seen env s'.heap z w := fun z w sz => sz.move (fun o e => ce.keep _ o (fun q => by
      obtain ⟨m, o', es, ep, ho', hd', _⟩ := S₁.ns
      rw [q, ho0] at ho'; cases ho'; cases hd') e) fun c o hc e => ce.keep c o (fun q => by
      obtain ⟨_, _, w, o', hc', hd⟩ := S₁.cel z c hc
      rw [q, ho0] at hc'; cases hc'; cases hd) e
  have S₃ : St W env (L :: fp) (C :: av) GG h₂ := S₂.setL hy hns hn₂ hs₂ ⟨L, vs, j, rfl, ⟨.head _, fun q => (List.mem_cons.mp q).elim ce.ne.symm fun q => hLav (List.mem_append_right _ q)⟩, hl, .of <| hr.shrink sub1⟩ fun ds z es _ ez sz => by
    have own1 : ∃ ds p, G₁.lookup z = some (.own ds p) := by
      rw [List.lookup_cons] at ez
      cases hz0 : z == x0 with
      | true => exact ⟨_, _, beq_iff_eq.mp hz0 ▸ hg0⟩
      | false => rw [hz0] at ez; exact ⟨_, _, ez⟩
    obtain ⟨ds', p, ez'⟩ := own1
    obtain ⟨a', us', j', sz', hf', _⟩ := own_at S₁ ez'
    have := (seen0 z _ sz').uniq sz
    cases this
    exact hLav (List.mem_append_left _ hf'.1)
  have neLC : env.locals ≠ C := fun q => hCav (q ▸ List.mem_append_left _ S₁.loc)
  refine ⟨mC, hnC.at' fun o e => (hs₂.2 C neLC.symm).trans e, fun h₃ hs₃ => ?_⟩
  have kk : KB fp s₁.heap h₃ := fun a o e => by
    have n1 : a ≠ C := fun q => by rw [q, ce.nC] at e; cases e
    by_cases q : a = env.locals
    · obtain ⟨o', _, _, e', _⟩ := hn₂
      exact ⟨o', by rw [hs₃.2 a n1, q]; exact e', fun z => absurd (q ▸ S₁.loc) z⟩
    · by_cases q' : a = al
      · exact ⟨_, by rw [hs₃.2 a n1, hs₂.2 a q, q']; exact hu, fun z => absurd (q' ▸ hafp.1) z⟩
      · exact ⟨o, (hs₃.2 a n1).trans ((hs₂.2 a q).trans (ce.keep a o q' e)), fun _ => rfl⟩
  refine ⟨sm.trans (ce.sm.trans ⟨_, _, rfl⟩), k.kb.trans kk, L :: fp, fun a q => ?_, rfl, ?_⟩
  · rcases List.mem_cons.mp q with rfl | q
    · right
      cases e : s.heap.get? a with
      | none => rfl
      | some o => obtain ⟨o', e', _⟩ := k a o e; rw [ce.nL] at e'; cases e'
    · exact .inl q
  · refine S₃.offI (fun q => (List.mem_cons.mp q).elim ce.ne fun q => hCav (List.mem_append_left _ q)) (fun z c e q => hCav (q ▸ (S₁.cel z c e).1)) ?_ (fun b o ne e => (hs₃.2 b ne).trans e) (fun a q => .tail _ q) (fun a q => q) fun q => absurd (List.mem_append_right _ q) hCav
    cases e : W.H.get? C with
    | none => rfl
    | some o => have := (S₁.base C o e).1; rw [ce.nC] at this; cases this) z
end
end
end Mine

/-! M15 -/
namespace Mine

/-- the entries of an object's dict -/
inductive Ents (W : Wr) (mu : List Addr) (h : Heap) : List DictEntry → List (PySem.Str × D) → Prop
  | nil : Ents W mu h [] []
  | cons {hs : Int} {k : PySem.Str} {t : Tok} {v : Value} {d : D} {es : List DictEntry} {l : List (PySem.Str × D)} : Rd W mu h v d → Ents W mu h es l → Ents W mu h (⟨hs, .str k t, v⟩ :: es) ((k, d) :: l)
def putA (k : PySem.Str) (d : D) : List (PySem.Str × D) → List (PySem.Str × D)
  | [] => [(k, d)]
  | (k', d') :: r => if k' == k then (k', d) :: r else (k', d') :: putA k d r

section
variable {W : Wr} {n : Nat} {mu mu' : List Addr} {env : Env} {G G₁ G₂ : Ga} {fp av : List Addr} {h h' : Heap} {R R' : Post} {rest : List Stmt}

theorem Ents.move (hs : ∀ a o, a ∉ mu → h.get? a = some o → a ∉ mu' ∧ h'.get? a = some o) : ∀ {es : List DictEntry} {l : List (PySem.Str × D)}, Ents W mu h es l → Ents W mu' h' es l
  | _, _, .nil => .nil
  | _, _, .cons r e => .cons (Rd.move hs r) (e.move hs)
theorem Ents.put {name : PySem.Str} {hsh : Int} {t : Tok} {v : Value} {d : D} (rv : Rd W mu h v d) : ∀ {es : List DictEntry} {l : List (PySem.Str × D)}, Ents W mu h es l → Ents W mu h (putL name hsh (.str name t) v es) (putA name d l)
  | _, _, .nil => .cons rv .nil
  | _, _, .cons (k := k) r e => by
    unfold putL putA
    show Ents W mu h (if (k == name) = true then _ else _) _
    cases hk : k == name with
    | true => simp only [if_true]; exact .cons rv e
    | false => simp only [Bool.false_eq_true, if_false]; exact .cons r (e.put rv)
theorem Ents.noRef : ∀ {es : List DictEntry} {l : List (PySem.Str × D)}, Ents W mu h es l → es.any (·.refKey) = false
  | _, _, .nil => rfl
  | _, _, .cons r e => by rw [List.any_cons, e.noRef]; rfl
theorem Ents.length : ∀ {es : List DictEntry} {l : List (PySem.Str × D)}, Ents W mu h es l → es.length = l.length
  | _, _, .nil => rfl
  | _, _, .cons r e => by simp [e.length]
theorem Ents.get {name : PySem.Str} {d : D} : ∀ {es : List DictEntry} {l : List (PySem.Str × D)}, Ents W mu h es l → l.lookup name = some d → ∃ v, getL name es = some (some v) ∧ Rd W mu h v d
  | _, _, .nil, e => by cases e
  | _, _, .cons (k := k) (t := t) (v := v) (es := es) r q, e => by
    rw [List.lookup_cons] at e
    have hs : ∀ hsh : Int, (DictEntry.mk hsh (.str k t) v).key.isStr name = (k == name) := fun _ => rfl
    unfold getL
    rw [List.find?_cons, hs]
    cases hk : k == name with
    | true =>
      have : name == k := by rw [beq_iff_eq] at hk ⊢; exact hk.symm
      rw [this] at e; cases e
      exact ⟨v, rfl, r⟩
    | false =>
      have : (name == k) = false := by
        apply beq_false_of_ne
        intro z; rw [z] at hk; simp at hk
      rw [this] at e
      obtain ⟨w, hw, rw'⟩ := q.get e
      refine ⟨w, ?_, rw'⟩
      unfold getL at hw
      simp only [List.any_cons]
      exact hw

/-- a vector in the making -/
def VAt (W : Wr) (mu : List Addr) (h : Heap) (x dx : Addr) (l : List (PySem.Str × D)) : Prop := h.get? x = some (instObj W.C dx) ∧ ∃ es k, h.get? dx = some (dictOf es k) ∧ Ents W mu h es l

structure VEx (W : Wr) (fp av : List Addr) (x dx : Addr) : Prop where
  xfp : x ∉ fp
  dfp : dx ∉ fp
  xav : x ∉ av
  dav : dx ∉ av
  ne : dx ≠ x
  hx : W.H.get? x = none
  hd : W.H.get? dx = none

/-- statements, while a vector is in the making -/
def ExsV (W : Wr) (n : Nat) (env : Env) (G : Ga) (x dx : Addr) (l : List (PySem.Str × D)) (ss : List Stmt) (R : Post) : Prop :=
  ∀ fp av A E s, Room n A → St W env fp (dx :: x :: av) G s.heap → VEx W fp av x dx → VAt W (fp ++ (dx :: x :: av)) s.heap x dx l →
    wpAny (Mo W) A (execs ss env) (fun f s' => Same s s' ∧ KB (dx :: fp) s.heap s'.heap ∧ ∃ fp', (∀ a ∈ fp', a ∈ fp ∨ s.heap.get? a = Option.none) ∧ R f fp' av s'.heap) E s

theorem VAt.step {x dx : Addr} {l : List (PySem.Str × D)} {fp₁ : List Addr} (V : VAt W (fp ++ (dx :: x :: av)) h x dx l) (X : VEx W fp av x dx) (k : KB fp h h') (g : ∀ a ∈ fp₁, a ∈ fp ∨ h.get? a = none) : VAt W (fp₁ ++ (dx :: x :: av)) h' x dx l ∧ VEx W fp₁ av x dx := by
  obtain ⟨hx, es, j, hd, en⟩ := V
  have old : ∀ a o, a ∉ fp → h.get? a = some o → a ∉ fp₁ ∧ h'.get? a = some o := fun a o m e => by
    obtain ⟨o', e', z⟩ := k a o e
    rw [z m] at e'
    exact ⟨fun q => (g a q).elim m fun z => by (rw [z] at e; cases e), e'⟩
  refine ⟨⟨(old _ _ X.xfp hx).2, es, j, (old _ _ X.dfp hd).2, en.move fun a o m e => ?_⟩, ⟨(old _ _ X.xfp hx).1, (old _ _ X.dfp hd).1, X.xav, X.dav, X.ne, X.hx, X.hd⟩⟩
  obtain ⟨q, e'⟩ := old a o (fun z => m (List.mem_append_left _ z)) e
  exact ⟨fun z => (List.mem_append.mp z).elim q fun z => m (List.mem_append_right _ z), e'⟩

theorem kb_dx {x dx : Addr} {fp₁ : List Addr} {h₁ h₂ h₃ : Heap} (k : KB fp h₁ h₂) (g : ∀ a ∈ fp₁, a ∈ fp ∨ h₁.get? a = none) (k₂ : KB (dx :: fp₁) h₂ h₃) : KB (dx :: fp) h₁ h₃ :=
  (k.mono (fun a m => .tail _ m)).step (fun a m => (List.mem_cons.mp m).elim (fun q => .inl (q ▸ .head _)) fun q => (g a q).imp (.tail _) id) k₂

theorem ExsV.cons {st : Stmt} {x dx : Addr} {l : List (PySem.Str × D)} (p : Ex1 W n env G st (Nx W env G₁)) (q : ExsV W n env G₁ x dx l rest R) : ExsV W n env G x dx l (st :: rest) R := fun fp av A E s r S X V =>
  wpAny_execs_cons (wpAny_mono (p fp (dx :: x :: av) A E s r S) (fun f s₁ z => by
    obtain ⟨sm, k, fp₁, g, rfl, S₁⟩ := z
    obtain ⟨V₁, X₁⟩ := V.step X k g
    exact wpAny_mono (q fp₁ av A E s₁ r S₁ X₁ V₁) (fun f s₂ z => by
      obtain ⟨sm₂, k₂, fp₂, g₂, z⟩ := z
      exact ⟨sm.trans sm₂, kb_dx (x := x) k g k₂, fp₂, fresh_trans g k g₂, z⟩) fun _ _ x => x) fun _ _ x => x)

theorem wp_ite {t : Expr} {body orelse : List Stmt} {pos : Pos} {A : Around} {E : Value → Shared → Prop} {s : Shared} {M : Model} {Q : Flow → Shared → Prop} (p : wpAny M A (isTrue t env (eval t env)) (fun b s₁ => wpAny M A (execs ((if b = true then body else orelse) ++ rest) env) Q E s₁) E s) :
    wpAny M A (execs (.If t body orelse pos :: rest) env) Q E s := by
  intro Γ p' hΓ
  rw [execs_cons, Sem.wp_bind', exec_If]
  simp only [Sem.wp_bind', Sem.wp_cmd_standAt]
  refine Sem.wp_mono _ Γ _ (fun b' p₁ s₁ q => ?_) (fun _ _ _ x => x) _ s (p Γ _ hΓ)
  have := q Γ p₁ hΓ
  rw [wp_execs_append] at this
  cases b' with
  | true => exact this
  | false => exact this

theorem ExsV.ite {t : Expr} {body orelse : List Stmt} {pos : Pos} {b : Bool} {x dx : Addr} {l : List (PySem.Str × D)} (p : Ts W n env G t G₁ b) (ya : b = true → ExsV W n env G₁ x dx l (body ++ rest) R) (yc : b = false → ExsV W n env G₁ x dx l (orelse ++ rest) R) :
    ExsV W n env G x dx l (.If t body orelse pos :: rest) R := fun fp av A E s r S X V =>
  wp_ite (wpAny_mono (p fp (dx :: x :: av) A E s r S) (fun b' s₁ z => by
    obtain ⟨rfl, sm, k', S₁⟩ := z
    have k := k'.kb
    obtain ⟨V₁, X₁⟩ := V.step X k (fp₁ := fp) fun a m => .inl m
    have fin : ∀ ss, ExsV W n env G₁ x dx l ss R → wpAny (Mo W) A (execs ss env) (fun f s' => Same s s' ∧ KB (dx :: fp) s.heap s'.heap ∧ ∃ fp', (∀ a ∈ fp', a ∈ fp ∨ s.heap.get? a = Option.none) ∧ R f fp' av s'.heap) E s₁ := fun ss y =>
      wpAny_mono (y fp av A E s₁ r S₁ X₁ V₁) (fun f s₂ z => by
        obtain ⟨sm₂, k₂, fp₂, g₂, z⟩ := z
        exact ⟨sm.trans sm₂, kb_dx (x := x) k (fun a m => .inl m) k₂, fp₂, fresh_trans (fun a m => .inl m) k g₂, z⟩) fun _ _ x => x
    cases b' with
    | true => exact fin _ (ya rfl)
    | false => exact fin _ (yc rfl)) fun _ _ x => x)

abbrev VEnd (W : Wr) (x dx : Addr) (l : List (PySem.Str × D)) : Post := fun f fp av h => f = .next ∧ VAt W (fp ++ (dx :: x :: av)) h x dx l
theorem ExsV.done {x dx : Addr} {l : List (PySem.Str × D)} : ExsV W n env G x dx l [] (VEnd W x dx l) := fun fp av A E s r S X V => wpAny_execs_nil ⟨Same.refl s, KB.refl _ _, fp, fun a m => .inl m, rfl, V⟩

/-- the store into the object's dict -/
theorem osa_up {K : Frag} {A : Around} {x dx : Addr} {name : PySem.Str} {tk : Tok} {v : Value} {es : List DictEntry} {j : Nat} {s : Shared} {R : Result → Shared → Prop} (X : K.In s.heap) (hx : s.heap.get? x = some (instObj W.C dx)) (hdx : s.heap.get? dx = some (dictOf es j))
    (hp : plainOver K W.C = true) (ht : takerIn K W.C name = some none) (hh : hasDictIn K W.C = true) (hr : es.any (·.refKey) = false) (hz : es.length ≤ 1000)
    (q : R (.ok (.ret .none)) { s with heap := s.heap.update dx (Obj.putName name (PyData.keyHash W.w.params name) (.str name s.toks) v), toks := s.toks + 1 }) :
    codeAny (Mo W) A (.call (.builtin "object.__setattr__") ⟨[.ref x, .str name tk, v], []⟩) R s := by
  refine osa_open X (C := W.C) (ox := instObj W.C dx) (od := some (dictOf es j)) ⟨hx, rfl, rfl, hdx⟩ hp ht fun b => ?_
  obtain ⟨cd, hc, hd'⟩ := any_some hh
  have ref2 : (!es.toArray.any (·.key.isStr name) && es.toArray.any (·.refKey)) = false := by
    have : es.toArray.any (·.refKey) = false := by rw [← Array.any_toList]; exact hr
    rw [this, Bool.and_false]
  have up : (s.heap.update dx (Obj.putName name (PyData.keyHash W.w.params name) (.str name s.toks) v)).get? dx = some (dictOf (putL name (PyData.keyHash W.w.params name) (.str name s.toks) v es) (putN name es j)) := by
    rw [Heap.get?_update_self _ hdx (by rw [putName_dict]; rfl), putName_dict]
  have len : ∀ es : List DictEntry, (putL name (PyData.keyHash W.w.params name) (.str name s.toks) v es).length ≤ es.length + 1 := by
    intro es
    induction es with
    | nil => exact Nat.le_refl _
    | cons e r ih => unfold putL; split <;> simp <;> omega
  refine wpAny_bind (wpAny_pure (wpAny_bind (wpAny_bind (wpAny_loadPart hx (wpAny_bind ((looks_clsIn X hc).here ?_))))))
  rw [hd']
  refine wpAny_pure (a := some dx) (wpAny_bind (wpAny_pure (wpAny_bind ?_)))
  unfold nsSet
  refine wpAny_bind (wpAny_bind (wpAny_askSetting (wpAny_pure (wpAny_bind (wpAny_mkText (wpAny_bind (wpAny_loadPart hdx ?_)))))))
  dsimp only
  rw [aRefKeyMayBeTheName_at, ref2]
  refine wpAny_updatePart hdx ?_
  refine wpAny_bind (wpAny_lookBehind up (pastItsLine_dict (by have := len es; rw [List.size_toArray, sizeLine_eq]; omega)) ?_)
  exact wpAny_pure q

theorem ExsV.setattr {x dx : Addr} {l : List (PySem.Str × D)} {nm name : PySem.Str} {np apos pos : Pos} {e : Expr} {d : D} (hn : G₁.lookup nm = some (.fz (.fn (.ref x)))) (v : Ev W n env G e G₁ d) (ha : name ∈ (["kind", "items", "attrs", "shared", "loose"] : List PySem.Str)) (hl : l.length ≤ 100)
    (q : ExsV W n env G₁ x dx (putA name d l) rest R) (hs : swapsWith e (some (.Attribute (.Name nm np) name apos)) pos.line env = pure false := by rfl) (hb : (nm == ("__debug__" : PySem.Str)) = false := by decide +kernel) :
    ExsV W n env G x dx l (.Assign [.Attribute (.Name nm np) name apos] e pos :: rest) R := fun fp av A E s r S X V => by
  refine wpAny_execs_cons (plainObj_wpAny_Assign_Attribute (wpAny_mono (v fp (dx :: x :: av) A E s r S) (fun w s₁ z => ?_) fun _ _ x => x) hs)
  obtain ⟨sm, k', S₁, rv⟩ := z
  have k := k'.kb
  obtain ⟨⟨hx, es, j, hd, en⟩, X₁⟩ := V.step X k (fp₁ := fp) fun a m => .inl m
  refine wpAny_mono (Ev.name (n := n) hn hb fp (dx :: x :: av) A E s₁ r S₁) (fun w' s₂ z => ?_) fun _ _ x => x
  obtain ⟨sm₂, k₂', S₂, rx⟩ := z
  have k₂ := k₂'.kb
  cases rx
  obtain ⟨⟨hx, es, j, hd, en⟩, X₂⟩ := VAt.step ⟨hx, es, j, hd, en⟩ X₁ k₂ (fp₁ := fp) fun a m => .inl m
  have KI : W.K.In s₂.heap := fun a o e => (S₂.base a o (W.kin a o e)).1
  have rv₂ := rv.kb k₂
  refine set_plain KI (C := W.C) (ox := instObj W.C dx) (od := some (dictOf es j)) ⟨hx, rfl, rfl, hd⟩ W.sets ?_
  have hlen := en.length
  refine osa_up (s := { s₂ with toks := s₂.toks + 1 }) KI hx hd W.over (W.attr name ha).2 W.hasDict en.noRef (by omega) ?_
  have up : (s₂.heap.update dx (Obj.putName name (PyData.keyHash W.w.params name) (.str name (s₂.toks + 1)) w)).get? dx = some (dictOf (putL name (PyData.keyHash W.w.params name) (.str name (s₂.toks + 1)) w es) (putN name es j)) := by
    rw [Heap.get?_update_self _ hd (by rw [putName_dict]; rfl), putName_dict]
  have oth : ∀ b o, b ≠ dx → s₂.heap.get? b = some o → (s₂.heap.update dx (Obj.putName name (PyData.keyHash W.w.params name) (.str name (s₂.toks + 1)) w)).get? b = some o := fun b o ne e => by rw [Heap.get?_update_other _ _ ne.symm]; exact e
  dsimp only
  generalize s₂.heap.update dx (Obj.putName name (PyData.keyHash W.w.params name) (.str name (s₂.toks + 1)) w) = h₃ at up oth
  have S₃ : St W env fp (dx :: x :: av) G₁ h₃ := S₂.offI X₂.dfp (fun y c e z => by
    obtain ⟨_, _, _, o, ho, hcell⟩ := S₂.cel y c e
    rw [z, hd] at ho; cases ho; cases hcell) X₂.hd oth (fun a m => m) (fun a m => .tail _ m) fun _ => ⟨_, up⟩
  have V₃ : VAt W (fp ++ (dx :: x :: av)) h₃ x dx (putA name d l) := ⟨oth _ _ X₂.ne.symm hx, _, _, up, (en.put rv₂).move fun a o m e => ⟨m, oth a o (fun z => m (z ▸ List.mem_append_right _ (.head _))) e⟩⟩
  have k₃ : KB (dx :: fp) s₂.heap h₃ := fun b o e => by
    by_cases z : b = dx
    · exact ⟨_, z ▸ up, fun q => absurd (z ▸ .head _) q⟩
    · exact ⟨o, oth b o z e, fun _ => rfl⟩
  have kk : KB (dx :: fp) s.heap h₃ := ((k.trans k₂).mono fun a m => .tail _ m).trans k₃
  refine wpAny_mono (q fp av A E { s₂ with heap := h₃, toks := s₂.toks + 1 + 1 } r S₃ X₂ V₃) (fun f s₄ z => ?_) fun _ _ x => x
  obtain ⟨sm₄, k₄, fp₄, g₄, z⟩ := z
  refine ⟨((sm.trans sm₂).trans ⟨_, _, rfl⟩).trans sm₄, kk.trans k₄, fp₄, fun a m => ?_, z⟩
  rcases g₄ a m with q | q
  · exact .inl q
  · right
    cases e : s.heap.get? a with
    | none => rfl
    | some o => obtain ⟨o', e', _⟩ := kk a o e; rw [show h₃.get? a = none from q] at e'; cases e'

/-- a name told anew -/
theorem St.rebind {x : PySem.Str} {v : Value} {d : D} (S : St W env fp av G h) (sx : Seen env h x v) (r : Rd W (fp ++ av) h v d) : St W env fp av ((x, .fz d) :: G) h where
  ok := S.ok
  base := S.base
  live := S.live
  loc := S.loc
  ns := S.ns
  cel := S.cel
  apart := S.apart
  bd := fun y b e => by
    rw [List.lookup_cons] at e
    cases hy : y == x with
    | true => rw [hy] at e; cases e; exact ⟨v, beq_iff_eq.mp hy ▸ sx, r⟩
    | false => rw [hy] at e; exact S.bd y b e
  odis := fun y z ds es a ey ez sy sz => by
    have nx : ∀ y ds p, ((x, B.fz d) :: G).lookup y = some (.own ds p) → G.lookup y = some (.own ds p) := fun y ds p e => by
      rw [List.lookup_cons] at e
      cases hy : y == x with
      | true => rw [hy] at e; cases e
      | false => rw [hy] at e; exact e
    exact S.odis y z ds es a (nx y _ _ ey) (nx z _ _ ez) sy sz

/-- the vector is done -/
theorem ExsV.freeze {x dx : Addr} {l : List (PySem.Str × D)} {nm : PySem.Str} {k : Tx} {di da : D} {ss : List Stmt} (hn : G.lookup nm = some (.fz (.fn (.ref x)))) (hk : l.lookup ("kind" : PySem.Str) = some (T k)) (hi : l.lookup ("items" : PySem.Str) = some di) (ha : l.lookup ("attrs" : PySem.Str) = some da)
    (q : Exs W n env ((nm, .fz (.vec (key k) di da)) :: G) ss R) : ExsV W n env G x dx l ss R := fun fp av A E s r S X V => by
  obtain ⟨hx, es, j, hd, en⟩ := V
  obtain ⟨v, sx, rv⟩ := S.bd nm _ hn
  have e0 : v = .ref x := by cases rv; rfl
  subst e0
  obtain ⟨vk, k1, rk⟩ := en.get hk
  obtain ⟨vi, i1, ri⟩ := en.get hi
  obtain ⟨va, a1, ra⟩ := en.get ha
  obtain ⟨t, rfl⟩ := rd_T rk
  have sub : ∀ a, a ∈ fp ++ av → a ∈ fp ++ (dx :: x :: av) := fun a m => (List.mem_append.mp m).elim (List.mem_append_left _) fun m => List.mem_append_right _ (.tail _ (.tail _ m))
  have notcell : ∀ (a : Addr) (o : Obj), s.heap.get? a = some o → (∀ v, o.data ≠ .cell v) → ∀ y c, env.cells.lookup y = some c → c ≠ a := fun a o e hn y c ec z => by
    obtain ⟨_, _, _, o', ho, hcell⟩ := S.cel y c ec
    rw [z, e] at ho; cases ho
    exact hn _ hcell
  have S₁ : St W env fp (x :: av) G s.heap := S.offI X.dfp (notcell _ _ hd fun v e => by cases e) X.hd (fun b o _ e => e) (fun a m => .tail _ m) (fun a m => m) fun m => by
    rcases List.mem_cons.mp m with m | m
    · exact absurd m X.ne
    · exact absurd m X.dav
  have S₂ : St W env fp av G s.heap := S₁.offI X.xfp (notcell _ _ hx fun v e => by cases e) X.hx (fun b o _ e => e) (fun a m => .tail _ m) (fun a m => m) fun m => absurd m X.xav
  have nx : x ∉ fp ++ av := fun m => (List.mem_append.mp m).elim X.xfp X.xav
  have nd : dx ∉ fp ++ av := fun m => (List.mem_append.mp m).elim X.dfp X.dav
  have S₃ : St W env fp av ((nm, .fz (.vec (key k) di da)) :: G) s.heap := S₂.rebind sx (.vec nx nd hx hd k1 i1 a1 (ri.shrink sub) (ra.shrink sub))
  exact wpAny_mono (q fp av A E s r S₃) (fun f s' z => ⟨z.1, z.2.1.mono fun a m => .tail _ m, z.2.2⟩) fun _ _ x => x
end
end Mine

/-! M16 -/
namespace Mine

section
variable {W : Wr} {n : Nat} {mu mu' : List Addr} {env : Env} {G G₁ G₂ : Ga} {fp av : List Addr} {h h' : Heap} {R R' : Post} {rest : List Stmt}

theorem weight_tc (args : Args) : (Code.builtin "type.__call__" args).weight ≤ 4 ∧ (Code.builtin "type.__call__" args).cUnits ≤ 16 := by
  have hf : (Code.builtin "type.__call__" args).frames = 0 := rfl
  have hc : (Code.builtin "type.__call__" args).isCaller = false := rfl
  constructor
  · unfold Code.weight
    rw [hf, hc]
    simp only [Bool.false_eq_true, if_false]
    split <;> split <;> omega
  · show 1 + 3 * (Code.builtin "type.__call__" args).frames ≤ 16
    rw [hf]; omega
theorem Room.under {A : Around} (r : Room (n + 1) A) (args : Args) : Room n (A.under (.builtin "type.__call__" args)) := by
  obtain ⟨a, b, c⟩ := r
  have ⟨w1, w2⟩ := weight_tc args
  refine ⟨a, ?_, ?_⟩
  · show A.depth + (Code.builtin "type.__call__" args).weight + 4 * n + 8 < _; omega
  · show A.units + (Code.builtin "type.__call__" args).cUnits + 16 * n + 100 < _; omega

/-- entering a def, as a run -/
theorem enter0 {fa : Addr} {fd : FuncData} {body : List Stmt} {k : Nat} {names : List PySem.Str} {dv : List Value} {dd ds : List D} (F : Fun W fa fd body) (P : Par W fd k names dv dd)
    {s : Shared} {vs : List Value} (w : Wd W mu s.heap) (r : RdAll W mu s.heap vs ds) (hk : ds.length = k) {A : Around} (Rm : Room (n + 1) A) {Q : Result → Shared → Prop}
    (run : ∀ (s₁ : Shared) (fp : List Addr) (A' : Around) (E : Value → Shared → Prop), Room n A' → St W (callEnvC fd s.heap.objs.size fa) fp mu (pars names (ds ++ dd)) s₁.heap → Same s s₁ → Keep s.heap s₁.heap → (∀ a ∈ fp, s.heap.get? a = none) →
      wpAny (Mo W) A' (execs body (callEnvC fd s.heap.objs.size fa)) (fun f s' => Q (.ok (.ret (match f with | .ret v => v | _ => .none))) s') E s₁) :
    codeAny (Mo W) A (.call (.ref fa) ⟨vs, []⟩) Q s := by
  obtain ⟨o, ho, hdata⟩ := F.at_
  have hb : ((names.zip (vs ++ dv)).all fun y => fd.scope.names.lookup y.1 == some .local || fd.scope.names.lookup y.1 == some .cell) = true := by
    rw [List.all_eq_true]
    exact fun y hy => List.all_eq_true.mp P.kinds y.1 (mem_zip_fst hy)
  refine codeAny_call_function Rm.depth (w.1 _ _ ho) hdata F.co F.gen F.body (F.cd.keeps w.1) ((P.bind s vs w.1 (by rw [r.length, hk])) _ _ _ _ ?_)
  rw [F.clo]
  refine wpAny_newFunctionEnv_cells F.kind (kindsX hb _) fun env he s' x => ?_
  subst he
  refine ⟨w.nolimit.keeps x.toInCall.keep, codeAny_func ?_⟩
  obtain ⟨h₁, tk, rfl⟩ := x.toInCall.same
  have sz : ∀ a o, s.heap.get? a = some o → a < s.heap.objs.size := fun a o e => Heap.lt_size e
  have fresh : ∀ a, s.heap.objs.size ≤ a → s.heap.get? a = none := fun a ha => by
    cases e : s.heap.get? a with
    | none => rfl
    | some o' => exact absurd (Heap.lt_size e) (Nat.not_lt.mpr ha)
  have kp := x.toInCall.keep
  have hL : ∃ o, h₁.get? s.heap.objs.size = some o := let ⟨o, _, _, e, _⟩ := x.toInCall.ns; ⟨o, e⟩
  have nfp : ∀ a ∈ s.heap.objs.size :: (cellsFrom (s.heap.objs.size + 1) fd.scope.names []).map (·.2), s.heap.get? a = none := fun a m => by
    rcases List.mem_cons.mp m with m | m
    · exact m ▸ fresh _ (Nat.le_refl _)
    · obtain ⟨p, hp, rfl⟩ := List.mem_map.mp m
      exact fresh _ (Nat.le_of_lt (x.above p.1 p.2 hp))
  have r₁ : RdAll W (s.heap.objs.size :: (cellsFrom (s.heap.objs.size + 1) fd.scope.names []).map (·.2) ++ mu) h₁ (vs ++ dv) (ds ++ dd) := (RdAll.append (r.move fun a o m e => ⟨fun q => by
    rcases List.mem_append.mp q with q | q
    · rw [nfp a q] at e; cases e
    · exact m q, kp a o e⟩) (P.dflt _ _))
  have S : St W (callEnvC fd s.heap.objs.size fa) (s.heap.objs.size :: (cellsFrom (s.heap.objs.size + 1) fd.scope.names []).map (·.2)) mu (pars names (ds ++ dd)) h₁ := {
    ok := ⟨F.kind, F.glob, F.blt⟩
    base := fun a o e => ⟨kp a o (w.1 a o e), fun q => by
      have := nfp a q
      rw [w.1 a o e] at this; cases this⟩
    live := fun a q => by
      rcases List.mem_append.mp q with q | q
      · rcases List.mem_cons.mp q with q | q
        · exact q ▸ hL
        · obtain ⟨p, hp, rfl⟩ := List.mem_map.mp q
          obtain ⟨o, e, _⟩ := x.cell p.1 p.2 (lookup_of_mem_nodup (cellsFrom_names fd.scope.names 0 (s.heap.objs.size + 1) [] [] rfl ▸ F.cnd) hp)
          exact ⟨o, e⟩
      · obtain ⟨o, e⟩ := w.2 a q; exact ⟨o, kp a o e⟩
    loc := .head _
    ns := ⟨_, x.toInCall.ns⟩
    cel := fun y c e => by
      have m := List.mem_map_of_mem (f := (·.2)) (mem_of_lookup e)
      exact ⟨List.mem_append_left _ (.tail _ m), fun _ => .tail _ m, _, x.cell y c e⟩
    apart := fun y z c e e' => name_of_addr x.apart (mem_of_lookup e) (mem_of_lookup e')
    bd := fun y b e => by
      obtain ⟨v, d, rfl, hv, rd⟩ := pars_at r₁ e
      refine ⟨v, ?_, rd⟩
      have nd : ((names.zip (vs ++ dv)).map (·.1)).Nodup := nodup_zip P.nodup
      have hm := mem_of_lookup hv
      rcases kindsX hb (s.heap.objs.size + 1) _ hm with q | ⟨q, qc⟩
      · exact .inl ⟨q, _, x.toInCall.ns, bindL_at _ _ nd hv q⟩
      · obtain ⟨c, hc⟩ := Option.isSome_iff_exists.mp qc
        have := x.cell y c hc
        rw [bindC_at _ _ nd hv (fun z => by have z' := Eq.trans (Eq.symm q) z; cases z')] at this
        exact .inr ⟨.inl q, c, hc, this⟩
    odis := fun y z ds es a ey _ _ _ => by
      obtain ⟨v, d, q, _⟩ := pars_at r₁ ey
      cases q }
  exact wpAny_mono (run { s with heap := h₁, toks := tk } _ _ _ (Rm.deeper _) S ⟨_, _, rfl⟩ kp nfp) (fun f s₂ q => q) fun _ _ x => x

/-- what __init__ is to show -/
structure IniOk (W : Wr) (n : Nat) : Prop where
  run : ∃ fd body k names dv dd, Fun W W.I fd body ∧ Par W fd k names dv dd ∧ k = 3 ∧ ∀ (kd : Tx) (di : D) L x dx, ExsV W n (callEnvC fd L W.I) (pars names ([.fn (.ref x), T kd, di] ++ dd)) x dx [] body
    (VEnd W x dx [("kind", T kd), ("items", di), ("attrs", .none), ("shared", .bool false), ("loose", .bool false)])

def vecL (kd : Tx) (di : D) : List (PySem.Str × D) := [("kind", T kd), ("items", di), ("attrs", .none), ("shared", .bool false), ("loose", .bool false)]

theorem call_vec (I : IniOk W n) {kd : Tx} {di : D} {s : Shared} {vs : List Value} (w : Wd W mu s.heap) (r : RdAll W mu s.heap vs [T kd, di]) {A : Around} {E : Value → Shared → Prop} (Rm : Room (n + 2) A) :
    wpAny (Mo W) A (call (.ref W.C) vs) (fun v s' => Same s s' ∧ Keep s.heap s'.heap ∧ ∃ x dx, v = .ref x ∧ s.heap.get? x = none ∧ s.heap.get? dx = none ∧ dx ≠ x ∧ VAt W (dx :: x :: mu) s'.heap x dx (vecL kd di)) E s := by
  obtain ⟨fd, body, k, names, dv, dd, F, P, hk, run⟩ := I.run
  subst hk
  have KI : W.K.In s.heap := fun a o e => w.1 a o (W.kin a o e)
  obtain ⟨hh, g, d, t, os⟩ := s
  refine wpAny_call (make_core (makes_of KI W.makes) (looks_findIn KI W.init) (fun self => bind_fn KI self W.initFn) (.inl rfl) ?_)
  dsimp only at *
  have nx0 : hh.get? (hh.objs.size + 1) = none := by
    cases e : hh.get? (hh.objs.size + 1) with
    | none => rfl
    | some o => exact absurd (Heap.lt_size e) (Nat.not_lt.mpr (Nat.le_succ _))
  have nd0 := fresh_size hh
  generalize hx : hh.objs.size + 1 = x at nx0 ⊢
  generalize hdx : hh.objs.size = dx at hx nd0 ⊢
  have nx : hh.get? x = none := nx0
  have nd : hh.get? dx = none := nd0
  have ne : dx ≠ x := by omega
  have hX : ((hh.push emptyDict).push (instObj W.C dx)).get? x = some (instObj W.C dx) := by
    subst hx hdx; heap_get
  have hD : ((hh.push emptyDict).push (instObj W.C dx)).get? dx = some (dictOf [] 0) := by
    subst hdx; exact Heap.get?_push_of_some _ (Heap.get?_push_size _ rfl)
  have kp : Keep hh ((hh.push emptyDict).push (instObj W.C dx)) := fun b o e => Heap.get?_push_of_some _ (Heap.get?_push_of_some _ e)
  generalize (hh.push emptyDict).push (instObj W.C dx) = H1 at hX hD kp ⊢
  have old : ∀ a o, hh.get? a = some o → a ≠ dx ∧ a ≠ x := fun a o e => ⟨fun z => by (rw [z, nd] at e; cases e), fun z => by (rw [z, nx] at e; cases e)⟩
  have w₁ : Wd W (dx :: x :: mu) H1 := ⟨fun a o e => kp a o (w.1 a o e), fun a m => by
    rcases List.mem_cons.mp m with rfl | m
    · exact ⟨_, hD⟩
    · rcases List.mem_cons.mp m with rfl | m
      · exact ⟨_, hX⟩
      · obtain ⟨o, e⟩ := w.2 a m; exact ⟨o, kp a o e⟩⟩
  have r₁ : RdAll W (dx :: x :: mu) H1 (.ref x :: vs) [.fn (.ref x), T kd, di] := .cons (.fn _) (r.move fun a o m e => ⟨fun z => by
    rcases List.mem_cons.mp z with z | z
    · exact (old a o e).1 z
    · rcases List.mem_cons.mp z with z | z
      · exact (old a o e).2 z
      · exact m z, kp a o e⟩)
  refine enter0 (n := n) (mu := dx :: x :: mu) F P w₁ r₁ rfl (Rm.under _) fun s₁ fp A' E' R' S sm kp' nfp => ?_
  have xfp : x ∉ fp := fun m => by have := nfp x m; rw [hX] at this; cases this
  have dfp : dx ∉ fp := fun m => by have := nfp dx m; rw [hD] at this; cases this
  have xmu : x ∉ mu := fun m => by obtain ⟨o, e⟩ := w.2 x m; rw [nx] at e; cases e
  have dmu : dx ∉ mu := fun m => by obtain ⟨o, e⟩ := w.2 dx m; rw [nd] at e; cases e
  have hHx : W.H.get? x = none := by
    cases e : W.H.get? x with
    | none => rfl
    | some o => have := w.1 x o e; rw [nx] at this; cases this
  have hHd : W.H.get? dx = none := by
    cases e : W.H.get? dx with
    | none => rfl
    | some o => have := w.1 dx o e; rw [nd] at this; cases this
  refine wpAny_mono (run kd di _ x dx fp mu A' E' s₁ R' S ⟨xfp, dfp, xmu, dmu, ne, hHx, hHd⟩ ⟨kp' _ _ hX, [], 0, kp' _ _ hD, .nil⟩) (fun f s₂ z => ?_) fun _ _ x => x
  obtain ⟨sm₂, k₂, fp₂, g₂, rfl, V⟩ := z
  refine ⟨rfl, Same.trans ⟨_, _, rfl⟩ (sm.trans sm₂), fun a o e => ?_, x, dx, rfl, nx, nd, ne, V.1, ?_⟩
  · obtain ⟨o', e', z⟩ := k₂ a o (kp' a o (kp a o e))
    rw [z fun m => (List.mem_cons.mp m).elim (old a o e).1 fun m => by have := nfp a m; rw [kp a o e] at this; cases this] at e'
    exact e'
  · obtain ⟨es, j, hd, en⟩ := V.2
    exact ⟨es, j, hd, en.move fun a o m e => ⟨fun z => m (List.mem_append_right _ z), e⟩⟩

/-- a vector made and left as it is -/
theorem Cal.vec (I : IniOk W n) {kd : Tx} {di : D} : Cal W (n + 2) (.ref W.C) [T kd, di] (.vec (key kd) di .none) := fun mu s vs w r A E Rm =>
  wpAny_mono (call_vec I w r Rm) (fun v s' z => by
    obtain ⟨sm, k, x, dx, rfl, nx, nd, ne, hx, es, j, hd, en⟩ := z
    refine ⟨sm, k, ?_⟩
    obtain ⟨vk, k1, rk⟩ := en.get (name := "kind") (d := T kd) (by rfl)
    obtain ⟨vi, i1, ri⟩ := en.get (name := "items") (d := di) (by rfl)
    obtain ⟨va, a1, ra⟩ := en.get (name := "attrs") (d := .none) (by rfl)
    obtain ⟨t, rfl⟩ := rd_T rk
    have sub : ∀ a, a ∈ mu → a ∈ dx :: x :: mu := fun a m => .tail _ (.tail _ m)
    refine .vec (fun m => ?_) (fun m => ?_) hx hd k1 i1 a1 (ri.shrink sub) (ra.shrink sub)
    · obtain ⟨o, e⟩ := w.2 x m; rw [nx] at e; cases e
    · obtain ⟨o, e⟩ := w.2 dx m; rw [nd] at e; cases e) fun _ _ x => x

theorem Cee.cls : Cee W (.ref W.C) := fun h k => by
  have KI : W.K.In h := fun a o e => k a o (W.kin a o e)
  have Y := makes_of (M := Mo W) KI W.makes
  obtain ⟨oc, od, cd, sl, hC, _⟩ := Y.obj
  refine ⟨.machine, .inr (.inl rfl), ?_⟩
  unfold keeperOf
  refine (Looks.ld (part := none) hC).andThen ?_
  dsimp only
  refine Looks.andThen Y.call ?_
  exact .now

/-- a vector bound to a name, still in the making -/
theorem Exs.newV {nm : PySem.Str} {np pos cpos : Pos} {f e : Expr} {args : List Expr} {kd : Tx} {di : D} (I : IniOk W n) (p : Ev W (n + 2) env G f G₁ (.fn (.ref W.C))) (a : EvL W (n + 2) env G₁ cpos (e :: args) G₂ [T kd, di]) (hk : env.kindOf nm = some .local)
    (y : ∀ x dx, ExsV W (n + 2) env ((nm, .fz (.fn (.ref x))) :: G₂) x dx (vecL kd di) rest R)
    (hc : eval (.Call f (e :: args) [] cpos) env = (do callWith cpos (← eval f env) [] (backTo cpos (starEach (e :: args) env)) (backToKw cpos (keywordEach [] env))) := by rfl)
    (he : starEach (e :: args) env = (false, eval e env) :: starEach args env := by rfl) (hp : (backTo cpos (starEach args env)).any (·.1) = false := by rfl)
    (hs : swapsWith (.Call f (e :: args) [] cpos) (some (.Name nm np)) pos.line env = pure false := by rfl) : Exs W (n + 2) env G (.Assign [.Name nm np] (.Call f (e :: args) [] cpos) pos :: rest) R := fun fp av A E s r S =>
  wpAny_execs_cons (wpAny_Assign_Name (Call_ (wpAny_mono (p fp av A E s r S) (fun v s₁ q => by
    obtain ⟨sm, k, S₁, rf⟩ := q
    cases rf
    refine callWith_go Cee.cls (wpAny_mono (a fp av A E s₁ r S₁) (fun vs s₂ q => ⟨fun a o e => (q.2.2.1.base a o e).1, ?_⟩) fun _ _ x => x) he hp
    obtain ⟨sm₂, k₂, S₂, rv⟩ := q
    refine wpAny_mono (call_vec I S₂.wd rv r) (fun v s₃ z => ?_) fun _ _ x => x
    obtain ⟨sm₃, k₃, x, dx, rfl, nx, nd, ne, V⟩ := z
    obtain ⟨hx, es, j, hd, en⟩ := V
    have S₃ : St W env fp (dx :: x :: av) G₂ s₃.heap := by
      have a1 := S₂.avoid k₃ nx hx
      have kd' : Keep s₂.heap s₃.heap := k₃
      exact { a1 with
        live := fun b m => by
          rcases List.mem_append.mp m with m | m
          · exact a1.live b (List.mem_append_left _ m)
          · rcases List.mem_cons.mp m with rfl | m
            · exact ⟨_, hd⟩
            · exact a1.live b (List.mem_append_right _ m)
        cel := fun y c e => by
          obtain ⟨p, q, z⟩ := a1.cel y c e
          refine ⟨?_, q, z⟩
          rcases List.mem_append.mp p with p | p
          · exact List.mem_append_left _ p
          · exact List.mem_append_right _ (.tail _ p)
        bd := fun y b e => by
          obtain ⟨v, sv, rb⟩ := S₂.bd y b e
          have mv : ∀ a o, a ∉ fp ++ av → s₂.heap.get? a = some o → a ∉ fp ++ (dx :: x :: av) ∧ s₃.heap.get? a = some o := fun a o m e => by
            refine ⟨fun z => ?_, k₃ a o e⟩
            rcases List.mem_append.mp z with z | z
            · exact m (List.mem_append_left _ z)
            · rcases List.mem_cons.mp z with z | z
              · rw [z, nd] at e; cases e
              · rcases List.mem_cons.mp z with z | z
                · rw [z, nx] at e; cases e
                · exact m (List.mem_append_right _ z)
          refine ⟨v, sv.move (fun o => k₃ _ o) (fun c o _ => k₃ c o), ?_⟩
          cases b with
          | fz d => exact Rd.move mv rb
          | own ds pin =>
            obtain ⟨a, us, j, e, m, g, q⟩ := rb
            refine ⟨a, us, j, e, ⟨m.1, fun z => ?_⟩, k₃ _ _ g, q.move mv⟩
            rcases List.mem_cons.mp z with z | z
            · rw [z, nd] at g; cases g
            · rcases List.mem_cons.mp z with z | z
              · rw [z, nx] at g; cases g
              · exact m.2 z }
    have live : ∀ a, a ∈ fp ++ av → a ≠ x ∧ a ≠ dx := fun a m => by
      obtain ⟨o, e⟩ := S₂.live a m
      exact ⟨fun z => by (rw [z, nx] at e; cases e), fun z => by (rw [z, nd] at e; cases e)⟩
    have hHx : W.H.get? x = none := by
      cases e : W.H.get? x with
      | none => rfl
      | some o => have := (S₂.base x o e).1; rw [nx] at this; cases this
    have hHd : W.H.get? dx = none := by
      cases e : W.H.get? dx with
      | none => rfl
      | some o => have := (S₂.base dx o e).1; rw [nd] at this; cases this
    have X : VEx W fp av x dx := ⟨fun m => (live x (List.mem_append_left _ m)).1 rfl, fun m => (live dx (List.mem_append_left _ m)).2 rfl, fun m => (live x (List.mem_append_right _ m)).1 rfl, fun m => (live dx (List.mem_append_right _ m)).2 rfl, ne, hHx, hHd⟩
    have V₃ : VAt W (fp ++ (dx :: x :: av)) s₃.heap x dx (vecL kd di) := ⟨hx, es, j, hd, en.move fun a o m e => ⟨fun z => ?_, e⟩⟩
    · refine wpAny_mono (store_fz (d := .fn (.ref x)) hk S₃ (.fn _) (Same.refl s₃) (KB.refl _ _)) (fun _ s₄ z => ?_) fun _ _ x => x
      obtain ⟨sm₄, k₄, S₄⟩ := z
      obtain ⟨V₄, X₄⟩ := V₃.step X k₄ (fp₁ := fp) fun a m => .inl m
      have kk : KB fp s.heap s₄.heap := ((k.trans k₂).kb.trans (.of_keep k₃)).trans k₄
      refine wpAny_mono (y x dx fp av A E s₄ r S₄ X₄ V₄) (fun f s₅ z => ?_) fun _ _ x => x
      obtain ⟨sm₅, k₅, fp₅, g₅, z⟩ := z
      have nds : s.heap.get? dx = none := by
        cases e : s.heap.get? dx with
        | none => rfl
        | some o => obtain ⟨o', e', _⟩ := (k.trans k₂) dx o e; rw [nd] at e'; cases e'
      refine ⟨(((sm.trans sm₂).trans sm₃).trans sm₄).trans sm₅, kk.step (fun a m => (List.mem_cons.mp m).elim (fun z => .inr (z ▸ nds)) .inl) k₅, fp₅, fresh_trans (fun a m => .inl m) kk g₅, z⟩
    · rcases List.mem_append.mp z with z | z
      · exact m (.tail _ (.tail _ (List.mem_append_left _ z)))
      · rcases List.mem_cons.mp z with z | z
        · exact m (z ▸ .head _)
        · rcases List.mem_cons.mp z with z | z
          · exact m (z ▸ .tail _ (.head _))
          · exact m (.tail _ (.tail _ (List.mem_append_right _ z)))) fun _ _ x => x) hc) hs)
end
end Mine

/-! M17 -/
namespace Mine

/-- a def of the program -/
def recAt (i : Nat) : DefRec := match PySem.Challenge.pw_nz0485_01.main.body[i]? with
  | some (.FunctionDef name args body _ _ _ scope _ _ pos) => ⟨name, args, body, scope, pos⟩
  | some (.ClassDef name _ _ (.FunctionDef name' args body _ _ _ scope _ _ pos :: _) _ _ _ _ _ _ _) => ⟨name', args, body, scope, pos⟩
  | _ => ⟨"", ⟨[], [], none, [], [], none, []⟩, [], default, default⟩
abbrev fdR (r : DefRec) (qual : PySem.Str) (dV pm code doc : Value) : FuncData := defFd r.name qual r.params r.body r.scope mainGlobals dV .none .none pm code doc

structure Sc (r : DefRec) : Prop where
  co : r.scope.isCoroutine = false
  gen : r.scope.isGenerator = false
  kind : r.scope.kind = .function
  cnd : ((cellsFrom 0 r.scope.names []).map (·.1)).Nodup

/-- a def as it stands -/
def FnAt (W : Wr) (r : DefRec) (qual : PySem.Str) (a : Addr) (dV pm code doc : Value) : Prop := (∃ o, W.H.get? a = some o ∧ o.data = .func (fdR r qual dV pm code doc)) ∧ W.H.CodeRec code qual
/-- a def without defaults, by its name -/
def Hs (W : Wr) (i : Nat) : Prop := ∃ a pm code doc, W.mg (recAt i).name = some (.ref a) ∧ FnAt W (recAt i) (recAt i).name a .none pm code doc
/-- a def with defaults, by its name -/
def Hd (W : Wr) (i : Nat) (dv : List Value) : Prop := ∃ a T pm code doc, W.mg (recAt i).name = some (.ref a) ∧ FnAt W (recAt i) (recAt i).name a (.ref T) pm code doc ∧ ∃ o k, W.H.get? T = some o ∧ o.data = .seq dv.toArray k

section
variable {W : Wr} {n : Nat} {env : Env} {G G₁ G₂ : Ga}

theorem FnAt.fn {r : DefRec} {qual : PySem.Str} {a : Addr} {dV pm code doc : Value} (h : FnAt W r qual a dV pm code doc) (s : Sc r) : Fun W a (fdR r qual dV pm code doc) r.body where
  at_ := h.1
  cd := h.2
  body := rfl
  clo := rfl
  glob := rfl
  blt := rfl
  co := s.co
  gen := s.gen
  kind := s.kind
  cnd := s.cnd

/-- what a global name calls -/
def Glb (W : Wr) (nm : PySem.Str) (v : Value) : Prop := (W.mg nm = some v ∨ (W.mg nm = none ∧ bootBuiltins nm = some v ∧ nm ≠ "__name__")) ∧ Cee W v
def CalG (W : Wr) (n : Nat) (nm : PySem.Str) (ds : List D) (d : D) : Prop := ∃ v, Glb W nm v ∧ Cal W n v ds d
def CalOG (W : Wr) (n : Nat) (nm : PySem.Str) (ds es : List D) : Prop := ∃ v, Glb W nm v ∧ CalO W n v ds es
def CalMG (W : Wr) (n : Nat) (nm : PySem.Str) (ds₀ ds ds₁ : List D) (d : D) : Prop := ∃ v, Glb W nm v ∧ CalM W n v ds₀ ds ds₁ d
theorem CalG.to {nm : PySem.Str} {ds : List D} {d d' : D} (c : CalG W n nm ds d) (e : d = d') : CalG W n nm ds d' := e ▸ c
theorem CalOG.cal {nm : PySem.Str} {ds es : List D} (c : CalOG W n nm ds es) : CalG W n nm ds (.lst es) := let ⟨v, a, b⟩ := c; ⟨v, a, b.cal⟩

theorem Ev.gname {nm : PySem.Str} {pos : Pos} {v : Value} (g : Glb W nm v) (hk : env.kindOf nm = some .globalImplicit) (hd : (nm == ("__debug__" : PySem.Str)) = false) : Ev W n env G (.Name nm pos) G (.fn v) :=
  g.1.elim (fun h => Ev.glob hk h hd) fun h => Ev.blt hk h.1 h.2.1 h.2.2 hd

theorem Ev.callG {nm : PySem.Str} {np pos : Pos} {e : Expr} {args : List Expr} {ds : List D} {d : D} {m : Nat} (c : CalG W m nm ds d) (a : EvL W n env G pos (e :: args) G₂ ds) (hm : m ≤ n := by decide) (hk : env.kindOf nm = some .globalImplicit := by rfl) (hd : (nm == ("__debug__" : PySem.Str)) = false := by decide +kernel)
    (hc : eval (.Call (.Name nm np) (e :: args) [] pos) env = (do callWith pos (← eval (.Name nm np) env) [] (backTo pos (starEach (e :: args) env)) (backToKw pos (keywordEach [] env))) := by rfl)
    (he : starEach (e :: args) env = (false, eval e env) :: starEach args env := by rfl) (hp : (backTo pos (starEach args env)).any (·.1) = false := by rfl) : Ev W n env G (.Call (.Name nm np) (e :: args) [] pos) G₂ d :=
  let ⟨v, g, z⟩ := c; Ev.call (Ev.gname g hk hd) a g.2 (z.ups hm) hc he hp
theorem Ev.callG0 {nm : PySem.Str} {np pos : Pos} {d : D} {m : Nat} (c : CalG W m nm [] d) (hm : m ≤ n := by decide) (hk : env.kindOf nm = some .globalImplicit := by rfl) (hd : (nm == ("__debug__" : PySem.Str)) = false := by decide +kernel)
    (hc : eval (.Call (.Name nm np) [] [] pos) env = (do callWith pos (← eval (.Name nm np) env) [] (backTo pos (starEach [] env)) (backToKw pos (keywordEach [] env))) := by rfl) : Ev W n env G (.Call (.Name nm np) [] [] pos) G d :=
  let ⟨v, g, z⟩ := c; Ev.call0 (Ev.gname g hk hd) g.2 (z.ups hm) hc
theorem EvO.callG {nm : PySem.Str} {np pos : Pos} {e : Expr} {args : List Expr} {ds es : List D} {m : Nat} (c : CalOG W m nm ds es) (a : EvL W n env G pos (e :: args) G ds) (hm : m ≤ n := by decide) (hk : env.kindOf nm = some .globalImplicit := by rfl) (hd : (nm == ("__debug__" : PySem.Str)) = false := by decide +kernel)
    (hc : eval (.Call (.Name nm np) (e :: args) [] pos) env = (do callWith pos (← eval (.Name nm np) env) [] (backTo pos (starEach (e :: args) env)) (backToKw pos (keywordEach [] env))) := by rfl)
    (he : starEach (e :: args) env = (false, eval e env) :: starEach args env := by rfl) (hp : (backTo pos (starEach args env)).any (·.1) = false := by rfl) : EvO W n env G (eval (.Call (.Name nm np) (e :: args) [] pos) env) G es :=
  let ⟨v, g, z⟩ := c; EvO.call (Ev.gname g hk hd) a g.2 (z.ups hm) hc he hp
theorem Ev.callMG {nm x : PySem.Str} {np xp pos : Pos} {pin : Option Addr} {args : List Expr} {ds₀ ds ds₁ : List D} {d : D} {m : Nat} (c : CalMG W m nm ds₀ ds ds₁ d) (hx : G.lookup x = some (.own ds₀ pin)) (a : EvL W n env G pos args G ds) (hm : m ≤ n := by decide) (hk : env.kindOf nm = some .globalImplicit := by rfl) (hd : (nm == ("__debug__" : PySem.Str)) = false := by decide +kernel)
    (hc : eval (.Call (.Name nm np) (.Name x xp :: args) [] pos) env = (do callWith pos (← eval (.Name nm np) env) [] (backTo pos (starEach (.Name x xp :: args) env)) (backToKw pos (keywordEach [] env))) := by rfl)
    (he : starEach (.Name x xp :: args) env = (false, eval (.Name x xp) env) :: starEach args env := by rfl) (hp : (backTo pos (starEach args env)).any (·.1) = false := by rfl) (hd' : (x == ("__debug__" : PySem.Str)) = false := by decide +kernel) :
    Ev W n env G (.Call (.Name nm np) (.Name x xp :: args) [] pos) ((x, .own ds₁ pin) :: G) d :=
  let ⟨v, g, z⟩ := c; Ev.callM (Ev.gname g hk hd) hx a g.2 (z.ups hm) hc he hp hd'

theorem Par.of {r : DefRec} {qual : PySem.Str} {pm code doc : Value} {names : List PySem.Str} (hb : ∀ vs : List Value, vs.length = names.length → bindArgs (fdR r qual .none pm code doc) ⟨vs, []⟩ = pure (names.zip vs)) (nd : names.Nodup)
    (hk : (names.all fun y => r.scope.names.lookup y == some .local || r.scope.names.lookup y == some .cell) = true) : Par W (fdR r qual .none pm code doc) names.length names [] [] where
  bind := fun s vs _ h => by rw [List.append_nil]; exact .of_eq (hb vs h)
  dflt := fun _ _ => .nil
  nodup := nd
  kinds := hk
theorem Par.ofD {r : DefRec} {qual : PySem.Str} {pm code doc : Value} {T : Addr} {k : Nat} {names : List PySem.Str} {dfl dv : List Value} {dd : List D} (hT : ∃ o j, W.H.get? T = some o ∧ o.data = .seq dfl.toArray j)
    (hb : ∀ vs : List Value, vs.length = k → ∃ kk : Option (Array Value) → Sem (List (PySem.Str × Value)), bindArgs (fdR r qual (.ref T) pm code doc) ⟨vs, []⟩ = seqItems? (.ref T) >>= kk ∧ kk (some dfl.toArray) = pure (names.zip (vs ++ dv))) (hd : ∀ mu h, RdAll W mu h dv dd) (nd : names.Nodup)
    (hk : (names.all fun y => r.scope.names.lookup y == some .local || r.scope.names.lookup y == some .cell) = true) : Par W (fdR r qual (.ref T) pm code doc) k names dv dd where
  bind := fun s vs kp h => by
    obtain ⟨o, j, ho, hs⟩ := hT
    obtain ⟨kk, h1, h2⟩ := hb vs h
    exact .of_defaults rfl (kp _ _ ho) hs h1 h2
  dflt := hd
  nodup := nd
  kinds := hk

theorem CalG.def {nm : PySem.Str} (i : Nat) (hs : Hs W i) (sc : Sc (recAt i)) (names : List PySem.Str) {ds : List D} {d : D} (hb : ∀ pm code doc (vs : List Value), vs.length = names.length → bindArgs (fdR (recAt i) (recAt i).name .none pm code doc) ⟨vs, []⟩ = pure (names.zip vs))
    (h : ∀ L a pm code doc, Exs W n (callEnvC (fdR (recAt i) (recAt i).name .none pm code doc) L a) (pars names (ds ++ [])) (recAt i).body (Rt W d)) (hn : nm = (recAt i).name := by rfl) (nd : names.Nodup := by decide)
    (hk : (names.all fun y => (recAt i).scope.names.lookup y == some .local || (recAt i).scope.names.lookup y == some .cell) = true := by rfl) (hl : ds.length = names.length := by rfl) : CalG W (n + 1) nm ds d := by
  subst hn
  obtain ⟨a, pm, code, doc, hm, hf⟩ := hs
  exact ⟨.ref a, ⟨.inl hm, (hf.fn sc).cee⟩, Cal.of_def (hf.fn sc) (Par.of (hb pm code doc) nd hk) (fun L => h L a pm code doc) hl⟩
theorem CalOG.def {nm : PySem.Str} (i : Nat) (hs : Hs W i) (sc : Sc (recAt i)) (names : List PySem.Str) {ds es : List D} (hb : ∀ pm code doc (vs : List Value), vs.length = names.length → bindArgs (fdR (recAt i) (recAt i).name .none pm code doc) ⟨vs, []⟩ = pure (names.zip vs))
    (h : ∀ L a pm code doc, Exs W n (callEnvC (fdR (recAt i) (recAt i).name .none pm code doc) L a) (pars names (ds ++ [])) (recAt i).body (RtO W es)) (hn : nm = (recAt i).name := by rfl) (nd : names.Nodup := by decide)
    (hk : (names.all fun y => (recAt i).scope.names.lookup y == some .local || (recAt i).scope.names.lookup y == some .cell) = true := by rfl) (hl : ds.length = names.length := by rfl) : CalOG W (n + 1) nm ds es := by
  subst hn
  obtain ⟨a, pm, code, doc, hm, hf⟩ := hs
  exact ⟨.ref a, ⟨.inl hm, (hf.fn sc).cee⟩, CalO.of_def (hf.fn sc) (Par.of (hb pm code doc) nd hk) (fun L => h L a pm code doc) hl⟩
theorem CalMG.def {nm x : PySem.Str} (i : Nat) (hs : Hs W i) (sc : Sc (recAt i)) (names : List PySem.Str) {ds₀ ds ds₁ : List D} {d : D} (hb : ∀ pm code doc (vs : List Value), vs.length = (x :: names).length → bindArgs (fdR (recAt i) (recAt i).name .none pm code doc) ⟨vs, []⟩ = pure ((x :: names).zip vs))
    (h : ∀ L a pm code doc al, Exs W n (callEnvC (fdR (recAt i) (recAt i).name .none pm code doc) L a) ((x, .own ds₀ (some al)) :: pars names ds) (recAt i).body (RtM W al ds₁ d)) (hn : nm = (recAt i).name := by rfl) (nd : (x :: names).Nodup := by decide)
    (hk : ((x :: names).all fun y => (recAt i).scope.names.lookup y == some .local || (recAt i).scope.names.lookup y == some .cell) = true := by rfl) (hxl : (recAt i).scope.names.lookup x = some .local := by rfl) (hl : ds.length = names.length := by rfl) : CalMG W (n + 1) nm ds₀ ds ds₁ d := by
  subst hn
  obtain ⟨a, pm, code, doc, hm, hf⟩ := hs
  exact ⟨.ref a, ⟨.inl hm, (hf.fn sc).cee⟩, CalM.of_def (hf.fn sc) (Par.of (hb pm code doc) nd hk) hxl (fun L al => h L a pm code doc al) hl⟩
theorem CalG.defD {nm : PySem.Str} (i : Nat) {dfl dv : List Value} {dd : List D} (hs : Hd W i dfl) (sc : Sc (recAt i)) (k : Nat) (names : List PySem.Str) {ds : List D} {d : D}
    (hb : ∀ T pm code doc (vs : List Value), vs.length = k → ∃ kk : Option (Array Value) → Sem (List (PySem.Str × Value)), bindArgs (fdR (recAt i) (recAt i).name (.ref T) pm code doc) ⟨vs, []⟩ = seqItems? (.ref T) >>= kk ∧ kk (some dfl.toArray) = pure (names.zip (vs ++ dv))) (hd : ∀ mu h, RdAll W mu h dv dd)
    (h : ∀ L a T pm code doc, Exs W n (callEnvC (fdR (recAt i) (recAt i).name (.ref T) pm code doc) L a) (pars names (ds ++ dd)) (recAt i).body (Rt W d)) (hn : nm = (recAt i).name := by rfl) (nd : names.Nodup := by decide)
    (hk : (names.all fun y => (recAt i).scope.names.lookup y == some .local || (recAt i).scope.names.lookup y == some .cell) = true := by rfl) (hl : ds.length = k := by rfl) : CalG W (n + 1) nm ds d := by
  subst hn
  obtain ⟨a, T, pm, code, doc, hm, hf, hT⟩ := hs
  exact ⟨.ref a, ⟨.inl hm, (hf.fn sc).cee⟩, Cal.of_def (hf.fn sc) (Par.ofD hT (hb T pm code doc) hd nd hk) (fun L => h L a T pm code doc) hl⟩

/-- the program's names -/
structure Pg (W : Wr) : Prop where
  fns : ∀ i ∈ [2, 3, 4, 7, 8, 10, 11, 12, 13, 14, 16, 17, 18, 19, 20, 23, 24, 25, 26, 29, 30, 31, 32, 33, 38, 39, 40, 41, 42, 43, 45, 46, 48, 50, 51, 52, 53, 54, 55, 56, 57, 58, 59, 60, 61], Hs W i
  d27 : ∃ t, Hd W 27 [.int 7 t, .bool false]
  d28 : ∃ t, Hd W 28 [.int 7 t, .bool true]
  d44 : ∃ t u, Hd W 44 [.int 80 t, .bool true, .int 7 u]
  d47 : ∃ t, Hd W 47 [.int 80 t]
  init : ∃ T pm code doc, FnAt W (recAt 35) "Vector.__init__" W.I (.ref T) pm code doc ∧ ∃ o k, W.H.get? T = some o ∧ o.data = .seq #[.none] k
  cls : W.mg "Vector" = some (.ref W.C)
  blt : ∀ x ∈ (["len", "max", "str", "abs", "ord", "list", "range", "sum"] : List PySem.Str), W.mg x = none

theorem CalG.blt (P : Pg W) {nm : PySem.Str} {v : Value} {ds : List D} {d : D} (hx : nm ∈ (["len", "max", "str", "abs", "ord", "list", "range", "sum"] : List PySem.Str)) (hv : bootBuiltins nm = some v) (c : Cee W v) (z : Cal W n v ds d) (hn : nm ≠ "__name__" := by decide) : CalG W n nm ds d := ⟨v, ⟨.inr ⟨P.blt _ hx, hv, hn⟩, c⟩, z⟩
theorem CalOG.blt (P : Pg W) {nm : PySem.Str} {v : Value} {ds es : List D} (hx : nm ∈ (["len", "max", "str", "abs", "ord", "list", "range", "sum"] : List PySem.Str)) (hv : bootBuiltins nm = some v) (c : Cee W v) (z : CalO W n v ds es) (hn : nm ≠ "__name__" := by decide) : CalOG W n nm ds es := ⟨v, ⟨.inr ⟨P.blt _ hx, hv, hn⟩, c⟩, z⟩
theorem Pg.glb (P : Pg W) {nm : PySem.Str} {v : Value} (hx : nm ∈ (["len", "max", "str", "abs", "ord", "list", "range", "sum"] : List PySem.Str)) (hv : bootBuiltins nm = some v) (c : Cee W v) (hn : nm ≠ "__name__" := by decide) : Glb W nm v := ⟨.inr ⟨P.blt _ hx, hv, hn⟩, c⟩
theorem Pg.len (P : Pg W) : Glb W "len" (.builtin "len") := P.glb (by simp) (by rfl) .builtin
theorem Pg.max (P : Pg W) : Glb W "max" (.builtin "max") := P.glb (by simp) (by rfl) .builtin
theorem Pg.abs (P : Pg W) : Glb W "abs" (.builtin "abs") := P.glb (by simp) (by rfl) .builtin
theorem Pg.ord (P : Pg W) : Glb W "ord" (.builtin "ord") := P.glb (by simp) (by rfl) .builtin
theorem Pg.sum (P : Pg W) : Glb W "sum" (.builtin "sum") := P.glb (by simp) (by rfl) .builtin
theorem Pg.str (P : Pg W) : Glb W "str" (.type "str") := P.glb (by simp) (by rfl) .type
theorem Pg.list (P : Pg W) : Glb W "list" (.type "list") := P.glb (by simp) (by rfl) .type
theorem Pg.range (P : Pg W) : Glb W "range" (.type "range") := P.glb (by simp) (by rfl) .type

/-! the first walks -/
theorem len0 {α : Type} {vs : List α} (h : vs.length = 0) : vs = [] := List.length_eq_zero_iff.mp h
theorem len1 {α : Type} {vs : List α} (h : vs.length = 1) : ∃ a, vs = [a] := List.length_eq_one_iff.mp h
theorem lenS {α : Type} {k : Nat} {vs : List α} (h : vs.length = k + 1) : ∃ a ws, ws.length = k ∧ vs = a :: ws := by
  cases vs with
  | nil => cases h
  | cons a ws => exact ⟨a, ws, Nat.succ.inj h, rfl⟩
theorem len2 {α : Type} {vs : List α} (h : vs.length = 2) : ∃ a b, vs = [a, b] := by
  obtain ⟨a, ws, h', rfl⟩ := lenS h
  obtain ⟨b, rfl⟩ := len1 h'
  exact ⟨a, b, rfl⟩
theorem len3 {α : Type} {vs : List α} (h : vs.length = 3) : ∃ a b c, vs = [a, b, c] := by
  obtain ⟨a, ws, h', rfl⟩ := lenS h
  obtain ⟨b, c, rfl⟩ := len2 h'
  exact ⟨a, b, c, rfl⟩
theorem len4 {α : Type} {vs : List α} (h : vs.length = 4) : ∃ a b c d, vs = [a, b, c, d] := by
  obtain ⟨a, ws, h', rfl⟩ := lenS h
  obtain ⟨b, c, d, rfl⟩ := len3 h'
  exact ⟨a, b, c, d, rfl⟩
theorem sc_2 : Sc (recAt 2) := ⟨rfl, rfl, rfl, by decide +kernel⟩
theorem w_get_attr_none (P : Pg W) {k : PySem.Str} {di : D} {a : Tx} : CalG W 1 "get_attr" [.vec k di .none, T a] .none :=
  CalG.def 2 (P.fns 2 (by decide)) sc_2 ["v", "name"] (by intro pm c d vs h; obtain ⟨_, _, rfl⟩ := len2 h; rfl) fun L ad pm c d =>
    Exs.ite (Ts.cmp (Ev.attr (Ev.name rfl) Att.attrs) Ev.none Cmp.isNone) (fun _ => Exs.ret Ev.none) fun e => nomatch e
end
end Mine

/-! M18 -/
namespace Mine
section
variable {W : Wr}
abbrev S (x : String) : Tx := (PySem.Str.ofString x).cps.toList
theorem sc_3 : Sc (recAt 3) := ⟨rfl, rfl, rfl, by decide +kernel⟩
theorem sc_4 : Sc (recAt 4) := ⟨rfl, rfl, rfl, by decide +kernel⟩
theorem sc_7 : Sc (recAt 7) := ⟨rfl, rfl, rfl, by decide +kernel⟩
theorem sc_8 : Sc (recAt 8) := ⟨rfl, rfl, rfl, by decide +kernel⟩
theorem sc_10 : Sc (recAt 10) := ⟨rfl, rfl, rfl, by decide +kernel⟩
theorem sc_11 : Sc (recAt 11) := ⟨rfl, rfl, rfl, by decide +kernel⟩

/-- what a vector's attributes hold under a name -/
def attrAt (da : D) (a : Tx) : D := match da with
  | .dct ks ds => (atK ks ds (key a)).getD .none
  | _ => .none
/-- what may stand as attributes -/
def okAttr (da : D) : Prop := da = .none ∨ ∃ ks ds, da = .dct ks ds
theorem w_get_attr (P : Pg W) {k : PySem.Str} {di da : D} {a : Tx} (h : okAttr da) : CalG W 1 "get_attr" [.vec k di da, T a] (attrAt da a) := by
  rcases h with rfl | ⟨ks, ds, rfl⟩
  · exact w_get_attr_none P
  · exact CalG.def 2 (P.fns 2 (by decide)) sc_2 ["v", "name"] (by intro pm c d vs h; obtain ⟨_, _, rfl⟩ := len2 h; rfl) fun L ad pm c d =>
      Exs.ite (Ts.cmp (Ev.attr (Ev.name rfl) Att.attrs) Ev.none Cmp.isNot) (fun e => nomatch e) fun _ => Exs.ret (Ev.meth (Ev.attr (Ev.name rfl) Att.attrs) Mth.get (EvL.cons (Ev.name rfl) EvL.nil) .builtin (Cal.get1))
theorem w_dim_of (P : Pg W) {k : PySem.Str} {di da : D} (h : okAttr da) (hd : attrAt da (S "dim") = .none) : CalG W 2 "dim_of" [.vec k di da] .none :=
  CalG.def 4 (P.fns 4 (by decide)) sc_4 ["v"] (by intro pm c d vs h; obtain ⟨_, rfl⟩ := len1 h; rfl) fun L ad pm c d =>
    Exs.assign (Ev.callG (w_get_attr P h) (EvL.cons (Ev.name rfl) (EvL.cons (Ev.lit rfl) EvL.nil))) rfl <| Exs.ite (Ts.cmp (Ev.name (d := .none) (by rw [← hd]; rfl)) Ev.none Cmp.isNone) (fun _ => Exs.ret Ev.none) fun e => nomatch e
theorem w_names_none (P : Pg W) {k : Tx} {di da : D} (h : okAttr da) (hd : attrAt da (S "dim") = .none) (hn : attrAt da (S "names") = .none) (h1 : k ≠ S "language") (h2 : k ≠ S "environment") : CalG W 3 "names_of" [.vec (key k) di da] .none :=
  CalG.def 3 (P.fns 3 (by decide)) sc_3 ["v"] (by intro pm c d vs h; obtain ⟨_, rfl⟩ := len1 h; rfl) fun L ad pm c d =>
    Exs.ite (Ts.cmp (Ev.attr (Ev.name rfl) Att.kind) (Ev.lit rfl) Cmp.eqT) (fun e => absurd (of_decide_eq_true e) h1) fun _ =>
    Exs.ite (Ts.cmp (Ev.attr (Ev.name rfl) Att.kind) (Ev.lit rfl) Cmp.eqT) (fun e => absurd (of_decide_eq_true e) h2) fun _ =>
    Exs.assign (Ev.callG (w_dim_of P h hd) (EvL.cons (Ev.name rfl) EvL.nil)) rfl <|
    Exs.ite (Ts.bop (TsAll.and_cons (Ts.cmp (Ev.name rfl) Ev.none Cmp.notNone) (c := false) (fun e => nomatch e))) (fun e => nomatch e) fun _ =>
    Exs.assign (Ev.callG (w_get_attr P h) (EvL.cons (Ev.name rfl) (EvL.cons (Ev.lit rfl) EvL.nil))) rfl <| Exs.ite (Ts.cmp (Ev.name (d := .none) (by rw [← hn]; rfl)) Ev.none Cmp.isNone) (fun _ => Exs.ret Ev.none) fun e => nomatch e
theorem w_names_some (P : Pg W) {k : Tx} {kn : PySem.Str} {di da an : D} {ns : List D} (h : okAttr da) (hd : attrAt da (S "dim") = .none) (hn : attrAt da (S "names") = .vec kn (.lst ns) an) (h1 : k ≠ S "language") (h2 : k ≠ S "environment") (hz : ns.length ≤ 1000000) : CalG W 3 "names_of" [.vec (key k) di da] (.lst ns) :=
  CalG.def 3 (P.fns 3 (by decide)) sc_3 ["v"] (by intro pm c d vs h; obtain ⟨_, rfl⟩ := len1 h; rfl) fun L ad pm c d =>
    Exs.ite (Ts.cmp (Ev.attr (Ev.name rfl) Att.kind) (Ev.lit rfl) Cmp.eqT) (fun e => absurd (of_decide_eq_true e) h1) fun _ =>
    Exs.ite (Ts.cmp (Ev.attr (Ev.name rfl) Att.kind) (Ev.lit rfl) Cmp.eqT) (fun e => absurd (of_decide_eq_true e) h2) fun _ =>
    Exs.assign (Ev.callG (w_dim_of P h hd) (EvL.cons (Ev.name rfl) EvL.nil)) rfl <|
    Exs.ite (Ts.bop (TsAll.and_cons (Ts.cmp (Ev.name rfl) Ev.none Cmp.notNone) (c := false) (fun e => nomatch e))) (fun e => nomatch e) fun _ =>
    Exs.assign (d := .vec kn (.lst ns) an) (hn ▸ (Ev.callG (w_get_attr P h) (EvL.cons (Ev.name rfl) (EvL.cons (Ev.lit rfl) EvL.nil)))) rfl <| Exs.ite (Ts.cmp (Ev.name rfl) Ev.none Cmp.isNot) (fun e => nomatch e) fun _ => Exs.ret (Ev.callG (m := 0) ⟨_, P.list, (Cal.listL (by first | omega | decide | (simp; omega) | simp)).cal⟩ (EvL.cons (Ev.attr (Ev.name rfl) Att.items) EvL.nil))

/-! numbers -/
def pNW (n d : Int) : Int := if (decide (d < 2 * (n - n.fdiv d * d)) || (decide (2 * (n - n.fdiv d * d) = d) && decide ((n.fdiv d).fmod 2 = 1))) = true then n.fdiv d + 1 else n.fdiv d
theorem w_nearest_whole (P : Pg W) {n d : Int} (hd : d ≠ 0) (hd2 : d.natAbs < 1073741824) : CalG W 1 "nearest_whole" [.int n, .int d] (.int (pNW n d)) :=
  CalG.def 7 (P.fns 7 (by decide)) sc_7 ["n", "d"] (by intro pm c d vs h; obtain ⟨_, _, rfl⟩ := len2 h; rfl) fun L ad pm c d' =>
    Exs.assign (Ev.bin (Ev.name rfl) (Ev.name rfl) (Bin.divI (by first | rfl | decide | omega | (simp; omega) | simp) (by first | rfl | decide | omega | (simp; omega) | simp))) rfl <| Exs.assign (Ev.bin Ev.int (Ev.bin (Ev.name rfl) (Ev.bin (Ev.name rfl) (Ev.name rfl) (Bin.mulI (by right; omega))) Bin.subI) (Bin.mulI (by left; omega))) rfl <|
    Exs.ite (Ts.bop (TsAll.or_cons (Ts.cmp (Ev.name rfl) (Ev.name rfl) Cmp.gtI) fun _ => TsAll.or_cons (Ts.bop (TsAll.and_cons (Ts.cmp (Ev.name rfl) (Ev.name rfl) Cmp.eqI) fun _ => TsAll.and_cons (Ts.cmp (Ev.bin (Ev.name rfl) Ev.int (Bin.modI (by first | rfl | decide | omega | (simp; omega) | simp))) Ev.int Cmp.eqI) fun _ => TsAll.and_nil)) fun _ => TsAll.or_nil))
      (fun e => by
        have : pNW n d = n.fdiv d + 1 := by unfold pNW; rw [if_pos (by simpa using e)]
        rw [this]; exact Exs.ret (Ev.bin (Ev.name rfl) Ev.int Bin.addI))
      fun e => by
        have : pNW n d = n.fdiv d := by unfold pNW; rw [if_neg (by simpa using e)]
        rw [this]; exact Exs.ret (Ev.name rfl)
end
end Mine

/-! M19 -/
namespace Mine
section
variable {W : Wr} {n : Nat} {env : Env} {G : Ga}
theorem Inp.addI {a b : Int} : Inp W n .Add (.int a) (.int b) (.int (a + b)) := fun mu s v w wd r q A E R => by
  cases r; cases q; exact iadd_int (out_int _ _ _)
theorem Inp.subI {a b : Int} : Inp W n .Sub (.int a) (.int b) (.int (a - b)) := fun mu s v w wd r q A E R => by
  cases r; cases q; exact isub_int (out_int _ _ _)
theorem Bin.pow10 {k : Int} (h : 0 ≤ k ∧ k ≤ 1000) : Bin W n .Pow (.int 10) (.int k) (.int (10 ^ k.toNat)) := Bin.powI h.1 (by
  have : Builtin.Int.intBits 10 = 4 := by decide
  rw [this]; omega)
/-- fewer names -/
def Sub0 (Γ G : Ga) : Prop := ∀ x b, Γ.lookup x = some b → G.lookup x = some b
theorem Sub0.nil {G : Ga} : Sub0 [] G := fun _ _ e => by cases e
theorem Sub0.cons {Γ G : Ga} {k : PySem.Str} {b : B} (h : G.lookup k = some b) (t : Sub0 Γ G) : Sub0 ((k, b) :: Γ) G := fun x b' e => by
  rw [List.lookup_cons] at e
  cases hx : x == k with
  | true => rw [hx] at e; cases e; rw [beq_iff_eq.mp hx]; exact h
  | false => rw [hx] at e; exact t x b' e
theorem Sub0.to {Γ G G' : Ga} {ss : List Stmt} {R : Post} (h : Sub0 Γ G) (e : Exs W n env Γ ss R) : Exs W n env G ss R := Exs.weaken h e
theorem Exs.next {G G' : Ga} (h : Sub0 G' G) : Exs W n env G [] (Nx W env G') := Exs.nil fun fp av h' S => ⟨rfl, S.weaken h⟩

/-! exponent -/
theorem w_exponent (P : Pg W) {n d : Int} (k1 k2 : Nat) (h1 : ∀ i, i < k1 → 10 * (d * 10 ^ i) ≤ (if n < 0 then -n else n)) (h1' : ¬ 10 * (d * 10 ^ k1) ≤ (if n < 0 then -n else n))
    (h2 : ∀ i, i < k2 → (if n < 0 then -n else n) * 10 ^ i < d * 10 ^ k1) (h2' : ¬ (if n < 0 then -n else n) * 10 ^ k2 < d * 10 ^ k1) : CalG W 1 "exponent" [.tup [.int n, .int d]] (.int (k1 - k2)) :=
  CalG.def 8 (P.fns 8 (by decide)) sc_8 ["x"] (by intro pm c d vs h; obtain ⟨_, rfl⟩ := len1 h; rfl) fun L ad pm c d' =>
    Exs.assign (Ev.callG (m := 0) ⟨_, P.abs, Cal.absI⟩ (EvL.cons (Ev.sub (Ev.name rfl) Ev.int (Sub.tup (by first | rfl | decide | omega | (simp; omega) | simp) (by first | rfl | decide | omega | (simp; omega) | simp) rfl)) EvL.nil)) rfl <| Exs.assign (Ev.sub (Ev.name rfl) Ev.int (Sub.tup (by first | rfl | decide | omega | (simp; omega) | simp) (by first | rfl | decide | omega | (simp; omega) | simp) rfl)) rfl <| Exs.assign Ev.int rfl <|
    Exs.while_ (fun i => [("e", .fz (.int i)), ("d", .fz (.int (d * 10 ^ i))), ("n", .fz (.int (if n < 0 then -n else n)))]) k1
      (Sub0.cons rfl (.cons (by rw [Int.pow_zero, Int.mul_one]; rfl) (.cons rfl .nil)))
      (fun i hi => by have := h1 i hi; rw [← decide_eq_true this]; exact (Ts.cmp (Ev.name rfl) (Ev.bin Ev.int (Ev.name rfl) (Bin.mulI (by first | (left; omega) | (right; omega) | (left; decide) | (right; decide)))) Cmp.geI))
      (by rw [← decide_eq_false h1']; exact (Ts.cmp (Ev.name rfl) (Ev.bin Ev.int (Ev.name rfl) (Bin.mulI (by first | (left; omega) | (right; omega) | (left; decide) | (right; decide)))) Cmp.geI))
      (fun i hi => Exs.assign (Ev.bin (Ev.name rfl) Ev.int (Bin.mulI (by first | (left; omega) | (right; omega) | (left; decide) | (right; decide)))) rfl <| Exs.aug rfl Ev.int Inp.addI rfl <| Exs.next (.cons rfl (.cons (by rw [Int.pow_succ, ← Int.mul_assoc]; rfl) (.cons rfl .nil)))) <|
    Exs.while_ (fun i => [("e", .fz (.int ((k1 : Int) - i))), ("n", .fz (.int ((if n < 0 then -n else n) * 10 ^ i))), ("d", .fz (.int (d * 10 ^ k1)))]) k2
      (Sub0.cons (by rw [show (k1 : Int) - ((0 : Nat) : Int) = k1 from Int.sub_zero _]; rfl) (.cons (by rw [Int.pow_zero, Int.mul_one]; rfl) (.cons rfl .nil)))
      (fun i hi => by have := h2 i hi; rw [← decide_eq_true this]; exact (Ts.cmp (Ev.name rfl) (Ev.name rfl) Cmp.ltI))
      (by rw [← decide_eq_false h2']; exact (Ts.cmp (Ev.name rfl) (Ev.name rfl) Cmp.ltI))
      (fun i hi => Exs.assign (Ev.bin (Ev.name rfl) Ev.int (Bin.mulI (by first | (left; omega) | (right; omega) | (left; decide) | (right; decide)))) rfl <| Exs.aug rfl Ev.int Inp.subI rfl <| Exs.next (.cons (by rw [show (k1 : Int) - ((i + 1 : Nat) : Int) = (k1 : Int) - i - 1 by omega]; rfl) (.cons (by rw [Int.pow_succ, ← Int.mul_assoc]; rfl) (.cons rfl .nil)))) <|
    Exs.ret (Ev.name rfl)

theorem itoa_len {a : Int} (h : -1000000000000000000000000000000 < a ∧ a < 1000000000000000000000000000000) : (itoa a).length ≤ 31 := by
  have e := int_text_length_le10 (a := a) (k := 30) (by decide) (by omega)
  have e2 : (itoa a).length = (PySem.Str.ofString (toString a)).length := by unfold itoa; simp [PySem.Str.length]
  rw [e2, PySem.ofString_length]; exact e
/-! whole numbers -/
def pWhole (n : Int) : Tx := if n < 0 then S "-" ++ itoa (if n < 0 then -n else n) else itoa (if n < 0 then -n else n)
set_option maxHeartbeats 2000000 in
theorem w_whole_text (P : Pg W) {n : Int} (h : -1000000000000000000 < n ∧ n < 1000000000000000000) : CalG W 1 "whole_text" [.int n] (T (pWhole n)) :=
  CalG.def 10 (P.fns 10 (by decide)) sc_10 ["n"] (by intro pm c d vs h; obtain ⟨_, rfl⟩ := len1 h; rfl) fun L ad pm c d' =>
    Exs.assign (Ev.callG (m := 0) ⟨_, P.abs, Cal.absI⟩ (EvL.cons (Ev.name rfl) EvL.nil)) rfl <| Exs.assignO (EvO.display EvL.nil (by decide)) rfl <|
    Exs.while_ (fun _ => [("row", .own []), ("rest", .fz (.int (if n < 0 then -n else n))), ("n", .fz (.int n))]) 0
      (Sub0.cons rfl (.cons rfl (.cons rfl .nil))) (fun i hi => absurd hi (Nat.not_lt_zero _))
      (by
        have : ¬ (10 : Int) ^ (18 : Int).toNat ≤ (if n < 0 then -n else n) := by
          have e : (10 : Int) ^ (18 : Int).toNat = 1000000000000000000 := by decide
          rw [e]; split <;> omega
        rw [← decide_eq_false this]; exact (Ts.cmp (Ev.name rfl) (Ev.bin Ev.int Ev.int (Bin.pow10 (by first | rfl | decide | omega | (simp; omega) | simp))) Cmp.geI)) (fun i hi => absurd hi (Nat.not_lt_zero _)) <|
    Exs.appendOwn rfl rfl (Ev.callG (m := 0) ⟨_, P.str, Cal.strI (by split <;> omega)⟩ (EvL.cons (Ev.name rfl) EvL.nil)) (by decide) <|
    Exs.ite (Ts.cmp (Ev.name rfl) Ev.int Cmp.ltI)
      (fun e => by
        have e' : n < 0 := of_decide_eq_true e
        have r : pWhole n = joinT (S "") [S "-", itoa (if n < 0 then -n else n)] := by
          have e3 : S "" = [] := by decide +kernel
          unfold pWhole; rw [if_pos e', e3]; simp [joinT]
        rw [r]
        exact Exs.appendOwn rfl rfl (Ev.lit rfl) (by simp) <| Exs.reverseOwn rfl (by simp) <| Exs.freeze (x := "row") rfl <| Exs.ret (Ev.meth (Ev.lit rfl) Mth.join (EvL.cons (Ev.name rfl) EvL.nil) .builtin (Cal.joinT (l := [S "-", itoa (if n < 0 then -n else n)]) (by have := itoa_len (a := if n < 0 then -n else n) (by split <;> omega); simp only [List.map_cons, List.map_nil, List.sum_cons, List.sum_nil, List.length_cons, List.length_nil]; have e2 : (S "-").length = 1 := (by decide +kernel); have e3 : (PySem.Str.ofString "").cps.toList.length = 0 := (by decide +kernel); omega))))
      fun e => by
        have e' : ¬ n < 0 := of_decide_eq_false e
        have r : pWhole n = joinT (S "") [itoa (if n < 0 then -n else n)] := by unfold pWhole; rw [if_neg e']; rfl
        rw [r]
        exact Exs.reverseOwn rfl (by simp) <| Exs.freeze (x := "row") rfl <| Exs.ret (Ev.meth (Ev.lit rfl) Mth.join (EvL.cons (Ev.name rfl) EvL.nil) .builtin (Cal.joinT (l := [itoa (if n < 0 then -n else n)]) (by have := itoa_len (a := if n < 0 then -n else n) (by split <;> omega); simp only [List.map_cons, List.map_nil, List.sum_cons, List.sum_nil, List.length_cons, List.length_nil]; have e3 : (PySem.Str.ofString "").cps.toList.length = 0 := (by decide +kernel); omega)))
end
end Mine

/-! M20 -/
namespace Mine
section
variable {W : Wr} {n : Nat} {env : Env} {G : Ga}
theorem sc_12 : Sc (recAt 12) := ⟨rfl, rfl, rfl, by decide +kernel⟩
theorem sc_13 : Sc (recAt 13) := ⟨rfl, rfl, rfl, by decide +kernel⟩
theorem sc_14 : Sc (recAt 14) := ⟨rfl, rfl, rfl, by decide +kernel⟩
theorem sc_16 : Sc (recAt 16) := ⟨rfl, rfl, rfl, by decide +kernel⟩
theorem sc_17 : Sc (recAt 17) := ⟨rfl, rfl, rfl, by decide +kernel⟩
theorem sc_18 : Sc (recAt 18) := ⟨rfl, rfl, rfl, by decide +kernel⟩
theorem sc_19 : Sc (recAt 19) := ⟨rfl, rfl, rfl, by decide +kernel⟩
theorem sc_20 : Sc (recAt 20) := ⟨rfl, rfl, rfl, by decide +kernel⟩

abbrev aI (n : Int) : Int := if n < 0 then -n else n

theorem w_special_none (P : Pg W) : CalG W 1 "special_text" [.none] (T (S "NA")) :=
  CalG.def 11 (P.fns 11 (by decide)) sc_11 ["x"] (by intro pm c d vs h; obtain ⟨_, rfl⟩ := len1 h; rfl) fun L ad pm c d =>
    Exs.ite (Ts.cmp (Ev.name rfl) Ev.none Cmp.isNone) (fun _ => Exs.ret (Ev.lit rfl)) fun e => nomatch e
theorem w_special_tup (P : Pg W) {n d : Int} (hd : 0 < d) : CalG W 1 "special_text" [.tup [.int n, .int d]] .none :=
  CalG.def 11 (P.fns 11 (by decide)) sc_11 ["x"] (by intro pm c d vs h; obtain ⟨_, rfl⟩ := len1 h; rfl) fun L ad pm c d' =>
    Exs.ite (Ts.cmp (Ev.name rfl) Ev.none Cmp.isNot) (fun e => nomatch e) fun _ => Exs.ite (Ts.cmp (Ev.sub (Ev.name rfl) Ev.int (Sub.tup (by first | rfl | decide | omega | (simp; omega) | simp) (by first | rfl | decide | omega | (simp; omega) | simp) rfl)) Ev.int Cmp.gtI) (fun _ => Exs.ret Ev.none) fun e => absurd hd (of_decide_eq_false e)

def pScaled (n d e : Int) : Int := pNW (aI n * 10 ^ (7 - 1 - e).toNat) d
theorem w_scaled (P : Pg W) {n d e : Int} (hd : d ≠ 0) (hd2 : d.natAbs < 1073741824) (hb : -9223372036854775808 < aI n ∧ aI n < 9223372036854775808) (he : -100 ≤ e ∧ e ≤ 6) : CalG W 2 "scaled" [.tup [.int n, .int d], .int e, .int 7] (.int (pScaled n d e)) :=
  CalG.def 12 (P.fns 12 (by decide)) sc_12 ["x", "e", "digits"] (by intro pm c d vs h; obtain ⟨_, _, _, rfl⟩ := len3 h; rfl) fun L ad pm c d' =>
    Exs.assign (Ev.bin (Ev.bin (Ev.name rfl) Ev.int Bin.subI) (Ev.name rfl) Bin.subI) rfl <| Exs.ite (Ts.cmp (Ev.name rfl) Ev.int Cmp.geI) (fun _ => Exs.ret (Ev.callG (w_nearest_whole P hd hd2) (EvL.cons (Ev.bin (Ev.callG (m := 0) ⟨_, P.abs, Cal.absI⟩ (EvL.cons (Ev.sub (Ev.name rfl) Ev.int (Sub.tup (by decide) (by decide) rfl)) EvL.nil)) (Ev.bin Ev.int (Ev.name rfl) (Bin.pow10 (by omega))) (Bin.mulI (.inl hb))) (EvL.cons (Ev.sub (Ev.name rfl) Ev.int (Sub.tup (by first | rfl | decide | omega | (simp; omega) | simp) (by first | rfl | decide | omega | (simp; omega) | simp) rfl)) EvL.nil)))) fun h => absurd (of_decide_eq_false h) (by omega)

theorem w_significant (P : Pg W) {n d : Int} (k1 k2 : Nat) (h1 : ∀ i, i < k1 → 10 * (d * 10 ^ i) ≤ aI n) (h1' : ¬ 10 * (d * 10 ^ k1) ≤ aI n) (h2 : ∀ i, i < k2 → aI n * 10 ^ i < d * 10 ^ k1) (h2' : ¬ aI n * 10 ^ k2 < d * 10 ^ k1)
    (hd : d ≠ 0) (hd2 : d.natAbs < 1073741824) (hb : -9223372036854775808 < aI n ∧ aI n < 9223372036854775808) (he : -100 ≤ (k1 : Int) - k2 ∧ (k1 : Int) - k2 ≤ 6) (hn : n ≠ 0) (hs : 0 ≤ pScaled n d (k1 - k2) ∧ pScaled n d (k1 - k2) < 10000000) :
    CalG W 3 "significant" [.tup [.int n, .int d], .int 7] (.tup [.int (if 0 < n then 1 else -1), T (itoa (pScaled n d (k1 - k2))), .int (k1 - k2)]) :=
  CalG.def 13 (P.fns 13 (by decide)) sc_13 ["x", "digits"] (by intro pm c d vs h; obtain ⟨_, _, rfl⟩ := len2 h; rfl) fun L ad pm c d' =>
    Exs.ite (Ts.cmp (Ev.sub (Ev.name rfl) Ev.int (Sub.tup (by first | rfl | decide | omega | (simp; omega) | simp) (by first | rfl | decide | omega | (simp; omega) | simp) rfl)) Ev.int Cmp.eqI) (fun e => absurd (of_decide_eq_true e) hn) fun _ =>
    Exs.assign (Ev.callG (w_exponent P k1 k2 h1 h1' h2 h2') (EvL.cons (Ev.name rfl) EvL.nil)) rfl <| Exs.assign (Ev.callG (w_scaled P hd hd2 hb he) (EvL.cons (Ev.name rfl) (EvL.cons (Ev.name rfl) (EvL.cons (Ev.name rfl) EvL.nil)))) rfl <|
    Exs.ite (Ts.cmp (Ev.name rfl) (Ev.bin Ev.int (Ev.name rfl) (Bin.pow10 (by first | rfl | decide | omega | (simp; omega) | simp))) Cmp.geI) (fun e => absurd (of_decide_eq_true e) (by have : (10 : Int) ^ (7 : Int).toNat = 10000000 := (by decide); rw [this]; omega)) fun _ =>
    Exs.ret (Ev.tuple (EvL.cons (Ev.ite (Ts.cmp (Ev.sub (Ev.name rfl) Ev.int (Sub.tup (by first | rfl | decide | omega | (simp; omega) | simp) (by first | rfl | decide | omega | (simp; omega) | simp) rfl)) Ev.int Cmp.gtI) (fun hb => by rw [if_pos (of_decide_eq_true hb)]; exact Ev.int) (fun hb => by rw [if_neg (of_decide_eq_false hb)]; exact (Ev.una Ev.int Una.negI))) (EvL.cons (Ev.callG (m := 0) ⟨_, P.str, Cal.strI (by omega)⟩ (EvL.cons (Ev.name rfl) EvL.nil)) (EvL.cons (Ev.name rfl) EvL.nil))) (by simp))
theorem w_significant0 (P : Pg W) {d : Int} : CalG W 3 "significant" [.tup [.int 0, .int d], .int 7] (.tup [.int 0, T (List.replicate 7 48), .int 0]) :=
  CalG.def 13 (P.fns 13 (by decide)) sc_13 ["x", "digits"] (by intro pm c d vs h; obtain ⟨_, _, rfl⟩ := len2 h; rfl) fun L ad pm c d' =>
    Exs.ite (Ts.cmp (Ev.sub (Ev.name rfl) Ev.int (Sub.tup (by first | rfl | decide | omega | (simp; omega) | simp) (by first | rfl | decide | omega | (simp; omega) | simp) rfl)) Ev.int Cmp.eqI) (fun _ => Exs.ret (Ev.tuple (EvL.cons Ev.int (EvL.cons (Ev.bin (Ev.lit (l := [48])) (Ev.name rfl) (Bin.mulT (c := 48) (i := 7) (by decide))) (EvL.cons Ev.int EvL.nil))) (by decide))) fun e => nomatch e

theorem w_without_tail (P : Pg W) {t : Tx} (k : Nat) (hz : t.length ≤ 100) (hk : k ≤ t.length) (h1 : ∀ i, i < k → 1 < t.length - i ∧ t[t.length - i - 1]? = some 48) (h2 : t.length - k ≤ 1 ∨ ∃ c, t[t.length - k - 1]? = some c ∧ c ≠ 48) : CalG W 1 "without_tail" [T t] (T (t.take (t.length - k))) :=
  CalG.def 14 (P.fns 14 (by decide)) sc_14 ["text"] (by intro pm c d vs h; obtain ⟨_, rfl⟩ := len1 h; rfl) fun L ad pm c d =>
    Exs.assign (Ev.callG (m := 0) ⟨_, P.len, Cal.lenT (by first | omega | (simp only [List.length_append, List.length_cons, List.length_nil]; omega) | (simp; omega) | simp)⟩ (EvL.cons (Ev.name rfl) EvL.nil)) rfl <|
    Exs.while_ (fun i => [("end", .fz (.int ((t.length : Int) - i))), ("text", .fz (T t))]) k (Sub0.cons (by rw [show (t.length : Int) - ((0 : Nat) : Int) = t.length from Int.sub_zero _]; rfl) (.cons rfl .nil))
      (fun i hi => by
        obtain ⟨a, b⟩ := h1 i hi
        have e1 : ((t.length : Int) - i - 1).toNat = t.length - i - 1 := by omega
        have e : (decide ((1 : Int) < (t.length : Int) - i) && (decide ([48] = [48]) && true)) = true := by simp; omega
        rw [← e]
        exact Ts.bop (TsAll.and_cons (Ts.cmp (Ev.name rfl) Ev.int Cmp.gtI) fun _ => TsAll.and_cons (Ts.cmp (Ev.sub (Ev.name rfl) (Ev.bin (Ev.name rfl) Ev.int Bin.subI) (Sub.chr (c := 48) (by omega) (by omega) (by rw [e1]; exact b))) (Ev.lit (l := [48])) Cmp.eqT) fun _ => TsAll.and_nil))
      (by
        have go : ∃ b1 : Bool, (decide ((1 : Int) < (t.length : Int) - k) && b1) = false ∧ (decide ((1 : Int) < (t.length : Int) - k) = true → ∃ c, t[t.length - k - 1]? = some c ∧ b1 = (decide ([c] = [48]) && true)) := by
          rcases h2 with h | ⟨c, hc, ne⟩
          · refine ⟨false, by simp, fun e => ?_⟩
            have := of_decide_eq_true e; omega
          · exact ⟨decide ([c] = [48]) && true, by simp [ne], fun _ => ⟨c, hc, rfl⟩⟩
        obtain ⟨b1, e, hb⟩ := go
        rw [← e]
        have e1 : ((t.length : Int) - k - 1).toNat = t.length - k - 1 := by omega
        refine Ts.bop (TsAll.and_cons (Ts.cmp (Ev.name rfl) Ev.int Cmp.gtI) fun q => ?_)
        obtain ⟨c, hc, rfl⟩ := hb q
        have q' := of_decide_eq_true q
        exact TsAll.and_cons (Ts.cmp (Ev.sub (Ev.name rfl) (Ev.bin (Ev.name rfl) Ev.int Bin.subI) (Sub.chr (c := c) (by omega) (by omega) (by rw [e1]; exact hc))) (Ev.lit (l := [48])) Cmp.eqT) fun _ => TsAll.and_nil)
      (fun i hi => Exs.aug rfl Ev.int Inp.subI rfl <| Exs.next (.cons (by rw [show (t.length : Int) - ((i + 1 : Nat) : Int) = (t.length : Int) - i - 1 by omega]; rfl) (.cons rfl .nil))) <| by
    have e : pyS Option.none (some ((t.length : Int) - k)) t = t.take (t.length - k) := by
      unfold pyS
      have : clipAt t.length ((t.length : Int) - k) = t.length - k := by
        have := clipAt_cast t.length ((t.length : Int) - k)
        omega
      simp [this]
    rw [← e]
    exact Exs.ret (Ev.sub (Ev.name rfl) (Ev.slice (lo := none) (hi := (some _)) trivial (Ev.name rfl)) (Sub.slcT (by first | omega | (simp only [List.length_append, List.length_cons, List.length_nil]; omega) | (simp; omega) | simp)))
end
end Mine

/-! M21 -/
namespace Mine
section
variable {W : Wr} {n : Nat} {env : Env} {G : Ga}

/-! the text with so many places -/
def padZ (k : Int) (a : Tx) : Tx := List.replicate (k.toNat - a.length) 48 ++ a
def pFix (n d p : Int) : Tx :=
  let t := padZ (p + 1) (pWhole (pNW (aI n * 10 ^ p.toNat) d))
  let t := if 0 < p then pyS none (some (t.length - p)) t ++ S "." ++ pyS (some (t.length - p)) none t else t
  if n < 0 then S "-" ++ t else t
theorem pyS_len {α : Type} (lo hi : Option Int) (l : List α) : (pyS lo hi l).length ≤ l.length := by unfold pyS; rw [List.length_take, List.length_drop]; omega
theorem w_fixed_text (P : Pg W) {n d p : Int} (hd : d ≠ 0) (hd2 : d.natAbs < 1073741824) (hb : -9223372036854775808 < aI n ∧ aI n < 9223372036854775808) (hp : 0 ≤ p ∧ p ≤ 100)
    (hw : -1000000000000000000 < pNW (aI n * 10 ^ p.toNat) d ∧ pNW (aI n * 10 ^ p.toNat) d < 1000000000000000000) (hz : (padZ (p + 1) (pWhole (pNW (aI n * 10 ^ p.toNat) d))).length ≤ 1000) :
    CalG W 2 "fixed_text" [.tup [.int n, .int d], .int p] (T (pFix n d p)) :=
  CalG.def 16 (P.fns 16 (by decide)) sc_16 ["x", "places"] (by intro pm c d vs h; obtain ⟨_, _, rfl⟩ := len2 h; rfl) fun L ad pm c d' =>
    Exs.assign (Ev.callG (w_nearest_whole P hd hd2) (EvL.cons (Ev.bin (Ev.callG (m := 0) ⟨_, P.abs, Cal.absI⟩ (EvL.cons (Ev.sub (Ev.name rfl) Ev.int (Sub.tup (by decide) (by decide) rfl)) EvL.nil)) (Ev.bin Ev.int (Ev.name rfl) (Bin.pow10 (by omega))) (Bin.mulI (.inl hb))) (EvL.cons (Ev.sub (Ev.name rfl) Ev.int (Sub.tup (by first | rfl | decide | omega | (simp; omega) | simp) (by first | rfl | decide | omega | (simp; omega) | simp) rfl)) EvL.nil))) rfl <|
    Exs.assign (d := T (padZ (p + 1) (pWhole (pNW (aI n * 10 ^ p.toNat) d)))) (Ev.meth (Ev.callG (w_whole_text P hw) (EvL.cons (Ev.name rfl) EvL.nil)) Mth.rjust (EvL.cons (Ev.bin (Ev.name rfl) Ev.int Bin.addI) (EvL.cons (Ev.lit (l := [48])) EvL.nil)) .builtin (Cal.rjustF (by omega))) rfl <| by
    generalize ht : padZ (p + 1) (pWhole (pNW (aI n * 10 ^ p.toNat) d)) = t at hz
    have hdot : (S ".").length = 1 := by decide +kernel
    have hmin : (S "-").length = 1 := by decide +kernel
    have hdot' : (PySem.Str.ofString ".").cps.toList.length = 1 := hdot
    have hmin' : (PySem.Str.ofString "-").cps.toList.length = 1 := hmin
    have l1 := pyS_len none (some ((t.length : Int) - p)) t
    have l2 := pyS_len (some ((t.length : Int) - p)) none t
    have e : pFix n d p = if n < 0 then S "-" ++ (if 0 < p then pyS none (some (t.length - p)) t ++ S "." ++ pyS (some (t.length - p)) none t else t) else (if 0 < p then pyS none (some (t.length - p)) t ++ S "." ++ pyS (some (t.length - p)) none t else t) := by
      unfold pFix; rw [ht]
    rw [e]
    refine Exs.ite (G₁ := _) (Ts.cmp (Ev.name rfl) Ev.int Cmp.gtI) (fun h => ?_) fun h => ?_
    · simp only [if_pos (of_decide_eq_true h)]
      refine Exs.assign (d := T (pyS none (some (t.length - p)) t ++ S "." ++ pyS (some (t.length - p)) none t)) (Ev.bin (Ev.bin (Ev.sub (Ev.name rfl) (Ev.slice (lo := none) (hi := some _) trivial (Ev.bin (Ev.callG (m := 0) ⟨_, P.len, Cal.lenT (by omega)⟩ (EvL.cons (Ev.name rfl) EvL.nil)) (Ev.name rfl) Bin.subI)) (Sub.slcT (by omega))) (Ev.lit rfl) (Bin.addT (by omega)))
        (Ev.sub (Ev.name rfl) (Ev.slice (lo := some _) (hi := none) (Ev.bin (Ev.callG (m := 0) ⟨_, P.len, Cal.lenT (by omega)⟩ (EvL.cons (Ev.name rfl) EvL.nil)) (Ev.name rfl) Bin.subI) trivial) (Sub.slcT (by omega))) (Bin.addT (by rw [List.length_append]; omega))) rfl ?_
      refine Exs.ite (Ts.cmp (Ev.sub (Ev.name rfl) Ev.int (Sub.tup (by first | rfl | decide | omega | (simp; omega) | simp) (by first | rfl | decide | omega | (simp; omega) | simp) rfl)) Ev.int Cmp.ltI) (fun h => ?_) fun h => ?_
      · simp only [if_pos (of_decide_eq_true h)]
        exact Exs.ret (Ev.bin (Ev.lit rfl) (Ev.name rfl) (Bin.addT (by rw [List.length_append, List.length_append]; omega)))
      · simp only [if_neg (of_decide_eq_false h)]
        exact Exs.ret (Ev.name rfl)
    · simp only [if_neg (of_decide_eq_false h)]
      refine Exs.ite (Ts.cmp (Ev.sub (Ev.name rfl) Ev.int (Sub.tup (by first | rfl | decide | omega | (simp; omega) | simp) (by first | rfl | decide | omega | (simp; omega) | simp) rfl)) Ev.int Cmp.ltI) (fun h => ?_) fun h => ?_
      · simp only [if_pos (of_decide_eq_true h)]
        exact Exs.ret (Ev.bin (Ev.lit rfl) (Ev.name rfl) (Bin.addT (by omega)))
      · simp only [if_neg (of_decide_eq_false h)]
        exact Exs.ret (Ev.name rfl)

/-! what a double shows -/
abbrev mE (e : Int) : Int := max e 0
theorem w_measures_gen (P : Pg W) {n d sg e : Int} {t t' : Tx} (hs : CalG W 3 "significant" [.tup [.int n, .int d], .int 7] (.tup [.int sg, T t, .int e])) (ht : CalG W 1 "without_tail" [T t] (T t')) (hz : t'.length ≤ 100) {l : Int} (hl : l = if n < 0 then max e 0 + 1 + 1 else max e 0 + 1) :
    CalG W 4 "measures" [.tup [.int n, .int d], .int 7] (.tup [.int t'.length, .int l, .int (max ((t'.length : Int) - 1 - e) 0), .int e]) :=
  CalG.def 17 (P.fns 17 (by decide)) sc_17 ["x", "digits"] (by intro pm c d vs h; obtain ⟨_, _, rfl⟩ := len2 h; rfl) fun L ad pm c d' =>
    Exs.assignTup (Ev.callG hs (EvL.cons (Ev.name rfl) (EvL.cons (Ev.name rfl) EvL.nil))) ⟨rfl, rfl, rfl, trivial⟩ rfl <|
    Exs.assign (Ev.callG (m := 0) ⟨_, P.len, Cal.lenT (by first | omega | (simp only [List.length_append, List.length_cons, List.length_nil]; omega) | (simp; omega) | simp)⟩ (EvL.cons (Ev.callG ht (EvL.cons (Ev.name rfl) EvL.nil)) EvL.nil)) rfl <| Exs.assign (Ev.bin (Ev.callG (m := 0) ⟨_, P.max, Cal.maxI⟩ (EvL.cons (Ev.name rfl) (EvL.cons Ev.int EvL.nil))) Ev.int Bin.addI) rfl <| by
    rw [hl]
    refine Exs.ite (Ts.cmp (Ev.sub (Ev.name rfl) Ev.int (Sub.tup (by first | rfl | decide | omega | (simp; omega) | simp) (by first | rfl | decide | omega | (simp; omega) | simp) rfl)) Ev.int Cmp.ltI) (fun h => ?_) fun h => ?_
    · rw [if_pos (of_decide_eq_true h)]
      exact Exs.aug rfl Ev.int Inp.addI rfl <| Exs.ret (Ev.tuple (EvL.cons (Ev.name rfl) (EvL.cons (Ev.name rfl) (EvL.cons (Ev.callG (m := 0) ⟨_, P.max, Cal.maxI⟩ (EvL.cons (Ev.bin (Ev.bin (Ev.name rfl) Ev.int Bin.subI) (Ev.name rfl) Bin.subI) (EvL.cons Ev.int EvL.nil))) (EvL.cons (Ev.name rfl) EvL.nil)))) (by first | rfl | decide | omega | (simp; omega) | simp))
    · rw [if_neg (of_decide_eq_false h)]
      exact Exs.ret (Ev.tuple (EvL.cons (Ev.name rfl) (EvL.cons (Ev.name rfl) (EvL.cons (Ev.callG (m := 0) ⟨_, P.max, Cal.maxI⟩ (EvL.cons (Ev.bin (Ev.bin (Ev.name rfl) Ev.int Bin.subI) (Ev.name rfl) Bin.subI) (EvL.cons Ev.int EvL.nil))) (EvL.cons (Ev.name rfl) EvL.nil)))) (by first | rfl | decide | omega | (simp; omega) | simp))

def dblN : List Int := [0, 1, -3, 12, 1, -7, 5, 101, 250, -99, 3]
def dblD : List Int := [1, 2, 4, 1, 4, 1, 2, 1, 1, 2, 4]
def dblC : List Int := [1, 1, 2, 2, 2, 1, 2, 3, 2, 3, 2]
def dblL : List Int := [1, 1, 2, 2, 1, 2, 1, 3, 3, 3, 1]
def dblP : List Int := [0, 1, 2, 0, 2, 0, 1, 0, 0, 1, 2]
def dblE : List Int := [0, -1, -1, 1, -1, 0, 0, 2, 2, 1, -1]
def dT (k : Nat) : D := .tup [.int (dblN.getD k 0), .int (dblD.getD k 1)]

theorem w_ms (P : Pg W) {n d : Int} (k1 k2 k3 : Nat) (t : Tx) (c l p e : Int) (h1 : ∀ i, i < k1 → 10 * (d * 10 ^ i) ≤ aI n) (h1' : ¬ 10 * (d * 10 ^ k1) ≤ aI n) (h2 : ∀ i, i < k2 → aI n * 10 ^ i < d * 10 ^ k1) (h2' : ¬ aI n * 10 ^ k2 < d * 10 ^ k1)
    (hd : d ≠ 0) (hd2 : d.natAbs < 1073741824) (hb : -9223372036854775808 < aI n ∧ aI n < 9223372036854775808) (he : -100 ≤ (k1 : Int) - k2 ∧ (k1 : Int) - k2 ≤ 6) (hn : n ≠ 0) (hs : 0 ≤ pScaled n d (k1 - k2) ∧ pScaled n d (k1 - k2) < 10000000) (ht : itoa (pScaled n d (k1 - k2)) = t)
    (hz : t.length ≤ 100) (hk : k3 ≤ t.length) (h3 : ∀ i, i < k3 → 1 < t.length - i ∧ t[t.length - i - 1]? = some 48) (h3' : t.length - k3 ≤ 1 ∨ ∃ c, t[t.length - k3 - 1]? = some c ∧ c ≠ 48)
    (ee : e = (k1 : Int) - k2) (ec : c = ((t.take (t.length - k3)).length : Int)) (el : l = if n < 0 then max e 0 + 1 + 1 else max e 0 + 1) (ep : p = max (c - 1 - e) 0) : CalG W 4 "measures" [.tup [.int n, .int d], .int 7] (.tup [.int c, .int l, .int p, .int e]) := by
  subst ee ec ep ht
  exact w_measures_gen P (w_significant P k1 k2 h1 h1' h2 h2' hd hd2 hb he hn hs) (w_without_tail P k3 hz hk h3 h3') (by rw [List.length_take]; omega) el

theorem w_measures (P : Pg W) {k : Nat} (hk : k < 11) : CalG W 4 "measures" [dT k, .int 7] (.tup [.int (dblC.getD k 0), .int (dblL.getD k 0), .int (dblP.getD k 0), .int (dblE.getD k 0)]) := by
  match k, hk with
  | 0, _ => exact w_measures_gen P (w_significant0 P) (w_without_tail P (t := List.replicate 7 48) 6 (by decide) (by decide) (by decide) (.inl (by decide))) (by decide) (by decide)
  | 1, _ => exact w_ms P (n := 1) (d := 2) 0 1 6 [53,48,48,48,48,48,48] 1 1 1 (-1) (by decide) (by decide) (by decide) (by decide) (by decide) (by decide) (by decide) (by decide) (by decide) (by decide) (by decide +kernel) (by decide) (by decide) (by decide) (.inl (by decide)) (by decide) (by decide) (by decide) (by decide)
  | 2, _ => exact w_ms P (n := -3) (d := 4) 0 1 5 [55,53,48,48,48,48,48] 2 2 2 (-1) (by decide) (by decide) (by decide) (by decide) (by decide) (by decide) (by decide) (by decide) (by decide) (by decide) (by decide +kernel) (by decide) (by decide) (by decide) (.inr ⟨53, rfl, by decide⟩) (by decide) (by decide) (by decide) (by decide)
  | 3, _ => exact w_ms P (n := 12) (d := 1) 1 0 5 [49,50,48,48,48,48,48] 2 2 0 1 (by decide) (by decide) (by decide) (by decide) (by decide) (by decide) (by decide) (by decide) (by decide) (by decide) (by decide +kernel) (by decide) (by decide) (by decide) (.inr ⟨50, rfl, by decide⟩) (by decide) (by decide) (by decide) (by decide)
  | 4, _ => exact w_ms P (n := 1) (d := 4) 0 1 5 [50,53,48,48,48,48,48] 2 1 2 (-1) (by decide) (by decide) (by decide) (by decide) (by decide) (by decide) (by decide) (by decide) (by decide) (by decide) (by decide +kernel) (by decide) (by decide) (by decide) (.inr ⟨53, rfl, by decide⟩) (by decide) (by decide) (by decide) (by decide)
  | 5, _ => exact w_ms P (n := -7) (d := 1) 0 0 6 [55,48,48,48,48,48,48] 1 2 0 0 (by decide) (by decide) (by decide) (by decide) (by decide) (by decide) (by decide) (by decide) (by decide) (by decide) (by decide +kernel) (by decide) (by decide) (by decide) (.inl (by decide)) (by decide) (by decide) (by decide) (by decide)
  | 6, _ => exact w_ms P (n := 5) (d := 2) 0 0 5 [50,53,48,48,48,48,48] 2 1 1 0 (by decide) (by decide) (by decide) (by decide) (by decide) (by decide) (by decide) (by decide) (by decide) (by decide) (by decide +kernel) (by decide) (by decide) (by decide) (.inr ⟨53, rfl, by decide⟩) (by decide) (by decide) (by decide) (by decide)
  | 7, _ => exact w_ms P (n := 101) (d := 1) 2 0 4 [49,48,49,48,48,48,48] 3 3 0 2 (by decide) (by decide) (by decide) (by decide) (by decide) (by decide) (by decide) (by decide) (by decide) (by decide) (by decide +kernel) (by decide) (by decide) (by decide) (.inr ⟨49, rfl, by decide⟩) (by decide) (by decide) (by decide) (by decide)
  | 8, _ => exact w_ms P (n := 250) (d := 1) 2 0 5 [50,53,48,48,48,48,48] 2 3 0 2 (by decide) (by decide) (by decide) (by decide) (by decide) (by decide) (by decide) (by decide) (by decide) (by decide) (by decide +kernel) (by decide) (by decide) (by decide) (.inr ⟨53, rfl, by decide⟩) (by decide) (by decide) (by decide) (by decide)
  | 9, _ => exact w_ms P (n := -99) (d := 2) 1 0 4 [52,57,53,48,48,48,48] 3 3 1 1 (by decide) (by decide) (by decide) (by decide) (by decide) (by decide) (by decide) (by decide) (by decide) (by decide) (by decide +kernel) (by decide) (by decide) (by decide) (.inr ⟨53, rfl, by decide⟩) (by decide) (by decide) (by decide) (by decide)
  | 10, _ => exact w_ms P (n := 3) (d := 4) 0 1 5 [55,53,48,48,48,48,48] 2 1 2 (-1) (by decide) (by decide) (by decide) (by decide) (by decide) (by decide) (by decide) (by decide) (by decide) (by decide) (by decide +kernel) (by decide) (by decide) (by decide) (.inr ⟨53, rfl, by decide⟩) (by decide) (by decide) (by decide) (by decide)
end
end Mine

/-! M22 -/
namespace Mine
section
variable {W : Wr} {n : Nat} {env : Env} {G : Ga}

/-! folds over the doubles' indices -/
def fC (ks : List Nat) : Int := ks.foldl (fun a k => max a (dblC.getD k 0)) 1
def fL (ks : List Nat) : Int := ks.foldl (fun a k => max a (dblL.getD k 0)) 1
def fP (ks : List Nat) : Int := ks.foldl (fun a k => max a (dblP.getD k 0)) 0
def fM (ks : List Nat) : Int := ks.foldl (fun a k => if dblN.getD k 0 < 0 then 1 else a) 0
theorem small11 (Q : Nat → Prop) (h : ∀ k ∈ List.range 11, Q k) {k : Nat} (hk : k < 11) : Q k := h k (List.mem_range.mpr hk)
theorem k11 {k : Nat} (hk : k < 11) : k = 0 ∨ k = 1 ∨ k = 2 ∨ k = 3 ∨ k = 4 ∨ k = 5 ∨ k = 6 ∨ k = 7 ∨ k = 8 ∨ k = 9 ∨ k = 10 := small11 (fun k => k = 0 ∨ k = 1 ∨ k = 2 ∨ k = 3 ∨ k = 4 ∨ k = 5 ∨ k = 6 ∨ k = 7 ∨ k = 8 ∨ k = 9 ∨ k = 10) (by decide) hk
theorem f_bounds (ks : List Nat) (h : ∀ k ∈ ks, k < 11) : 1 ≤ fC ks ∧ 1 ≤ fL ks ∧ fL ks ≤ 3 ∧ 0 ≤ fP ks ∧ fP ks ≤ 2 ∧ (fP ks = 2 → 2 ≤ fC ks) ∧ 0 ≤ fM ks := by
  have gen : ∀ (ks : List Nat), (∀ k ∈ ks, k < 11) → ∀ c l p m : Int, 1 ≤ c → 1 ≤ l → l ≤ 3 → 0 ≤ p → p ≤ 2 → (p = 2 → 2 ≤ c) → 0 ≤ m →
      1 ≤ ks.foldl (fun a k => max a (dblC.getD k 0)) c ∧ 1 ≤ ks.foldl (fun a k => max a (dblL.getD k 0)) l ∧ ks.foldl (fun a k => max a (dblL.getD k 0)) l ≤ 3 ∧ 0 ≤ ks.foldl (fun a k => max a (dblP.getD k 0)) p ∧ ks.foldl (fun a k => max a (dblP.getD k 0)) p ≤ 2 ∧
      (ks.foldl (fun a k => max a (dblP.getD k 0)) p = 2 → 2 ≤ ks.foldl (fun a k => max a (dblC.getD k 0)) c) ∧ 0 ≤ ks.foldl (fun a k => if dblN.getD k 0 < 0 then 1 else a) m := by
    intro ks
    induction ks with
    | nil => intro _ c l p m h1 h2 h3 h4 h5 h6 h7; exact ⟨h1, h2, h3, h4, h5, h6, h7⟩
    | cons k ks ih =>
      intro hk c l p m h1 h2 h3 h4 h5 h6 h7
      have hb := small11 (fun k => (1 ≤ dblC.getD k 0 ∧ 1 ≤ dblL.getD k 0 ∧ dblL.getD k 0 ≤ 3 ∧ 0 ≤ dblP.getD k 0 ∧ dblP.getD k 0 ≤ 2 ∧ (dblP.getD k 0 = 2 → 2 ≤ dblC.getD k 0))) (by decide) (hk k (.head _))
      simp only [List.foldl_cons]
      refine ih (fun j m => hk j (.tail _ m)) _ _ _ _ ?_ ?_ ?_ ?_ ?_ ?_ ?_
      · omega
      · omega
      · omega
      · omega
      · omega
      · intro e; have := hb.2.2.2.2.2; omega
      · split <;> omega
  exact gen ks h 1 1 0 0 (by omega) (by omega) (by omega) (by omega) (by omega) (by omega) (by omega)
theorem take_fold {β : Type} (f : β → Nat → β) (b : β) (ks : List Nat) (i k : Nat) (h : ks[i]? = some k) : (ks.take (i + 1)).foldl f b = f ((ks.take i).foldl f b) k := by
  rw [List.take_add_one, h, Option.toList_some, List.foldl_append]; rfl

theorem w_chosen_form (P : Pg W) {ks : List Nat} (hk : ∀ k ∈ ks, k < 11) (hz : ks.length ≤ 10000) : CalG W 5 "chosen_form" [.lst (ks.map dT), .int 7] (.tup [T (S "fixed"), .int (fP ks)]) :=
  CalG.def 18 (P.fns 18 (by decide)) sc_18 ["xs", "digits"] (by intro pm c d vs h; obtain ⟨_, _, rfl⟩ := len2 h; rfl) fun L ad pm c d' =>
    Exs.assign Ev.int rfl <| Exs.assign Ev.int rfl <| Exs.assign Ev.int rfl <| Exs.assign Ev.int rfl <| Exs.assign Ev.int rfl <|
    Exs.for_ (fun i => [("count", .fz (.int (fC (ks.take i)))), ("left", .fz (.int (fL (ks.take i)))), ("places", .fz (.int (fP (ks.take i)))), ("wide", .fz (.int 0)), ("minus", .fz (.int (fM (ks.take i)))), ("digits", .fz (.int 7))])
      (Ev.name rfl) Itr.lst rfl (Sub0.cons rfl (.cons rfl (.cons rfl (.cons rfl (.cons rfl (.cons rfl .nil))))))
      (fun i d' hd => by
        rw [List.getElem?_map] at hd
        obtain ⟨k, hk', rfl⟩ := Option.map_eq_some_iff.mp hd
        have hlt := hk k (List.mem_of_getElem? hk')
        have e := small11 (fun k => aI (dblE.getD k 0) < 100) (by decide) hlt
        have c1 : fC (ks.take (i + 1)) = max (fC (ks.take i)) (dblC.getD k 0) := take_fold _ _ _ _ _ hk'
        have c2 : fL (ks.take (i + 1)) = max (fL (ks.take i)) (dblL.getD k 0) := take_fold _ _ _ _ _ hk'
        have c3 : fP (ks.take (i + 1)) = max (fP (ks.take i)) (dblP.getD k 0) := take_fold _ _ _ _ _ hk'
        have c4 : fM (ks.take (i + 1)) = if dblN.getD k 0 < 0 then 1 else fM (ks.take i) := take_fold _ _ _ _ _ hk'
        refine Exs.assign (Ev.callG (w_measures P hlt) (EvL.cons (Ev.name rfl) (EvL.cons (Ev.name rfl) EvL.nil))) rfl ?_
        refine Exs.assign (Ev.callG (m := 0) ⟨_, P.max, Cal.maxI⟩ (EvL.cons (Ev.name rfl) (EvL.cons (Ev.sub (Ev.name rfl) Ev.int (Sub.tup (by first | rfl | decide | omega | (simp; omega) | simp) (by first | rfl | decide | omega | (simp; omega) | simp) rfl)) EvL.nil))) rfl ?_
        refine Exs.assign (Ev.callG (m := 0) ⟨_, P.max, Cal.maxI⟩ (EvL.cons (Ev.name rfl) (EvL.cons (Ev.sub (Ev.name rfl) Ev.int (Sub.tup (by first | rfl | decide | omega | (simp; omega) | simp) (by first | rfl | decide | omega | (simp; omega) | simp) rfl)) EvL.nil))) rfl ?_
        refine Exs.assign (Ev.callG (m := 0) ⟨_, P.max, Cal.maxI⟩ (EvL.cons (Ev.name rfl) (EvL.cons (Ev.sub (Ev.name rfl) Ev.int (Sub.tup (by first | rfl | decide | omega | (simp; omega) | simp) (by first | rfl | decide | omega | (simp; omega) | simp) rfl)) EvL.nil))) rfl ?_
        refine Exs.ite (Ts.cmp (Ev.callG (m := 0) ⟨_, P.abs, Cal.absI⟩ (EvL.cons (Ev.sub (Ev.name rfl) Ev.int (Sub.tup (by first | rfl | decide | omega | (simp; omega) | simp) (by first | rfl | decide | omega | (simp; omega) | simp) rfl)) EvL.nil)) Ev.int Cmp.geI) (fun h => absurd (of_decide_eq_true h) (Int.not_le.mpr e)) fun _ => ?_
        rw [c1, c2, c3, c4]
        refine Exs.ite (Ts.cmp (Ev.sub (Ev.name (d := .tup [.int (dblN.getD k 0), .int (dblD.getD k 1)]) rfl) Ev.int (Sub.tup (by decide) (by decide) rfl)) Ev.int Cmp.ltI) (fun h => ?_) fun h => ?_
        · rw [if_pos (of_decide_eq_true h)]
          refine Exs.assign Ev.int rfl ?_
          exact Exs.nil fun fp av h' S => ⟨.inl rfl, S.weaken (Sub0.cons rfl (.cons rfl (.cons rfl (.cons rfl (.cons rfl (.cons rfl .nil))))))⟩
        · rw [if_neg (of_decide_eq_false h)]
          exact Exs.nil fun fp av h' S => ⟨.inl rfl, S.weaken (Sub0.cons rfl (.cons rfl (.cons rfl (.cons rfl (.cons rfl (.cons rfl .nil))))))⟩) <| by
    rw [show ks.take (ks.map dT).length = ks by rw [List.length_map, List.take_length]]
    obtain ⟨b1, b2, b3, b4, b5, b6, b7⟩ := f_bounds ks hk
    generalize fC ks = C at *
    generalize fL ks = L' at *
    generalize fP ks = p at *
    generalize fM ks = M at *
    refine Exs.assign (d := .int (L' + (if 0 < p then p + 1 else 0))) (Ev.bin (Ev.name rfl) (Ev.ite (d := .int (if 0 < p then p + 1 else 0)) (Ts.cmp (Ev.name rfl) Ev.int Cmp.gtI) (fun h => by rw [if_pos (of_decide_eq_true h)]; exact (Ev.bin (Ev.name rfl) Ev.int Bin.addI)) fun h => by rw [if_neg (of_decide_eq_false h)]; exact Ev.int) Bin.addI) rfl ?_
    refine Exs.assign (d := .int (M + (if 1 < C then C + 1 else 1) + 4 + 0)) (Ev.bin (Ev.bin (Ev.bin (Ev.name rfl) (Ev.ite (d := .int (if 1 < C then C + 1 else 1)) (Ts.cmp (Ev.name rfl) Ev.int Cmp.gtI) (fun h => by rw [if_pos (of_decide_eq_true h)]; exact (Ev.bin (Ev.name rfl) Ev.int Bin.addI)) fun h => by rw [if_neg (of_decide_eq_false h)]; exact Ev.int) Bin.addI) Ev.int Bin.addI) (Ev.name rfl) Bin.addI) rfl ?_
    refine Exs.ite (Ts.cmp (Ev.name rfl) (Ev.name rfl) Cmp.leI) (fun _ => Exs.ret (Ev.tuple (EvL.cons (Ev.lit rfl) (EvL.cons (Ev.name rfl) EvL.nil)) (by first | rfl | decide | omega | (simp; omega) | simp))) fun h => ?_
    have := of_decide_eq_false h
    exfalso
    apply this
    split <;> split <;> omega

/-! formed -/
def oD : Option Nat → D
  | none => .none
  | some k => dT k
theorem w_formed_none (P : Pg W) {p : Int} : CalG W 3 "formed" [.none, .tup [T (S "fixed"), .int p]] (T (S "NA")) :=
  CalG.def 19 (P.fns 19 (by decide)) sc_19 ["x", "form"] (by intro pm c d vs h; obtain ⟨_, _, rfl⟩ := len2 h; rfl) fun L ad pm c d' =>
    Exs.assign (Ev.callG (w_special_none P) (EvL.cons (Ev.name rfl) EvL.nil)) rfl <| Exs.ite (Ts.cmp (Ev.name rfl) Ev.none Cmp.notNot) (fun _ => Exs.ret (Ev.name rfl)) fun e => nomatch e
theorem fix_ok {k : Nat} (hk : k < 11) {p : Nat} (hp : p < 3) : (dblD.getD k 1 ≠ 0 ∧ (dblD.getD k 1).natAbs < 1073741824 ∧ (-9223372036854775808 < aI (dblN.getD k 0) ∧ aI (dblN.getD k 0) < 9223372036854775808) ∧ 0 < dblD.getD k 1) ∧
    (-1000000000000000000 < pNW (aI (dblN.getD k 0) * 10 ^ (p : Int).toNat) (dblD.getD k 1) ∧ pNW (aI (dblN.getD k 0) * 10 ^ (p : Int).toNat) (dblD.getD k 1) < 1000000000000000000) ∧
    (padZ ((p : Int) + 1) (pWhole (pNW (aI (dblN.getD k 0) * 10 ^ (p : Int).toNat) (dblD.getD k 1)))).length ≤ 1000 := by
  have := small11 (fun k => ∀ p ∈ List.range 3, (dblD.getD k 1 ≠ 0 ∧ (dblD.getD k 1).natAbs < 1073741824 ∧ (-9223372036854775808 < aI (dblN.getD k 0) ∧ aI (dblN.getD k 0) < 9223372036854775808) ∧ 0 < dblD.getD k 1) ∧
    (-1000000000000000000 < pNW (aI (dblN.getD k 0) * 10 ^ (p : Int).toNat) (dblD.getD k 1) ∧ pNW (aI (dblN.getD k 0) * 10 ^ (p : Int).toNat) (dblD.getD k 1) < 1000000000000000000) ∧
    (padZ ((p : Int) + 1) (pWhole (pNW (aI (dblN.getD k 0) * 10 ^ (p : Int).toNat) (dblD.getD k 1)))).length ≤ 1000) (by decide +kernel) hk
  exact this p (List.mem_range.mpr hp)
theorem w_formed_some (P : Pg W) {k : Nat} (hk : k < 11) {p : Nat} (hp : p < 3) : CalG W 3 "formed" [dT k, .tup [T (S "fixed"), .int p]] (T (pFix (dblN.getD k 0) (dblD.getD k 1) p)) := by
  obtain ⟨⟨h1, h2, h3, h4⟩, h5, h6⟩ := fix_ok hk hp
  unfold dT
  exact CalG.def 19 (P.fns 19 (by decide)) sc_19 ["x", "form"] (by intro pm c d vs h; obtain ⟨_, _, rfl⟩ := len2 h; rfl) fun L ad pm c d' =>
    Exs.assign (Ev.callG (w_special_tup P h4) (EvL.cons (Ev.name rfl) EvL.nil)) rfl <| Exs.ite (Ts.cmp (Ev.name rfl) Ev.none Cmp.notNone) (fun e => nomatch e) fun _ => Exs.ite (Ts.cmp (Ev.sub (Ev.name rfl) Ev.int (Sub.tup (by first | rfl | decide | omega | (simp; omega) | simp) (by first | rfl | decide | omega | (simp; omega) | simp) rfl)) (Ev.lit rfl) Cmp.eqT) (fun _ => Exs.ret (Ev.callG (w_fixed_text P h1 h2 h3 (by omega) h5 h6) (EvL.cons (Ev.name rfl) (EvL.cons (Ev.sub (Ev.name rfl) Ev.int (Sub.tup (by first | rfl | decide | omega | (simp; omega) | simp) (by first | rfl | decide | omega | (simp; omega) | simp) rfl)) EvL.nil)))) fun e => absurd rfl (of_decide_eq_false e)
def pForm (p : Int) : Option Nat → Tx
  | none => S "NA"
  | some k => pFix (dblN.getD k 0) (dblD.getD k 1) p
theorem w_formed (P : Pg W) {o : Option Nat} (ho : ∀ k, o = some k → k < 11) {p : Nat} (hp : p < 3) : CalG W 3 "formed" [oD o, .tup [T (S "fixed"), .int p]] (T (pForm p o)) := by
  cases o with
  | none => exact w_formed_none P
  | some k => exact w_formed_some P (ho k rfl) hp

/-! captured names -/
def GcOk (env : Env) (G : Ga) (scope : Scope) (cl : List (PySem.Str × Addr)) (x : PySem.Str) (Gc : Ga) : Prop := ∀ y b, Gc.lookup y = some b → y ≠ x ∧ (∃ d, b = .fz d) ∧ G.lookup y = some b ∧ env.kindOf y = some .cell ∧ (relabel scope env).names.lookup y = some .cell ∧ ∃ c, cl.lookup y = some c
theorem GcOk.nil {scope : Scope} {cl : List (PySem.Str × Addr)} {x : PySem.Str} : GcOk env G scope cl x [] := fun _ _ e => by cases e
theorem GcOk.cons {scope : Scope} {cl : List (PySem.Str × Addr)} {x k : PySem.Str} {d : D} {Gc : Ga} {c : Addr} (h1 : (k == x) = false) (h2 : G.lookup k = some (.fz d)) (h3 : env.kindOf k = some .cell) (h4 : (relabel scope env).names.lookup k = some .cell) (h5 : cl.lookup k = some c) (t : GcOk env G scope cl x Gc) : GcOk env G scope cl x ((k, .fz d) :: Gc) := fun y b e => by
  rw [List.lookup_cons] at e
  cases hy : y == k with
  | true =>
    rw [hy] at e; cases e
    have hyk : y = k := beq_iff_eq.mp hy
    subst hyk
    exact ⟨fun q => by rw [q] at h1; simp at h1, ⟨d, rfl⟩, h2, h3, h4, c, h5⟩
  | false => rw [hy] at e; exact t y b e

theorem filter_all {α : Type} (as : List α) : as.filter (fun _ => true) = as := List.filter_eq_self.mpr fun _ _ => rfl
theorem EvO.compAll {α : Type} {x : PySem.Str} {np cpos : Pos} {elt iter : Expr} {scope : Scope} {cl : List (PySem.Str × Addr)} {d : D} {G₁ : Ga} (as : List α) (mk : α → D) (eq : α → D) (Gc : Ga) (v : Ev W n env G iter G₁ d) (it : Itr W n d (as.map mk)) (hz : as.length ≤ 10000) (ok : CompOk env G₁ scope cl x iter Gc)
    (turn : ∀ a ∈ as, ∀ C, Ev W n (compEnvC scope cl C env) ((x, .fz (mk a)) :: Gc) elt ((x, .fz (mk a)) :: Gc) (eq a)) : EvO W n env G (eval (.ListComp elt [⟨.Name x np, iter, [], 0⟩] scope cpos) env) G₁ (as.map eq) := by
  have := EvO.comp (np := np) (cpos := cpos) (elt := elt) (ifs := []) as mk (fun _ => true) eq Gc v it hz ok fun a m C => ⟨rfl, fun _ => turn a m C⟩
  rwa [filter_all] at this
theorem Exs.assignCompAll {α : Type} {x y : PySem.Str} {np cpos py spos : Pos} {elt iter : Expr} {scope : Scope} {cl : List (PySem.Str × Addr)} {d : D} {G₁ : Ga} {rest : List Stmt} {R : Post} (as : List α) (mk : α → D) (eq : α → D) (Gc : Ga) (v : Ev W n env G iter G₁ d) (it : Itr W n d (as.map mk)) (hz : as.length ≤ 10000) (ok : CompOk env G₁ scope cl x iter Gc)
    (turn : ∀ a ∈ as, ∀ C, Ev W n (compEnvC scope cl C env) ((x, .fz (mk a)) :: Gc) elt ((x, .fz (mk a)) :: Gc) (eq a)) (hy : env.kindOf y = some .local) (z : Exs W n env ((y, .own (as.map eq)) :: G₁) rest R)
    (hsw : swapsWith (.ListComp elt [⟨.Name x np, iter, [], 0⟩] scope cpos) (some (.Name y py)) spos.line env = pure true := by rfl) :
    Exs W n env G (.Assign [.Name y py] (.ListComp elt [⟨.Name x np, iter, [], 0⟩] scope cpos) spos :: rest) R := by
  rw [← filter_all as] at z
  exact Exs.assignComp (ifs := []) as mk (fun _ => true) eq Gc v it hz ok (fun a m C => ⟨rfl, fun _ => turn a m C⟩) hy z hsw

theorem filt_eq (os : List (Option Nat)) : (os.filter (·.isSome)).map oD = (os.filterMap id).map dT := by
  induction os with
  | nil => rfl
  | cons o os ih => cases o with
    | none => simpa using ih
    | some k => simp only [List.filter_cons, Option.isSome_some, if_true, List.map_cons, List.filterMap_cons, id, ih, oD]
theorem dT_pos {k : Nat} (hk : k < 11) : 0 < dblD.getD k 1 := small11 (fun k => 0 < dblD.getD k 1) (by decide) hk
theorem w_common (P : Pg W) {os : List (Option Nat)} (ho : ∀ k, some k ∈ os → k < 11) (hz : os.length ≤ 10000) : CalOG W 6 "common_texts" [.lst (os.map oD), .int 7] (os.map fun o => T (pForm (fP (os.filterMap id)) o)) :=
  CalOG.def 20 (P.fns 20 (by decide)) sc_20 ["xs", "digits"] (by intro pm c d vs h; obtain ⟨_, _, rfl⟩ := len2 h; rfl) fun L ad pm c d' =>
    Exs.assignComp os oD (·.isSome) oD [] (Ev.name rfl) Itr.lst hz ⟨(by intro _; rfl), rfl, (fun y c e => by cases e), rfl, rfl, rfl, rfl, GcOk.nil⟩
      (fun o m C => by
        cases o with
        | none => exact ⟨Ts.bop (TsAll.and_cons (Ts.cmp (Ev.name (d := .none) rfl) Ev.none Cmp.notNone) (c := false) fun e => nomatch e), fun e => nomatch e⟩
        | some k =>
          have hp := dT_pos (ho k m)
          refine ⟨?_, fun _ => Ev.name rfl⟩
          have e : (true && (decide (0 < dblD.getD k 1) && true)) = (some k).isSome := by rw [decide_eq_true hp]; rfl
          rw [← e]
          exact Ts.bop (TsAll.and_cons (Ts.cmp (Ev.name (d := dT k) rfl) Ev.none (Cmp.notNot rfl)) fun _ => TsAll.and_cons (Ts.cmp (Ev.sub (Ev.name (d := .tup [.int (dblN.getD k 0), .int (dblD.getD k 1)]) rfl) Ev.int (Sub.tup (by decide) (by decide) rfl)) Ev.int Cmp.gtI) fun _ => TsAll.and_nil))
      rfl <| by
    rw [filt_eq]
    have hks : ∀ k ∈ os.filterMap id, k < 11 := fun k m => by
      obtain ⟨o, ho', e⟩ := List.mem_filterMap.mp m
      exact ho k (by rw [← show o = some k from e]; exact ho')
    have hl : (os.filterMap id).length ≤ 10000 := Nat.le_trans (List.length_filterMap_le _ _) hz
    obtain ⟨b1, b2, b3, b4, b5, b6, b7⟩ := f_bounds _ hks
    obtain ⟨p, hp⟩ := Int.eq_ofNat_of_zero_le b4
    have hp3 : p < 3 := by omega
    refine Exs.freeze (x := "fractions") rfl ?_
    refine Exs.assignC (Ev.callG (w_chosen_form P hks hl) (EvL.cons (Ev.name rfl) (EvL.cons (Ev.name rfl) EvL.nil))) rfl rfl ?_
    rw [hp]
    refine Exs.retO (EvO.compAll os oD (fun o => T (pForm p o)) [("form", .fz (.tup [T (S "fixed"), .int p]))] (Ev.name rfl) Itr.lst hz ⟨(by intro _; rfl), rfl, (fun y c e => e), rfl, rfl, rfl, rfl, GcOk.cons rfl rfl rfl rfl rfl GcOk.nil⟩
      fun o m C => ?_)
    exact (Ev.callG (w_formed P (fun k e => ho k (e ▸ m)) hp3) (EvL.cons (Ev.name rfl) (EvL.cons (Ev.name rfl) EvL.nil)))
end
end Mine

/-! M23 -/
namespace Mine
section
variable {W : Wr} {n : Nat} {env : Env} {G : Ga}
theorem sc_23 : Sc (recAt 23) := ⟨rfl, rfl, rfl, by decide +kernel⟩
theorem sc_24 : Sc (recAt 24) := ⟨rfl, rfl, rfl, by decide +kernel⟩
theorem sc_25 : Sc (recAt 25) := ⟨rfl, rfl, rfl, by decide +kernel⟩
theorem sc_26 : Sc (recAt 26) := ⟨rfl, rfl, rfl, by decide +kernel⟩
theorem sc_27 : Sc (recAt 27) := ⟨rfl, rfl, rfl, by decide +kernel⟩
theorem sc_28 : Sc (recAt 28) := ⟨rfl, rfl, rfl, by decide +kernel⟩
theorem sc_29 : Sc (recAt 29) := ⟨rfl, rfl, rfl, by decide +kernel⟩
theorem sc_30 : Sc (recAt 30) := ⟨rfl, rfl, rfl, by decide +kernel⟩
theorem sc_31 : Sc (recAt 31) := ⟨rfl, rfl, rfl, by decide +kernel⟩
theorem sc_32 : Sc (recAt 32) := ⟨rfl, rfl, rfl, by decide +kernel⟩
theorem sc_33 : Sc (recAt 33) := ⟨rfl, rfl, rfl, by decide +kernel⟩
theorem sc_35 : Sc (recAt 35) := ⟨rfl, rfl, rfl, by decide +kernel⟩
theorem sc_38 : Sc (recAt 38) := ⟨rfl, rfl, rfl, by decide +kernel⟩
theorem sc_39 : Sc (recAt 39) := ⟨rfl, rfl, rfl, by decide +kernel⟩
theorem sc_40 : Sc (recAt 40) := ⟨rfl, rfl, rfl, by decide +kernel⟩
theorem sc_48 : Sc (recAt 48) := ⟨rfl, rfl, rfl, by decide +kernel⟩

def SubC (cl cells : List (PySem.Str × Addr)) : Prop := ∀ y c, cl.lookup y = some c → cells.lookup y = some c
theorem SubC.nil {cells : List (PySem.Str × Addr)} : SubC [] cells := fun _ _ e => by cases e
theorem SubC.cons {cl cells : List (PySem.Str × Addr)} {k : PySem.Str} {c : Addr} (h : cells.lookup k = some c) (t : SubC cl cells) : SubC ((k, c) :: cl) cells := fun y c' e => by
  rw [List.lookup_cons] at e
  cases hx : y == k with
  | true => rw [hx] at e; cases e; rw [beq_iff_eq.mp hx]; exact h
  | false => rw [hx] at e; exact t y c' e

/-! escapes -/
def okC (c : Nat) : Prop := c = 10 ∨ (32 ≤ c ∧ c ≠ 127)
def esc (q : Bool) (c : Nat) : Tx := if c = 92 then [92, 92] else if c = 34 ∧ q = true then [92, 34] else if c = 10 then [92, 110] else [c]
theorem w_escaped (P : Pg W) {c : Nat} {q : Bool} (hc : okC c) : CalG W 1 "escaped_char" [T [c], .bool q] (T (esc q c)) :=
  CalG.def 23 (P.fns 23 (by decide)) sc_23 ["char", "quote"] (by intro pm c d vs h; obtain ⟨_, _, rfl⟩ := len2 h; rfl) fun L ad pm cd d' =>
    Exs.assign (Ev.callG (m := 0) ⟨_, P.ord, Cal.ordT⟩ (EvL.cons (Ev.name rfl) EvL.nil)) rfl <|
    Exs.ite (Ts.cmp (Ev.name rfl) (Ev.lit (l := [92])) Cmp.eqT) (fun e => by
      have e' : c = 92 := by simpa using of_decide_eq_true e
      have : esc q c = [92, 92] := by unfold esc; rw [if_pos e']
      rw [this]; exact Exs.ret (Ev.lit (l := [92, 92]))) fun e1 =>
    Exs.ite (Ts.bop (TsAll.and_cons (Ts.cmp (Ev.name rfl) (Ev.lit (l := [34])) Cmp.eqT) fun _ => TsAll.and_cons (Ts.val (Ev.name rfl) Tru.bool) fun _ => TsAll.and_nil)) (fun e => by
      have e0 : c ≠ 92 := by simpa using of_decide_eq_false e1
      have e' : c = 34 ∧ q = true := by simpa using e
      have : esc q c = [92, 34] := by unfold esc; rw [if_neg e0, if_pos e']
      rw [this]; exact Exs.ret (Ev.lit (l := [92, 34]))) fun e2 => by
      have e0 : c ≠ 92 := by simpa using of_decide_eq_false e1
      have e3 : ¬ (c = 34 ∧ q = true) := by simpa using e2
      rcases hc with hc | hc
      · subst hc
        have : esc q 10 = [92] ++ [110] := by unfold esc; rw [if_neg e0, if_neg e3, if_pos rfl]; rfl
        rw [this]
        exact Exs.ite (Ts.bop (TsAll.and_cons (Ts.cmp Ev.int (Ev.name rfl) Cmp.leI) fun _ => TsAll.and_cons (Ts.cmp (Ev.name rfl) Ev.int Cmp.leI) fun _ => TsAll.and_nil)) (fun _ => Exs.ret (Ev.bin (Ev.lit (l := [92])) (Ev.sub (Ev.lit (l := [97, 98, 116, 110, 118, 102, 114])) (Ev.bin (Ev.name rfl) Ev.int Bin.subI) (Sub.chr (c := 110) (by decide) (by decide) rfl)) (Bin.addT (by decide)))) fun e => absurd e (by decide)
      · have h10 : c ≠ 10 := by omega
        have : esc q c = [c] := by unfold esc; rw [if_neg e0, if_neg e3, if_neg h10]
        rw [this]
        exact Exs.ite (Ts.bop (TsAll.and_cons (Ts.cmp Ev.int (Ev.name rfl) Cmp.leI) fun _ => TsAll.and_cons (Ts.cmp (Ev.name rfl) Ev.int Cmp.leI) fun _ => TsAll.and_nil)) (fun e => by
          simp only [Bool.and_eq_true, decide_eq_true_eq] at e; omega) fun _ =>
          Exs.ite (Ts.bop (TsAll.or_cons (Ts.cmp (Ev.name rfl) Ev.int Cmp.ltI) fun _ => TsAll.or_cons (Ts.cmp (Ev.name rfl) Ev.int Cmp.eqI) fun _ => TsAll.or_nil)) (fun e => by
            simp only [Bool.or_eq_true, Bool.or_false, decide_eq_true_eq] at e; omega) fun _ => Exs.ret (Ev.name rfl)

theorem Itr.T {t : Tx} : Itr W n (T t) (t.map fun c => Mine.T [c]) := by
  have := Itr.str (W := W) (n := n) (x := ⟨t.toArray⟩)
  have e : signs ⟨t.toArray⟩ = t.map fun c => Mine.T [c] := by unfold signs Mine.T; simp
  rw [e] at this
  exact this
theorem joinT_nil : ∀ l : List Tx, joinT (S "") l = l.flatten
  | [] => rfl
  | [x] => by simp [joinT]
  | x :: y :: l => by
    have h : S "" = [] := by decide +kernel
    have ih := joinT_nil (y :: l)
    rw [h] at ih ⊢
    simp only [joinT, ih, List.append_nil, List.flatten_cons]
theorem esc_len (q : Bool) (c : Nat) : (esc q c).length ≤ 2 := by unfold esc; (repeat' split) <;> simp
theorem sum_le (f : Nat → Tx) (b : Nat) (h : ∀ c, (f c).length ≤ b) : ∀ t : List Nat, ((t.map f).map (·.length)).sum ≤ b * t.length
  | [] => by simp
  | c :: t => by
    have := sum_le f b h t
    have := h c
    simp only [List.map_cons, List.sum_cons, List.length_cons, Nat.mul_succ] at *
    omega
def body (q : Bool) (t : Tx) : Tx := (t.map (esc q)).flatten
/-- how a text, or its lack, is shown -/
def shown (q : Bool) : Option Tx → Tx
  | none => if q then S "NA" else S "<NA>"
  | some t => if q then [34] ++ body q t ++ [34] else body q t
def oT : Option Tx → D
  | none => .none
  | some t => T t
theorem body_len (q : Bool) (t : Tx) : (body q t).length ≤ 2 * t.length := by
  unfold body; rw [List.length_flatten]; exact sum_le (esc q) 2 (esc_len q) t
theorem w_encode (P : Pg W) {o : Option Tx} {q : Bool} (ho : ∀ t, o = some t → t.length ≤ 100 ∧ ∀ c ∈ t, okC c) : CalG W 2 "encode_text" [oT o, .bool q] (T (shown q o)) := by
  cases o with
  | none =>
    exact CalG.def 24 (P.fns 24 (by decide)) sc_24 ["s", "quote"] (by intro pm c d vs h; obtain ⟨_, _, rfl⟩ := len2 h; rfl) fun L ad pm cd d' =>
      Exs.ite (Ts.cmp (Ev.name (d := .none) rfl) Ev.none Cmp.isNone) (fun _ => Exs.ret (Ev.ite (Ts.val (Ev.name rfl) Tru.bool) (fun e => by rw [show shown q none = S "NA" by unfold shown; rw [e]; rfl]; exact Ev.lit rfl) (fun e => by rw [show shown q none = S "<NA>" by unfold shown; rw [e]; rfl]; exact Ev.lit rfl))) fun e => nomatch e
  | some t =>
    obtain ⟨hz, hc⟩ := ho t rfl
    have hb := body_len q t
    have hs := sum_le (esc q) 2 (esc_len q) t
    exact CalG.def 24 (P.fns 24 (by decide)) sc_24 ["s", "quote"] (by intro pm c d vs h; obtain ⟨_, _, rfl⟩ := len2 h; rfl) fun L ad pm cd d' =>
      Exs.ite (Ts.cmp (Ev.name (d := T t) rfl) Ev.none (Cmp.isNot rfl)) (fun e => nomatch e) fun _ => by
      refine Exs.assign (G₁ := [("s", .fz (T t)), ("quote", .fz (.bool q))]) (d := T (body q t)) ?_ rfl ?_
      · have e : body q t = joinT (S "") (t.map (esc q)) := by rw [joinT_nil]; rfl
        rw [e]
        refine Ev.meth (Ev.lit rfl) Mth.join (EvL.cons (d := .lst ((t.map (esc q)).map T)) ?_ EvL.nil) .builtin (Cal.joinT (l := t.map (esc q)) (by
          have e3 : (PySem.Str.ofString "").cps.toList.length = 0 := (by decide +kernel)
          rw [e3]; omega))
        rw [List.map_map]
        exact EvO.ev (EvO.compAll t (fun c => T [c]) (fun c => T (esc q c)) [("quote", .fz (.bool q))] (Ev.name (d := T t) rfl) Itr.T (by omega) ⟨(by intro _; rfl), rfl, (fun y c e => e), rfl, rfl, rfl, rfl, GcOk.cons rfl rfl rfl rfl rfl GcOk.nil⟩
          fun c m C => Ev.callG (w_escaped P (hc c m)) (EvL.cons (Ev.name rfl) (EvL.cons (Ev.name rfl) EvL.nil)))
      · refine Exs.ite (Ts.val (Ev.name rfl) Tru.bool) (fun e => ?_) fun e => ?_
        · have es : shown q (some t) = [34] ++ body q t ++ [34] := by unfold shown; rw [e]; rfl
          rw [es]
          exact Exs.ret (Ev.bin (Ev.bin (Ev.lit (l := [34])) (Ev.name rfl) (Bin.addT (by simp; omega))) (Ev.lit (l := [34])) (Bin.addT (by simp; omega)))
        · have es : shown q (some t) = body q t := by unfold shown; rw [e]; rfl
          rw [es]
          exact Exs.ret (Ev.name rfl)

/-! the other kinds -/
def oI : Option Int → D
  | none => .none
  | some i => .int i
def logT : Option Int → Tx
  | none => S "NA"
  | some i => if i = 1 then S "TRUE" else S "FALSE"
def intT : Option Int → Tx
  | none => S "NA"
  | some i => pWhole i
theorem w_logical (P : Pg W) {o : Option Int} : CalG W 1 "logical_text" [oI o] (T (logT o)) := by
  cases o with
  | none =>
    exact CalG.def 25 (P.fns 25 (by decide)) sc_25 ["item"] (by intro pm c d vs h; obtain ⟨_, rfl⟩ := len1 h; rfl) fun L ad pm cd d' =>
      Exs.ite (Ts.cmp (Ev.name (d := .none) rfl) Ev.none Cmp.isNone) (fun _ => Exs.ret (Ev.lit rfl)) fun e => nomatch e
  | some i =>
    exact CalG.def 25 (P.fns 25 (by decide)) sc_25 ["item"] (by intro pm c d vs h; obtain ⟨_, rfl⟩ := len1 h; rfl) fun L ad pm cd d' =>
      Exs.ite (Ts.cmp (Ev.name (d := .int i) rfl) Ev.none (Cmp.isNot rfl)) (fun e => nomatch e) fun _ => Exs.ret (Ev.ite (Ts.cmp (Ev.name (d := .int i) rfl) Ev.int Cmp.eqI) (fun e => by rw [show logT (some i) = S "TRUE" from if_pos (of_decide_eq_true e)]; exact Ev.lit rfl) (fun e => by rw [show logT (some i) = S "FALSE" from if_neg (of_decide_eq_false e)]; exact Ev.lit rfl))
theorem w_integer (P : Pg W) {o : Option Int} (h : ∀ i, o = some i → -1000000000000000000 < i ∧ i < 1000000000000000000) : CalG W 2 "integer_text" [oI o] (T (intT o)) := by
  cases o with
  | none =>
    exact CalG.def 26 (P.fns 26 (by decide)) sc_26 ["item"] (by intro pm c d vs h; obtain ⟨_, rfl⟩ := len1 h; rfl) fun L ad pm cd d' =>
      Exs.ite (Ts.cmp (Ev.name (d := .none) rfl) Ev.none Cmp.isNone) (fun _ => Exs.ret (Ev.lit rfl)) fun e => nomatch e
  | some i =>
    exact CalG.def 26 (P.fns 26 (by decide)) sc_26 ["item"] (by intro pm c d vs h; obtain ⟨_, rfl⟩ := len1 h; rfl) fun L ad pm cd d' =>
      Exs.ite (Ts.cmp (Ev.name (d := .int i) rfl) Ev.none (Cmp.isNot rfl)) (fun e => nomatch e) fun _ => Exs.ret (Ev.callG (w_whole_text P (h i rfl)) (EvL.cons (Ev.name rfl) EvL.nil))
theorem bind4 : ∀ (t : Tok) T pm code doc (vs : List Value), vs.length = 4 → ∃ kk : Option (Array Value) → Sem (List (PySem.Str × Value)), bindArgs (fdR (recAt 27) (recAt 27).name (.ref T) pm code doc) ⟨vs, []⟩ = seqItems? (.ref T) >>= kk ∧ kk (some [Value.int 7 t, .bool false].toArray) = pure ((["kind", "item", "digits", "quote"] : List PySem.Str).zip (vs ++ [])) := by
  intro t T pm code doc vs h
  obtain ⟨a, b, c, d, rfl⟩ := len4 h
  exact ⟨_, rfl, rfl⟩
theorem w_format_log (P : Pg W) {o : Option Int} {q : Bool} : CalG W 3 "format_item" [T (S "logical"), oI o, .int 7, .bool q] (T (logT o)) := by
  obtain ⟨t, hs⟩ := P.d27
  exact CalG.defD 27 hs sc_27 4 ["kind", "item", "digits", "quote"] (dd := []) (bind4 t) (fun _ _ => .nil) fun L ad T' pm cd d' =>
    Exs.ite (Ts.cmp (Ev.name rfl) (Ev.lit rfl) Cmp.eqT) (fun _ => Exs.ret (Ev.callG (w_logical P) (EvL.cons (Ev.name rfl) EvL.nil))) fun e => absurd rfl (of_decide_eq_false e)
theorem w_format_int (P : Pg W) {o : Option Int} {q : Bool} (h : ∀ i, o = some i → -1000000000000000000 < i ∧ i < 1000000000000000000) : CalG W 3 "format_item" [T (S "integer"), oI o, .int 7, .bool q] (T (intT o)) := by
  obtain ⟨t, hs⟩ := P.d27
  exact CalG.defD 27 hs sc_27 4 ["kind", "item", "digits", "quote"] (dd := []) (bind4 t) (fun _ _ => .nil) fun L ad T' pm cd d' =>
    Exs.ite (Ts.cmp (Ev.name rfl) (Ev.lit rfl) Cmp.eqT) (fun e => absurd (of_decide_eq_true e) (by decide +kernel)) fun _ => Exs.ite (Ts.cmp (Ev.name rfl) (Ev.lit rfl) Cmp.eqT) (fun _ => Exs.ret (Ev.callG (w_integer P h) (EvL.cons (Ev.name rfl) EvL.nil))) fun e => absurd rfl (of_decide_eq_false e)
theorem w_format_chr (P : Pg W) {o : Option Tx} {q : Bool} (ho : ∀ t, o = some t → t.length ≤ 100 ∧ ∀ c ∈ t, okC c) : CalG W 3 "format_item" [T (S "character"), oT o, .int 7, .bool q] (T (shown q o)) := by
  obtain ⟨t, hs⟩ := P.d27
  exact CalG.defD 27 hs sc_27 4 ["kind", "item", "digits", "quote"] (dd := []) (bind4 t) (fun _ _ => .nil) fun L ad T' pm cd d' =>
    Exs.ite (Ts.cmp (Ev.name rfl) (Ev.lit rfl) Cmp.eqT) (fun e => absurd (of_decide_eq_true e) (by decide +kernel)) fun _ => Exs.ite (Ts.cmp (Ev.name rfl) (Ev.lit rfl) Cmp.eqT) (fun e => absurd (of_decide_eq_true e) (by decide +kernel)) fun _ => Exs.ite (Ts.cmp (Ev.name rfl) (Ev.lit rfl) Cmp.eqT) (fun e => absurd (of_decide_eq_true e) (by decide +kernel)) fun _ => Exs.ret (Ev.callG (w_encode P ho) (EvL.cons (Ev.name rfl) (EvL.cons (Ev.name rfl) EvL.nil)))
theorem bind3 : ∀ (t : Tok) T pm code doc (vs : List Value), vs.length = 3 → ∃ kk : Option (Array Value) → Sem (List (PySem.Str × Value)), bindArgs (fdR (recAt 28) (recAt 28).name (.ref T) pm code doc) ⟨vs, []⟩ = seqItems? (.ref T) >>= kk ∧ kk (some [Value.int 7 t, .bool true].toArray) = pure ((["v", "digits", "quote"] : List PySem.Str).zip (vs ++ [])) := by
  intro t T pm code doc vs h
  obtain ⟨a, b, c, rfl⟩ := len3 h
  exact ⟨_, rfl, rfl⟩
theorem w_item_dbl (P : Pg W) {os : List (Option Nat)} {da : D} {q : Bool} (ho : ∀ k, some k ∈ os → k < 11) (hz : os.length ≤ 10000) : CalG W 7 "item_texts" [.vec (key (S "double")) (.lst (os.map oD)) da, .int 7, .bool q] (.lst ((os.map (pForm (fP (os.filterMap id)))).map T)) := by
  obtain ⟨t, hs⟩ := P.d28
  rw [List.map_map]
  exact CalG.defD 28 hs sc_28 3 ["v", "digits", "quote"] (dd := []) (bind3 t) (fun _ _ => .nil) fun L ad T' pm cd d' =>
    Exs.ite (Ts.cmp (Ev.attr (Ev.name rfl) Att.kind) (Ev.lit rfl) Cmp.eqT) (fun _ => Exs.ret (Ev.callG (CalOG.cal (w_common P ho hz)) (EvL.cons (Ev.attr (Ev.name rfl) Att.items) (EvL.cons (Ev.name rfl) EvL.nil)))) fun e => absurd rfl (of_decide_eq_false e)
theorem w_item_gen (P : Pg W) {α : Type} {k : Tx} (as : List α) (mk : α → D) (tx : α → Tx) {da : D} {q : Bool} (hf : ∀ a ∈ as, CalG W 3 "format_item" [T k, mk a, .int 7, .bool q] (T (tx a))) (hk : k ≠ S "double") (hz : as.length ≤ 10000) : CalG W 7 "item_texts" [.vec (key k) (.lst (as.map mk)) da, .int 7, .bool q] (.lst ((as.map tx).map T)) := by
  obtain ⟨t, hs⟩ := P.d28
  rw [List.map_map]
  exact CalG.defD 28 hs sc_28 3 ["v", "digits", "quote"] (dd := []) (bind3 t) (fun _ _ => .nil) fun L ad T' pm cd d' =>
    Exs.ite (Ts.cmp (Ev.attr (Ev.name rfl) Att.kind) (Ev.lit rfl) Cmp.eqT) (fun e => absurd (of_decide_eq_true e) hk) fun _ =>
    Exs.ret (EvO.ev (EvO.compAll as mk (fun a => T (tx a)) [("v", .fz (.vec (key k) (.lst (as.map mk)) da)), ("digits", .fz (.int 7)), ("quote", .fz (.bool q))] (Ev.attr (Ev.name rfl) Att.items) Itr.lst hz ⟨(by intro _; rfl), rfl, SubC.cons rfl (.cons rfl (.cons rfl .nil)), rfl, rfl, rfl, rfl, GcOk.cons rfl rfl rfl rfl rfl (GcOk.cons rfl rfl rfl rfl rfl (GcOk.cons rfl rfl rfl rfl rfl GcOk.nil))⟩
      fun a m C => Ev.callG (hf a m) (EvL.cons (Ev.attr (Ev.name rfl) Att.kind) (EvL.cons (Ev.name rfl) (EvL.cons (Ev.name rfl) (EvL.cons (Ev.name rfl) EvL.nil))))))
end
end Mine

/-! M24 -/
namespace Mine
section
variable {W : Wr} {n : Nat} {env : Env} {G : Ga}
theorem sc_41 : Sc (recAt 41) := ⟨rfl, rfl, rfl, by decide +kernel⟩
theorem sc_42 : Sc (recAt 42) := ⟨rfl, rfl, rfl, by decide +kernel⟩
theorem sc_43 : Sc (recAt 43) := ⟨rfl, rfl, rfl, by decide +kernel⟩

/-! widths -/
def wd (l : List Tx) : Int := l.foldl (fun a t => max a (t.length : Int)) 0
theorem take_foldT {β : Type} (f : β → Tx → β) (b : β) (ks : List Tx) (i : Nat) (k : Tx) (h : ks[i]? = some k) : (ks.take (i + 1)).foldl f b = f ((ks.take i).foldl f b) k := by
  rw [List.take_add_one, h, Option.toList_some, List.foldl_append]; rfl
/-- texts that are no longer than b -/
def Sz (b : Nat) (l : List Tx) : Prop := ∀ t ∈ l, t.length ≤ b
theorem w_widest (P : Pg W) {l : List Tx} (hz : Sz 1000 l) (hl : l.length ≤ 10000) : CalG W 1 "widest" [.lst (l.map T)] (.int (wd l)) :=
  CalG.def 29 (P.fns 29 (by decide)) sc_29 ["texts"] (by intro pm c d vs h; obtain ⟨_, rfl⟩ := len1 h; rfl) fun L ad pm c d' =>
    Exs.assign Ev.int rfl <|
    Exs.for_ (fun i => [("found", .fz (.int (wd (l.take i))))]) (Ev.name rfl) Itr.lst rfl (Sub0.cons rfl .nil)
      (fun i d' hd => by
        rw [List.getElem?_map] at hd
        obtain ⟨t, ht, rfl⟩ := Option.map_eq_some_iff.mp hd
        have h1 := hz t (List.mem_of_getElem? ht)
        have e : wd (l.take (i + 1)) = max (wd (l.take i)) (t.length : Int) := take_foldT _ _ _ _ _ ht
        rw [e]
        exact Exs.assign (Ev.callG (m := 0) ⟨_, P.max, Cal.maxI⟩ (EvL.cons (Ev.name rfl) (EvL.cons (Ev.callG (m := 0) ⟨_, P.len, Cal.lenT (by first | omega | (simp only [List.length_append, List.length_cons, List.length_nil]; omega) | (simp; omega) | simp)⟩ (EvL.cons (Ev.name rfl) EvL.nil)) EvL.nil))) rfl <| Exs.nil fun fp av h' S => ⟨.inl rfl, S.weaken (Sub0.cons rfl .nil)⟩) <| by
    rw [show l.take (l.map T).length = l by rw [List.length_map, List.take_length]]
    exact Exs.ret (Ev.name rfl)
theorem w_pad_left (P : Pg W) {l : List Tx} {w : Int} (hl : l.length ≤ 10000) (hw : -1000000 ≤ w ∧ w ≤ 1000000) : CalG W 1 "pad_left" [.lst (l.map T), .int w] (.lst ((l.map (padL w)).map T)) := by
  rw [List.map_map]
  exact CalG.def 30 (P.fns 30 (by decide)) sc_30 ["texts", "width"] (by intro pm c d vs h; obtain ⟨_, _, rfl⟩ := len2 h; rfl) fun L ad pm c d' =>
    Exs.ret (EvO.ev (EvO.compAll l T (fun t => T (padL w t)) [("width", .fz (.int w))] (Ev.name rfl) Itr.lst hl ⟨(by intro _; rfl), rfl, SubC.cons rfl .nil, rfl, rfl, rfl, rfl, GcOk.cons rfl rfl rfl rfl rfl GcOk.nil⟩
      fun t m C => Ev.meth (Ev.name rfl) Mth.rjust (EvL.cons (Ev.name rfl) EvL.nil) .builtin (Cal.rjustT hw)))
theorem w_pad_right (P : Pg W) {l : List Tx} {w : Int} (hl : l.length ≤ 10000) (hw : -1000000 ≤ w ∧ w ≤ 1000000) : CalG W 1 "pad_right" [.lst (l.map T), .int w] (.lst ((l.map (padR w)).map T)) := by
  rw [List.map_map]
  exact CalG.def 31 (P.fns 31 (by decide)) sc_31 ["texts", "width"] (by intro pm c d vs h; obtain ⟨_, _, rfl⟩ := len2 h; rfl) fun L ad pm c d' =>
    Exs.ret (EvO.ev (EvO.compAll l T (fun t => T (padR w t)) [("width", .fz (.int w))] (Ev.name rfl) Itr.lst hl ⟨(by intro _; rfl), rfl, SubC.cons rfl .nil, rfl, rfl, rfl, rfl, GcOk.cons rfl rfl rfl rfl rfl GcOk.nil⟩
      fun t m C => Ev.meth (Ev.name rfl) Mth.ljust (EvL.cons (Ev.name rfl) EvL.nil) .builtin (Cal.ljustT hw)))

/-! numbered rows -/
def lab (c : Int) : Int := (itoa c).length + 2
theorem w_label (P : Pg W) {c : Int} (h : -1000000 ≤ c ∧ c ≤ 1000000) : CalG W 1 "label_width" [.int c] (.int (lab c)) :=
  CalG.def 40 (P.fns 40 (by decide)) sc_40 ["count"] (by intro pm c d vs h; obtain ⟨_, rfl⟩ := len1 h; rfl) fun L ad pm cd d' => by
    have := itoa_len (a := c) (by omega)
    exact Exs.ret (Ev.bin (Ev.callG (m := 0) ⟨_, P.len, Cal.lenT (by omega)⟩ (EvL.cons (Ev.callG (m := 0) ⟨_, P.str, Cal.strI (by omega)⟩ (EvL.cons (Ev.name rfl) EvL.nil)) EvL.nil)) Ev.int Bin.addI)
def mark (w : Int) (p : Nat) : Tx := padL w (S "[" ++ itoa (p + 1) ++ S "]")
def nStep (l : List Tx) (width w : Int) (s : List Tx × Tx) (p : Nat) : List Tx × Tx :=
  if p = 0 ∨ width < (s.2.length : Int) + 1 + ((l.getD p []).length : Int) then ((if 0 < p then s.1 ++ [s.2] else s.1), mark w p ++ S " " ++ l.getD p []) else (s.1, s.2 ++ S " " ++ l.getD p [])
def nSt (l : List Tx) (width w : Int) (i : Nat) : List Tx × Tx := (List.range i).foldl (nStep l width w) ([], S "")
def nRows (l : List Tx) (width : Int) : List Tx := (nSt l width (lab l.length) l.length).1 ++ [(nSt l width (lab l.length) l.length).2]
theorem nSt_succ (l : List Tx) (width w : Int) (i : Nat) : nSt l width w (i + 1) = nStep l width w (nSt l width w i) i := by
  unfold nSt; rw [List.range_succ, List.foldl_append]; rfl
theorem padL_len (w : Int) (t : Tx) : (padL w t).length ≤ w.toNat + t.length := by unfold padL; rw [List.length_append, List.length_replicate]; omega
theorem mark_len (w : Int) (p : Nat) (hw : w ≤ 100) (hp : p ≤ 10000) : (mark w p).length ≤ 200 := by
  have := padL_len w (S "[" ++ itoa (p + 1) ++ S "]")
  have h1 : (S "[").length = 1 := by decide +kernel
  have h2 : (S "]").length = 1 := by decide +kernel
  have h3 := itoa_len (a := (p : Int) + 1) (by omega)
  unfold mark
  simp only [List.length_append] at this
  omega
theorem getD_len {l : List Tx} {b : Nat} (hz : Sz b l) (p : Nat) : (l.getD p []).length ≤ b := by
  rw [List.getD_eq_getElem?_getD]
  cases h : l[p]? with
  | none => simp
  | some t => exact hz t (List.mem_of_getElem? h)
theorem nSt_len {l : List Tx} {width w : Int} (hz : Sz 100 l) (hw : w ≤ 100) : ∀ i, i ≤ 100 → (nSt l width w i).2.length ≤ 400 * (i + 1) ∧ (nSt l width w i).1.length ≤ i
  | 0, _ => by
    have : (S "").length = 0 := by decide +kernel
    refine ⟨?_, Nat.le_refl _⟩
    show (S "").length ≤ _
    omega
  | i + 1, hi => by
    obtain ⟨h1, h2⟩ := nSt_len (width := width) hz hw i (by omega)
    rw [nSt_succ]
    have h3 := mark_len w i hw (by omega)
    have h4 := getD_len hz i
    have h5 : (S " ").length = 1 := by decide +kernel
    unfold nStep
    split
    · refine ⟨?_, ?_⟩
      · show (mark w i ++ S " " ++ l.getD i []).length ≤ _
        rw [List.length_append, List.length_append]; omega
      · show (if 0 < i then (nSt l width w i).1 ++ [(nSt l width w i).2] else (nSt l width w i).1).length ≤ _
        split
        · rw [List.length_append, List.length_singleton]; omega
        · omega
    · refine ⟨?_, ?_⟩
      · show ((nSt l width w i).2 ++ S " " ++ l.getD i []).length ≤ _
        rw [List.length_append, List.length_append]; omega
      · show (nSt l width w i).1.length ≤ _
        omega
theorem w_numbered (P : Pg W) {l : List Tx} {width : Int} (hz : Sz 100 l) (hl : l.length ≤ 50) (h0 : 0 < l.length) : CalOG W 2 "numbered_rows" [.lst (l.map T), .int width] ((nRows l width).map T) := by
  have hlab : lab l.length ≤ 100 := by have := itoa_len (a := (l.length : Int)) (by omega); unfold lab; omega
  have hlab0 : 0 ≤ lab l.length := by unfold lab; omega
  exact CalOG.def 41 (P.fns 41 (by decide)) sc_41 ["texts", "width"] (by intro pm c d vs h; obtain ⟨_, _, rfl⟩ := len2 h; rfl) fun L ad pm c d' => by
    refine Exs.assign (G₁ := pars ["texts", "width"] [.lst (l.map T), .int width]) (d := .int (lab l.length)) (Ev.callG (w_label P (c := l.length) (by omega)) (EvL.cons (by
      have := Cal.lenL (W := W) (n := 0) (ds := l.map T) (by rw [List.length_map]; omega)
      rw [List.length_map] at this
      exact Ev.callG (m := 0) ⟨_, P.len, this⟩ (EvL.cons (Ev.name rfl) EvL.nil)) EvL.nil)) rfl ?_
    generalize hw : lab l.length = w at hlab hlab0
    refine Exs.assignO (EvO.display EvL.nil (by decide)) rfl ?_
    refine Exs.assign (Ev.lit rfl) rfl ?_
    refine Exs.for_ (G₁ := [("current", .fz (T (S ""))), ("rows", .own []), ("label", .fz (.int w)), ("texts", .fz (.lst (l.map T))), ("width", .fz (.int width))]) (d := .rng 0 l.length 1)
      (fun i => [("rows", .own ((nSt l width w i).1.map T)), ("current", .fz (T (nSt l width w i).2)), ("label", .fz (.int w)), ("texts", .fz (.lst (l.map T))), ("width", .fz (.int width))])
      (Ev.callG (m := 0) ⟨_, P.range, Cal.range1⟩ (EvL.cons (by
        have := Cal.lenL (W := W) (n := 0) (ds := l.map T) (by rw [List.length_map]; omega)
        rw [List.length_map] at this
        exact Ev.callG (m := 0) ⟨_, P.len, this⟩ (EvL.cons (Ev.name rfl) EvL.nil)) EvL.nil)) (Itr.range1 (by omega)) rfl
      (Sub0.cons rfl (.cons rfl (.cons rfl (.cons rfl (.cons rfl .nil))))) (fun i d' hd => ?_) ?_
    · rw [List.getElem?_map] at hd
      obtain ⟨j, hj, rfl⟩ := Option.map_eq_some_iff.mp hd
      have hij : j = i ∧ i < l.length := by
        have := List.getElem?_eq_some_iff.mp hj
        obtain ⟨h1, h2⟩ := this
        rw [List.getElem_range] at h2
        rw [List.length_range] at h1
        exact ⟨h2.symm, by omega⟩
      obtain ⟨rfl, hlt⟩ := hij
      have hlt' : j < (l.map T).length := by rw [List.length_map]; exact hlt
      have hget : (l.map T)[(j : Int).toNat]? = some (T (l.getD j [])) := by
        rw [Int.toNat_natCast, List.getElem?_map, List.getElem?_eq_getElem hlt, List.getD_eq_getElem?_getD, List.getElem?_eq_getElem hlt]; rfl
      obtain ⟨b1, b2⟩ := nSt_len (width := width) (w := w) hz hlab j (by omega)
      have b3 := getD_len hz j
      have b4 := mark_len w j hlab (by omega)
      have b5 : (S " ").length = 1 := by decide +kernel
      have b5' : (PySem.Str.ofString " ").cps.toList.length = 1 := b5
      rw [nSt_succ]
      generalize hs : nSt l width w j = s at b1 b2
      generalize ht : l.getD j [] = t at hget b3
      refine Exs.ite (G₁ := (("place", .fz (.int j)) :: [("rows", .own (s.1.map T)), ("current", .fz (T s.2)), ("label", .fz (.int w)), ("texts", .fz (.lst (l.map T))), ("width", .fz (.int width))] : Ga)) (b := decide ((j : Int) = 0) || (decide (width < (s.2.length : Int) + 1 + (t.length : Int)) || false))
        (Ts.bop (TsAll.or_cons (Ts.cmp (Ev.name rfl) Ev.int Cmp.eqI) fun _ => TsAll.or_cons (Ts.cmp (Ev.bin (Ev.bin (Ev.callG (m := 0) ⟨_, P.len, Cal.lenT (by omega)⟩ (EvL.cons (Ev.name rfl) EvL.nil)) Ev.int Bin.addI) (Ev.callG (m := 0) ⟨_, P.len, Cal.lenT (by omega)⟩ (EvL.cons (Ev.sub (Ev.name rfl) (Ev.name rfl) (Sub.lst (by omega) (by omega) hget)) EvL.nil)) Bin.addI) (Ev.name rfl) Cmp.gtI) fun _ => TsAll.or_nil)) (fun e => ?_) fun e => ?_
      · have e' : j = 0 ∨ width < (s.2.length : Int) + 1 + (t.length : Int) := by
          simp only [Bool.or_eq_true, Bool.or_false, decide_eq_true_eq] at e; omega
        have es : nStep l width w s j = ((if 0 < j then s.1 ++ [s.2] else s.1), mark w j ++ S " " ++ t) := by unfold nStep; rw [ht, if_pos e']
        rw [es]
        refine Exs.ite (G₁ := (("place", .fz (.int j)) :: [("rows", .own (s.1.map T)), ("current", .fz (T s.2)), ("label", .fz (.int w)), ("texts", .fz (.lst (l.map T))), ("width", .fz (.int width))] : Ga)) (Ts.cmp (Ev.name rfl) Ev.int Cmp.gtI) (fun h => ?_) fun h => ?_
        · have h' : 0 < j := by have := of_decide_eq_true h; omega
          simp only [if_pos h']
          refine Exs.appendOwn rfl rfl (Ev.name rfl) (by simp; omega) ?_
          refine Exs.assign (Ev.meth (Ev.joined (ts := [S "[", itoa (j + 1), S "]"]) ⟨Ev.lit rfl, Ev.fmtI (Ev.bin (Ev.name rfl) Ev.int Bin.addI) (by omega), Ev.lit rfl, trivial⟩ (by
            have h1 : (S "[").length = 1 := by decide +kernel
            have h2 : (S "]").length = 1 := by decide +kernel
            have h3 := itoa_len (a := (j : Int) + 1) (by omega)
            simp only [List.map_cons, List.map_nil, List.sum_cons, List.sum_nil]; omega)) Mth.rjust (EvL.cons (Ev.name rfl) EvL.nil) .builtin (Cal.rjustT (by omega))) rfl ?_
          have em : padL w [S "[", itoa (j + 1), S "]"].flatten = mark w j := by unfold mark; simp
          rw [em]
          refine Exs.assign (Ev.bin (Ev.bin (Ev.name rfl) (Ev.lit rfl) (Bin.addT (by omega))) (Ev.sub (Ev.name rfl) (Ev.name rfl) (Sub.lst (by omega) (by omega) hget)) (Bin.addT (by rw [List.length_append]; omega))) rfl ?_
          exact Exs.nil fun fp av h' S' => ⟨.inl rfl, S'.weaken (Sub0.cons (by rw [List.map_append]; rfl) (.cons rfl (.cons rfl (.cons rfl (.cons rfl .nil)))))⟩
        · have h' : ¬ 0 < j := by have := of_decide_eq_false h; omega
          simp only [if_neg h']
          refine Exs.assign (Ev.meth (Ev.joined (ts := [S "[", itoa (j + 1), S "]"]) ⟨Ev.lit rfl, Ev.fmtI (Ev.bin (Ev.name rfl) Ev.int Bin.addI) (by omega), Ev.lit rfl, trivial⟩ (by
            have h1 : (S "[").length = 1 := by decide +kernel
            have h2 : (S "]").length = 1 := by decide +kernel
            have h3 := itoa_len (a := (j : Int) + 1) (by omega)
            simp only [List.map_cons, List.map_nil, List.sum_cons, List.sum_nil]; omega)) Mth.rjust (EvL.cons (Ev.name rfl) EvL.nil) .builtin (Cal.rjustT (by omega))) rfl ?_
          have em : padL w [S "[", itoa (j + 1), S "]"].flatten = mark w j := by unfold mark; simp
          rw [em]
          refine Exs.assign (Ev.bin (Ev.bin (Ev.name rfl) (Ev.lit rfl) (Bin.addT (by omega))) (Ev.sub (Ev.name rfl) (Ev.name rfl) (Sub.lst (by omega) (by omega) hget)) (Bin.addT (by rw [List.length_append]; omega))) rfl ?_
          exact Exs.nil fun fp av h' S' => ⟨.inl rfl, S'.weaken (Sub0.cons rfl (.cons rfl (.cons rfl (.cons rfl (.cons rfl .nil)))))⟩
      · have e' : ¬ (j = 0 ∨ width < (s.2.length : Int) + 1 + (t.length : Int)) := by
          simp only [Bool.or_false, Bool.or_eq_false_iff, decide_eq_false_iff_not] at e; omega
        have es : nStep l width w s j = (s.1, s.2 ++ S " " ++ t) := by unfold nStep; rw [ht, if_neg e']
        rw [es]
        refine Exs.assign (Ev.bin (Ev.bin (Ev.name rfl) (Ev.lit rfl) (Bin.addT (by omega))) (Ev.sub (Ev.name rfl) (Ev.name rfl) (Sub.lst (by omega) (by omega) hget)) (Bin.addT (by rw [List.length_append]; omega))) rfl ?_
        exact Exs.nil fun fp av h' S' => ⟨.inl rfl, S'.weaken (Sub0.cons rfl (.cons rfl (.cons rfl (.cons rfl (.cons rfl .nil)))))⟩
    · have eN : ((List.range (l.length : Int).toNat).map fun (i : Nat) => D.int i).length = l.length := by simp
      rw [eN]
      have er : (nRows l width).map T = (nSt l width w l.length).1.map T ++ [T (nSt l width w l.length).2] := by unfold nRows; rw [hw, List.map_append]; rfl
      rw [er]
      obtain ⟨b1, b2⟩ := nSt_len (width := width) (w := w) hz hlab l.length (by omega)
      exact Exs.appendOwn rfl rfl (Ev.name rfl) (by simp; omega) <| Exs.retOwn rfl rfl
end
end Mine

/-! M25 -/
set_option maxHeartbeats 4000000
namespace Mine
section
variable {W : Wr} {n : Nat} {env : Env} {G : Ga}
theorem sc_44 : Sc (recAt 44) := ⟨rfl, rfl, rfl, by decide +kernel⟩
theorem sc_45 : Sc (recAt 45) := ⟨rfl, rfl, rfl, by decide +kernel⟩
theorem sc_46 : Sc (recAt 46) := ⟨rfl, rfl, rfl, by decide +kernel⟩
theorem sc_47 : Sc (recAt 47) := ⟨rfl, rfl, rfl, by decide +kernel⟩

theorem wd_bounds {b : Nat} {l : List Tx} (hz : Sz b l) : 0 ≤ wd l ∧ wd l ≤ b := by
  have gen : ∀ (l : List Tx), Sz b l → ∀ a : Int, 0 ≤ a → a ≤ b → 0 ≤ l.foldl (fun a t => max a (t.length : Int)) a ∧ l.foldl (fun a t => max a (t.length : Int)) a ≤ b := by
    intro l
    induction l with
    | nil => intro _ a h1 h2; exact ⟨h1, h2⟩
    | cons t l ih =>
      intro hz a h1 h2
      have := hz t (.head _)
      exact ih (fun t m => hz t (.tail _ m)) (max a (t.length : Int)) (by omega) (by omega)
  exact gen l hz 0 (by omega) (by omega)
theorem Sz.mono {a b : Nat} {l : List Tx} (h : Sz a l) (hab : a ≤ b) : Sz b l := fun t m => Nat.le_trans (h t m) hab

/-! named rows -/
theorem flat2 (f g : Nat → Tx) : ∀ j, ((List.range j).flatMap fun i => [f i, g i]).length = 2 * j
  | 0 => rfl
  | j + 1 => by
    rw [List.range_succ, List.flatMap_append, List.length_append, flat2 f g j]
    show 2 * j + 2 = _
    omega

def nmRow (l : List Tx) (st per col : Int) : Tx := joinT (S " ") ((pyS (some st) (some (st + per)) l).map (padL col)) ++ S " "
def perRow (texts names : List Tx) (width : Int) : Int := max (width.fdiv (max (wd texts) (wd names) + 1)) 1
def chunks (b c : Int) : Nat := if 0 < b then ((b - 1) / c).toNat + 1 else 0
def nmRows (texts names : List Tx) (width : Int) : List Tx := (List.range (chunks texts.length (perRow texts names width))).flatMap fun (i : Nat) =>
  [nmRow names ((i : Int) * perRow texts names width) (perRow texts names width) (max (wd texts) (wd names)), nmRow texts ((i : Int) * perRow texts names width) (perRow texts names width) (max (wd texts) (wd names))]
theorem joinT_len (sep : Tx) : ∀ l : List Tx, (joinT sep l).length ≤ (l.map (·.length)).sum + l.length * sep.length
  | [] => by simp [joinT]
  | [x] => by simp [joinT]
  | x :: y :: l => by
    have ih := joinT_len sep (y :: l)
    simp only [joinT, List.length_append, List.map_cons, List.sum_cons, List.length_cons, Nat.succ_mul] at ih ⊢
    omega
theorem sum_len {b : Nat} : ∀ {l : List Tx}, Sz b l → (l.map (·.length)).sum ≤ b * l.length
  | [], _ => by simp
  | t :: l, h => by
    have := sum_len (l := l) fun t m => h t (.tail _ m)
    have := h t (.head _)
    simp only [List.map_cons, List.sum_cons, List.length_cons, Nat.mul_succ] at *
    omega
theorem padL_sz {w : Int} {b : Nat} {l : List Tx} (h : Sz b l) : Sz (w.toNat + b) (l.map (padL w)) := fun t m => by
  obtain ⟨x, hx, rfl⟩ := List.mem_map.mp m
  have := padL_len w x
  have := h x hx
  omega
theorem pyS_sz {lo hi : Option Int} {b : Nat} {l : List Tx} (h : Sz b l) : Sz b (pyS lo hi l) := fun t m => h t (by unfold pyS at m; exact List.mem_of_mem_drop (List.mem_of_mem_take m))
theorem join_ok {w : Int} {l : List Tx} (h : Sz 1000 l) (hl : l.length ≤ 50) (hw : w ≤ 1000) : ((l.map (padL w)).map (·.length)).sum + (l.map (padL w)).length * (S " ").length ≤ 200000 ∧ (joinT (S " ") (l.map (padL w))).length ≤ 200000 := by
  have h1 := sum_len (padL_sz (w := w) h)
  have h2 := joinT_len (S " ") (l.map (padL w))
  have h3 : (S " ").length = 1 := by decide +kernel
  have h4 : (l.map (padL w)).length = l.length := List.length_map _
  rw [h4] at h1
  rw [h3, h4] at h2
  rw [h3, h4]
  have : (w.toNat + 1000) * l.length ≤ 2000 * 50 := Nat.mul_le_mul (by omega) hl
  omega
theorem w_named (P : Pg W) {l nm : List Tx} {width : Int} (hz : Sz 1000 l) (hl : l.length ≤ 50) (hzn : Sz 1000 nm) (hln : nm.length ≤ 50) (hw : 0 ≤ width ∧ width ≤ 10000) : CalOG W 2 "named_rows" [.lst (l.map T), .lst (nm.map T), .int width] ((nmRows l nm width).map T) := by
  obtain ⟨a1, a2⟩ := wd_bounds hz
  obtain ⟨a3, a4⟩ := wd_bounds hzn
  have hper : 1 ≤ perRow l nm width ∧ perRow l nm width ≤ 10000 := by
    unfold perRow
    have h1 : width.fdiv (max (wd l) (wd nm) + 1) ≤ width := by
      rw [Int.fdiv_eq_ediv_of_nonneg _ (by omega)]; exact Int.ediv_le_self _ hw.1
    omega
  exact CalOG.def 42 (P.fns 42 (by decide)) sc_42 ["texts", "names", "width"] (by intro pm c d vs h; obtain ⟨_, _, _, rfl⟩ := len3 h; rfl) fun L ad pm c d' => by
    refine Exs.assign (G₁ := pars ["texts", "names", "width"] [.lst (l.map T), .lst (nm.map T), .int width]) (d := .int (max (wd l) (wd nm))) (Ev.callG (m := 0) ⟨_, P.max, Cal.maxI⟩ (EvL.cons (Ev.callG (w_widest P hz (by omega)) (EvL.cons (Ev.name rfl) EvL.nil)) (EvL.cons (Ev.callG (w_widest P hzn (by omega)) (EvL.cons (Ev.name rfl) EvL.nil)) EvL.nil))) rfl ?_
    refine Exs.assign (G₁ := (("column", .fz (.int (max (wd l) (wd nm)))) :: pars ["texts", "names", "width"] [.lst (l.map T), .lst (nm.map T), .int width] : Ga)) (d := .int (perRow l nm width)) (Ev.callG (m := 0) ⟨_, P.max, Cal.maxI⟩ (EvL.cons (Ev.bin (Ev.name rfl) (Ev.bin (Ev.name rfl) Ev.int Bin.addI) (Bin.divI (by omega) (by omega))) (EvL.cons Ev.int EvL.nil))) rfl ?_
    generalize hp : perRow l nm width = per at hper
    have hnr : nmRows l nm width = (List.range (chunks l.length per)).flatMap fun (i : Nat) => [nmRow nm ((i : Int) * per) per (max (wd l) (wd nm)), nmRow l ((i : Int) * per) per (max (wd l) (wd nm))] := by unfold nmRows; rw [hp]
    rw [hnr]
    generalize hc : max (wd l) (wd nm) = col
    have hcol : col ≤ 1000 := by omega
    have hcol0 : 0 ≤ col := by omega
    have hch : chunks l.length per ≤ 50 := by
      unfold chunks
      split
      · have : ((l.length : Int) - 1) / per ≤ (l.length : Int) - 1 := Int.ediv_le_self _ (by omega)
        omega
      · omega
    refine Exs.assignO (EvO.display EvL.nil (by decide)) rfl ?_
    refine Exs.for_ (G₁ := [("rows", .own []), ("per_row", .fz (.int per)), ("column", .fz (.int col)), ("texts", .fz (.lst (l.map T))), ("names", .fz (.lst (nm.map T))), ("width", .fz (.int width))]) (d := .rng 0 l.length per)
      (fun i => [("rows", .own (((List.range i).flatMap fun (i : Nat) => [nmRow nm ((i : Int) * per) per col, nmRow l ((i : Int) * per) per col]).map T)), ("per_row", .fz (.int per)), ("column", .fz (.int col)), ("texts", .fz (.lst (l.map T))), ("names", .fz (.lst (nm.map T)))])
      (Ev.callG (m := 0) ⟨_, P.range, Cal.range3 (by omega) (by omega)⟩ (EvL.cons Ev.int (EvL.cons (by
        have := Cal.lenL (W := W) (n := 0) (ds := l.map T) (by rw [List.length_map]; omega)
        rw [List.length_map] at this
        exact Ev.callG (m := 0) ⟨_, P.len, this⟩ (EvL.cons (Ev.name rfl) EvL.nil)) (EvL.cons (Ev.name rfl) EvL.nil)))) (Itr.range3 (by omega) (by omega)) rfl
      (Sub0.cons rfl (.cons rfl (.cons rfl (.cons rfl (.cons rfl .nil))))) (fun i d' hd => ?_) ?_
    · rw [List.getElem?_map] at hd
      obtain ⟨j, hj, rfl⟩ := Option.map_eq_some_iff.mp hd
      have hij : j = i ∧ i < chunks l.length per := by
        obtain ⟨h1, h2⟩ := List.getElem?_eq_some_iff.mp hj
        rw [List.getElem_range] at h2
        rw [List.length_range] at h1
        exact ⟨h2.symm, h1⟩
      obtain ⟨rfl, hlt⟩ := hij
      have s1 := pyS_sz (lo := some (j * per)) (hi := some (j * per + per)) hzn
      have s2 := pyS_sz (lo := some (j * per)) (hi := some (j * per + per)) hz
      have n1 := pyS_len (some (j * per)) (some (j * per + per)) nm
      have n2 := pyS_len (some (j * per)) (some (j * per + per)) l
      obtain ⟨j1, j2⟩ := join_ok s1 (by omega) hcol
      obtain ⟨j3, j4⟩ := join_ok s2 (by omega) hcol
      have b5 : (S " ").length = 1 := by decide +kernel
      have b5' : (PySem.Str.ofString " ").cps.toList.length = 1 := b5
      have rl : ((List.range j).flatMap fun (i : Nat) => [nmRow nm ((i : Int) * per) per col, nmRow l ((i : Int) * per) per col]).length = 2 * j := flat2 _ _ j
      refine Exs.assign (d := .lst (((pyS (some (j * per)) (some (j * per + per)) nm).map (padL col)).map T)) (Ev.callG (w_pad_left P (by omega) (by omega)) (EvL.cons (by
        have := Sub.slcL (W := W) (n := 1) (ds := nm.map T) (lo := some (j * per)) (hi := some (j * per + per)) (by rw [List.length_map]; omega)
        rw [pyS_map] at this
        exact Ev.sub (Ev.name rfl) (Ev.slice (lo := some _) (hi := some _) (Ev.name rfl) (Ev.bin (Ev.name rfl) (Ev.name rfl) Bin.addI)) this) (EvL.cons (Ev.name rfl) EvL.nil))) rfl ?_
      refine Exs.assign (d := .lst (((pyS (some (j * per)) (some (j * per + per)) l).map (padL col)).map T)) (Ev.callG (w_pad_left P (by omega) (by omega)) (EvL.cons (by
        have := Sub.slcL (W := W) (n := 1) (ds := l.map T) (lo := some (j * per)) (hi := some (j * per + per)) (by rw [List.length_map]; omega)
        rw [pyS_map] at this
        exact Ev.sub (Ev.name rfl) (Ev.slice (lo := some _) (hi := some _) (Ev.name rfl) (Ev.bin (Ev.name rfl) (Ev.name rfl) Bin.addI)) this) (EvL.cons (Ev.name rfl) EvL.nil))) rfl ?_
      refine Exs.appendOwn rfl rfl (Ev.bin (Ev.meth (Ev.lit rfl) Mth.join (EvL.cons (Ev.name rfl) EvL.nil) .builtin (Cal.joinT (Nat.le_trans j1 (by decide)))) (Ev.lit rfl) (Bin.addT (Nat.le_trans (Nat.add_le_add j2 (Nat.le_of_eq b5)) (by decide)))) (by rw [List.length_map, rl]; omega) ?_
      refine Exs.appendOwn rfl rfl (Ev.bin (Ev.meth (Ev.lit rfl) Mth.join (EvL.cons (Ev.name rfl) EvL.nil) .builtin (Cal.joinT (Nat.le_trans j3 (by decide)))) (Ev.lit rfl) (Bin.addT (Nat.le_trans (Nat.add_le_add j4 (Nat.le_of_eq b5)) (by decide)))) (by rw [List.length_append, List.length_map, rl, List.length_singleton]; omega) ?_
      exact Exs.nil fun fp av h' S' => ⟨.inl rfl, S'.weaken (Sub0.cons (by rw [List.range_succ, List.flatMap_append, List.map_append]; show _ = some (B.own (_ ++ ([nmRow nm (j * per) per col, nmRow l (j * per) per col].map T))); rw [show ([nmRow nm (j * per) per col, nmRow l (j * per) per col].map T) = [T (nmRow nm (j * per) per col)] ++ [T (nmRow l (j * per) per col)] from rfl, ← List.append_assoc]; rfl) (.cons rfl (.cons rfl (.cons rfl (.cons rfl .nil)))))⟩
    · have eN : ((List.range (if (0 : Int) < l.length then (((l.length : Int) - 1) / per).toNat + 1 else 0)).map fun (i : Nat) => D.int (i * per)).length = chunks l.length per := by unfold chunks; simp
      rw [eN]
      exact Exs.retOwn rfl rfl

/-! text_rows -/
def txRows (texts : List Tx) (right : Bool) (names : Option (List (Option Tx))) (width : Int) : List Tx := match names with
  | some ns => nmRows texts (ns.map (shown false)) width
  | none => if right then nRows (texts.map (padL (wd texts))) width else nRows (texts.map (padR (wd texts))) width
def onD : Option (List (Option Tx)) → D
  | none => .none
  | some ns => .lst (ns.map oT)
def okT1 (o : Option Tx) : Prop := ∀ t, o = some t → t.length ≤ 40 ∧ ∀ c ∈ t, okC c
theorem shown_len {o : Option Tx} (h : okT1 o) (q : Bool) : (shown q o).length ≤ 82 := by
  cases o with
  | none => cases q <;> decide +kernel
  | some t =>
    have := (h t rfl).1
    have h2 := body_len q t
    unfold shown
    cases q with
    | true => simp only [if_true, List.length_append, List.length_singleton]; omega
    | false => simp only [Bool.false_eq_true, if_false]; omega
theorem w_text_rows (P : Pg W) {l : List Tx} {right : Bool} {names : Option (List (Option Tx))} {width : Int} (hz : Sz 100 l) (hl : l.length ≤ 50) (h0 : 0 < l.length) (hn : ∀ ns, names = some ns → ns.length ≤ 50 ∧ ∀ o ∈ ns, okT1 o) (hw : 0 ≤ width ∧ width ≤ 10000) (hsz : wd l ≤ 50) (hz2 : Sz 50 l) :
    CalOG W 3 "text_rows" [.lst (l.map T), .bool right, onD names, .int width] ((txRows l right names width).map T) := by
  obtain ⟨a1, a2⟩ := wd_bounds hz
  have hpl : Sz 100 (l.map (padL (wd l))) := (padL_sz hz2).mono (by omega)
  have hpr : Sz 100 (l.map (padR (wd l))) := fun t m => by
    obtain ⟨x, hx, rfl⟩ := List.mem_map.mp m
    have := hz2 x hx
    unfold padR
    rw [List.length_append, List.length_replicate]; omega
  cases names with
  | some ns =>
    obtain ⟨k1, k2⟩ := hn ns rfl
    exact CalOG.def 43 (P.fns 43 (by decide)) sc_43 ["texts", "to_right", "names", "width"] (by intro pm c d vs h; obtain ⟨_, _, _, _, rfl⟩ := len4 h; rfl) fun L ad pm c d' => by
      refine Exs.ite (Ts.cmp (Ev.name (d := .lst (ns.map oT)) rfl) Ev.none (Cmp.notNot rfl)) (fun _ => ?_) fun e => nomatch e
      refine Exs.retO (EvO.callG (w_named P (nm := ns.map (shown false)) (hz.mono (by omega)) hl (fun t m => ?_) (by rw [List.length_map]; exact k1) hw) (EvL.cons (Ev.name rfl) (EvL.cons ?_ (EvL.cons (Ev.name rfl) EvL.nil))))
      · obtain ⟨o, ho, rfl⟩ := List.mem_map.mp m
        have := shown_len (k2 o ho) false
        omega
      · rw [List.map_map]
        exact EvO.ev (EvO.compAll ns oT (fun o => T (shown false o)) [] (Ev.name (d := .lst (ns.map oT)) rfl) Itr.lst (by omega) ⟨(by intro _; rfl), rfl, SubC.nil, rfl, rfl, rfl, rfl, GcOk.nil⟩
          fun o m C => Ev.callG (w_encode P (fun t e => ⟨Nat.le_trans (k2 o m t e).1 (by decide), (k2 o m t e).2⟩)) (EvL.cons (Ev.name rfl) (EvL.cons Ev.bool EvL.nil)))
  | none =>
    have wid : ∀ {env : Env} {G : Ga}, True := trivial
    exact CalOG.def 43 (P.fns 43 (by decide)) sc_43 ["texts", "to_right", "names", "width"] (by intro pm c d vs h; obtain ⟨_, _, _, _, rfl⟩ := len4 h; rfl) fun L ad pm c d' => by
      refine Exs.ite (Ts.cmp (Ev.name (d := .none) rfl) Ev.none Cmp.notNone) (fun e => nomatch e) fun _ => ?_
      refine Exs.ite (Ts.val (Ev.name rfl) Tru.bool) (fun e => ?_) fun e => ?_
      · rw [show txRows l right none width = nRows (l.map (padL (wd l))) width by unfold txRows; rw [e]; rfl]
        exact Exs.retO (EvO.callG (w_numbered P hpl (by rw [List.length_map]; exact hl) (by rw [List.length_map]; exact h0)) (EvL.cons (Ev.callG (w_pad_left P (by omega) (by omega)) (EvL.cons (Ev.name rfl) (EvL.cons (Ev.callG (w_widest P (hz.mono (by omega)) (by omega)) (EvL.cons (Ev.name rfl) EvL.nil)) EvL.nil))) (EvL.cons (Ev.name rfl) EvL.nil)))
      · rw [show txRows l right none width = nRows (l.map (padR (wd l))) width by unfold txRows; rw [e]; rfl]
        exact Exs.retO (EvO.callG (w_numbered P hpr (by rw [List.length_map]; exact hl) (by rw [List.length_map]; exact h0)) (EvL.cons (Ev.callG (w_pad_right P (by omega) (by omega)) (EvL.cons (Ev.name rfl) (EvL.cons (Ev.callG (w_widest P (hz.mono (by omega)) (by omega)) (EvL.cons (Ev.name rfl) EvL.nil)) EvL.nil))) (EvL.cons (Ev.name rfl) EvL.nil)))
end
end Mine

/-! M26 -/
set_option maxHeartbeats 4000000
namespace Mine
section
variable {W : Wr} {n : Nat} {env : Env} {G : Ga}

/-! the class -/
theorem w_init (P : Pg W) : IniOk W 0 := ⟨by
  obtain ⟨T', pm, code, doc, hf, hT⟩ := P.init
  refine ⟨_, _, 3, ["self", "kind", "items", "attrs"], [.none], [.none], hf.fn sc_35, Par.ofD (r := recAt 35) (k := 3) (dfl := [.none]) hT (fun vs h => ?_) (fun _ _ => .cons .none .nil) (by decide) rfl, rfl, fun kd di L x dx => ?_⟩
  · obtain ⟨a, b, c, rfl⟩ := len3 h
    exact ⟨_, rfl, rfl⟩
  · exact ExsV.setattr rfl (Ev.name rfl) (by simp) (Nat.le_of_ble_eq_true rfl) <| ExsV.setattr rfl (Ev.name rfl) (by simp) (Nat.le_of_ble_eq_true rfl) <| ExsV.setattr rfl (Ev.name rfl) (by simp) (Nat.le_of_ble_eq_true rfl) <| ExsV.setattr rfl Ev.bool (by simp) (Nat.le_of_ble_eq_true rfl) <| ExsV.setattr rfl Ev.bool (by simp) (Nat.le_of_ble_eq_true rfl) <| ExsV.done⟩
theorem w_vector (P : Pg W) {kd : Tx} {di : D} : CalG W 2 "Vector" [T kd, di] (.vec (key kd) di .none) := ⟨_, ⟨.inl P.cls, Cee.cls⟩, Cal.vec (w_init P)⟩

/-! factors -/
def chV (l : List Tx) : D := .vec (key (S "character")) (.lst (l.map T)) .none
def fAttr (lv cls : List Tx) : D := .dct [key (S "levels"), key (S "class")] [chV lv, chV cls]
theorem at_lv (lv cls : List Tx) : (atK [key (S "levels"), key (S "class")] [chV lv, chV cls] (key (S "levels"))).getD .none = chV lv := by
  unfold atK; rw [if_pos rfl]; rfl
theorem at_cls (lv cls : List Tx) : atK [key (S "levels"), key (S "class")] [chV lv, chV cls] (key (S "class")) = some (chV cls) := by
  unfold atK; rw [if_neg (by decide +kernel)]; unfold atK; rw [if_pos rfl]
theorem at_none (lv cls : List Tx) {k : Tx} (h1 : key (S "levels") ≠ key k) (h2 : key (S "class") ≠ key k) : atK [key (S "levels"), key (S "class")] [chV lv, chV cls] (key k) = none := by
  unfold atK; rw [if_neg h1]; unfold atK; rw [if_neg h2]; rfl
theorem w_level_texts (P : Pg W) {k : PySem.Str} {di : D} {lv cls : List Tx} (hl : lv.length ≤ 1000) : CalG W 1 "level_texts" [.vec k di (fAttr lv cls)] (.lst (lv.map T)) :=
  CalG.def 32 (P.fns 32 (by decide)) sc_32 ["f"] (by intro pm c d vs h; obtain ⟨_, rfl⟩ := len1 h; rfl) fun L ad pm c d' => by
    refine Exs.assignC (G₁ := [("f", .fz (.vec k di (fAttr lv cls)))]) (d := chV lv) (by
      rw [← at_lv lv cls]
      exact Ev.meth (Ev.attr (Ev.name (d := .vec k di (fAttr lv cls)) rfl) Att.attrs) Mth.get (EvL.cons (Ev.lit rfl) EvL.nil) .builtin Cal.get1) rfl rfl ?_
    refine Exs.ite (Ts.bop (TsAll.or_cons (Ts.cmp (Ev.name (d := chV lv) rfl) Ev.none (Cmp.isNot rfl)) fun _ => TsAll.or_cons (Ts.cmp (Ev.attr (Ev.name (d := .vec (key (S "character")) (.lst (lv.map T)) .none) rfl) Att.kind) (Ev.tuple (EvL.cons (Ev.lit rfl) (EvL.cons (Ev.lit rfl) (EvL.cons (Ev.lit rfl) (EvL.cons (Ev.lit rfl) EvL.nil)))) (by simp)) (Cmp.notInTup (l := [S "logical", S "integer", S "double", S "character"]))) fun _ => TsAll.or_nil)) (fun e => absurd e (by decide +kernel)) fun _ => ?_
    refine Exs.ite (Ts.cmp (Ev.attr (Ev.name (d := .vec (key (S "character")) (.lst (lv.map T)) .none) rfl) Att.kind) (Ev.lit rfl) Cmp.eqT) (fun _ => ?_) fun e => absurd rfl (of_decide_eq_false e)
    exact Exs.ret (Ev.callG (m := 0) ⟨_, P.list, (Cal.listL (by rw [List.length_map]; omega)).cal⟩ (EvL.cons (Ev.attr (Ev.name (d := .vec (key (S "character")) (.lst (lv.map T)) .none) rfl) Att.items) EvL.nil))

def lb (lv : List Tx) : Nat → Option Tx
  | 0 => none
  | i + 1 => some (lv.getD i [])
def oi : Nat → D
  | 0 => .none
  | i + 1 => .int ((i + 1 : Nat) : Int)
theorem w_factor_labels (P : Pg W) {k : PySem.Str} {its : List Nat} {lv cls : List Tx} (hl : lv.length ≤ 1000) (hi : ∀ i ∈ its, i ≤ lv.length) (hz : its.length ≤ 1000) : CalOG W 2 "factor_labels" [.vec k (.lst (its.map oi)) (fAttr lv cls), .none] (its.map fun i => oT (lb lv i)) :=
  CalOG.def 33 (P.fns 33 (by decide)) sc_33 ["f", "lacking"] (by intro pm c d vs h; obtain ⟨_, _, rfl⟩ := len2 h; rfl) fun L ad pm c d' => by
    refine Exs.assign (Ev.callG (w_level_texts P hl) (EvL.cons (Ev.name rfl) EvL.nil)) rfl ?_
    refine Exs.assignO (EvO.display EvL.nil (by decide)) rfl ?_
    refine Exs.for_ (G₁ := [("texts", .own []), ("levels", .fz (.lst (lv.map T))), ("f", .fz (.vec k (.lst (its.map oi)) (fAttr lv cls))), ("lacking", .fz .none)]) (d := .lst (its.map oi)) (fun i => [("texts", .own ((its.take i).map fun i => oT (lb lv i))), ("levels", .fz (.lst (lv.map T))), ("lacking", .fz .none)])
      (Ev.attr (Ev.name (d := .vec k (.lst (its.map oi)) (fAttr lv cls)) rfl) Att.items) Itr.lst rfl (Sub0.cons rfl (.cons rfl (.cons rfl .nil))) (fun i d' hd => ?_) ?_
    · rw [List.getElem?_map] at hd
      obtain ⟨j, hj, rfl⟩ := Option.map_eq_some_iff.mp hd
      have hle := hi j (List.mem_of_getElem? hj)
      have hlt : i < its.length := (List.getElem?_eq_some_iff.mp hj).1
      have et : (its.take (i + 1)).map (fun i => oT (lb lv i)) = (its.take i).map (fun i => oT (lb lv i)) ++ [oT (lb lv j)] := by rw [List.take_add_one, hj, Option.toList_some, List.map_append]; rfl
      have hlen : ((its.take i).map fun i => oT (lb lv i)).length ≤ 10000 := by rw [List.length_map, List.length_take]; omega
      rw [et]
      cases j with
      | zero =>
        refine Exs.assign Ev.none rfl ?_
        refine Exs.ite (Ts.bop (TsAll.and_cons (Ts.cmp (Ev.name (d := .none) rfl) Ev.none Cmp.notNone) (c := false) fun e => nomatch e)) (fun e => nomatch e) fun _ => ?_
        refine Exs.appendOwn rfl rfl (Ev.ite (Ts.cmp (Ev.name rfl) Ev.none Cmp.isNone) (fun _ => Ev.name (d := .none) rfl) fun e => nomatch e) hlen ?_
        exact Exs.nil fun fp av h' S' => ⟨.inl rfl, S'.weaken (Sub0.cons rfl (.cons rfl (.cons rfl .nil)))⟩
      | succ j =>
        have hget : (lv.map T)[(((j + 1 : Nat) : Int) - 1).toNat]? = some (T (lv.getD j [])) := by
          rw [show (((j + 1 : Nat) : Int) - 1).toNat = j by omega, List.getElem?_map, List.getD_eq_getElem?_getD, List.getElem?_eq_getElem (by omega : j < lv.length)]; rfl
        refine Exs.assign Ev.none rfl ?_
        refine Exs.ite (G₁ := ([("label", .fz .none), ("item", .fz (.int ((j + 1 : Nat) : Int))), ("texts", .own ((its.take i).map fun i => oT (lb lv i))), ("levels", .fz (.lst (lv.map T))), ("lacking", .fz .none)] : Ga)) (b := true && ((decide ((1 : Int) ≤ ((j + 1 : Nat) : Int)) && decide (((j + 1 : Nat) : Int) ≤ (lv.length : Int))) && true))
          (Ts.bop (TsAll.and_cons (Ts.cmp (Ev.name (d := .int ((j + 1 : Nat) : Int)) rfl) Ev.none (Cmp.notNot rfl)) fun _ => TsAll.and_cons (Ts.chain2 Ev.int (Ev.name (d := .int ((j + 1 : Nat) : Int)) rfl) Cmp.leI (by
            have := Cal.lenL (W := W) (n := 0) (ds := lv.map T) (by rw [List.length_map]; omega)
            rw [List.length_map] at this
            exact Ev.callG (m := 0) ⟨_, P.len, this⟩ (EvL.cons (Ev.name rfl) EvL.nil)) fun _ => Cmp.leI) fun _ => TsAll.and_nil)) (fun _ => ?_) fun e => ?_
        · refine Exs.assign (Ev.sub (Ev.name rfl) (Ev.bin (Ev.name rfl) Ev.int Bin.subI) (Sub.lst (by omega) (by omega) hget)) rfl ?_
          refine Exs.appendOwn rfl rfl (Ev.ite (Ts.cmp (Ev.name rfl) Ev.none (Cmp.isNot rfl)) (fun e => nomatch e) fun _ => Ev.name (d := T (lv.getD j [])) rfl) hlen ?_
          exact Exs.nil fun fp av h' S' => ⟨.inl rfl, S'.weaken (Sub0.cons rfl (.cons rfl (.cons rfl .nil)))⟩
        · exfalso
          simp only [Bool.true_and, Bool.and_true, Bool.and_eq_false_iff, decide_eq_false_iff_not] at e
          omega
    · rw [show its.take (its.map oi).length = its by rw [List.length_map, List.take_length]]
      exact Exs.retOwn rfl rfl
theorem w_shown_labels (P : Pg W) {k : PySem.Str} {its : List Nat} {lv cls : List Tx} (hl : lv.length ≤ 1000) (hi : ∀ i ∈ its, i ≤ lv.length) (hz : its.length ≤ 1000) (ho : ∀ i ∈ its, okT1 (lb lv i)) : CalG W 8 "shown_labels" [.vec k (.lst (its.map oi)) (fAttr lv cls)] (.lst ((its.map fun i => shown false (lb lv i)).map T)) :=
  CalG.def 48 (P.fns 48 (by decide)) sc_48 ["f"] (by intro pm c d vs h; obtain ⟨_, rfl⟩ := len1 h; rfl) fun L ad pm c d' => by
    refine Exs.assign (Ev.callG (w_vector P) (EvL.cons (Ev.lit rfl) (EvL.cons (Ev.callG (CalOG.cal (w_factor_labels P hl hi hz)) (EvL.cons (Ev.name rfl) (EvL.cons Ev.none EvL.nil))) EvL.nil))) rfl ?_
    exact Exs.ret (Ev.callG (w_item_gen P its (fun i => oT (lb lv i)) (fun i => shown false (lb lv i)) (fun i m => w_format_chr P fun t e => ⟨Nat.le_trans (ho i m t e).1 (by decide), (ho i m t e).2⟩) (by decide +kernel) (by omega)) (EvL.cons (Ev.name rfl) (EvL.cons Ev.int (EvL.cons Ev.bool EvL.nil))))

/-! without items -/
def eT (k : Tx) : Tx := if k = S "double" then S "numeric(0)" else k ++ S "(0)"
def wk : List Tx := [S "double", S "list", S "expression", S "pairlist"]
def wv : List D := [T (S "numeric(0)"), T (S "list()"), T (S "expression()"), T (S "NULL")]
def kinds : List Tx := [S "integer", S "character", S "double", S "logical"]
theorem at_wk {k : Tx} (hk : k ∈ kinds) : (atK (wk.map key) wv (key k)).getD (T (k ++ S "(0)")) = T (eT k) := by
  simp only [kinds, List.mem_cons, List.mem_nil_iff, or_false] at hk
  have e : ∀ k : Tx, k ≠ S "list" → k ≠ S "expression" → k ≠ S "pairlist" → (atK (wk.map key) wv (key k)).getD (T (k ++ S "(0)")) = T (eT k) := fun k h2 h3 h4 => by
    have inj : ∀ a b : Tx, a ≠ b → key b ≠ key a := fun a b h q => h (by unfold key at q; injection q with q; simpa using congrArg Array.toList q.symm)
    unfold wk wv
    simp only [List.map_cons, List.map_nil]
    unfold eT atK
    by_cases h : k = S "double"
    · rw [if_pos h, if_pos (by rw [h])]; rfl
    · rw [if_neg h, if_neg (inj k _ h)]; unfold atK; rw [if_neg (inj k _ h2)]; unfold atK; rw [if_neg (inj k _ h3)]; unfold atK; rw [if_neg (inj k _ h4)]; rfl
  rcases hk with rfl | rfl | rfl | rfl <;> exact e _ (by decide +kernel) (by decide +kernel) (by decide +kernel)
def hasNames : D → Bool
  | .dct ks ds => (atK ks ds (key (S "names"))).isSome
  | _ => false
def pEmpty (k : Tx) (da : D) : Tx := if hasNames da then S "named " ++ eT k else eT k
theorem w_empty (P : Pg W) {k : Tx} {di da : D} (hk : k ∈ kinds) (hda : okAttr da) : CalG W 1 "empty_text" [.vec (key k) di da] (T (pEmpty k da)) :=
  CalG.def 38 (P.fns 38 (by decide)) sc_38 ["v"] (by intro pm c d vs h; obtain ⟨_, rfl⟩ := len1 h; rfl) fun L ad pm c d' => by
    have hl : k.length ≤ 100 := by
      have : ∀ k ∈ kinds, k.length ≤ 100 := by decide +kernel
      exact this k hk
    have hN : k ≠ S "NULL" := by
      have : ∀ k ∈ kinds, k ≠ S "NULL" := by decide +kernel
      exact this k hk
    have hE : (eT k).length ≤ 200 := by
      have : ∀ k ∈ kinds, (eT k).length ≤ 200 := by decide +kernel
      exact this k hk
    have h0 : (PySem.Str.ofString "(0)").cps.toList.length = 3 := by decide +kernel
    have hN6 : (PySem.Str.ofString "named ").cps.toList.length = 6 := by decide +kernel
    refine Exs.assign (Ev.dictS (ks := wk) (vd := wv) (EvPairs.cons (Ev.lit rfl) (Ev.lit rfl) (EvPairs.cons (Ev.lit rfl) (Ev.lit rfl) (EvPairs.cons (Ev.lit rfl) (Ev.lit rfl) (EvPairs.cons (Ev.lit rfl) (Ev.lit rfl) EvPairs.nil)))) (by decide +kernel)) rfl ?_
    refine Exs.ite (Ts.cmp (Ev.attr (Ev.name (d := .vec (key k) di da) rfl) Att.kind) (Ev.lit rfl) Cmp.eqT) (fun e => absurd (of_decide_eq_true e) hN) fun _ => ?_
    refine Exs.assign (G₁ := [("words", .fz (.dct (wk.map key) wv)), ("v", .fz (.vec (key k) di da))]) (d := T (eT k)) (by
      rw [← at_wk hk]
      exact Ev.meth (Ev.name rfl) Mth.get (EvL.cons (Ev.attr (Ev.name (d := .vec (key k) di da) rfl) Att.kind) (EvL.cons (Ev.bin (Ev.attr (Ev.name (d := .vec (key k) di da) rfl) Att.kind) (Ev.lit rfl) (Bin.addT (by omega))) EvL.nil)) .builtin Cal.get2) rfl ?_
    rcases hda with rfl | ⟨ks, ds, rfl⟩
    · refine Exs.ite (Ts.bop (TsAll.and_cons (Ts.cmp (Ev.attr (Ev.name (d := .vec (key k) di .none) rfl) Att.attrs) Ev.none Cmp.notNone) (c := false) fun e => nomatch e)) (fun e => nomatch e) fun _ => ?_
      exact Exs.ret (Ev.name rfl)
    · refine Exs.ite (Ts.bop (TsAll.and_cons (Ts.cmp (Ev.attr (Ev.name (d := .vec (key k) di (.dct ks ds)) rfl) Att.attrs) Ev.none (Cmp.notNot rfl)) fun _ => TsAll.and_cons (Ts.cmp (Ev.lit rfl) (Ev.attr (Ev.name (d := .vec (key k) di (.dct ks ds)) rfl) Att.attrs) Cmp.inD) fun _ => TsAll.and_nil)) (fun e => ?_) fun e => ?_
      · have hh : hasNames (.dct ks ds) = true := by
          have e' : (true && ((atK ks ds (key (S "names"))).isSome && true)) = true := e
          simp only [Bool.true_and, Bool.and_true] at e'
          exact e'
        rw [show pEmpty k (.dct ks ds) = S "named " ++ eT k by unfold pEmpty; rw [if_pos hh]]
        exact Exs.ret (Ev.bin (Ev.lit rfl) (Ev.name rfl) (Bin.addT (by omega)))
      · have hh : hasNames (.dct ks ds) = false := by
          have e' : (true && ((atK ks ds (key (S "names"))).isSome && true)) = false := e
          simp only [Bool.true_and, Bool.and_true] at e'
          exact e'
        rw [show pEmpty k (.dct ks ds) = eT k by unfold pEmpty; rw [hh]; rfl]
        exact Exs.ret (Ev.name rfl)
theorem w_print_empty (P : Pg W) {k : Tx} {di da : D} (hk : k ∈ kinds) (hda : okAttr da) : CalG W 2 "print_empty" [.vec (key k) di da] (.lst ([pEmpty k da].map T)) :=
  CalG.def 39 (P.fns 39 (by decide)) sc_39 ["v"] (by intro pm c d vs h; obtain ⟨_, rfl⟩ := len1 h; rfl) fun L ad pm c d' =>
    Exs.ret (Ev.display (EvL.cons (Ev.callG (w_empty P hk hda) (EvL.cons (Ev.name rfl) EvL.nil)) EvL.nil) (by simp))

/-! print_vector -/
theorem bindV : ∀ (t u : Tok) T pm code doc (vs : List Value), vs.length = 3 → ∃ kk : Option (Array Value) → Sem (List (PySem.Str × Value)), bindArgs (fdR (recAt 44) (recAt 44).name (.ref T) pm code doc) ⟨vs, []⟩ = seqItems? (.ref T) >>= kk ∧ kk (some [Value.int 80 t, .bool true, .int 7 u].toArray) = pure ((["v", "width", "quote", "digits"] : List PySem.Str).zip (vs ++ [.int 7 u])) := by
  intro t u T pm code doc vs h
  obtain ⟨a, b, c, rfl⟩ := len3 h
  exact ⟨_, rfl, rfl⟩
theorem w_print_vector0 (P : Pg W) {k : Tx} {da : D} {q : Bool} {w : Int} (hk : k ∈ kinds) (hda : okAttr da) : CalG W 9 "print_vector" [.vec (key k) (.lst []) da, .int w, .bool q] (.lst ([pEmpty k da].map T)) := by
  obtain ⟨t, u, hs⟩ := P.d44
  exact CalG.defD 44 hs sc_44 3 ["v", "width", "quote", "digits"] (dv := [.int 7 u]) (dd := [.int 7]) (bindV t u) (fun _ _ => .cons (.int _ _) .nil) fun L ad T' pm cd d' =>
    Exs.ite (Ts.not (Ts.val (Ev.attr (Ev.name (d := .vec (key k) (.lst []) da) rfl) Att.items) (Tru.lst (by decide)))) (fun _ => Exs.ret (Ev.callG (w_print_empty P hk hda) (EvL.cons (Ev.name rfl) EvL.nil))) fun e => nomatch e
theorem w_print_vector (P : Pg W) {k : Tx} {d0 : D} {ds : List D} {da : D} {q : Bool} {w : Int} {l : List Tx} {names : Option (List (Option Tx))} (hi : CalG W 7 "item_texts" [.vec (key k) (.lst (d0 :: ds)) da, .int 7, .bool q] (.lst (l.map T))) (hnm : CalG W 3 "names_of" [.vec (key k) (.lst (d0 :: ds)) da] (onD names))
    (hl2 : ds.length ≤ 1000) (hz : Sz 100 l) (hl : l.length ≤ 50) (h0 : 0 < l.length) (hn : ∀ ns, names = some ns → ns.length ≤ 50 ∧ ∀ o ∈ ns, okT1 o) (hw : 0 ≤ w ∧ w ≤ 10000) (hsz : wd l ≤ 50) (hz2 : Sz 50 l) :
    CalG W 9 "print_vector" [.vec (key k) (.lst (d0 :: ds)) da, .int w, .bool q] (.lst ((txRows l (decide (k ≠ S "character")) names w).map T)) := by
  obtain ⟨t, u, hs⟩ := P.d44
  exact CalG.defD 44 hs sc_44 3 ["v", "width", "quote", "digits"] (dv := [.int 7 u]) (dd := [.int 7]) (bindV t u) (fun _ _ => .cons (.int _ _) .nil) fun L ad T' pm cd d' =>
    Exs.ite (Ts.not (Ts.val (Ev.attr (Ev.name (d := .vec (key k) (.lst (d0 :: ds)) da) rfl) Att.items) (Tru.lst (by simp; omega)))) (fun e => nomatch e) fun _ =>
    Exs.ret (Ev.callG (CalOG.cal (w_text_rows P hz hl h0 hn hw hsz hz2)) (EvL.cons (Ev.callG hi (EvL.cons (Ev.name rfl) (EvL.cons (Ev.name rfl) (EvL.cons (Ev.name rfl) EvL.nil)))) (EvL.cons (Ev.cmp (Ev.attr (Ev.name rfl) Att.kind) (Ev.lit rfl) Cmp.neT) (EvL.cons (Ev.callG hnm (EvL.cons (Ev.name rfl) EvL.nil)) (EvL.cons (Ev.name rfl) EvL.nil)))))
end
end Mine

/-! M27 -/
set_option maxHeartbeats 4000000
namespace Mine
section
variable {W : Wr} {n : Nat} {env : Env} {G : Ga}
def lvStep (room : Int) (s : Int × Int) (t : Tx) : Int × Int := (s.1 + 1 + (t.length : Int), if s.1 + 1 + (t.length : Int) ≤ room then s.2 + 1 else s.2)
def lvSt (room : Int) (l : List Tx) : Int × Int := l.foldl (lvStep room) (0, 0)
def shownL (l : List Tx) (most : Int) : List Tx := pyS none (some (max 1 (most - 1))) l ++ [S "..."] ++ (if 1 < most then [l.getD (l.length - 1) []] else [])
def sepT (o : Bool) : Tx := if o then S " < " else S " "
def lvRow (l : List Tx) (o : Bool) (width : Int) : Tx :=
  if (l.length : Int) ≤ 1 ∨ (lvSt (width - 15) l).2 = l.length then S "Levels: " ++ joinT (sepT o) l
  else itoa l.length ++ S " Levels: " ++ joinT (sepT o) (shownL l (max 1 (lvSt (width - 15) l).2))
theorem sep_len (o : Bool) : (sepT o).length ≤ 3 := by cases o <;> decide +kernel
theorem join_small {o : Bool} {l : List Tx} (h : Sz 100 l) (hl : l.length ≤ 50) : (l.map (·.length)).sum + l.length * (sepT o).length ≤ 10000 ∧ (joinT (sepT o) l).length ≤ 10000 := by
  have h1 := sum_len h
  have h2 := joinT_len (sepT o) l
  have h3 := sep_len o
  have : l.length * (sepT o).length ≤ 50 * 3 := Nat.mul_le_mul hl h3
  omega
theorem w_levels_row (P : Pg W) {lv : List Tx} {o : Bool} {width : Int} (ho : ∀ t ∈ lv, okT1 (some t)) (hl : lv.length ≤ 40) : CalG W 4 "levels_row" [.lst (lv.map T), .bool o, .int width] (T (lvRow (lv.map fun t => shown false (some t)) o width)) :=
  CalG.def 45 (P.fns 45 (by decide)) sc_45 ["levels", "ordered", "width"] (by intro pm c d vs h; obtain ⟨_, _, _, rfl⟩ := len3 h; rfl) fun L ad pm c d' => by
    refine Exs.assign (G₁ := pars ["levels", "ordered", "width"] [.lst (lv.map T), .bool o, .int width]) (d := T (sepT o)) (Ev.ite (Ts.val (Ev.name rfl) Tru.bool) (fun e => by rw [show sepT o = S " < " by unfold sepT; rw [e]; rfl]; exact Ev.lit rfl) (fun e => by rw [show sepT o = S " " by unfold sepT; rw [e]; rfl]; exact Ev.lit rfl)) rfl ?_
    refine Exs.assignCompAll lv T (fun t => T (shown false (some t))) [] (Ev.name rfl) Itr.lst (by omega) ⟨(by intro _; rfl), rfl, SubC.nil, rfl, rfl, rfl, rfl, GcOk.nil⟩ (fun t m C => Ev.callG (w_encode P (o := some t) (q := false) (fun t' e => ⟨Nat.le_trans (ho t m t' e).1 (by decide), (ho t m t' e).2⟩)) (EvL.cons (Ev.name rfl) (EvL.cons Ev.bool EvL.nil))) rfl ?_
    have hz : Sz 100 (lv.map fun t => shown false (some t)) := fun t m => by
      obtain ⟨x, hx, rfl⟩ := List.mem_map.mp m
      exact Nat.le_trans (shown_len (ho x hx) false) (by decide)
    have hm : (lv.map fun t => T (shown false (some t))) = (lv.map fun t => shown false (some t)).map T := by rw [List.map_map]; rfl
    have hll : (lv.map fun t => shown false (some t)).length ≤ 40 := by rw [List.length_map]; exact hl
    rw [hm]
    generalize (lv.map fun t => shown false (some t)) = l at hz hll
    refine Exs.freeze (x := "texts") rfl ?_
    refine Exs.assign (Ev.bin (Ev.name rfl) Ev.int Bin.subI) rfl ?_
    refine Exs.assign Ev.int rfl ?_
    refine Exs.assign Ev.int rfl ?_
    refine Exs.for_ (d := .lst (l.map T))
      (fun i => [("fitting", .fz (.int (lvSt (width - 15) (l.take i)).2)), ("total", .fz (.int (lvSt (width - 15) (l.take i)).1)), ("room", .fz (.int (width - 15))), ("texts", .fz (.lst (l.map T))), ("between", .fz (T (sepT o)))])
      (Ev.name rfl) Itr.lst rfl (Sub0.cons rfl (.cons rfl (.cons rfl (.cons rfl (.cons rfl .nil))))) (fun i d' hd => ?_) ?_
    · rw [List.getElem?_map] at hd
      obtain ⟨t, ht, rfl⟩ := Option.map_eq_some_iff.mp hd
      have h1 := hz t (List.mem_of_getElem? ht)
      have es : lvSt (width - 15) (l.take (i + 1)) = lvStep (width - 15) (lvSt (width - 15) (l.take i)) t := take_foldT _ _ _ _ _ ht
      rw [es]
      generalize lvSt (width - 15) (l.take i) = s
      refine Exs.assign (Ev.bin (Ev.bin (Ev.name rfl) Ev.int Bin.addI) (Ev.callG (m := 0) ⟨_, P.len, Cal.lenT (by omega)⟩ (EvL.cons (Ev.name rfl) EvL.nil)) Bin.addI) rfl ?_
      refine Exs.ite (Ts.cmp (Ev.name rfl) (Ev.name rfl) Cmp.leI) (fun e => ?_) fun e => ?_
      · have e' := of_decide_eq_true e
        refine Exs.assign (Ev.bin (Ev.name rfl) Ev.int Bin.addI) rfl ?_
        exact Exs.nil fun fp av h' S' => ⟨.inl rfl, S'.weaken (Sub0.cons (by show _ = some (B.fz (D.int (if s.1 + 1 + (t.length : Int) ≤ width - 15 then s.2 + 1 else s.2))); rw [if_pos e']; rfl) (.cons rfl (.cons rfl (.cons rfl (.cons rfl .nil)))))⟩
      · have e' := of_decide_eq_false e
        exact Exs.nil fun fp av h' S' => ⟨.inl rfl, S'.weaken (Sub0.cons (by show _ = some (B.fz (D.int (if s.1 + 1 + (t.length : Int) ≤ width - 15 then s.2 + 1 else s.2))); rw [if_neg e']; rfl) (.cons rfl (.cons rfl (.cons rfl (.cons rfl .nil)))))⟩
    · rw [show l.take (l.map T).length = l by rw [List.length_map, List.take_length]]
      unfold lvRow
      generalize (lvSt (width - 15) l).2 = fit
      obtain ⟨j1, j2⟩ := join_small (o := o) hz (by omega)
      have cl : Cal W 0 (.builtin "len") [.lst (l.map T)] (.int l.length) := by
        have := Cal.lenL (W := W) (n := 0) (ds := l.map T) (by rw [List.length_map]; omega)
        rwa [List.length_map] at this
      have hL8 : (PySem.Str.ofString "Levels: ").cps.toList.length = 8 := by decide +kernel
      have hL9 : (PySem.Str.ofString " Levels: ").cps.toList.length = 9 := by decide +kernel
      have hL9' : (S " Levels: ").length = 9 := hL9
      have hI := itoa_len (a := (l.length : Int)) (by omega)
      refine Exs.ite (Ts.bop (TsAll.or_cons (Ts.cmp (Ev.callG (m := 0) ⟨_, P.len, cl⟩ (EvL.cons (Ev.name rfl) EvL.nil)) Ev.int Cmp.leI) fun _ => TsAll.or_cons (Ts.cmp (Ev.name rfl) (Ev.callG (m := 0) ⟨_, P.len, cl⟩ (EvL.cons (Ev.name rfl) EvL.nil)) Cmp.eqI) fun _ => TsAll.or_nil)) (fun e => ?_) fun e => ?_
      · have e' : (l.length : Int) ≤ 1 ∨ fit = l.length := by simpa using e
        rw [if_pos e']
        exact Exs.ret (Ev.bin (Ev.lit rfl) (Ev.meth (Ev.name rfl) Mth.join (EvL.cons (Ev.name rfl) EvL.nil) .builtin (Cal.joinT (Nat.le_trans j1 (by decide)))) (Bin.addT (by omega)))
      · have e' : ¬ ((l.length : Int) ≤ 1 ∨ fit = l.length) := by
          simp only [Bool.or_false, Bool.or_eq_false_iff, decide_eq_false_iff_not] at e; omega
        rw [if_neg e']
        have h2 : 2 ≤ l.length := by omega
        refine Exs.assign (Ev.callG (m := 0) ⟨_, P.max, Cal.maxI⟩ (EvL.cons Ev.int (EvL.cons (Ev.name rfl) EvL.nil))) rfl ?_
        generalize max 1 fit = most
        have hpl := pyS_len none (some (max 1 (most - 1))) l
        have hps := pyS_sz (lo := none) (hi := some (max 1 (most - 1))) hz
        have h3d : (S "...").length = 3 := by decide +kernel
        refine Exs.assignO (ds := ((pyS none (some (max 1 (most - 1))) l ++ [S "..."]).map T)) (EvO.bin (Ev.sub (d := .lst ((pyS none (some (max 1 (most - 1))) l).map T)) (Ev.name rfl) (Ev.slice (lo := none) (hi := some _) trivial (Ev.callG (m := 0) ⟨_, P.max, Cal.maxI⟩ (EvL.cons Ev.int (EvL.cons (Ev.bin (Ev.name rfl) Ev.int Bin.subI) EvL.nil)))) (by
          have := Sub.slcL (W := W) (n := 3) (ds := l.map T) (lo := none) (hi := some (max 1 (most - 1))) (by rw [List.length_map]; omega)
          rwa [pyS_map] at this)) (Ev.display (EvL.cons (Ev.lit rfl) EvL.nil) (by decide)) (by
          rw [List.map_append]
          exact BinO.addL (by rw [List.length_map]; show _ + 1 ≤ _; omega))) rfl ?_
        have lastT : (l.map T)[((l.length : Int) - 1).toNat]? = some (T (l.getD (l.length - 1) [])) := by
          rw [show ((l.length : Int) - 1).toNat = l.length - 1 by omega, List.getElem?_map, List.getD_eq_getElem?_getD, List.getElem?_eq_getElem (by omega : l.length - 1 < l.length)]; rfl
        have fin : ∀ (sh : List Tx), Sz 100 sh → sh.length ≤ 50 → (joinT (sepT o) sh).length ≤ 10000 ∧ (sh.map (·.length)).sum + sh.length * (sepT o).length ≤ 10000 := fun sh a b => ⟨(join_small a b).2, (join_small a b).1⟩
        refine Exs.ite (Ts.cmp (Ev.name rfl) Ev.int Cmp.gtI) (fun e => ?_) fun e => ?_
        · have e1 := of_decide_eq_true e
          have es : shownL l most = pyS none (some (max 1 (most - 1))) l ++ [S "..."] ++ [l.getD (l.length - 1) []] := by unfold shownL; rw [if_pos e1]
          rw [es]
          have hss : Sz 100 (pyS none (some (max 1 (most - 1))) l ++ [S "..."] ++ [l.getD (l.length - 1) []]) := fun t m => by
            rcases List.mem_append.mp m with m | m
            · rcases List.mem_append.mp m with m | m
              · exact hps t m
              · rw [List.mem_singleton] at m; rw [m]; omega
            · rw [List.mem_singleton] at m; rw [m]; exact getD_len hz _
          have hsl : (pyS none (some (max 1 (most - 1))) l ++ [S "..."] ++ [l.getD (l.length - 1) []]).length ≤ 50 := by
            rw [List.length_append, List.length_append, List.length_singleton, List.length_singleton]; omega
          obtain ⟨f1, f2⟩ := fin _ hss hsl
          refine Exs.appendOwn rfl rfl (Ev.sub (Ev.name rfl) (Ev.bin (Ev.callG (m := 0) ⟨_, P.len, cl⟩ (EvL.cons (Ev.name rfl) EvL.nil)) Ev.int Bin.subI) (Sub.lst (by omega) (by omega) lastT)) (by rw [List.length_map, List.length_append, List.length_singleton]; omega) ?_
          rw [show ((pyS none (some (max 1 (most - 1))) l ++ [S "..."]).map T) ++ [T (l.getD (l.length - 1) [])] = (pyS none (some (max 1 (most - 1))) l ++ [S "..."] ++ [l.getD (l.length - 1) []]).map T by simp only [List.map_append, List.map_cons, List.map_nil]]
          generalize pyS none (some (max 1 (most - 1))) l ++ [S "..."] ++ [l.getD (l.length - 1) []] = sh at f1 f2
          refine Exs.freeze (x := "shown") rfl ?_
          rw [show itoa l.length ++ S " Levels: " ++ joinT (sepT o) sh = [itoa l.length, S " Levels: "].flatten ++ joinT (sepT o) sh by simp]
          exact Exs.ret (Ev.bin (Ev.joined (ts := [itoa l.length, S " Levels: "]) ⟨Ev.fmtI (Ev.callG (m := 0) ⟨_, P.len, cl⟩ (EvL.cons (Ev.name rfl) EvL.nil)) (by omega), Ev.lit rfl, trivial⟩ (by simp only [List.map_cons, List.map_nil, List.sum_cons, List.sum_nil]; omega)) (Ev.meth (Ev.name rfl) Mth.join (EvL.cons (Ev.name rfl) EvL.nil) .builtin (Cal.joinT (Nat.le_trans f2 (by decide)))) (Bin.addT (by
            simp only [List.flatten_cons, List.flatten_nil, List.append_nil, List.length_append]; omega)))
        · have e1 := of_decide_eq_false e
          have es : shownL l most = pyS none (some (max 1 (most - 1))) l ++ [S "..."] := by unfold shownL; rw [if_neg e1, List.append_nil]
          rw [es]
          have hss : Sz 100 (pyS none (some (max 1 (most - 1))) l ++ [S "..."]) := fun t m => by
            rcases List.mem_append.mp m with m | m
            · exact hps t m
            · rw [List.mem_singleton] at m; rw [m]; omega
          have hsl : (pyS none (some (max 1 (most - 1))) l ++ [S "..."]).length ≤ 50 := by
            rw [List.length_append, List.length_singleton]; omega
          obtain ⟨f1, f2⟩ := fin _ hss hsl
          generalize pyS none (some (max 1 (most - 1))) l ++ [S "..."] = sh at f1 f2
          refine Exs.freeze (x := "shown") rfl ?_
          rw [show itoa l.length ++ S " Levels: " ++ joinT (sepT o) sh = [itoa l.length, S " Levels: "].flatten ++ joinT (sepT o) sh by simp]
          exact Exs.ret (Ev.bin (Ev.joined (ts := [itoa l.length, S " Levels: "]) ⟨Ev.fmtI (Ev.callG (m := 0) ⟨_, P.len, cl⟩ (EvL.cons (Ev.name rfl) EvL.nil)) (by omega), Ev.lit rfl, trivial⟩ (by simp only [List.map_cons, List.map_nil, List.sum_cons, List.sum_nil]; omega)) (Ev.meth (Ev.name rfl) Mth.join (EvL.cons (Ev.name rfl) EvL.nil) .builtin (Cal.joinT (Nat.le_trans f2 (by decide)))) (Bin.addT (by
            simp only [List.flatten_cons, List.flatten_nil, List.append_nil, List.length_append]; omega)))

/-! factors -/
theorem w_is_ordered (P : Pg W) {k : PySem.Str} {di : D} {lv cls : List Tx} : CalG W 1 "is_ordered" [.vec k di (fAttr lv cls)] (.bool (cls.contains (S "ordered"))) :=
  CalG.def 46 (P.fns 46 (by decide)) sc_46 ["f"] (by intro pm c d vs h; obtain ⟨_, rfl⟩ := len1 h; rfl) fun L ad pm c d' =>
    Exs.ret (Ev.and2 (Ev.cmp (Ev.lit rfl) (Ev.attr (Ev.name (d := .vec k di (fAttr lv cls)) rfl) Att.attrs) (Cmp.inD (ks := [key (S "levels"), key (S "class")]) (ds := [chV lv, chV cls]))) (fun _ => Ev.cmp (Ev.lit rfl) (Ev.attr (Ev.sub (d := .vec (key (S "character")) (.lst (cls.map T)) .none) (Ev.attr (Ev.name (d := .vec k di (fAttr lv cls)) rfl) Att.attrs) (Ev.lit rfl) (Sub.dct (ks := [key (S "levels"), key (S "class")]) (ds := [chV lv, chV cls]) (at_cls lv cls))) Att.items) Cmp.inL) fun e => by
      have : (atK [key (S "levels"), key (S "class")] [chV lv, chV cls] (key (S "class"))).isSome = false := e
      rw [at_cls] at this; cases this)
def fRows (its : List Nat) (lv : List Tx) (o : Bool) (w : Int) : List Tx := if its = [] then (if o then [S "ordered(0)"] else [S "factor(0)"]) else txRows (its.map fun i => shown false (lb lv i)) false none w
theorem bindF : ∀ (t : Tok) T pm code doc (vs : List Value), vs.length = 2 → ∃ kk : Option (Array Value) → Sem (List (PySem.Str × Value)), bindArgs (fdR (recAt 47) (recAt 47).name (.ref T) pm code doc) ⟨vs, []⟩ = seqItems? (.ref T) >>= kk ∧ kk (some [Value.int 80 t].toArray) = pure ((["f", "width"] : List PySem.Str).zip (vs ++ [])) := by
  intro t T pm code doc vs h
  obtain ⟨a, b, rfl⟩ := len2 h
  exact ⟨_, rfl, rfl⟩
theorem w_print_factor (P : Pg W) {its : List Nat} {lv cls : List Tx} {w : Int} (hl : lv.length ≤ 40) (hi : ∀ i ∈ its, i ≤ lv.length) (hz : its.length ≤ 50) (ho : ∀ i ∈ its, okT1 (lb lv i)) (hov : ∀ t ∈ lv, okT1 (some t)) (hw : 0 ≤ w ∧ w ≤ 10000) (hsz2 : Sz 50 (its.map fun i => shown false (lb lv i))) (hrow : (fRows its lv (cls.contains (S "ordered")) w).length ≤ 5000) :
    CalG W 9 "print_factor" [.vec (key (S "integer")) (.lst (its.map oi)) (fAttr lv cls), .int w] (.lst ((fRows its lv (cls.contains (S "ordered")) w ++ [lvRow (lv.map fun t => shown false (some t)) (cls.contains (S "ordered")) w]).map T)) := by
  obtain ⟨t, hs⟩ := P.d47
  generalize ho' : cls.contains (S "ordered") = o at hrow
  have cOrd : CalG W 1 "is_ordered" [.vec (key (S "integer")) (.lst (its.map oi)) (fAttr lv cls)] (.bool o) := ho' ▸ w_is_ordered P
  have cLev := w_levels_row P (o := o) (width := w) hov hl
  generalize (lvRow (lv.map fun t => shown false (some t)) o w) = lr at cLev
  exact CalG.defD 47 hs sc_47 2 ["f", "width"] (dd := []) (bindF t) (fun _ _ => .nil) fun L ad T' pm cd d' => by
    refine Exs.assign (Ev.callG (w_level_texts P (by omega)) (EvL.cons (Ev.name rfl) EvL.nil)) rfl ?_
    have tru := Tru.lst (W := W) (n := 8) (ds := its.map oi) (by rw [List.length_map]; omega)
    refine Exs.ite (Ts.val (Ev.attr (Ev.name (d := .vec (key (S "integer")) (.lst (its.map oi)) (fAttr lv cls)) rfl) Att.items) tru) (fun e => ?_) fun e => ?_
    · have ne : its ≠ [] := fun q => by rw [q] at e; cases e
      have er : fRows its lv o w = txRows (its.map fun i => shown false (lb lv i)) false none w := by unfold fRows; rw [if_neg ne]
      rw [er] at hrow ⊢
      have hpos : 0 < its.length := List.length_pos_iff.mpr ne
      obtain ⟨q1, q2⟩ := wd_bounds hsz2
      refine Exs.assignO (EvO.callG (w_text_rows P (l := its.map fun i => shown false (lb lv i)) (right := false) (names := none) (hsz2.mono (by decide)) (by rw [List.length_map]; exact hz) (by rw [List.length_map]; exact hpos) (fun _ e => nomatch e) hw q2 hsz2)
        (EvL.cons (Ev.callG (w_shown_labels P (by omega) hi (by omega) ho) (EvL.cons (Ev.name rfl) EvL.nil)) (EvL.cons Ev.bool (EvL.cons (Ev.callG (w_names_none P (k := S "integer") (.inr ⟨_, _, rfl⟩) (by
          show (atK [key (S "levels"), key (S "class")] [chV lv, chV cls] (key (S "dim"))).getD .none = .none
          rw [at_none lv cls (by decide +kernel) (by decide +kernel)]; rfl) (by
          show (atK [key (S "levels"), key (S "class")] [chV lv, chV cls] (key (S "names"))).getD .none = .none
          rw [at_none lv cls (by decide +kernel) (by decide +kernel)]; rfl) (by decide +kernel) (by decide +kernel)) (EvL.cons (Ev.name rfl) EvL.nil)) (EvL.cons (Ev.name rfl) EvL.nil))))) rfl ?_
      rw [List.map_append]
      exact Exs.appendOwn rfl rfl (Ev.callG cLev (EvL.cons (Ev.name rfl) (EvL.cons (Ev.callG cOrd (EvL.cons (Ev.name rfl) EvL.nil)) (EvL.cons (Ev.name rfl) EvL.nil)))) (by rw [List.length_map]; omega) <| Exs.freeze (x := "rows") rfl <| Exs.ret (Ev.name rfl)
    · have ee : its = [] := by
        cases its with
        | nil => rfl
        | cons => cases e
      subst ee
      have er : fRows [] lv o w = if o then [S "ordered(0)"] else [S "factor(0)"] := by unfold fRows; rw [if_pos rfl]
      rw [er]
      refine Exs.ite (Ts.val (Ev.callG cOrd (EvL.cons (Ev.name rfl) EvL.nil)) Tru.bool) (fun e => ?_) fun e => ?_
      · subst e
        refine Exs.assignO (EvO.display (EvL.cons (Ev.lit rfl) EvL.nil) (by simp)) rfl ?_
        exact Exs.appendOwn rfl rfl (Ev.callG cLev (EvL.cons (Ev.name rfl) (EvL.cons (Ev.callG cOrd (EvL.cons (Ev.name rfl) EvL.nil)) (EvL.cons (Ev.name rfl) EvL.nil)))) (by simp) <| Exs.freeze (x := "rows") rfl <| Exs.ret (Ev.name rfl)
      · subst e
        refine Exs.assignO (EvO.display (EvL.cons (Ev.lit rfl) EvL.nil) (by simp)) rfl ?_
        exact Exs.appendOwn rfl rfl (Ev.callG cLev (EvL.cons (Ev.name rfl) (EvL.cons (Ev.callG cOrd (EvL.cons (Ev.name rfl) EvL.nil)) (EvL.cons (Ev.name rfl) EvL.nil)))) (by simp) <| Exs.freeze (x := "rows") rfl <| Exs.ret (Ev.name rfl)
end
end Mine

/-! M28 -/
set_option maxHeartbeats 4000000
namespace Mine
section
variable {W : Wr} {n : Nat} {env : Env} {G : Ga}
theorem sc_50 : Sc (recAt 50) := ⟨rfl, rfl, rfl, by decide +kernel⟩
theorem sc_51 : Sc (recAt 51) := ⟨rfl, rfl, rfl, by decide +kernel⟩
theorem sc_52 : Sc (recAt 52) := ⟨rfl, rfl, rfl, by decide +kernel⟩
theorem sc_53 : Sc (recAt 53) := ⟨rfl, rfl, rfl, by decide +kernel⟩
theorem sc_54 : Sc (recAt 54) := ⟨rfl, rfl, rfl, by decide +kernel⟩
theorem sc_55 : Sc (recAt 55) := ⟨rfl, rfl, rfl, by decide +kernel⟩
theorem sc_56 : Sc (recAt 56) := ⟨rfl, rfl, rfl, by decide +kernel⟩
theorem sc_57 : Sc (recAt 57) := ⟨rfl, rfl, rfl, by decide +kernel⟩

/-! the hand -/
structure Hst where
  i : Int
  c : Int
  s : Int
def hD (l : List Int) (h : Hst) : List D := [.lst (ilist l), .int h.i, .int h.c, .int h.s]
def pk (l : List Int) (lim : Int) (h : Hst) : Hst × Int :=
  if h.c = 0 then
    if h.i = l.length then (⟨h.i, h.c, (h.s * 48271).fmod 2147483647⟩, (((h.s * 48271).fmod 2147483647).fdiv 7).fmod lim)
    else (⟨h.i + 1, (if 0 ≤ l.getD h.i.toNat 0 then l.getD h.i.toNat 0 else - l.getD h.i.toNat 0).fdiv lim, h.s⟩, (if 0 ≤ l.getD h.i.toNat 0 then l.getD h.i.toNat 0 else - l.getD h.i.toNat 0).fmod lim)
  else (⟨h.i, h.c.fdiv lim, h.s⟩, h.c.fmod lim)
def okH (l : List Int) (h : Hst) : Prop := l.length ≤ 63 ∧ 0 ≤ h.i ∧ h.i ≤ l.length
theorem pk_ok {l : List Int} {lim : Int} {h : Hst} (hl : 0 < lim) (ho : okH l h) : okH l (pk l lim h).1 ∧ 0 ≤ (pk l lim h).2 ∧ (pk l lim h).2 < lim := by
  have b : ∀ a : Int, 0 ≤ a.fmod lim ∧ a.fmod lim < lim := fun a => ⟨Int.fmod_nonneg_of_pos _ hl, Int.fmod_lt_of_pos _ hl⟩
  obtain ⟨h1, h2, h3⟩ := ho
  unfold pk
  split
  · split
    · exact ⟨⟨h1, h2, h3⟩, b _⟩
    · exact ⟨⟨h1, by show 0 ≤ h.i + 1; omega, by show h.i + 1 ≤ _; omega⟩, b _⟩
  · exact ⟨⟨h1, h2, h3⟩, b _⟩
theorem w_pick (P : Pg W) {l : List Int} {lim : Int} {h : Hst} (ho : okH l h) (hl : 0 < lim ∧ lim < 1000) : CalMG W 1 "_law_pick" (hD l h) [.int lim] (hD l (pk l lim h).1) (.int (pk l lim h).2) :=
  CalMG.def (x := "hand") 50 (P.fns 50 (by decide)) sc_50 ["limit"] (by intro pm c d vs h; obtain ⟨_, _, rfl⟩ := len2 h; rfl) fun L ad pm c d al => by
    obtain ⟨h1, h2, h3⟩ := ho
    have hlen : (ilist l).length = l.length := by unfold ilist; rw [List.length_map]
    have cl : Cal W 0 (.builtin "len") [.lst (ilist l)] (.int l.length) := by
      have := Cal.lenL (W := W) (n := 0) (ds := ilist l) (by rw [hlen]; omega)
      rwa [hlen] at this
    unfold hD
    refine Exs.ite (Ts.cmp (Ev.subOwn rfl Ev.int (by first | rfl | decide | omega | (simp; omega) | simp) (by first | rfl | decide | omega | (simp; omega) | simp) (by first | rfl | decide | omega | (simp; omega) | simp)) Ev.int Cmp.eqI) (fun e => ?_) fun e => ?_
    · have e0 := of_decide_eq_true e
      refine Exs.ite (Ts.cmp (Ev.subOwn rfl Ev.int (by first | rfl | decide | omega | (simp; omega) | simp) (by first | rfl | decide | omega | (simp; omega) | simp) (by first | rfl | decide | omega | (simp; omega) | simp)) (Ev.callG (m := 0) ⟨_, P.len, cl⟩ (EvL.cons (Ev.subOwn rfl Ev.int (by first | rfl | decide | omega | (simp; omega) | simp) (by first | rfl | decide | omega | (simp; omega) | simp) (by first | rfl | decide | omega | (simp; omega) | simp)) EvL.nil)) Cmp.eqI) (fun e => ?_) fun e => ?_
      · have e1 := of_decide_eq_true e
        have ep : pk l lim h = (⟨h.i, h.c, (h.s * 48271).fmod 2147483647⟩, (((h.s * 48271).fmod 2147483647).fdiv 7).fmod lim) := by unfold pk; rw [if_pos e0, if_pos e1]
        rw [ep]
        refine Exs.setSub rfl (Ev.bin (Ev.bin (Ev.subOwn rfl Ev.int (by first | rfl | decide | omega | (simp; omega) | simp) (by first | rfl | decide | omega | (simp; omega) | simp) (by first | rfl | decide | omega | (simp; omega) | simp)) Ev.int (Bin.mulI (by first | (left; omega) | (right; omega) | (left; decide) | (right; decide)))) Ev.int (Bin.modI (by first | rfl | decide | omega | (simp; omega) | simp))) Ev.int (by decide) (by simp) (by simp) ?_
        exact Exs.retM (x := "hand") (Ev.bin (Ev.bin (Ev.subOwn rfl Ev.int (by first | rfl | decide | omega | (simp; omega) | simp) (by first | rfl | decide | omega | (simp; omega) | simp) (by first | rfl | decide | omega | (simp; omega) | simp)) Ev.int (Bin.divI (by first | rfl | decide | omega | (simp; omega) | simp) (by first | rfl | decide | omega | (simp; omega) | simp))) (Ev.name rfl) (Bin.modI (by first | rfl | decide | omega | (simp; omega) | simp))) rfl
      · have e1 := of_decide_eq_false e
        have hlt : h.i.toNat < l.length := by omega
        have hg : (ilist l)[h.i.toNat]? = some (.int (l.getD h.i.toNat 0)) := by
          unfold ilist
          rw [List.getElem?_map, List.getElem?_eq_getElem hlt, List.getD_eq_getElem?_getD, List.getElem?_eq_getElem hlt]; rfl
        have ep : pk l lim h = (⟨h.i + 1, (if 0 ≤ l.getD h.i.toNat 0 then l.getD h.i.toNat 0 else - l.getD h.i.toNat 0).fdiv lim, h.s⟩, (if 0 ≤ l.getD h.i.toNat 0 then l.getD h.i.toNat 0 else - l.getD h.i.toNat 0).fmod lim) := by unfold pk; rw [if_pos e0, if_neg e1]
        rw [ep]
        generalize l.getD h.i.toNat 0 = f at hg
        refine Exs.assign (Ev.sub (Ev.subOwn rfl Ev.int (by first | rfl | decide | omega | (simp; omega) | simp) (by first | rfl | decide | omega | (simp; omega) | simp) (by first | rfl | decide | omega | (simp; omega) | simp)) (Ev.subOwn rfl Ev.int (by first | rfl | decide | omega | (simp; omega) | simp) (by first | rfl | decide | omega | (simp; omega) | simp) (by first | rfl | decide | omega | (simp; omega) | simp)) (Sub.lst h2 (by omega) hg)) rfl ?_
        refine Exs.setSub rfl (Ev.bin (Ev.subOwn rfl Ev.int (by first | rfl | decide | omega | (simp; omega) | simp) (by first | rfl | decide | omega | (simp; omega) | simp) (by first | rfl | decide | omega | (simp; omega) | simp)) Ev.int Bin.addI) Ev.int (by decide) (by simp) (by simp) ?_
        refine Exs.setSub (d := .int (if 0 ≤ f then f else -f)) rfl (Ev.ite (Ts.cmp (Ev.name rfl) Ev.int Cmp.geI) (fun hb => by rw [if_pos (of_decide_eq_true hb)]; exact Ev.name rfl) fun hb => by rw [if_neg (of_decide_eq_false hb)]; exact (Ev.una (Ev.name rfl) Una.negI)) Ev.int (by decide) (by simp) (by simp) ?_
        refine Exs.assign (Ev.bin (Ev.subOwn rfl Ev.int (by first | rfl | decide | omega | (simp; omega) | simp) (by first | rfl | decide | omega | (simp; omega) | simp) (by first | rfl | decide | omega | (simp; omega) | simp)) (Ev.name rfl) (Bin.modI (by first | rfl | decide | omega | (simp; omega) | simp))) rfl ?_
        refine Exs.setSub rfl (Ev.bin (Ev.subOwn rfl Ev.int (by first | rfl | decide | omega | (simp; omega) | simp) (by first | rfl | decide | omega | (simp; omega) | simp) (by first | rfl | decide | omega | (simp; omega) | simp)) (Ev.name rfl) (Bin.divI (by first | rfl | decide | omega | (simp; omega) | simp) (by first | rfl | decide | omega | (simp; omega) | simp))) Ev.int (by decide) (by simp) (by simp) ?_
        exact Exs.retM (x := "hand") (Ev.name rfl) rfl
    · have e0 := of_decide_eq_false e
      have ep : pk l lim h = (⟨h.i, h.c.fdiv lim, h.s⟩, h.c.fmod lim) := by unfold pk; rw [if_neg e0]
      rw [ep]
      refine Exs.assign (Ev.bin (Ev.subOwn rfl Ev.int (by first | rfl | decide | omega | (simp; omega) | simp) (by first | rfl | decide | omega | (simp; omega) | simp) (by first | rfl | decide | omega | (simp; omega) | simp)) (Ev.name rfl) (Bin.modI (by first | rfl | decide | omega | (simp; omega) | simp))) rfl ?_
      refine Exs.setSub rfl (Ev.bin (Ev.subOwn rfl Ev.int (by first | rfl | decide | omega | (simp; omega) | simp) (by first | rfl | decide | omega | (simp; omega) | simp) (by first | rfl | decide | omega | (simp; omega) | simp)) (Ev.name rfl) (Bin.divI (by first | rfl | decide | omega | (simp; omega) | simp) (by first | rfl | decide | omega | (simp; omega) | simp))) Ev.int (by decide) (by simp) (by simp) ?_
      exact Exs.retM (x := "hand") (Ev.name rfl) rfl
end
end Mine

/-! M29 -/
set_option maxHeartbeats 4000000
namespace Mine
section
variable {W : Wr} {n : Nat} {env : Env} {G : Ga}

/-! the law's words and figures -/
def words : List Tx := [S "a", S "bb", S "", S "c\"d", S "e\\f", S "g\nh", S "long word here", S "é"]
theorem wl_words (P : Pg W) : CalG W 1 "_law_words" [] (.lst (words.map T)) :=
  CalG.def 51 (P.fns 51 (by decide)) sc_51 [] (by intro pm c d vs h; obtain rfl := len0 h; rfl) fun L ad pm c d =>
    Exs.ret (Ev.display (EvL.cons (Ev.lit rfl) (EvL.cons (Ev.lit rfl) (EvL.cons (Ev.lit rfl) (EvL.cons (Ev.lit rfl) (EvL.cons (Ev.lit rfl) (EvL.cons (Ev.lit rfl) (EvL.cons (Ev.lit rfl) (EvL.cons (Ev.lit rfl) EvL.nil)))))))) (by decide))

theorem body_take (q : Bool) (t : Tx) (i c : Nat) (h : t[i]? = some c) : body q (t.take (i + 1)) = body q (t.take i) ++ esc q c := by
  unfold body
  rw [List.take_add_one, h, Option.toList_some, List.map_append, List.flatten_append]
  simp
theorem wl_shown (P : Pg W) {o : Option Tx} {q : Bool} (ho : ∀ t, o = some t → t.length ≤ 100) : CalG W 1 "_law_shown" [oT o, .bool q] (T (shown q o)) := by
  cases o with
  | none =>
    exact CalG.def 52 (P.fns 52 (by decide)) sc_52 ["item", "quote"] (by intro pm c d vs h; obtain ⟨_, _, rfl⟩ := len2 h; rfl) fun L ad pm cd d' =>
      Exs.ite (Ts.cmp (Ev.name (d := .none) rfl) Ev.none Cmp.isNone) (fun _ => Exs.ret (Ev.ite (Ts.val (Ev.name rfl) Tru.bool) (fun e => by rw [show shown q none = S "NA" by unfold shown; rw [e]; rfl]; exact Ev.lit rfl) (fun e => by rw [show shown q none = S "<NA>" by unfold shown; rw [e]; rfl]; exact Ev.lit rfl))) fun e => nomatch e
  | some t =>
    have hz := ho t rfl
    have hb := body_len q t
    exact CalG.def 52 (P.fns 52 (by decide)) sc_52 ["item", "quote"] (by intro pm c d vs h; obtain ⟨_, _, rfl⟩ := len2 h; rfl) fun L ad pm cd d' =>
      Exs.ite (Ts.cmp (Ev.name (d := T t) rfl) Ev.none (Cmp.isNot rfl)) (fun e => nomatch e) fun _ => by
      refine Exs.assign (Ev.lit (l := []) (by decide +kernel)) rfl ?_
      refine Exs.for_ (d := T t) (fun i => [("found", .fz (T (body q (t.take i)))), ("quote", .fz (.bool q))]) (Ev.name rfl) Itr.T rfl (Sub0.cons rfl (.cons rfl .nil)) (fun i d' hd => ?_) ?_
      · rw [List.getElem?_map] at hd
        obtain ⟨c, hc, rfl⟩ := Option.map_eq_some_iff.mp hd
        rw [body_take q t i c hc]
        have hl := body_len q (t.take i)
        have ht : (t.take i).length ≤ t.length := by rw [List.length_take]; omega
        have he := esc_len q c
        have key : ∀ a, esc q c = a → Exs W 0 (callEnvC (fdR (recAt 52) (recAt 52).name .none pm cd d') L ad) [("found", .fz (T (body q (t.take i) ++ a))), ("quote", .fz (.bool q))] [] (fun f fp av h => (f = .next ∨ f = .cont) ∧ St W (callEnvC (fdR (recAt 52) (recAt 52).name .none pm cd d') L ad) fp av [("found", .fz (T (body q (t.take i) ++ esc q c))), ("quote", .fz (.bool q))] h) := fun a e => by
          rw [e]; exact Exs.nil fun fp av h' S => ⟨.inl rfl, S⟩
        refine Exs.ite (Ts.cmp (Ev.name (d := T [c]) rfl) (Ev.lit (l := [92]) (by decide +kernel)) Cmp.eqT) (fun e => ?_) fun e1 => ?_
        · have e' : c = 92 := by have := of_decide_eq_true e; simpa using this
          refine Exs.aug rfl (Ev.lit (l := [92, 92]) (by decide +kernel)) (Inp.addT (by simp; omega)) rfl ?_
          exact Exs.weaken (Sub0.cons rfl (.cons rfl .nil)) (key [92, 92] (by unfold esc; rw [if_pos e']))
        have n1 : c ≠ 92 := fun z => by subst z; exact absurd rfl (of_decide_eq_false e1)
        refine Exs.ite (Ts.cmp (Ev.name (d := T [c]) rfl) (Ev.lit (l := [10]) (by decide +kernel)) Cmp.eqT) (fun e => ?_) fun e2 => ?_
        · have e' : c = 10 := by have := of_decide_eq_true e; simpa using this
          refine Exs.aug rfl (Ev.lit (l := [92, 110]) (by decide +kernel)) (Inp.addT (by simp; omega)) rfl ?_
          exact Exs.weaken (Sub0.cons rfl (.cons rfl .nil)) (key [92, 110] (by unfold esc; rw [if_neg n1, if_neg (by omega), if_pos e']))
        have n2 : c ≠ 10 := fun z => by subst z; exact absurd rfl (of_decide_eq_false e2)
        refine Exs.ite (Ts.bop (TsAll.and_cons (Ts.cmp (Ev.name (d := T [c]) rfl) (Ev.lit (l := [34]) (by decide +kernel)) Cmp.eqT) fun _ => TsAll.and_cons (Ts.val (Ev.name (d := .bool q) rfl) Tru.bool) fun _ => TsAll.and_nil)) (fun e => ?_) fun e3 => ?_
        · have e' : c = 34 ∧ q = true := by simpa using e
          refine Exs.aug rfl (Ev.lit (l := [92, 34]) (by decide +kernel)) (Inp.addT (by simp; omega)) rfl ?_
          exact Exs.weaken (Sub0.cons rfl (.cons rfl .nil)) (key [92, 34] (by unfold esc; rw [if_neg n1, if_pos e']))
        · have n3 : ¬ (c = 34 ∧ q = true) := fun z => by rw [z.1, z.2] at e3; exact absurd e3 (by decide)
          refine Exs.aug rfl (Ev.name (d := T [c]) rfl) (Inp.addT (by simp; omega)) rfl ?_
          exact Exs.weaken (Sub0.cons rfl (.cons rfl .nil)) (key [c] (by unfold esc; rw [if_neg n1, if_neg n3, if_neg n2]))
      · rw [show t.take (t.map fun c => T [c]).length = t by rw [List.length_map, List.take_length]]
        refine Exs.ret (G₁ := [("found", .fz (T (body q t))), ("quote", .fz (.bool q))]) (Ev.ite (Ts.val (Ev.name (d := .bool q) rfl) Tru.bool) (fun e => ?_) fun e => ?_)
        · have es : shown q (some t) = [34] ++ body q t ++ [34] := by unfold shown; rw [e]; rfl
          rw [es]
          exact (Ev.bin (Ev.bin (Ev.lit (l := [34]) (by decide +kernel)) (Ev.name rfl) (Bin.addT (by simp; omega))) (Ev.lit (l := [34]) (by decide +kernel)) (Bin.addT (by simp; omega)))
        · have es : shown q (some t) = body q t := by unfold shown; rw [e]; rfl
          rw [es]
          exact (Ev.name rfl)

def deK : List (Option Int) := [some 1, some 2, some 4]
def deV : List D := [.int 0, .int 1, .int 2]
theorem wl_decimals (P : Pg W) {n d p : Int} (h : atK deK deV (some d) = some (.int p)) : CalG W 1 "_law_decimals" [.tup [.int n, .int d]] (.int p) :=
  CalG.def 53 (P.fns 53 (by decide)) sc_53 ["item"] (by intro pm c d vs h; obtain ⟨_, rfl⟩ := len1 h; rfl) fun L ad pm c d' =>
    Exs.ret (Ev.sub (d₂ := .int d) (Ev.dictX (ks := deK) (vd := deV) (EvPairs.cons Ev.int Ev.int (EvPairs.cons Ev.int Ev.int (EvPairs.cons Ev.int Ev.int EvPairs.nil))) (by decide)) (Ev.sub (Ev.name (d := .tup [.int n, .int d]) rfl) Ev.int (Sub.tup (by decide) (by decide) rfl)) (Sub.dcx (k := some d) h))
theorem wl_decimalsK (P : Pg W) {k : Nat} (hk : k < 11) : CalG W 1 "_law_decimals" [dT k] (.int (dblP.getD k 0)) := by
  unfold dT
  refine wl_decimals P ?_
  rcases k11 hk with rfl | rfl | rfl | rfl | rfl | rfl | rfl | rfl | rfl | rfl | rfl <;> rfl

def hun (n d : Int) : Int := ((if 0 ≤ n then n else 0 - n) * 100).fdiv d
def pFig (n d p : Int) : Tx := (if n < 0 then S "-" else S "") ++ (if 0 < p then itoa ((hun n d).fdiv 100) ++ (S "." ++ pyS none (some p) (itoa (((hun n d).fdiv 10).fmod 10) ++ itoa ((hun n d).fmod 10))) else itoa ((hun n d).fdiv 100))
theorem wl_figure_gen (P : Pg W) {n d p : Int} (hd : d ≠ 0) (hd2 : d.natAbs < 1073741824) (hh : -1000000 < hun n d ∧ hun n d < 1000000) : CalG W 1 "_law_figure" [.tup [.int n, .int d], .int p] (T (pFig n d p)) :=
  CalG.def 54 (P.fns 54 (by decide)) sc_54 ["item", "decimals"] (by intro pm c d vs h; obtain ⟨_, _, rfl⟩ := len2 h; rfl) fun L ad pm c d' => by
    refine Exs.assign (d := .int (if 0 ≤ n then n else 0 - n)) (Ev.ite (Ts.cmp (Ev.sub (Ev.name rfl) Ev.int (Sub.tup (by first | rfl | decide | omega | (simp; omega) | simp) (by first | rfl | decide | omega | (simp; omega) | simp) rfl)) Ev.int Cmp.geI) (fun hb => by rw [if_pos (of_decide_eq_true hb)]; exact (Ev.sub (Ev.name rfl) Ev.int (Sub.tup (by first | rfl | decide | omega | (simp; omega) | simp) (by first | rfl | decide | omega | (simp; omega) | simp) rfl))) fun hb => by rw [if_neg (of_decide_eq_false hb)]; exact (Ev.bin Ev.int (Ev.sub (Ev.name rfl) Ev.int (Sub.tup (by first | rfl | decide | omega | (simp; omega) | simp) (by first | rfl | decide | omega | (simp; omega) | simp) rfl)) Bin.subI)) rfl ?_
    refine Exs.assign (d := .int (hun n d)) (Ev.bin (Ev.bin (Ev.name rfl) Ev.int (Bin.mulI (by first | (left; omega) | (right; omega) | (left; decide) | (right; decide)))) (Ev.sub (Ev.name rfl) Ev.int (Sub.tup (by first | rfl | decide | omega | (simp; omega) | simp) (by first | rfl | decide | omega | (simp; omega) | simp) rfl)) (Bin.divI hd hd2)) rfl ?_
    unfold pFig
    generalize hun n d = H at hh
    have b1 : -1000000 < H.fdiv 100 ∧ H.fdiv 100 < 1000000 := by rw [Int.fdiv_eq_ediv_of_nonneg _ (by decide)]; omega
    have b2 : 0 ≤ (H.fdiv 10).fmod 10 ∧ (H.fdiv 10).fmod 10 < 10 := ⟨Int.fmod_nonneg_of_pos _ (by decide), Int.fmod_lt_of_pos _ (by decide)⟩
    have b3 : 0 ≤ H.fmod 10 ∧ H.fmod 10 < 10 := ⟨Int.fmod_nonneg_of_pos _ (by decide), Int.fmod_lt_of_pos _ (by decide)⟩
    have l1 := itoa_len (a := H.fdiv 100) (by omega)
    have l2 := itoa_len (a := (H.fdiv 10).fmod 10) (by omega)
    have l3 := itoa_len (a := H.fmod 10) (by omega)
    have hdot : (S ".").length = 1 := by decide +kernel
    have hmin : (S "-").length = 1 := by decide +kernel
    have hemp : (S "").length = 0 := by decide +kernel
    have hpl := pyS_len none (some p) (itoa ((H.fdiv 10).fmod 10) ++ itoa (H.fmod 10))
    have hpl' : (pyS none (some p) (itoa ((H.fdiv 10).fmod 10) ++ itoa (H.fmod 10))).length ≤ 62 := by rw [List.length_append] at hpl; omega
    refine Exs.assign (Ev.callG (m := 0) ⟨_, P.str, Cal.strI (by omega)⟩ (EvL.cons (Ev.bin (Ev.name rfl) Ev.int (Bin.divI (by first | rfl | decide | omega | (simp; omega) | simp) (by first | rfl | decide | omega | (simp; omega) | simp))) EvL.nil)) rfl ?_
    have fin : ∀ t : Tx, t.length ≤ 200 → ∀ GG : Ga, GG.lookup ("text_of" : PySem.Str) = some (B.fz (T t)) → GG.lookup ("item" : PySem.Str) = some (B.fz (.tup [.int n, .int d])) → Exs W 0 (callEnvC (fdR (recAt 54) (recAt 54).name .none pm c d') L ad) GG ((recAt 54).body.drop 4) (Rt W (T ((if n < 0 then S "-" else S "") ++ t))) := fun t ht GG g1 g2 => by
      refine Exs.ret (Ev.bin (d₁ := T (if n < 0 then S "-" else S "")) (Ev.ite (Ts.cmp (Ev.sub (Ev.name (d := .tup [.int n, .int d]) g2) Ev.int (Sub.tup (by decide) (by decide) rfl)) Ev.int Cmp.ltI) (fun hb => by rw [if_pos (of_decide_eq_true hb)]; exact Ev.lit rfl) fun hb => by rw [if_neg (of_decide_eq_false hb)]; exact Ev.lit rfl) (Ev.name g1) (Bin.addT ?_))
      split <;> omega
    refine Exs.ite (Ts.cmp (Ev.name rfl) Ev.int Cmp.gtI) (fun e => ?_) fun e => ?_
    · rw [if_pos (of_decide_eq_true e)]
      refine Exs.aug rfl (Ev.bin (Ev.lit rfl) (Ev.sub (Ev.bin (Ev.callG (m := 0) ⟨_, P.str, Cal.strI (by omega)⟩ (EvL.cons (Ev.bin (Ev.bin (Ev.name rfl) Ev.int (Bin.divI (by first | rfl | decide | omega | (simp; omega) | simp) (by first | rfl | decide | omega | (simp; omega) | simp))) Ev.int (Bin.modI (by first | rfl | decide | omega | (simp; omega) | simp))) EvL.nil)) (Ev.callG (m := 0) ⟨_, P.str, Cal.strI (by omega)⟩ (EvL.cons (Ev.bin (Ev.name rfl) Ev.int (Bin.modI (by first | rfl | decide | omega | (simp; omega) | simp))) EvL.nil)) (Bin.addT (by omega))) (Ev.slice (lo := none) (hi := some _) trivial (Ev.name rfl)) (Sub.slcT (by rw [List.length_append]; omega))) (Bin.addT (by show (S ".").length + _ ≤ _; omega))) (Inp.addT (by rw [List.length_append]; show _ + ((S ".").length + _) ≤ _; omega)) rfl ?_
      exact fin _ (by rw [List.length_append, List.length_append]; omega) _ rfl rfl
    · rw [if_neg (of_decide_eq_false e)]
      exact fin _ (by omega) _ rfl rfl
theorem fig_ok : ∀ k ∈ List.range 11, ∀ p ∈ List.range 3, (dblD.getD k 1 ≠ 0 ∧ (dblD.getD k 1).natAbs < 1073741824 ∧ -1000000 < hun (dblN.getD k 0) (dblD.getD k 1) ∧ hun (dblN.getD k 0) (dblD.getD k 1) < 1000000) := by decide
theorem fig_eq : ∀ k ∈ List.range 11, ∀ p ∈ List.range 3, dblP.getD k 0 ≤ (p : Int) → pFig (dblN.getD k 0) (dblD.getD k 1) p = pFix (dblN.getD k 0) (dblD.getD k 1) p := by decide +kernel
theorem wl_figure (P : Pg W) {k : Nat} (hk : k < 11) {p : Nat} (hp : p < 3) (h : dblP.getD k 0 ≤ (p : Int)) : CalG W 1 "_law_figure" [dT k, .int p] (T (pFix (dblN.getD k 0) (dblD.getD k 1) p)) := by
  rw [← fig_eq k (List.mem_range.mpr hk) p (List.mem_range.mpr hp) h]
  obtain ⟨h1, h2, h3, h4⟩ := fig_ok k (List.mem_range.mpr hk) p (List.mem_range.mpr hp)
  exact wl_figure_gen P h1 h2 ⟨h3, h4⟩
end
end Mine

/-! M30 -/
set_option maxHeartbeats 4000000
namespace Mine
section
variable {W : Wr} {n : Nat} {env : Env} {G : Ga}

/-! the items by kind -/
def intsL : List Int := [0, 1, -2, 35, 1000000, -47, 8, 9, 10, 123, 2147483647]
def kdN : Nat → Tx
  | 0 => S "integer"
  | 1 => S "character"
  | 2 => S "double"
  | _ => S "logical"
def kI (k : Nat) : Int := intsL.getD k 0
def kW (k : Nat) : Tx := words.getD (k % 8) []
def kL (k : Nat) : Int := (k : Int).fmod 2
def itD : Nat → Option Nat → D
  | 0, o => oI (o.map kI)
  | 1, o => oT (o.map kW)
  | 2, o => oD o
  | _, o => oI (o.map kL)
def itT (q : Bool) (os : List (Option Nat)) : Nat → Option Nat → Tx
  | 0, o => intT (o.map kI)
  | 1, o => shown q (o.map kW)
  | 2, o => pForm (fP (os.filterMap id)) o
  | _, o => logT (o.map kL)
theorem kI_ok : ∀ k ∈ List.range 11, -1000000000000000000 < kI k ∧ kI k < 1000000000000000000 ∧ itoa (kI k) = pWhole (kI k) ∧ (itoa (kI k)).length ≤ 31 := by decide +kernel
theorem kL_or (k : Nat) : kL k = 0 ∨ kL k = 1 := by unfold kL; have := Int.fmod_nonneg_of_pos (k : Int) (b := 2) (by decide); have := Int.fmod_lt_of_pos (k : Int) (b := 2) (by decide); omega
theorem words_ok : ∀ k ∈ List.range 8, (words.getD k []).length ≤ 14 ∧ ∀ c ∈ words.getD k [], okC c := by unfold okC; decide +kernel
theorem kW_ok (k : Nat) : (kW k).length ≤ 14 ∧ ∀ c ∈ kW k, okC c := words_ok (k % 8) (List.mem_range.mpr (Nat.mod_lt _ (by decide)))

/-! the law's texts -/
theorem lst_ilist (os : List (Option Nat)) : ([.int 0] : List D) ++ (os.filter (·.isSome)).map (fun o => match o with | none => D.none | some k => D.int (dblP.getD k 0)) = ilist (0 :: (os.filterMap id).map fun k => dblP.getD k 0) := by
  unfold ilist
  induction os with
  | nil => rfl
  | cons o os ih => cases o with
    | none => simpa using ih
    | some k =>
      simp only [List.filter_cons, Option.isSome_some, if_true, List.map_cons, List.filterMap_cons, id, List.singleton_append] at ih ⊢
      rw [List.cons.injEq] at ih
      rw [ih.2]
theorem fP_max (ks : List Nat) : fP ks ∈ 0 :: ks.map (fun k => dblP.getD k 0) ∧ ∀ a ∈ 0 :: ks.map (fun k => dblP.getD k 0), a ≤ fP ks := by
  have gen : ∀ (ks : List Nat) (b : Int), (ks.foldl (fun a k => max a (dblP.getD k 0)) b = b ∨ ks.foldl (fun a k => max a (dblP.getD k 0)) b ∈ ks.map (fun k => dblP.getD k 0)) ∧ b ≤ ks.foldl (fun a k => max a (dblP.getD k 0)) b ∧ ∀ a ∈ ks.map (fun k => dblP.getD k 0), a ≤ ks.foldl (fun a k => max a (dblP.getD k 0)) b := by
    intro ks
    induction ks with
    | nil => intro b; exact ⟨.inl rfl, Int.le_refl _, fun a m => nomatch m⟩
    | cons k ks ih =>
      intro b
      simp only [List.foldl_cons, List.map_cons]
      obtain ⟨h1, h2, h3⟩ := ih (max b (dblP.getD k 0))
      refine ⟨?_, by omega, fun a m => ?_⟩
      · rcases h1 with h1 | h1
        · rw [h1]
          rcases Int.le_total b (dblP.getD k 0) with h | h
          · right; rw [Int.max_eq_right h]; exact .head _
          · left; exact Int.max_eq_left h
        · right; exact .tail _ h1
      · rcases List.mem_cons.mp m with rfl | m
        · omega
        · exact h3 a m
  obtain ⟨h1, h2, h3⟩ := gen ks 0
  refine ⟨?_, fun a m => ?_⟩
  · rcases h1 with h | h
    · unfold fP; rw [h]; exact .head _
    · exact .tail _ h
  · rcases List.mem_cons.mp m with rfl | m
    · exact h2
    · exact h3 a m
def loK : List (Option Int) := [some 1, some 0, none]
def loV : List D := [T (S "TRUE"), T (S "FALSE"), T (S "NA")]
theorem wl_texts_chr (P : Pg W) {os : List (Option Nat)} {q : Bool} (hz : os.length ≤ 10000) : CalG W 2 "_law_texts" [T (S "character"), .lst (os.map (itD 1)), .bool q] (.lst (os.map fun o => T (shown q (o.map kW)))) :=
  CalG.def 55 (P.fns 55 (by decide)) sc_55 ["kind", "items", "quote"] (by intro pm c d vs h; obtain ⟨_, _, _, rfl⟩ := len3 h; rfl) fun L ad pm c d' =>
    Exs.ite (Ts.cmp (Ev.name rfl) (Ev.lit rfl) Cmp.eqT) (fun _ => Exs.ret (EvO.ev (EvO.compAll os (itD 1) (fun o => T (shown q (o.map kW))) [("quote", .fz (.bool q))] (Ev.name rfl) Itr.lst hz ⟨(by intro _; rfl), rfl, SubC.cons rfl .nil, rfl, rfl, rfl, rfl, GcOk.cons rfl rfl rfl rfl rfl GcOk.nil⟩
      fun o m C => Ev.callG (wl_shown P (o := o.map kW) fun t e => by
        cases o with
        | none => cases e
        | some k => cases e; exact Nat.le_trans (kW_ok k).1 (by decide)) (EvL.cons (Ev.name rfl) (EvL.cons (Ev.name rfl) EvL.nil))))) fun e => absurd rfl (of_decide_eq_false e)
theorem wl_texts_dbl (P : Pg W) {os : List (Option Nat)} {q : Bool} (hz : os.length ≤ 10000) (ho : ∀ k, some k ∈ os → k < 11) : CalG W 2 "_law_texts" [T (S "double"), .lst (os.map oD), .bool q] (.lst (os.map fun o => T (pForm (fP (os.filterMap id)) o))) :=
  CalG.def 55 (P.fns 55 (by decide)) sc_55 ["kind", "items", "quote"] (by intro pm c d vs h; obtain ⟨_, _, _, rfl⟩ := len3 h; rfl) fun L ad pm c d' =>
    Exs.ite (Ts.cmp (Ev.name rfl) (Ev.lit rfl) Cmp.eqT) (fun e => absurd (of_decide_eq_true e) (by decide +kernel)) fun _ =>
    Exs.ite (Ts.cmp (Ev.name rfl) (Ev.lit rfl) Cmp.eqT) (fun _ => by
      have hks : ∀ k ∈ os.filterMap id, k < 11 := fun k m => by
        obtain ⟨o, ho', e⟩ := List.mem_filterMap.mp m
        exact ho k (by rw [← show o = some k from e]; exact ho')
      obtain ⟨m1, m2⟩ := fP_max (os.filterMap id)
      obtain ⟨_, _, _, b4, b5, _, _⟩ := f_bounds _ hks
      obtain ⟨p, hp⟩ := Int.eq_ofNat_of_zero_le b4
      have hp3 : p < 3 := by omega
      have le : ∀ k, some k ∈ os → dblP.getD k 0 ≤ (p : Int) := fun k m => by
        rw [← hp]
        exact m2 _ (.tail _ (List.mem_map.mpr ⟨k, List.mem_filterMap.mpr ⟨some k, m, rfl⟩, rfl⟩))
      refine Exs.assignC (G₁ := pars ["kind", "items", "quote"] ([T (S "double"), .lst (os.map oD), .bool q] ++ [])) (d := .int (fP (os.filterMap id))) (Ev.callG (m := 0) ⟨_, P.max, Cal.maxL m1 m2⟩ (EvL.cons ?_ EvL.nil)) rfl rfl ?_
      · rw [← lst_ilist]
        exact EvO.ev (EvO.bin (Ev.display (EvL.cons Ev.int EvL.nil) (by decide)) (EvO.ev (EvO.comp os oD (·.isSome) (fun o => match o with | none => D.none | some k => D.int (dblP.getD k 0)) [] (Ev.name rfl) Itr.lst hz ⟨(by intro _; rfl), rfl, (fun y c e => by cases e), rfl, rfl, rfl, rfl, GcOk.nil⟩
          (fun o m C => by
            cases o with
            | none => exact ⟨Ts.cmp (Ev.name (d := .none) rfl) Ev.none Cmp.notNone, fun e => nomatch e⟩
            | some k => exact ⟨Ts.cmp (Ev.name (d := dT k) rfl) Ev.none (Cmp.notNot rfl), fun _ => Ev.callG (wl_decimalsK P (ho k m)) (EvL.cons (Ev.name rfl) EvL.nil)⟩))) (BinO.addL (by
            have := List.length_filter_le (fun o : Option Nat => o.isSome) os
            simp only [List.length_cons, List.length_nil, List.length_map]; omega)))
      · rw [hp]
        refine Exs.ret (EvO.ev (EvO.compAll os oD (fun o => T (pForm p o)) [("decimals", .fz (.int p))] (Ev.name rfl) Itr.lst hz ⟨(by intro _; rfl), rfl, SubC.cons rfl .nil, rfl, rfl, rfl, rfl, GcOk.cons rfl rfl rfl rfl rfl GcOk.nil⟩ fun o m C => ?_))
        cases o with
        | none => exact Ev.ite (Ts.cmp (Ev.name (d := .none) rfl) Ev.none Cmp.isNone) (fun _ => Ev.lit rfl) fun e => nomatch e
        | some k => exact Ev.ite (Ts.cmp (Ev.name (d := dT k) rfl) Ev.none (Cmp.isNot rfl)) (fun e => nomatch e) fun _ => Ev.callG (wl_figure P (ho k m) hp3 (le k m)) (EvL.cons (Ev.name rfl) (EvL.cons (Ev.name rfl) EvL.nil))) fun e => absurd rfl (of_decide_eq_false e)
theorem wl_texts_log (P : Pg W) {os : List (Option Nat)} {q : Bool} (hz : os.length ≤ 10000) : CalG W 2 "_law_texts" [T (S "logical"), .lst (os.map (itD 3)), .bool q] (.lst (os.map fun o => T (logT (o.map kL)))) :=
  CalG.def 55 (P.fns 55 (by decide)) sc_55 ["kind", "items", "quote"] (by intro pm c d vs h; obtain ⟨_, _, _, rfl⟩ := len3 h; rfl) fun L ad pm c d' =>
    Exs.ite (Ts.cmp (Ev.name rfl) (Ev.lit rfl) Cmp.eqT) (fun e => absurd (of_decide_eq_true e) (by decide +kernel)) fun _ =>
    Exs.ite (Ts.cmp (Ev.name rfl) (Ev.lit rfl) Cmp.eqT) (fun e => absurd (of_decide_eq_true e) (by decide +kernel)) fun _ =>
    Exs.ite (Ts.cmp (Ev.name rfl) (Ev.lit rfl) Cmp.eqT) (fun _ => Exs.ret (EvO.ev (EvO.compAll os (itD 3) (fun o => T (logT (o.map kL))) [] (Ev.name rfl) Itr.lst hz ⟨(by intro _; rfl), rfl, SubC.nil, rfl, rfl, rfl, rfl, GcOk.nil⟩
      fun o m C => Ev.sub (d₂ := itD 3 o) (Ev.dictX (ks := loK) (vd := loV) (EvPairs.cons Ev.int (Ev.lit rfl) (EvPairs.cons Ev.int (Ev.lit rfl) (EvPairs.cons Ev.none (Ev.lit rfl) EvPairs.nil))) (by decide)) (Ev.name rfl) (by
        cases o with
        | none => exact Sub.dcx (k := none) rfl
        | some k => exact Sub.dcx (k := some (kL k)) (by rw [Option.map_some]; rcases kL_or k with h | h <;> rw [h] <;> rfl))))) fun e => absurd rfl (of_decide_eq_false e)
theorem wl_texts_int (P : Pg W) {os : List (Option Nat)} {q : Bool} (hz : os.length ≤ 10000) (ho : ∀ k, some k ∈ os → k < 11) : CalG W 2 "_law_texts" [T (S "integer"), .lst (os.map (itD 0)), .bool q] (.lst (os.map fun o => T (intT (o.map kI)))) :=
  CalG.def 55 (P.fns 55 (by decide)) sc_55 ["kind", "items", "quote"] (by intro pm c d vs h; obtain ⟨_, _, _, rfl⟩ := len3 h; rfl) fun L ad pm c d' =>
    Exs.ite (Ts.cmp (Ev.name rfl) (Ev.lit rfl) Cmp.eqT) (fun e => absurd (of_decide_eq_true e) (by decide +kernel)) fun _ =>
    Exs.ite (Ts.cmp (Ev.name rfl) (Ev.lit rfl) Cmp.eqT) (fun e => absurd (of_decide_eq_true e) (by decide +kernel)) fun _ =>
    Exs.ite (Ts.cmp (Ev.name rfl) (Ev.lit rfl) Cmp.eqT) (fun e => absurd (of_decide_eq_true e) (by decide +kernel)) fun _ =>
    Exs.ret (EvO.ev (EvO.compAll os (itD 0) (fun o => T (intT (o.map kI))) [] (Ev.name rfl) Itr.lst hz ⟨(by intro _; rfl), rfl, SubC.nil, rfl, rfl, rfl, rfl, GcOk.nil⟩
      fun o m C => by
        cases o with
        | none => exact Ev.ite (Ts.cmp (Ev.name (d := .none) rfl) Ev.none Cmp.isNone) (fun _ => Ev.lit rfl) fun e => nomatch e
        | some k =>
          obtain ⟨h1, h2, h3, _⟩ := kI_ok k (List.mem_range.mpr (ho k m))
          rw [show T (intT ((some k).map kI)) = T (itoa (kI k)) by rw [h3]; rfl]
          exact Ev.ite (Ts.cmp (Ev.name (d := .int (kI k)) rfl) Ev.none (Cmp.isNot rfl)) (fun e => nomatch e) fun _ => Ev.callG (m := 0) ⟨_, P.str, Cal.strI (by omega)⟩ (EvL.cons (Ev.name rfl) EvL.nil)))
theorem wl_texts (P : Pg W) {kd : Nat} {os : List (Option Nat)} {q : Bool} (hk : kd < 4) (hz : os.length ≤ 10000) (ho : ∀ k, some k ∈ os → k < 11) : CalG W 2 "_law_texts" [T (kdN kd), .lst (os.map (itD kd)), .bool q] (.lst ((os.map (itT q os kd)).map T)) := by
  rw [List.map_map]
  have : kd = 0 ∨ kd = 1 ∨ kd = 2 ∨ kd = 3 := by omega
  rcases this with rfl | rfl | rfl | rfl
  · exact wl_texts_int P hz ho
  · exact wl_texts_chr P hz
  · exact wl_texts_dbl P hz ho
  · exact wl_texts_log P hz
/-- the program's texts are the same -/
theorem w_items (P : Pg W) {kd : Nat} {os : List (Option Nat)} {q : Bool} {da : D} (hk : kd < 4) (hz : os.length ≤ 10000) (ho : ∀ k, some k ∈ os → k < 11) : CalG W 7 "item_texts" [.vec (key (kdN kd)) (.lst (os.map (itD kd))) da, .int 7, .bool q] (.lst ((os.map (itT q os kd)).map T)) := by
  have : kd = 0 ∨ kd = 1 ∨ kd = 2 ∨ kd = 3 := by omega
  rcases this with rfl | rfl | rfl | rfl
  · refine w_item_gen P os (itD 0) (itT q os 0) (fun o m => w_format_int P (o := o.map kI) fun i e => ?_) (by decide +kernel) hz
    cases o with
    | none => cases e
    | some k => cases e; obtain ⟨h1, h2, _⟩ := kI_ok k (List.mem_range.mpr (ho k m)); exact ⟨h1, h2⟩
  · refine w_item_gen P os (itD 1) (itT q os 1) (fun o m => w_format_chr P (o := o.map kW) fun t e => ?_) (by decide +kernel) hz
    cases o with
    | none => cases e
    | some k => cases e; exact ⟨Nat.le_trans (kW_ok k).1 (by decide), (kW_ok k).2⟩
  · exact w_item_dbl P ho hz
  · exact w_item_gen P os (itD 3) (itT q os 3) (fun o m => w_format_log P (o := o.map kL)) (by decide +kernel) hz
end
end Mine

/-! M31 -/
set_option maxHeartbeats 4000000
namespace Mine
section
variable {W : Wr} {n : Nat} {env : Env} {G : Ga}

/-! many picks -/
def pst (l : List Int) (lim : Int) (h : Hst) : Nat → Hst
  | 0 => h
  | i + 1 => (pk l lim (pst l lim h i)).1
def pv (l : List Int) (lim : Int) (h : Hst) (i : Nat) : Int := (pk l lim (pst l lim h i)).2
theorem pst_ok {l : List Int} {lim : Int} {h : Hst} (hl : 0 < lim) (ho : okH l h) : ∀ i, okH l (pst l lim h i)
  | 0 => ho
  | i + 1 => (pk_ok hl (pst_ok hl ho i)).1
theorem pv_ok {l : List Int} {lim : Int} {h : Hst} (hl : 0 < lim) (ho : okH l h) (i : Nat) : 0 ≤ pv l lim h i ∧ pv l lim h i < lim := (pk_ok hl (pst_ok hl ho i)).2
def itO (v : Int) : Option Nat := if v = 11 then none else some v.toNat
def itL (l : List Int) (h : Hst) (m : Nat) : List (Option Nat) := (List.range m).map fun i => itO (pv l 12 h i)
theorem itL_succ (l : List Int) (h : Hst) (m : Nat) : itL l h (m + 1) = itL l h m ++ [itO (pv l 12 h m)] := by unfold itL; rw [List.range_succ, List.map_append]; rfl
theorem itL_ok {l : List Int} {h : Hst} (ho : okH l h) (m : Nat) : ∀ k, some k ∈ itL l h m → k < 11 := fun k mm => by
  obtain ⟨i, _, e⟩ := List.mem_map.mp mm
  have := pv_ok (lim := 12) (by decide) ho i
  unfold itO at e
  split at e
  · cases e
  · cases e; omega
theorem itL_len (l : List Int) (h : Hst) (m : Nat) : (itL l h m).length = m := by unfold itL; rw [List.length_map, List.length_range]

def dblV : List D := [dT 0, dT 1, dT 2, dT 3, dT 4, dT 5, dT 6, dT 7, dT 8, dT 9, dT 10]
def intV : List D := [.int (kI 0), .int (kI 1), .int (kI 2), .int (kI 3), .int (kI 4), .int (kI 5), .int (kI 6), .int (kI 7), .int (kI 8), .int (kI 9), .int (kI 10)]
theorem dblV_get {k : Nat} (hk : k < 11) : dblV[k]? = some (dT k) := by
  rcases k11 hk with rfl | rfl | rfl | rfl | rfl | rfl | rfl | rfl | rfl | rfl | rfl <;> rfl
theorem intV_get {k : Nat} (hk : k < 11) : intV[k]? = some (.int (kI k)) := by
  rcases k11 hk with rfl | rfl | rfl | rfl | rfl | rfl | rfl | rfl | rfl | rfl | rfl <;> rfl
theorem words_get (k : Nat) : (words.map T)[((k : Int).fmod 8).toNat]? = some (T (kW k)) := by
  have h1 : ((k : Int).fmod 8).toNat = k % 8 := by rw [Int.fmod_eq_emod_of_nonneg _ (by decide)]; omega
  have h2 : k % 8 < words.length := Nat.mod_lt _ (by decide)
  rw [h1, List.getElem?_map, List.getElem?_eq_getElem h2]
  unfold kW
  rw [List.getD_eq_getElem?_getD, List.getElem?_eq_getElem h2]; rfl

theorem wl_items (P : Pg W) {l : List Int} {h : Hst} {kd m : Nat} (ho : okH l h) (hk : kd < 4) (hm : m ≤ 1000) : CalMG W 2 "_law_items" (hD l h) [T (kdN kd), .int m] (hD l (pst l 12 h m)) (.lst ((itL l h m).map (itD kd))) :=
  CalMG.def (x := "hand") 56 (P.fns 56 (by decide)) sc_56 ["kind", "many"] (by intro pm c d vs h; obtain ⟨_, _, _, rfl⟩ := len3 h; rfl) fun L ad pm c d al => by
    refine Exs.assignO (EvO.display EvL.nil (by decide)) rfl ?_
    refine Exs.for_ (d := .rng 0 m 1) (fun i => [("found", .own ((itL l h i).map (itD kd))), ("hand", .own (hD l (pst l 12 h i)) (some al)), ("kind", .fz (T (kdN kd)))])
      (Ev.callG (m := 0) ⟨_, P.range, Cal.range1⟩ (EvL.cons (Ev.name rfl) EvL.nil)) (Itr.range1 (by omega)) rfl (Sub0.cons rfl (.cons rfl (.cons rfl .nil))) (fun i d' hd => ?_) ?_
    · rw [List.getElem?_map] at hd
      obtain ⟨j, hj, rfl⟩ := Option.map_eq_some_iff.mp hd
      have hjlt : i < m := by
        have := (List.getElem?_eq_some_iff.mp hj).1
        rw [List.length_range] at this; omega
      have hp := pv_ok (lim := 12) (by decide) ho i
      have hlen : ((itL l h i).map (itD kd)).length ≤ 10000 := by rw [List.length_map, itL_len]; omega
      refine Exs.assign (d := .int (pv l 12 h i)) (Ev.callMG (w_pick P (pst_ok (lim := 12) (by decide) ho i) (by decide)) rfl (EvL.cons Ev.int EvL.nil)) rfl ?_
      rw [itL_succ, List.map_append]
      have hst : pst l 12 h (i + 1) = (pk l 12 (pst l 12 h i)).1 := rfl
      rw [hst]
      generalize pv l 12 h i = v at hp
      obtain ⟨k, rfl⟩ := Int.eq_ofNat_of_zero_le hp.1
      have fin : ∀ a fp av h', St W (callEnvC (fdR (recAt 56) (recAt 56).name .none pm c d) L ad) fp av (("found", .own ((itL l h i).map (itD kd) ++ [a])) :: ("one", .fz (.int (k : Int))) :: ("hand", .own (hD l (pk l 12 (pst l 12 h i)).1) (some al)) :: ("_", .fz (.int (j : Int))) :: ("found", .own ((itL l h i).map (itD kd))) :: ("hand", .own (hD l (pst l 12 h i)) (some al)) :: [("kind", .fz (T (kdN kd)))]) h' → a = itD kd (itO (k : Int)) →
          St W (callEnvC (fdR (recAt 56) (recAt 56).name .none pm c d) L ad) fp av [("found", .own ((itL l h i).map (itD kd) ++ [itO (k : Int)].map (itD kd))), ("hand", .own (hD l (pk l 12 (pst l 12 h i)).1) (some al)), ("kind", .fz (T (kdN kd)))] h' := fun a fp av h' S e => by
        subst e
        exact S.weaken (Sub0.cons rfl (.cons rfl (.cons rfl .nil)))
      refine Exs.ite (Ts.cmp (Ev.name rfl) Ev.int Cmp.eqI) (fun e => ?_) fun e => ?_
      · have e' := of_decide_eq_true e
        refine Exs.appendOwn rfl rfl Ev.none hlen (Exs.nil fun fp av h' S => ⟨.inl rfl, fin _ fp av h' S ?_⟩)
        rw [e']
        have : itO 11 = none := rfl
        rw [this]
        have : kd = 0 ∨ kd = 1 ∨ kd = 2 ∨ kd = 3 := by omega
        rcases this with rfl | rfl | rfl | rfl <;> rfl
      have e' := of_decide_eq_false e
      have hk11 : k < 11 := by omega
      have hO : itO (k : Int) = some k := by unfold itO; rw [if_neg e', Int.toNat_natCast]
      rw [hO] at fin ⊢
      have : kd = 0 ∨ kd = 1 ∨ kd = 2 ∨ kd = 3 := by omega
      rcases this with rfl | rfl | rfl | rfl
      · refine Exs.ite (Ts.cmp (Ev.name (d := T (S "integer")) rfl) (Ev.lit rfl) Cmp.eqT) (fun e => absurd (of_decide_eq_true e) (by decide +kernel)) fun _ => ?_
        refine Exs.ite (Ts.cmp (Ev.name (d := T (S "integer")) rfl) (Ev.lit rfl) Cmp.eqT) (fun e => absurd (of_decide_eq_true e) (by decide +kernel)) fun _ => ?_
        refine Exs.ite (Ts.cmp (Ev.name (d := T (S "integer")) rfl) (Ev.lit rfl) Cmp.eqT) (fun e => absurd (of_decide_eq_true e) (by decide +kernel)) fun _ => ?_
        refine Exs.appendOwn rfl rfl (Ev.sub (d₁ := .lst intV) (Ev.display (EvL.cons Ev.int (EvL.cons Ev.int (EvL.cons (Ev.una Ev.int Una.negI) (EvL.cons Ev.int (EvL.cons Ev.int (EvL.cons (Ev.una Ev.int Una.negI) (EvL.cons Ev.int (EvL.cons Ev.int (EvL.cons Ev.int (EvL.cons Ev.int (EvL.cons Ev.int EvL.nil))))))))))) (by decide)) (Ev.name rfl) (Sub.lst (by omega) (by omega) (by rw [Int.toNat_natCast]; exact intV_get hk11))) hlen (Exs.nil fun fp av h' S => ⟨.inl rfl, fin _ fp av h' S rfl⟩)
      · refine Exs.ite (Ts.cmp (Ev.name (d := T (S "character")) rfl) (Ev.lit rfl) Cmp.eqT) (fun _ => ?_) fun e => absurd rfl (of_decide_eq_false e)
        refine Exs.appendOwn rfl rfl (Ev.sub (Ev.callG0 (wl_words P)) (Ev.bin (Ev.name rfl) Ev.int (Bin.modI (by first | rfl | decide | omega | (simp; omega) | simp))) (Sub.lst (Int.fmod_nonneg_of_pos _ (by decide)) (by have := Int.fmod_lt_of_pos (k : Int) (b := 8) (by decide); omega) (words_get k))) hlen (Exs.nil fun fp av h' S => ⟨.inl rfl, fin _ fp av h' S rfl⟩)
      · refine Exs.ite (Ts.cmp (Ev.name (d := T (S "double")) rfl) (Ev.lit rfl) Cmp.eqT) (fun e => absurd (of_decide_eq_true e) (by decide +kernel)) fun _ => ?_
        refine Exs.ite (Ts.cmp (Ev.name (d := T (S "double")) rfl) (Ev.lit rfl) Cmp.eqT) (fun _ => ?_) fun e => absurd rfl (of_decide_eq_false e)
        refine Exs.appendOwn rfl rfl (Ev.sub (d₁ := .lst dblV) (Ev.display (EvL.cons (Ev.tuple (EvL.cons Ev.int (EvL.cons Ev.int EvL.nil)) (by simp)) (EvL.cons (Ev.tuple (EvL.cons Ev.int (EvL.cons Ev.int EvL.nil)) (by simp)) (EvL.cons (Ev.tuple (EvL.cons (Ev.una Ev.int Una.negI) (EvL.cons Ev.int EvL.nil)) (by simp)) (EvL.cons (Ev.tuple (EvL.cons Ev.int (EvL.cons Ev.int EvL.nil)) (by simp)) (EvL.cons (Ev.tuple (EvL.cons Ev.int (EvL.cons Ev.int EvL.nil)) (by simp)) (EvL.cons (Ev.tuple (EvL.cons (Ev.una Ev.int Una.negI) (EvL.cons Ev.int EvL.nil)) (by simp)) (EvL.cons (Ev.tuple (EvL.cons Ev.int (EvL.cons Ev.int EvL.nil)) (by simp)) (EvL.cons (Ev.tuple (EvL.cons Ev.int (EvL.cons Ev.int EvL.nil)) (by simp)) (EvL.cons (Ev.tuple (EvL.cons Ev.int (EvL.cons Ev.int EvL.nil)) (by simp)) (EvL.cons (Ev.tuple (EvL.cons (Ev.una Ev.int Una.negI) (EvL.cons Ev.int EvL.nil)) (by simp)) (EvL.cons (Ev.tuple (EvL.cons Ev.int (EvL.cons Ev.int EvL.nil)) (by simp)) EvL.nil))))))))))) (by decide)) (Ev.name rfl) (Sub.lst (by omega) (by omega) (by rw [Int.toNat_natCast]; exact dblV_get hk11))) hlen (Exs.nil fun fp av h' S => ⟨.inl rfl, fin _ fp av h' S rfl⟩)
      · refine Exs.ite (Ts.cmp (Ev.name (d := T (S "logical")) rfl) (Ev.lit rfl) Cmp.eqT) (fun e => absurd (of_decide_eq_true e) (by decide +kernel)) fun _ => ?_
        refine Exs.ite (Ts.cmp (Ev.name (d := T (S "logical")) rfl) (Ev.lit rfl) Cmp.eqT) (fun e => absurd (of_decide_eq_true e) (by decide +kernel)) fun _ => ?_
        refine Exs.ite (Ts.cmp (Ev.name (d := T (S "logical")) rfl) (Ev.lit rfl) Cmp.eqT) (fun _ => ?_) fun e => absurd rfl (of_decide_eq_false e)
        refine Exs.appendOwn rfl rfl (Ev.bin (Ev.name rfl) Ev.int (Bin.modI (by first | rfl | decide | omega | (simp; omega) | simp))) hlen (Exs.nil fun fp av h' S => ⟨.inl rfl, fin _ fp av h' S rfl⟩)
    · rw [show ((List.range (m : Int).toNat).map fun (i : Nat) => D.int i).length = m by rw [List.length_map, List.length_range, Int.toNat_natCast]]
      refine Exs.freeze (x := "found") rfl ?_
      exact Exs.retM (x := "hand") (Ev.name rfl) rfl

/-! the widest, by the law -/
theorem wd_max (l : List Tx) : wd l ∈ 0 :: l.map (fun t => (t.length : Int)) ∧ ∀ a ∈ 0 :: l.map (fun t => (t.length : Int)), a ≤ wd l := by
  have gen : ∀ (l : List Tx) (b : Int), (l.foldl (fun a t => max a (t.length : Int)) b = b ∨ l.foldl (fun a t => max a (t.length : Int)) b ∈ l.map (fun t => (t.length : Int))) ∧ b ≤ l.foldl (fun a t => max a (t.length : Int)) b ∧ ∀ a ∈ l.map (fun t => (t.length : Int)), a ≤ l.foldl (fun a t => max a (t.length : Int)) b := by
    intro l
    induction l with
    | nil => intro b; exact ⟨.inl rfl, Int.le_refl _, fun a m => nomatch m⟩
    | cons k ks ih =>
      intro b
      simp only [List.foldl_cons, List.map_cons]
      obtain ⟨h1, h2, h3⟩ := ih (max b (k.length : Int))
      refine ⟨?_, by omega, fun a m => ?_⟩
      · rcases h1 with h1 | h1
        · rw [h1]
          rcases Int.le_total b (k.length : Int) with h | h
          · right; rw [Int.max_eq_right h]; exact .head _
          · left; exact Int.max_eq_left h
        · right; exact .tail _ h1
      · rcases List.mem_cons.mp m with rfl | m
        · omega
        · exact h3 a m
  obtain ⟨h1, h2, h3⟩ := gen l 0
  refine ⟨?_, fun a m => ?_⟩
  · rcases h1 with h | h
    · unfold wd; rw [h]; exact .head _
    · exact .tail _ h
  · rcases List.mem_cons.mp m with rfl | m
    · exact h2
    · exact h3 a m
theorem wl_wide (P : Pg W) {l : List Tx} (hz : Sz 1000 l) (hl : l.length ≤ 10000) : CalG W 1 "_law_wide" [.lst (l.map T)] (.int (wd l)) :=
  CalG.def 57 (P.fns 57 (by decide)) sc_57 ["texts"] (by intro pm c d vs h; obtain ⟨_, rfl⟩ := len1 h; rfl) fun L ad pm c d' => by
    obtain ⟨m1, m2⟩ := wd_max l
    refine Exs.ret (G₁ := [("texts", .fz (.lst (l.map T)))]) (Ev.callG (m := 0) ⟨_, P.max, Cal.maxL m1 m2⟩ (EvL.cons ?_ EvL.nil))
    rw [show ilist (0 :: l.map fun t => (t.length : Int)) = ([.int 0] : List D) ++ l.map (fun t => D.int (t.length : Int)) by unfold ilist; rw [List.map_cons, List.map_map]; rfl]
    exact EvO.ev (EvO.bin (Ev.display (EvL.cons Ev.int EvL.nil) (by decide)) (EvO.ev (EvO.compAll l T (fun t => D.int (t.length : Int)) [] (Ev.name rfl) Itr.lst hl ⟨(by intro _; rfl), rfl, SubC.nil, rfl, rfl, rfl, rfl, GcOk.nil⟩
      fun t m C => Ev.callG (m := 0) ⟨_, P.len, Cal.lenT (Nat.le_trans (hz t m) (by decide))⟩ (EvL.cons (Ev.name rfl) EvL.nil))) (BinO.addL (by simp only [List.length_cons, List.length_nil, List.length_map]; omega)))
end
end Mine

/-! M32 -/
set_option maxHeartbeats 4000000
namespace Mine
section
variable {W : Wr} {n : Nat} {env : Env} {G : Ga}
theorem sc_58 : Sc (recAt 58) := ⟨rfl, rfl, rfl, by decide +kernel⟩
theorem sc_59 : Sc (recAt 59) := ⟨rfl, rfl, rfl, by decide +kernel⟩
theorem sc_60 : Sc (recAt 60) := ⟨rfl, rfl, rfl, by decide +kernel⟩
theorem sc_61 : Sc (recAt 61) := ⟨rfl, rfl, rfl, by decide +kernel⟩

/-! the law's numbered rows -/
def lLab (f : Int) : Tx := S "[" ++ itoa (f + 1) ++ S "]"
def lHead (m f : Int) : Tx := List.replicate (m - (lLab f).length).toNat 32 ++ lLab f
def lNumRow (l : List Tx) (m each f : Int) : Tx := joinT (S " ") (lHead m f :: pyS (some f) (some (f + each)) l)
def lEach (l : List Tx) (wide : Int) : Int := max 1 ((wide - lab l.length).fdiv (wd l + 1))
def lNum (l : List Tx) (wide : Int) : List Tx := (List.range (chunks l.length (lEach l wide))).map fun (i : Nat) => lNumRow l (lab l.length) (lEach l wide) ((i : Int) * lEach l wide)
theorem chunks_le {b per : Int} (hb : b ≤ 50) (hp : 1 ≤ per) : chunks b per ≤ 50 := by
  unfold chunks
  split
  · have : (b - 1) / per ≤ b - 1 := Int.ediv_le_self _ (by omega)
    omega
  · omega
theorem fdiv_le {a b : Int} (ha : a ≤ 10000) (hb : 0 < b) : a.fdiv b ≤ 10000 := by
  rw [Int.fdiv_eq_ediv_of_nonneg _ (by omega)]
  rcases Int.le_total 0 a with h | h
  · exact Int.le_trans (Int.ediv_le_self _ h) ha
  · have := Int.ediv_le_ediv hb h
    rw [Int.zero_ediv] at this
    omega
theorem mul_le {j : Nat} {per : Int} (hj : j ≤ 50) (h0 : 0 ≤ per) (hp : per ≤ 10000) : 0 ≤ (j : Int) * per ∧ (j : Int) * per ≤ 500000 := by
  have h1 : (j : Int) * per ≤ 50 * per := Int.mul_le_mul_of_nonneg_right (by omega) h0
  have h2 : 0 ≤ (j : Int) * per := Int.mul_nonneg (by omega) h0
  omega
theorem range_at {m j i : Nat} (h : (List.range m)[i]? = some j) : j = i ∧ i < m := by
  obtain ⟨h1, h2⟩ := List.getElem?_eq_some_iff.mp h
  rw [List.getElem_range] at h2
  rw [List.length_range] at h1
  exact ⟨h2.symm, h1⟩
theorem map_range_succ {α β : Type} (f : Nat → α) (g : α → β) (j : Nat) : ((List.range (j + 1)).map f).map g = ((List.range j).map f).map g ++ [g (f j)] := by rw [List.range_succ, List.map_append, List.map_append]; rfl
theorem wl_numbered (P : Pg W) {l : List Tx} {wide : Int} (hz : Sz 100 l) (hl : l.length ≤ 50) (hw : 0 ≤ wide ∧ wide ≤ 10000) : CalG W 2 "_law_numbered" [.lst (l.map T), .int wide] (.lst ((lNum l wide).map T)) := by
  obtain ⟨a1, a2⟩ := wd_bounds hz
  have hI := itoa_len (a := (l.length : Int)) (by omega)
  have hlab : 0 ≤ lab l.length ∧ lab l.length ≤ 33 := by unfold lab; omega
  have hper : 1 ≤ lEach l wide ∧ lEach l wide ≤ 10000 := by
    have := fdiv_le (a := wide - lab l.length) (b := wd l + 1) (by omega) (by omega)
    unfold lEach; omega
  have cl : Cal W 0 (.builtin "len") [.lst (l.map T)] (.int l.length) := by
    have := Cal.lenL (W := W) (n := 0) (ds := l.map T) (by rw [List.length_map]; omega)
    rwa [List.length_map] at this
  exact CalG.def 58 (P.fns 58 (by decide)) sc_58 ["texts", "wide"] (by intro pm c d vs h; obtain ⟨_, _, rfl⟩ := len2 h; rfl) fun L ad pm c d' => by
    refine Exs.assign (d := .int (lab l.length)) (Ev.bin (Ev.callG (m := 0) ⟨_, P.len, Cal.lenT (by omega)⟩ (EvL.cons (Ev.callG (m := 0) ⟨_, P.str, Cal.strI (by omega)⟩ (EvL.cons (Ev.callG (m := 0) ⟨_, P.len, cl⟩ (EvL.cons (Ev.name rfl) EvL.nil)) EvL.nil)) EvL.nil)) Ev.int Bin.addI) rfl ?_
    refine Exs.assign (Ev.callG (wl_wide P (hz.mono (by decide)) (by omega)) (EvL.cons (Ev.name rfl) EvL.nil)) rfl ?_
    refine Exs.assign (d := .int (lEach l wide)) (Ev.callG (m := 0) ⟨_, P.max, Cal.maxI⟩ (EvL.cons Ev.int (EvL.cons (Ev.bin (Ev.bin (Ev.name rfl) (Ev.name rfl) Bin.subI) (Ev.bin (Ev.name rfl) Ev.int Bin.addI) (Bin.divI (by omega) (by omega))) EvL.nil))) rfl ?_
    unfold lNum
    generalize lEach l wide = per at hper
    generalize lab l.length = m at hlab
    have hch := chunks_le (b := l.length) (by omega) hper.1
    refine Exs.assignO (EvO.display EvL.nil (by decide)) rfl ?_
    refine Exs.for_ (G₁ := [("rows", .own []), ("each", .fz (.int per)), ("column", .fz (.int (wd l))), ("mark", .fz (.int m)), ("texts", .fz (.lst (l.map T))), ("wide", .fz (.int wide))]) (d := .rng 0 l.length per)
      (fun i => [("rows", .own (((List.range i).map fun (i : Nat) => lNumRow l m per ((i : Int) * per)).map T)), ("each", .fz (.int per)), ("mark", .fz (.int m)), ("texts", .fz (.lst (l.map T)))])
      (Ev.callG (m := 0) ⟨_, P.range, Cal.range3 (by omega) (by omega)⟩ (EvL.cons Ev.int (EvL.cons (Ev.callG (m := 0) ⟨_, P.len, cl⟩ (EvL.cons (Ev.name rfl) EvL.nil)) (EvL.cons (Ev.name rfl) EvL.nil)))) (Itr.range3 (by omega) (by omega)) rfl
      (Sub0.cons rfl (.cons rfl (.cons rfl (.cons rfl .nil)))) (fun i d' hd => ?_) ?_
    · rw [List.getElem?_map] at hd
      obtain ⟨j, hj, rfl⟩ := Option.map_eq_some_iff.mp hd
      obtain ⟨rfl, hlt⟩ := range_at hj
      have hlt' : j < chunks l.length per := hlt
      obtain ⟨q1, q2⟩ := mul_le (j := j) (per := per) (by omega) (by omega) hper.2
      rw [map_range_succ]
      have hrl : (((List.range j).map fun (i : Nat) => lNumRow l m per ((i : Int) * per)).map T).length ≤ 10000 := by rw [List.length_map, List.length_map, List.length_range]; omega
      generalize ((List.range j).map fun (i : Nat) => lNumRow l m per ((i : Int) * per)).map T = rows0 at hrl
      generalize ((j : Int) * per) = f at q1 q2
      have hIf := itoa_len (a := f + 1) (by omega)
      have b1 : (S "[").length = 1 := by decide +kernel
      have b2 : (S "]").length = 1 := by decide +kernel
      have b5 : (S " ").length = 1 := by decide +kernel
      have hlb : (lLab f).length ≤ 33 := by unfold lLab; rw [List.length_append, List.length_append]; omega
      have hhd : (lHead m f).length ≤ 66 := by unfold lHead; rw [List.length_append, List.length_replicate]; omega
      have s2 := pyS_sz (lo := some f) (hi := some (f + per)) hz
      have n2 := pyS_len (some f) (some (f + per)) l
      have hss : Sz 100 (lHead m f :: pyS (some f) (some (f + per)) l) := fun t mm => by
        rcases List.mem_cons.mp mm with rfl | mm
        · omega
        · exact s2 t mm
      have hsum := sum_len hss
      rw [List.length_cons] at hsum
      refine Exs.assign (d := T (lLab f)) (Ev.bin (Ev.bin (Ev.lit (l := S "[") rfl) (Ev.callG (m := 0) ⟨_, P.str, Cal.strI (by omega)⟩ (EvL.cons (Ev.bin (Ev.name rfl) Ev.int Bin.addI) EvL.nil)) (Bin.addT (by omega))) (Ev.lit (l := S "]") rfl) (Bin.addT (by rw [List.length_append]; omega))) rfl ?_
      refine Exs.appendOwn (d := T (lNumRow l m per f)) rfl rfl (Ev.meth (Ev.lit (l := S " ") rfl) Mth.join (EvL.cons (d := .lst ((lHead m f :: pyS (some f) (some (f + per)) l).map T)) ?_ EvL.nil) .builtin (Cal.joinT (by rw [b5, List.length_cons]; omega))) hrl ?_
      · rw [List.map_cons]
        have hs := Sub.slcL (W := W) (n := 1) (ds := l.map T) (lo := some f) (hi := some (f + per)) (by rw [List.length_map]; omega)
        rw [pyS_map] at hs
        exact EvO.ev (EvO.bin (Ev.display (EvL.cons (Ev.bin (Ev.bin (Ev.lit (l := [32]) (by decide +kernel)) (Ev.bin (Ev.name rfl) (Ev.callG (m := 0) ⟨_, P.len, Cal.lenT (by omega)⟩ (EvL.cons (Ev.name rfl) EvL.nil)) Bin.subI) (Bin.mulT (by omega))) (Ev.name rfl) (Bin.addT (by rw [List.length_replicate]; omega))) EvL.nil) (by simp)) (Ev.sub (Ev.name rfl) (Ev.slice (lo := some _) (hi := some _) (Ev.name rfl) (Ev.bin (Ev.name rfl) (Ev.name rfl) Bin.addI)) hs) (BinO.addL (by simp only [List.length_cons, List.length_nil, List.length_map]; omega)))
      · exact Exs.nil fun fp av h' S' => ⟨.inl rfl, S'.weaken (Sub0.cons rfl (.cons rfl (.cons rfl (.cons rfl .nil))))⟩
    · have eN : ((List.range (if (0 : Int) < l.length then (((l.length : Int) - 1) / per).toNat + 1 else 0)).map fun (i : Nat) => D.int (i * per)).length = chunks l.length per := by unfold chunks; simp
      rw [eN]
      exact Exs.freeze (x := "rows") rfl (Exs.ret (Ev.name rfl))
end
end Mine

/-! M33 -/
set_option maxHeartbeats 4000000
namespace Mine
section
variable {W : Wr} {n : Nat} {env : Env} {G : Ga}

/-! the law's named rows -/
def lPadL (w : Int) (t : Tx) : Tx := List.replicate (w - t.length).toNat 32 ++ t
def lPadR (w : Int) (t : Tx) : Tx := t ++ List.replicate (w - t.length).toNat 32
def lLine (l : List Tx) (f each col : Int) : Tx := ((pyS (some f) (some (f + each)) l).map fun t => lPadL col t ++ S " ").flatten
def lNEach (texts names : List Tx) (wide : Int) : Int := max 1 (wide.fdiv (max (wd texts) (wd names) + 1))
def lNam (texts names : List Tx) (wide : Int) : List Tx := (List.range (chunks texts.length (lNEach texts names wide))).flatMap fun (i : Nat) =>
  [lLine names ((i : Int) * lNEach texts names wide) (lNEach texts names wide) (max (wd texts) (wd names)), lLine texts ((i : Int) * lNEach texts names wide) (lNEach texts names wide) (max (wd texts) (wd names))]
theorem flat_range_succ {α β : Type} (f : Nat → List α) (g : α → β) (j : Nat) : ((List.range (j + 1)).flatMap f).map g = ((List.range j).flatMap f).map g ++ (f j).map g := by rw [List.range_succ, List.flatMap_append, List.map_append]; simp
def innerBody : List Stmt → List Stmt
  | [_, _, _, .For _ _ [.For _ _ b _ _] _ _, _] => b
  | _ => []
theorem wl_named (P : Pg W) {l nm : List Tx} {wide : Int} (hz : Sz 1000 l) (hl : l.length ≤ 50) (hzn : Sz 1000 nm) (hln : nm.length ≤ 50) (hw : 0 ≤ wide ∧ wide ≤ 10000) : CalG W 2 "_law_named" [.lst (l.map T), .lst (nm.map T), .int wide] (.lst ((lNam l nm wide).map T)) := by
  obtain ⟨a1, a2⟩ := wd_bounds hz
  obtain ⟨a3, a4⟩ := wd_bounds hzn
  have hper : 1 ≤ lNEach l nm wide ∧ lNEach l nm wide ≤ 10000 := by
    have := fdiv_le (a := wide) (b := max (wd l) (wd nm) + 1) (by omega) (by omega)
    unfold lNEach; omega
  have cl : Cal W 0 (.builtin "len") [.lst (l.map T)] (.int l.length) := by
    have := Cal.lenL (W := W) (n := 0) (ds := l.map T) (by rw [List.length_map]; omega)
    rwa [List.length_map] at this
  exact CalG.def 59 (P.fns 59 (by decide)) sc_59 ["texts", "names", "wide"] (by intro pm c d vs h; obtain ⟨_, _, _, rfl⟩ := len3 h; rfl) fun L ad pm c d' => by
    refine Exs.assignC (d := .int (max (wd l) (wd nm))) (G₁ := pars ["texts", "names", "wide"] [.lst (l.map T), .lst (nm.map T), .int wide]) (Ev.callG (m := 0) ⟨_, P.max, Cal.maxI⟩ (EvL.cons (Ev.callG (wl_wide P hz (by omega)) (EvL.cons (Ev.name rfl) EvL.nil)) (EvL.cons (Ev.callG (wl_wide P hzn (by omega)) (EvL.cons (Ev.name rfl) EvL.nil)) EvL.nil))) rfl rfl ?_
    refine Exs.assign (d := .int (lNEach l nm wide)) (G₁ := ("column", .fz (.int (max (wd l) (wd nm)))) :: pars ["texts", "names", "wide"] [.lst (l.map T), .lst (nm.map T), .int wide]) (Ev.callG (m := 0) ⟨_, P.max, Cal.maxI⟩ (EvL.cons Ev.int (EvL.cons (Ev.bin (Ev.name rfl) (Ev.bin (Ev.name rfl) Ev.int Bin.addI) (Bin.divI (by omega) (by omega))) EvL.nil))) rfl ?_
    unfold lNam
    generalize lNEach l nm wide = per at hper
    generalize hc : max (wd l) (wd nm) = col
    have hcol : 0 ≤ col ∧ col ≤ 1000 := by omega
    have hch := chunks_le (b := l.length) (by omega) hper.1
    refine Exs.assignO (EvO.display EvL.nil (by decide)) rfl ?_
    refine Exs.for_ (G₁ := [("rows", .own []), ("each", .fz (.int per)), ("column", .fz (.int col)), ("texts", .fz (.lst (l.map T))), ("names", .fz (.lst (nm.map T))), ("wide", .fz (.int wide))]) (d := .rng 0 l.length per)
      (fun i => [("rows", .own (((List.range i).flatMap fun (i : Nat) => [lLine nm ((i : Int) * per) per col, lLine l ((i : Int) * per) per col]).map T)), ("each", .fz (.int per)), ("column", .fz (.int col)), ("texts", .fz (.lst (l.map T))), ("names", .fz (.lst (nm.map T)))])
      (Ev.callG (m := 0) ⟨_, P.range, Cal.range3 (by omega) (by omega)⟩ (EvL.cons Ev.int (EvL.cons (Ev.callG (m := 0) ⟨_, P.len, cl⟩ (EvL.cons (Ev.name rfl) EvL.nil)) (EvL.cons (Ev.name rfl) EvL.nil)))) (Itr.range3 (by omega) (by omega)) rfl
      (Sub0.cons rfl (.cons rfl (.cons rfl (.cons rfl (.cons rfl .nil))))) (fun i d' hd => ?_) ?_
    · rw [List.getElem?_map] at hd
      obtain ⟨j, hj, rfl⟩ := Option.map_eq_some_iff.mp hd
      obtain ⟨rfl, hlt⟩ := range_at hj
      have hlt' : j < chunks l.length per := hlt
      obtain ⟨q1, q2⟩ := mul_le (j := j) (per := per) (by omega) (by omega) hper.2
      rw [flat_range_succ]
      have hrl : (((List.range j).flatMap fun (i : Nat) => [lLine nm ((i : Int) * per) per col, lLine l ((i : Int) * per) per col]).map T).length ≤ 1000 := by rw [List.length_map, flat2]; omega
      generalize ((List.range j).flatMap fun (i : Nat) => [lLine nm ((i : Int) * per) per col, lLine l ((i : Int) * per) per col]).map T = rows0 at hrl
      generalize ((j : Int) * per) = f at q1 q2
      have line : ∀ (x : List Tx) (rows : List D) (GG : Ga), Sz 1000 x → x.length ≤ 50 → rows.length ≤ 2000 → GG.lookup ("rows" : PySem.Str) = some (B.own rows) → GG.lookup ("line" : PySem.Str) = some (B.fz (.lst (x.map T))) → GG.lookup ("first" : PySem.Str) = some (B.fz (.int f)) → GG.lookup ("each" : PySem.Str) = some (B.fz (.int per)) → GG.lookup ("column" : PySem.Str) = some (B.fz (.int col)) → GG.lookup ("texts" : PySem.Str) = some (B.fz (.lst (l.map T))) → GG.lookup ("names" : PySem.Str) = some (B.fz (.lst (nm.map T))) →
          Exs W 1 (callEnvC (fdR (recAt 59) (recAt 59).name .none pm c d') L ad) GG (innerBody (recAt 59).body) (Nx W (callEnvC (fdR (recAt 59) (recAt 59).name .none pm c d') L ad) [("rows", .own (rows ++ [T (lLine x f per col)])), ("first", .fz (.int f)), ("each", .fz (.int per)), ("column", .fz (.int col)), ("texts", .fz (.lst (l.map T))), ("names", .fz (.lst (nm.map T)))]) := fun x rows GG hx hxl hr g1 g2 g3 g4 g5 g6 g7 => by
        have n2 := pyS_len (some f) (some (f + per)) x
        have s2 := pyS_sz (lo := some f) (hi := some (f + per)) hx
        have b5 : (S " ").length = 1 := by decide +kernel
        have b0 : (S "").length = 0 := by decide +kernel
        have hpl : ∀ t : Tx, t.length ≤ 1000 → (lPadL col t ++ S " ").length ≤ 2001 := fun t ht => by
          rw [List.length_append]; unfold lPadL; rw [List.length_append, List.length_replicate]; omega
        have hss : Sz 2001 ((pyS (some f) (some (f + per)) x).map fun t => lPadL col t ++ S " ") := fun t mm => by
          obtain ⟨y, hy, rfl⟩ := List.mem_map.mp mm
          exact hpl y (s2 y hy)
        have hsum := sum_len hss
        rw [List.length_map] at hsum
        have hs := Sub.slcL (W := W) (n := 1) (ds := x.map T) (lo := some f) (hi := some (f + per)) (by rw [List.length_map]; omega)
        rw [pyS_map] at hs
        refine Exs.appendOwn (d := T (lLine x f per col)) g1 rfl ?_ (by omega) (Exs.nil fun fp av h' S' => ⟨rfl, S'.weaken (Sub0.cons rfl (.cons g3 (.cons g4 (.cons g5 (.cons g6 (.cons g7 .nil))))))⟩)
        unfold lLine
        rw [← joinT_nil]
        refine Ev.meth (Ev.lit (l := S "") rfl) Mth.join (EvL.cons (d := .lst (((pyS (some f) (some (f + per)) x).map fun t => lPadL col t ++ S " ").map T)) ?_ EvL.nil) .builtin (Cal.joinT (by rw [b0, List.length_map]; omega))
        rw [List.map_map]
        exact EvO.ev (EvO.compAll (pyS (some f) (some (f + per)) x) T (fun t => T (lPadL col t ++ S " ")) [("column", .fz (.int col))] (Ev.sub (Ev.name g2) (Ev.slice (lo := some _) (hi := some _) (Ev.name g3) (Ev.bin (Ev.name g3) (Ev.name g4) Bin.addI)) hs) Itr.lst (by omega) ⟨(by intro _; rfl), rfl, SubC.cons rfl .nil, rfl, rfl, rfl, rfl, GcOk.cons rfl g5 rfl rfl rfl GcOk.nil⟩
          fun t m C => by
            have ht := s2 t m
            exact Ev.bin (Ev.bin (Ev.bin (Ev.lit (l := [32]) (by decide +kernel)) (Ev.bin (Ev.name rfl) (Ev.callG (m := 0) ⟨_, P.len, Cal.lenT (by omega)⟩ (EvL.cons (Ev.name rfl) EvL.nil)) Bin.subI) (Bin.mulT (by omega))) (Ev.name rfl) (Bin.addT (by rw [List.length_replicate]; omega))) (Ev.lit (l := S " ") rfl) (Bin.addT (by rw [b5, List.length_append, List.length_replicate]; omega)))
      refine Exs.for_ (d := .lst [.lst (nm.map T), .lst (l.map T)]) (fun k => [("rows", .own (rows0 ++ ([lLine nm f per col, lLine l f per col].take k).map T)), ("first", .fz (.int f)), ("each", .fz (.int per)), ("column", .fz (.int col)), ("texts", .fz (.lst (l.map T))), ("names", .fz (.lst (nm.map T)))])
        (Ev.display (EvL.cons (Ev.name rfl) (EvL.cons (Ev.name rfl) EvL.nil)) (by simp)) Itr.lst rfl (Sub0.cons (by rw [List.take_zero, List.map_nil, List.append_nil]; rfl) (.cons rfl (.cons rfl (.cons rfl (.cons rfl (.cons rfl .nil)))))) (fun k d' hd => ?_) ?_
      · match k, hd with
        | 0, hd =>
          cases hd
          exact (line nm rows0 _ hzn hln (by omega) (by rw [List.take_zero, List.map_nil, List.append_nil]; rfl) rfl rfl rfl rfl rfl rfl).mono fun f fp av h q => ⟨.inl q.1, q.2⟩
        | 1, hd =>
          cases hd
          refine (line l (rows0 ++ [T (lLine nm f per col)]) _ hz hl (by rw [List.length_append, List.length_singleton]; omega) rfl rfl rfl rfl rfl rfl rfl).mono fun f fp av h q => ⟨.inl q.1, ?_⟩
          have := q.2
          rw [List.append_assoc] at this
          exact this
        | k + 2, hd => simp at hd
      · exact Exs.nil fun fp av h' S' => ⟨.inl rfl, S'.weaken (Sub0.cons rfl (.cons rfl (.cons rfl (.cons rfl (.cons rfl .nil)))))⟩
    · have eN : ((List.range (if (0 : Int) < l.length then (((l.length : Int) - 1) / per).toNat + 1 else 0)).map fun (i : Nat) => D.int (i * per)).length = chunks l.length per := by unfold chunks; simp
      rw [eN]
      exact Exs.freeze (x := "rows") rfl (Exs.ret (Ev.name rfl))
end
end Mine

/-! M34 -/
set_option maxHeartbeats 4000000
namespace Mine
section
variable {W : Wr} {n : Nat} {env : Env} {G : Ga}

/-! the law's rows -/
def lRows (l : List Tx) (names : Option (List (Option Tx))) (wide : Int) (left : Bool) : List Tx := match names with
  | some ns => lNam l (ns.map (shown false)) wide
  | none => lNum (l.map fun t => if left then lPadR (wd l) t else lPadL (wd l) t) wide
theorem lPad_len {w : Int} {t : Tx} (hw : 0 ≤ w ∧ w ≤ 50) (ht : t.length ≤ 50) (left : Bool) : (if left then lPadR w t else lPadL w t).length ≤ 100 := by
  unfold lPadR lPadL
  split <;> rw [List.length_append, List.length_replicate] <;> omega
theorem wl_rows (P : Pg W) {l : List Tx} {names : Option (List (Option Tx))} {wide : Int} {left : Bool} (hz : Sz 50 l) (hl : l.length ≤ 50) (hn : ∀ ns, names = some ns → ns.length ≤ 50 ∧ ∀ o ∈ ns, okT1 o) (hw : 0 ≤ wide ∧ wide ≤ 10000) : CalG W 3 "_law_rows" [.lst (l.map T), onD names, .int wide, .bool left] (.lst ((lRows l names wide left).map T)) := by
  obtain ⟨a1, a2⟩ := wd_bounds hz
  cases names with
  | some ns =>
    obtain ⟨k1, k2⟩ := hn ns rfl
    exact CalG.def 60 (P.fns 60 (by decide)) sc_60 ["texts", "names", "wide", "left"] (by intro pm c d vs h; obtain ⟨_, _, _, _, rfl⟩ := len4 h; rfl) fun L ad pm c d' => by
      refine Exs.ite (Ts.cmp (Ev.name (d := .lst (ns.map oT)) rfl) Ev.none (Cmp.notNot rfl)) (fun _ => ?_) fun e => nomatch e
      refine Exs.ret (Ev.callG (wl_named P (nm := ns.map (shown false)) (hz.mono (by decide)) hl (fun t m => ?_) (by rw [List.length_map]; exact k1) hw) (EvL.cons (Ev.name rfl) (EvL.cons (G₁ := pars ["texts", "names", "wide", "left"] ([.lst (l.map T), onD (some ns), .int wide, .bool left] ++ [])) ?_ (EvL.cons (Ev.name rfl) EvL.nil))))
      · obtain ⟨o, ho, rfl⟩ := List.mem_map.mp m
        have := shown_len (k2 o ho) false
        omega
      · rw [List.map_map]
        exact EvO.ev (EvO.compAll ns oT (fun o => T (shown false o)) [] (Ev.name (d := .lst (ns.map oT)) rfl) Itr.lst (by omega) ⟨(by intro _; rfl), rfl, SubC.nil, rfl, rfl, rfl, rfl, GcOk.nil⟩
          fun o m C => Ev.callG (wl_shown P (fun t e => Nat.le_trans (k2 o m t e).1 (by decide))) (EvL.cons (Ev.name rfl) (EvL.cons Ev.bool EvL.nil)))
  | none =>
    exact CalG.def 60 (P.fns 60 (by decide)) sc_60 ["texts", "names", "wide", "left"] (by intro pm c d vs h; obtain ⟨_, _, _, _, rfl⟩ := len4 h; rfl) fun L ad pm c d' => by
      refine Exs.ite (Ts.cmp (Ev.name (d := .none) rfl) Ev.none Cmp.notNone) (fun e => nomatch e) fun _ => ?_
      refine Exs.assignC (Ev.callG (wl_wide P (hz.mono (by decide)) (by omega)) (EvL.cons (Ev.name rfl) EvL.nil)) rfl rfl ?_
      unfold lRows
      dsimp only
      generalize wd l = w at a1 a2
      refine Exs.ret (Ev.callG (wl_numbered P (l := l.map fun t => if left then lPadR w t else lPadL w t) (fun t m => ?_) (by rw [List.length_map]; exact hl) hw) (EvL.cons (G₁ := ("column", .fz (.int w)) :: pars ["texts", "names", "wide", "left"] ([.lst (l.map T), onD none, .int wide, .bool left] ++ [])) ?_ (EvL.cons (Ev.name rfl) EvL.nil)))
      · obtain ⟨x, hx, rfl⟩ := List.mem_map.mp m
        exact lPad_len ⟨a1, a2⟩ (hz x hx) left
      · rw [List.map_map]
        exact EvO.ev (EvO.compAll l T (fun t => T (if left then lPadR w t else lPadL w t)) [("column", .fz (.int w)), ("left", .fz (.bool left))] (Ev.name rfl) Itr.lst (by omega) ⟨(by intro _; rfl), rfl, SubC.cons rfl (.cons rfl .nil), rfl, rfl, rfl, rfl, GcOk.cons rfl rfl rfl rfl rfl (GcOk.cons rfl rfl rfl rfl rfl GcOk.nil)⟩
          fun t m C => by
            have ht := hz t m
            have b5 : (S " ").length = 1 := by decide +kernel
            refine Ev.ite (Ts.val (Ev.name rfl) Tru.bool) (fun e => ?_) fun e => ?_
            · rw [if_pos e]
              exact Ev.bin (Ev.name rfl) (Ev.bin (Ev.lit (l := [32]) (by decide +kernel)) (Ev.bin (Ev.name rfl) (Ev.callG (m := 0) ⟨_, P.len, Cal.lenT (by omega)⟩ (EvL.cons (Ev.name rfl) EvL.nil)) Bin.subI) (Bin.mulT (by omega))) (Bin.addT (by rw [List.length_replicate]; omega))
            · rw [if_neg (by rw [e]; decide)]
              exact Ev.bin (Ev.bin (Ev.lit (l := [32]) (by decide +kernel)) (Ev.bin (Ev.name rfl) (Ev.callG (m := 0) ⟨_, P.len, Cal.lenT (by omega)⟩ (EvL.cons (Ev.name rfl) EvL.nil)) Bin.subI) (Bin.mulT (by omega))) (Ev.name rfl) (Bin.addT (by rw [List.length_replicate]; omega)))

/-! the law's row of levels -/
def fitS (l : List Tx) (i : Nat) : Int := ((pyS none (some ((i : Int) + 1)) l).map fun t => 1 + (t.length : Int)).sum
def fitN (l : List Tx) (room : Int) : Int := ((List.range l.length).filter fun i => decide (fitS l i ≤ room)).length
def lShown (l : List Tx) (most : Int) : List Tx := pyS none (some (max 1 (most - 1))) l ++ [S "..."] ++ (if 1 < most then pyS (some (-1)) none l else [])
def lLev (l : List Tx) (o : Bool) (wide : Int) : Tx :=
  if (l.length : Int) < 2 ∨ fitN l (wide - 15) = l.length then S "Levels: " ++ joinT (sepT o) l
  else itoa l.length ++ S " Levels: " ++ joinT (sepT o) (lShown l (max 1 (fitN l (wide - 15))))
theorem wl_levels (P : Pg W) {l : List Tx} {o : Bool} {wide : Int} (hz : Sz 100 l) (hl : l.length ≤ 40) : CalG W 3 "_law_levels" [.lst (l.map T), .int wide, .bool o] (T (lLev l o wide)) :=
  CalG.def 61 (P.fns 61 (by decide)) sc_61 ["levels", "wide", "ordered"] (by intro pm c d vs h; obtain ⟨_, _, _, rfl⟩ := len3 h; rfl) fun L ad pm c d' => by
    have cl : Cal W 0 (.builtin "len") [.lst (l.map T)] (.int l.length) := by
      have := Cal.lenL (W := W) (n := 0) (ds := l.map T) (by rw [List.length_map]; omega)
      rwa [List.length_map] at this
    refine Exs.assign (G₁ := pars ["levels", "wide", "ordered"] [.lst (l.map T), .int wide, .bool o]) (d := T (sepT o)) (Ev.ite (Ts.val (Ev.name rfl) Tru.bool) (fun e => by rw [show sepT o = S " < " by unfold sepT; rw [e]; rfl]; exact Ev.lit rfl) (fun e => by rw [show sepT o = S " " by unfold sepT; rw [e]; rfl]; exact Ev.lit rfl)) rfl ?_
    refine Exs.assign (G₁ := ("between", .fz (T (sepT o))) :: pars ["levels", "wide", "ordered"] [.lst (l.map T), .int wide, .bool o]) (d := .int (fitN l (wide - 15))) (Ev.callG (m := 0) ⟨_, P.len, ?_⟩ (EvL.cons (d := .lst (((List.range l.length).filter fun i => decide (fitS l i ≤ wide - 15)).map fun (i : Nat) => D.int (i : Int))) ?_ EvL.nil)) rfl ?_
    · have hf := List.length_filter_le (fun i => decide (fitS l i ≤ wide - 15)) (List.range l.length)
      rw [List.length_range] at hf
      have := Cal.lenL (W := W) (n := 0) (ds := ((List.range l.length).filter fun i => decide (fitS l i ≤ wide - 15)).map fun (i : Nat) => D.int (i : Int)) (by rw [List.length_map]; omega)
      rw [List.length_map] at this
      exact this
    · refine EvO.ev (EvO.comp (List.range l.length) (fun (i : Nat) => D.int (i : Int)) (fun i => decide (fitS l i ≤ wide - 15)) (fun (i : Nat) => D.int (i : Int)) [("levels", .fz (.lst (l.map T))), ("wide", .fz (.int wide))] (d := .rng 0 l.length 1) (Ev.callG (m := 0) ⟨_, P.range, Cal.range1⟩ (EvL.cons (Ev.callG (m := 0) ⟨_, P.len, cl⟩ (EvL.cons (Ev.name rfl) EvL.nil)) EvL.nil)) (by have := Itr.range1 (W := W) (n := 2) (k := l.length) (by omega); rwa [Int.toNat_natCast] at this) (by rw [List.length_range]; omega) ⟨(by intro _; rfl), rfl, SubC.cons rfl (.cons rfl .nil), rfl, rfl, rfl, rfl, GcOk.cons rfl rfl rfl rfl rfl (GcOk.cons rfl rfl rfl rfl rfl GcOk.nil)⟩
        fun i m C => ⟨?_, fun _ => Ev.name rfl⟩)
      have hs := Sub.slcL (W := W) (n := 2) (ds := l.map T) (lo := none) (hi := some ((i : Int) + 1)) (by rw [List.length_map]; omega)
      rw [pyS_map] at hs
      have hpz := pyS_sz (lo := none) (hi := some ((i : Int) + 1)) hz
      have hpl := pyS_len none (some ((i : Int) + 1)) l
      refine Ts.cmp (d₁ := .int (fitS l i)) (Ev.callG (m := 0) ⟨_, P.sum, Cal.sumL⟩ (EvL.cons ?_ EvL.nil)) (Ev.bin (Ev.name rfl) Ev.int Bin.subI) Cmp.leI
      unfold ilist
      rw [List.map_map]
      exact EvO.ev (EvO.compAll (pyS none (some ((i : Int) + 1)) l) T (fun t => D.int (1 + (t.length : Int))) [] (Ev.sub (Ev.name rfl) (Ev.slice (lo := none) (hi := some _) trivial (Ev.bin (Ev.name rfl) Ev.int Bin.addI)) hs) Itr.lst (by omega) ⟨(by intro _; rfl), rfl, SubC.nil, rfl, rfl, rfl, rfl, GcOk.nil⟩
        fun t m C' => Ev.bin Ev.int (Ev.callG (m := 0) ⟨_, P.len, Cal.lenT (by have := hpz t m; omega)⟩ (EvL.cons (Ev.name rfl) EvL.nil)) Bin.addI)
    unfold lLev
    generalize fitN l (wide - 15) = fit
    obtain ⟨j1, j2⟩ := join_small (o := o) hz (by omega)
    have hL8 : (S "Levels: ").length = 8 := by decide +kernel
    have hL9 : (S " Levels: ").length = 9 := by decide +kernel
    have hI := itoa_len (a := (l.length : Int)) (by omega)
    refine Exs.ite (Ts.bop (TsAll.or_cons (Ts.cmp (Ev.callG (m := 0) ⟨_, P.len, cl⟩ (EvL.cons (Ev.name rfl) EvL.nil)) Ev.int Cmp.ltI) fun _ => TsAll.or_cons (Ts.cmp (Ev.name rfl) (Ev.callG (m := 0) ⟨_, P.len, cl⟩ (EvL.cons (Ev.name rfl) EvL.nil)) Cmp.eqI) fun _ => TsAll.or_nil)) (fun e => ?_) fun e => ?_
    · have e' : (l.length : Int) < 2 ∨ fit = l.length := by
        rw [Bool.or_false, Bool.or_eq_true, decide_eq_true_iff, decide_eq_true_iff] at e; exact e
      rw [if_pos e']
      exact Exs.ret (Ev.bin (Ev.lit (l := S "Levels: ") rfl) (Ev.meth (Ev.name rfl) Mth.join (EvL.cons (Ev.name rfl) EvL.nil) .builtin (Cal.joinT (Nat.le_trans j1 (by decide)))) (Bin.addT (by omega)))
    · have e' : ¬ ((l.length : Int) < 2 ∨ fit = l.length) := by
        simp only [Bool.or_false, Bool.or_eq_false_iff, decide_eq_false_iff_not] at e; omega
      rw [if_neg e']
      refine Exs.assign (Ev.callG (m := 0) ⟨_, P.max, Cal.maxI⟩ (EvL.cons Ev.int (EvL.cons (Ev.name rfl) EvL.nil))) rfl ?_
      generalize max 1 fit = most
      have hpl := pyS_len none (some (max 1 (most - 1))) l
      have hps := pyS_sz (lo := none) (hi := some (max 1 (most - 1))) hz
      have hpl2 := pyS_len (some (-1)) none l
      have hps2 := pyS_sz (lo := some (-1)) (hi := none) hz
      have h3d : (S "...").length = 3 := by decide +kernel
      have hsh : Sz 100 (lShown l most) ∧ (lShown l most).length ≤ 100 := by
        unfold lShown
        refine ⟨fun t m => ?_, ?_⟩
        · rcases List.mem_append.mp m with m | m
          · rcases List.mem_append.mp m with m | m
            · exact hps t m
            · rw [List.mem_singleton] at m; rw [m]; omega
          · split at m
            · exact hps2 t m
            · cases m
        · rw [List.length_append, List.length_append, List.length_singleton]
          split
          · omega
          · rw [List.length_nil]; omega
      have hjl : ((lShown l most).map (·.length)).sum + (lShown l most).length * (sepT o).length ≤ 100000 ∧ (joinT (sepT o) (lShown l most)).length ≤ 100000 := by
        have h1 := sum_len hsh.1
        have h2 := joinT_len (sepT o) (lShown l most)
        have h3 := sep_len o
        have : (lShown l most).length * (sepT o).length ≤ 100 * 3 := Nat.mul_le_mul hsh.2 h3
        omega
      refine Exs.assign (d := .lst ((lShown l most).map T)) (G₁ := ("most", .fz (.int most)) :: ("fitting", .fz (.int fit)) :: ("between", .fz (T (sepT o))) :: pars ["levels", "wide", "ordered"] [.lst (l.map T), .int wide, .bool o]) ?_ rfl ?_
      · have hs1 := Sub.slcL (W := W) (n := 2) (ds := l.map T) (lo := none) (hi := some (max 1 (most - 1))) (by rw [List.length_map]; omega)
        rw [pyS_map] at hs1
        have hs2 := Sub.slcL (W := W) (n := 2) (ds := l.map T) (lo := some (-1)) (hi := none) (by rw [List.length_map]; omega)
        rw [pyS_map] at hs2
        unfold lShown
        rw [List.map_append, List.map_append]
        refine EvO.ev (EvO.bin (EvO.ev (EvO.bin (Ev.sub (Ev.name rfl) (Ev.slice (lo := none) (hi := some _) trivial (Ev.callG (m := 0) ⟨_, P.max, Cal.maxI⟩ (EvL.cons Ev.int (EvL.cons (Ev.bin (Ev.name rfl) Ev.int Bin.subI) EvL.nil)))) hs1) (Ev.display (EvL.cons (Ev.lit (l := S "...") rfl) EvL.nil) (by simp)) (BinO.addL (by simp only [List.length_cons, List.length_nil, List.length_map]; omega)))) (d₂ := .lst ((if 1 < most then pyS (some (-1)) none l else []).map T)) (Ev.ite (Ts.cmp (Ev.name rfl) Ev.int Cmp.gtI) (fun e => ?_) fun e => ?_) (BinO.addL (by
          rw [List.length_append, List.length_map, List.length_map]
          simp only [List.length_cons, List.length_nil]
          split
          · omega
          · rw [List.length_nil]; omega)))
        · rw [if_pos (of_decide_eq_true e)]
          exact Ev.sub (Ev.name rfl) (Ev.slice (lo := some _) (hi := none) (Ev.una Ev.int Una.negI) trivial) hs2
        · rw [if_neg (of_decide_eq_false e)]
          exact Ev.display EvL.nil (by decide)
      · exact Exs.ret (Ev.bin (Ev.bin (Ev.callG (m := 0) ⟨_, P.str, Cal.strI (by omega)⟩ (EvL.cons (Ev.callG (m := 0) ⟨_, P.len, cl⟩ (EvL.cons (Ev.name rfl) EvL.nil)) EvL.nil)) (Ev.lit (l := S " Levels: ") rfl) (Bin.addT (by omega))) (Ev.meth (Ev.name rfl) Mth.join (EvL.cons (Ev.name rfl) EvL.nil) .builtin (Cal.joinT (Nat.le_trans hjl.1 (by decide)))) (Bin.addT (by rw [List.length_append]; omega)))
end
end Mine

/-! M35 -/
namespace Mine
section
variable {W : Wr} {n : Nat} {env : Env} {fp av : List Addr} {G G₁ G₂ G' : Ga} {h h' : Heap} {R R' : Post} {rest : List Stmt} {mu : List Addr}

theorem IniOk.ups {m : Nat} (I : IniOk W m) (hm : m ≤ n) : IniOk W n := ⟨by
  obtain ⟨fd, body, k, names, dv, dd, F, P, hk, q⟩ := I.run
  exact ⟨fd, body, k, names, dv, dd, F, P, hk, fun kd di L x dx fp av A E s r => q kd di L x dx fp av A E s (r.mono hm)⟩⟩

/-- a new list becomes the frame's own, bound to a cell -/
theorem Exs.assignOC {x : PySem.Str} {np pos : Pos} {e : Expr} {ds : List D} {c : Addr} (v : EvO W n env G (eval e env) G₁ ds) (hk : env.kindOf x = some .cell) (hc : env.cells.lookup x = some c) (y : Exs W n env ((x, .own ds) :: G₁) rest R) (hf : env.func.isSome = true := by rfl)
    (hs : swapsWith e (some (.Name x np)) pos.line env = pure false := by rfl) : Exs W n env G (.Assign [.Name x np] e pos :: rest) R :=
  Exs.cons (fun fp av A E s r S => wpAny_Assign_Name (wpAny_mono (v fp av A E s r S) (fun v s₁ q => by
    obtain ⟨sm, k, S₀, a, vs, j, rfl, hn, ha, rd, S₁⟩ := q
    have hav : a ∉ fp ++ av := fun m => by
      obtain ⟨o, e⟩ := S.live a m
      rw [hn] at e; cases e
    obtain ⟨_, hfp, w, hcell⟩ := S₁.cel x c hc
    obtain ⟨_, hfp0, _⟩ := S.cel x c hc
    refine wpAny_storeName_cell S₁.ok.kind hk hc hcell fun h' hn' hs => ⟨sm.trans ⟨_, _, rfl⟩, k.kb.trans fun b o e => ?_, a :: fp, fun b m => ?_, rfl, S₁.setC hk hc (hfp hf) hn' hs ⟨a, vs, j, rfl, ⟨List.mem_cons_self, fun m => hav (List.mem_append_right _ m)⟩, ha, .of rd⟩ fun ds y es _ ey sy => ?_⟩
    · by_cases z : b = c
      · obtain ⟨o', e', _⟩ := hn'; exact ⟨o', z ▸ e', fun q => absurd (z ▸ hfp0 hf) q⟩
      · exact ⟨o, (hs.2 b z).trans e, fun _ => rfl⟩
    · rcases List.mem_cons.mp m with rfl | m
      · exact .inr hn
      · exact .inl m
    · obtain ⟨v', sy', a', vs', j', e', hf', _⟩ := S₀.bd y _ ey
      have := sy'.uniq sy
      rw [this] at e'
      cases e'
      exact hav (List.mem_append_left _ hf'.1)) fun _ _ x => x) hs) y

/-! a list of small ints against the empty one -/
theorem reads_I {h : Heap} : ∀ {vs : List Value} {l : List Int}, RdAll W mu h vs (ilist l) → ∃ as, ReadsAll h vs (l.map PyData.int) as
  | _, [], .nil => ⟨_, ReadsAll.nil⟩
  | _, x :: l, .cons r rs => by
    cases r with
    | int i t =>
    obtain ⟨as, q⟩ := reads_I rs
    exact ⟨_, ReadsAll.cons (Reads.int _ _) q⟩
theorem eqvAll_I : ∀ (a : List Int), PyData.eqvAll (a.map PyData.int) [] = a.isEmpty
  | [] => by simp [PyData.eqvAll]
  | _ :: _ => by simp [PyData.eqvAll]
theorem shaped_I (l : List Int) : SeqAt.shaped (.list (l.map PyData.int)) = true := by
  have h1 : PyData.canLayAll0 (l.map PyData.int) = true ∧ PyData.depthAll (l.map PyData.int) = 0 := by
    induction l with
    | nil => simp [PyData.canLayAll0, PyData.depthAll]
    | cons x l ih =>
      obtain ⟨a, b⟩ := ih
      simp only [List.map_cons, PyData.canLayAll0, PyData.canLay0, PyData.depthAll, PyData.depth, a, b, Bool.and_true, Nat.max_self, and_true]
  unfold SeqAt.shaped
  simp only [PyData.canLay0, PyData.depth, h1.1, h1.2]
  decide
theorem Cmp.neI0 {a : List Int} : Cmp W n .NotEq (.lst (ilist a)) (.lst []) (!a.isEmpty) := fun mu s v w wd r q A E R => by
  cases r with
  | lst na ho ra =>
  cases q with
  | lst nb hb' rb =>
  obtain ⟨as, r1⟩ := reads_I ra
  obtain ⟨bs, r2⟩ := reads_I (l := []) rb
  refine ne_dataH (reads_list_at ho rfl rfl (by simpa using r1)) (reads_list_at hb' rfl rfl (by simpa using r2)) (shaped_I a) (shaped_I []) R.units64 ?_
  rw [show PyData.eqv (.list (a.map PyData.int)) (.list (([] : List Int).map PyData.int)) = a.isEmpty by simp only [PyData.eqv]; exact eqvAll_I a]
  exact out_bool _
end
end Mine

/-! Q1 -/
namespace Mine

/-! slices by numbers -/
theorem pyS_nat {α : Type} (l : List α) (st e : Nat) (h : st ≤ l.length) : pyS (some (st : Int)) (some ((st : Int) + e)) l = (l.drop st).take e := by
  unfold pyS
  have h1 : clipAt l.length (st : Int) = st := by unfold clipAt; omega
  have h2 : clipAt l.length ((st : Int) + e) = min (st + e) l.length := by unfold clipAt; omega
  show (l.drop (clipAt l.length (st : Int))).take (clipAt l.length ((st : Int) + e) - clipAt l.length (st : Int)) = _
  rw [h1, h2]
  rcases Nat.le_total (st + e) l.length with q | q
  · rw [Nat.min_eq_left q, Nat.add_sub_cancel_left]
  · rw [Nat.min_eq_right q, List.take_of_length_le (by rw [List.length_drop]; omega), List.take_of_length_le (by rw [List.length_drop]; omega)]
theorem pyS_take {α : Type} (l : List α) (i : Nat) (h : i < l.length) : pyS none (some ((i : Int) + 1)) l = l.take (i + 1) := by
  unfold pyS
  have h2 : clipAt l.length ((i : Int) + 1) = i + 1 := by unfold clipAt; omega
  show (l.drop 0).take (clipAt l.length ((i : Int) + 1) - 0) = _
  rw [h2]; rfl
theorem pyS_last (l : List Tx) (h : 0 < l.length) : pyS (some (-1)) none l = [l.getD (l.length - 1) []] := by
  unfold pyS
  have h1 : clipAt l.length (-1) = l.length - 1 := by unfold clipAt; omega
  show (l.drop (clipAt l.length (-1))).take (l.length - clipAt l.length (-1)) = _
  rw [h1, List.take_of_length_le (by rw [List.length_drop]; omega)]
  rw [List.drop_eq_getElem_cons (by omega : l.length - 1 < l.length), List.drop_of_length_le (by omega), List.getD_eq_getElem?_getD, List.getElem?_eq_getElem (by omega : l.length - 1 < l.length)]; rfl

/-! the numbered rows -/
theorem joinT_cons (sep a : Tx) : ∀ xs : List Tx, joinT sep (a :: xs) = a ++ (xs.map (sep ++ ·)).flatten
  | [] => by simp [joinT]
  | x :: xs => by
    have ih := joinT_cons sep x xs
    rw [show joinT sep (a :: x :: xs) = a ++ sep ++ joinT sep (x :: xs) from rfl, ih, List.map_cons, List.flatten_cons]
    simp only [List.append_assoc]
def rowT (l : List Tx) (m : Int) (st k : Nat) : Tx := joinT (S " ") (lHead m st :: (l.drop st).take k)
theorem mark_head (m : Int) (st : Nat) : mark m st = lHead m st := by
  unfold mark padL lHead lLab
  congr 2; omega
theorem rowT_zero (l : List Tx) (m : Int) (st : Nat) : rowT l m st 0 = lHead m st := by unfold rowT; rw [List.take_zero]; rfl
theorem rowT_succ (l : List Tx) (m : Int) (st k : Nat) (h : st + k < l.length) : rowT l m st (k + 1) = rowT l m st k ++ S " " ++ l.getD (st + k) [] := by
  unfold rowT
  rw [joinT_cons, joinT_cons, List.take_add_one, List.getElem?_drop, List.getElem?_eq_getElem h, Option.toList_some, List.map_append, List.flatten_append, List.getD_eq_getElem?_getD, List.getElem?_eq_getElem h]
  simp
theorem rowT_len {l : List Tx} {m c : Int} (hc : ∀ t ∈ l, (t.length : Int) = c) {st : Nat} (hm : ((lHead m st).length : Int) = m) : ∀ k, st + k ≤ l.length → ((rowT l m st k).length : Int) = m + k * (c + 1)
  | 0, _ => by rw [rowT_zero, hm]; simp
  | k + 1, h => by
    rw [rowT_succ l m st k (by omega), List.length_append, List.length_append]
    have ih := rowT_len hc hm k (by omega)
    have b5 : (S " ").length = 1 := by decide +kernel
    have hg : ((l.getD (st + k) []).length : Int) = c := by
      rw [List.getD_eq_getElem?_getD, List.getElem?_eq_getElem (by omega : st + k < l.length)]
      exact hc _ (List.getElem_mem _)
    rw [b5]
    push_cast
    rw [ih, hg, Int.add_mul]; omega
theorem lab_all : ∀ n ∈ List.range 51, ∀ p ∈ List.range n, (lLab p).length ≤ (itoa n).length + 2 := by decide +kernel
theorem head_len {n p : Nat} (hn : n ≤ 50) (hp : p < n) : ((lHead (lab n) p).length : Int) = lab n := by
  have h := lab_all n (List.mem_range.mpr (by omega)) p (List.mem_range.mpr hp)
  unfold lHead lab
  rw [List.length_append, List.length_replicate]; omega
theorem fits_iff {width m c : Int} {k e : Nat} (hc : 0 ≤ c) (hk : 1 ≤ k) (he : (e : Int) = max 1 ((width - m).fdiv (c + 1))) : width < m + k * (c + 1) + 1 + c ↔ e < k + 1 := by
  rw [Int.fdiv_eq_ediv_of_nonneg _ (by omega)] at he
  have key : (((k : Int) + 1) ≤ (width - m) / (c + 1)) ↔ ((k : Int) + 1) * (c + 1) ≤ width - m := Int.le_ediv_iff_mul_le (by omega)
  have e2 : ((k : Int) + 1) * (c + 1) = k * (c + 1) + (c + 1) := by rw [Int.add_mul, Int.one_mul]
  rw [e2] at key
  constructor
  · intro h
    have : ¬ ((k : Int) + 1) ≤ (width - m) / (c + 1) := fun q => by have := key.mp q; omega
    omega
  · intro h
    have : ¬ ((k : Int) + 1) ≤ (width - m) / (c + 1) := by omega
    have : ¬ (k : Int) * (c + 1) + (c + 1) ≤ width - m := fun q => this (key.mpr q)
    omega
theorem nSt_inv {l : List Tx} {c width : Int} (hc : ∀ t ∈ l, (t.length : Int) = c) (hc0 : 0 ≤ c) (hl : l.length ≤ 50) {e : Nat} (he : (e : Int) = max 1 ((width - lab l.length).fdiv (c + 1))) :
    ∀ i, i < l.length → ∃ q k, 1 ≤ k ∧ k ≤ e ∧ i + 1 = q * e + k ∧ nSt l width (lab l.length) (i + 1) = ((List.range q).map fun j => rowT l (lab l.length) (j * e) e, rowT l (lab l.length) (q * e) k)
  | 0, h => by
    refine ⟨0, 1, Nat.le_refl _, by omega, by simp, ?_⟩
    rw [nSt_succ]
    unfold nStep
    rw [if_pos (.inl rfl), if_neg (by omega), mark_head]
    rw [show (0 * e) = 0 by simp, rowT_succ _ _ _ _ (by omega), rowT_zero]
    rfl
  | i + 1, h => by
    obtain ⟨q, k, h1, h2, h3, h4⟩ := nSt_inv hc hc0 hl he i (by omega)
    rw [nSt_succ, h4]
    unfold nStep
    have hg : ((l.getD (i + 1) []).length : Int) = c := by
      rw [List.getD_eq_getElem?_getD, List.getElem?_eq_getElem h]
      exact hc _ (List.getElem_mem _)
    dsimp only
    rw [rowT_len hc (head_len hl (by omega : q * e < l.length)) k (by omega), hg]
    have hf := fits_iff (width := width) (m := lab l.length) hc0 h1 he
    by_cases hk : k = e
    · rw [if_pos (.inr (hf.mpr (by omega))), if_pos (by omega)]
      refine ⟨q + 1, 1, Nat.le_refl _, by omega, by rw [Nat.add_mul]; omega, ?_⟩
      have e3 : (q + 1) * e = i + 1 := by rw [Nat.add_mul]; omega
      rw [List.range_succ, List.map_append, e3, rowT_succ _ _ _ _ (by omega), rowT_zero, mark_head, hk]
      rfl
    · rw [if_neg (fun z => z.elim (by omega) fun z => by have := hf.mp z; omega)]
      refine ⟨q, k + 1, by omega, by omega, by omega, ?_⟩
      rw [rowT_succ _ _ _ _ (by omega), h3]
theorem wd_same {l : List Tx} {c : Int} (hc : ∀ t ∈ l, (t.length : Int) = c) (h0 : 0 < l.length) : wd l = c ∧ 0 ≤ c := by
  obtain ⟨m1, m2⟩ := wd_max l
  obtain ⟨t, ht⟩ := List.exists_mem_of_length_pos h0
  have h1 := m2 (t.length : Int) (.tail _ (List.mem_map.mpr ⟨t, ht, rfl⟩))
  have h2 := hc t ht
  refine ⟨?_, by omega⟩
  rcases List.mem_cons.mp m1 with h | h
  · omega
  · obtain ⟨u, hu, e⟩ := List.mem_map.mp h
    rw [← e]; exact hc u hu
theorem chunks_of {n q k e : Nat} (h1 : 1 ≤ k) (h2 : k ≤ e) (h3 : n = q * e + k) : chunks (n : Int) (e : Int) = q + 1 := by
  unfold chunks
  rw [if_pos (by omega)]
  have : ((n : Int) - 1) / (e : Int) = q := by
    have e1 : (n : Int) - 1 = ((n - 1 : Nat) : Int) := by omega
    rw [e1, ← Int.natCast_ediv]
    congr 1
    have e2 : n - 1 = (k - 1) + e * q := by rw [Nat.mul_comm e q]; omega
    rw [e2, Nat.add_mul_div_left _ _ (by omega : 0 < e), Nat.div_eq_of_lt (by omega)]; omega
  rw [this]; rfl
theorem lNumRow_eq {l : List Tx} {m : Int} {st e : Nat} (h : st ≤ l.length) : lNumRow l m e st = rowT l m st e := by
  unfold lNumRow rowT; rw [pyS_nat l st e h]
theorem num_eq {l : List Tx} {c : Int} (hc : ∀ t ∈ l, (t.length : Int) = c) (h0 : 0 < l.length) (hl : l.length ≤ 50) (width : Int) : nRows l width = lNum l width := by
  obtain ⟨hw, hc0⟩ := wd_same hc h0
  have he1 : 1 ≤ lEach l width := by unfold lEach; omega
  obtain ⟨e, he⟩ := Int.eq_ofNat_of_zero_le (by omega : 0 ≤ lEach l width)
  have he' : (e : Int) = max 1 ((width - lab l.length).fdiv (c + 1)) := by rw [← he]; unfold lEach; rw [hw]
  obtain ⟨q, k, h1, h2, h3, h4⟩ := nSt_inv hc hc0 hl he' (l.length - 1) (by omega)
  rw [Nat.sub_add_cancel h0] at h3 h4
  unfold nRows lNum
  rw [h4, he, chunks_of h1 h2 h3, List.range_succ, List.map_append]
  dsimp only
  congr 1
  · refine List.map_congr_left fun j hj => ?_
    have hj' := List.mem_range.mp hj
    have : j * e ≤ q * e := Nat.mul_le_mul_right _ (by omega)
    rw [show ((j : Int) * (e : Int)) = ((j * e : Nat) : Int) by push_cast; rfl, lNumRow_eq (by omega)]
  · rw [List.map_singleton, show ((q : Int) * (e : Int)) = ((q * e : Nat) : Int) by push_cast; rfl, lNumRow_eq (by omega)]
    congr 1
    unfold rowT
    rw [List.take_of_length_le (i := e) (by rw [List.length_drop]; omega), List.take_of_length_le (i := k) (by rw [List.length_drop]; omega)]

/-! the named rows -/
theorem joinT_tail (sep : Tx) : ∀ xs : List Tx, xs ≠ [] → joinT sep xs ++ sep = (xs.map (· ++ sep)).flatten
  | [], h => absurd rfl h
  | [x], _ => by simp [joinT]
  | x :: y :: xs, _ => by
    have ih := joinT_tail sep (y :: xs) (by simp)
    rw [show joinT sep (x :: y :: xs) = x ++ sep ++ joinT sep (y :: xs) from rfl, List.append_assoc, ih]
    simp only [List.map_cons, List.flatten_cons]
theorem padL_eq {col : Int} {t : Tx} : padL col t = lPadL col t := by unfold padL lPadL; congr 2; omega
theorem padR_eq {col : Int} {t : Tx} : padR col t = lPadR col t := by unfold padR lPadR; congr 2; omega
theorem line_eq {l : List Tx} {st e : Nat} {col : Int} (h : st < l.length) (he : 1 ≤ e) : nmRow l st e col = lLine l st e col := by
  unfold nmRow lLine
  rw [pyS_nat l st e (by omega)]
  have hne : ((l.drop st).take e).map (padL col) ≠ [] := fun q => by
    have := congrArg List.length q
    rw [List.length_map, List.length_take, List.length_drop] at this
    simp at this; omega
  rw [joinT_tail _ _ hne, List.map_map]
  congr 1
  refine List.map_congr_left fun t _ => ?_
  show padL col t ++ S " " = _
  rw [padL_eq]
theorem chunk_lt {n i e : Nat} (he : 1 ≤ e) (h : i < chunks (n : Int) (e : Int)) : i * e < n := by
  unfold chunks at h
  split at h
  · have e1 : (n : Int) - 1 = ((n - 1 : Nat) : Int) := by omega
    rw [e1, ← Int.natCast_ediv, Int.toNat_natCast] at h
    have : i * e ≤ n - 1 := (Nat.le_div_iff_mul_le (by omega)).mp (by omega)
    omega
  · omega
theorem nam_eq {l nm : List Tx} (h : nm.length = l.length) (width : Int) : nmRows l nm width = lNam l nm width := by
  have hp : perRow l nm width = lNEach l nm width := by unfold perRow lNEach; omega
  unfold nmRows lNam
  rw [hp]
  have he1 : 1 ≤ lNEach l nm width := by unfold lNEach; omega
  obtain ⟨e, he⟩ := Int.eq_ofNat_of_zero_le (by omega : 0 ≤ lNEach l nm width)
  rw [he]
  rw [List.flatMap_def, List.flatMap_def]
  congr 1
  refine List.map_congr_left fun j hj => ?_
  have hj' := chunk_lt (by omega) (List.mem_range.mp hj)
  rw [show ((j : Int) * (e : Int)) = ((j * e : Nat) : Int) by push_cast; rfl, line_eq (by omega) (by omega), line_eq (by omega) (by omega)]

/-! the rows -/
theorem wd_ge {l : List Tx} {t : Tx} (h : t ∈ l) : (t.length : Int) ≤ wd l := (wd_max l).2 _ (.tail _ (List.mem_map.mpr ⟨t, h, rfl⟩))
theorem wd_nonneg (l : List Tx) : 0 ≤ wd l := (wd_max l).2 0 (.head _)
theorem rows_eq {l : List Tx} {names : Option (List (Option Tx))} {w : Int} {left : Bool} (h0 : 0 < l.length) (hl : l.length ≤ 50) (hn : ∀ ns, names = some ns → ns.length = l.length) : txRows l (!left) names w = lRows l names w left := by
  unfold txRows lRows
  cases names with
  | some ns => exact nam_eq (by rw [List.length_map]; exact hn ns rfl) w
  | none =>
    dsimp only
    cases left with
    | true =>
      rw [if_neg (by decide)]
      rw [show (l.map fun t => if true = true then lPadR (wd l) t else lPadL (wd l) t) = l.map (padR (wd l)) from List.map_congr_left fun t _ => by rw [if_pos rfl, padR_eq]]
      refine num_eq (c := wd l) (fun t m => ?_) (by rw [List.length_map]; exact h0) (by rw [List.length_map]; exact hl) w
      obtain ⟨x, hx, rfl⟩ := List.mem_map.mp m
      have := wd_ge hx
      unfold padR; rw [List.length_append, List.length_replicate]; omega
    | false =>
      rw [if_pos (by decide)]
      rw [show (l.map fun t => if false = true then lPadR (wd l) t else lPadL (wd l) t) = l.map (padL (wd l)) from List.map_congr_left fun t _ => by rw [if_neg (by decide), padL_eq]]
      refine num_eq (c := wd l) (fun t m => ?_) (by rw [List.length_map]; exact h0) (by rw [List.length_map]; exact hl) w
      obtain ⟨x, hx, rfl⟩ := List.mem_map.mp m
      have := wd_ge hx
      unfold padL; rw [List.length_append, List.length_replicate]; omega

/-! the levels -/
theorem lv_inv (l : List Tx) (room : Int) : ∀ i, i ≤ l.length → (lvSt room (l.take i)).1 = ((l.take i).map fun t => 1 + (t.length : Int)).sum ∧ (lvSt room (l.take i)).2 = (((List.range i).filter fun i => decide (fitS l i ≤ room)).length : Int)
  | 0, _ => ⟨rfl, rfl⟩
  | i + 1, h => by
    obtain ⟨h1, h2⟩ := lv_inv l room i (by omega)
    have hi : l[i]? = some (l[i]'(by omega)) := List.getElem?_eq_getElem (by omega)
    have es : lvSt room (l.take (i + 1)) = lvStep room (lvSt room (l.take i)) (l[i]'(by omega)) := take_foldT _ _ _ _ _ hi
    have et : ((l.take (i + 1)).map fun t => 1 + (t.length : Int)).sum = ((l.take i).map fun t => 1 + (t.length : Int)).sum + (1 + ((l[i]'(by omega)).length : Int)) := by
      rw [List.take_add_one, hi, Option.toList_some, List.map_append, List.sum_append_int]; simp
    have ef : fitS l i = ((l.take (i + 1)).map fun t => 1 + (t.length : Int)).sum := by unfold fitS; rw [pyS_take l i (by omega)]
    rw [es, List.range_succ, List.filter_append, List.length_append]
    unfold lvStep
    dsimp only
    rw [h1, h2]
    refine ⟨by rw [et]; omega, ?_⟩
    rw [List.filter_cons, List.filter_nil]
    by_cases hh : fitS l i ≤ room
    · rw [if_pos (decide_eq_true hh), if_pos (by omega)]; simp
    · rw [if_neg (show ¬ (decide (fitS l i ≤ room) = true) by simpa using hh), if_neg (by omega)]; simp
theorem lev_eq (l : List Tx) (o : Bool) (w : Int) : lvRow l o w = lLev l o w := by
  have hf : (lvSt (w - 15) l).2 = fitN l (w - 15) := by
    have := (lv_inv l (w - 15) l.length (Nat.le_refl _)).2
    rw [List.take_length] at this
    exact this
  unfold lvRow lLev
  rw [hf]
  by_cases h : (l.length : Int) ≤ 1 ∨ fitN l (w - 15) = l.length
  · rw [if_pos h, if_pos (by omega)]
  · rw [if_neg h, if_neg (by omega)]
    unfold shownL lShown
    rw [pyS_last l (by omega)]
end Mine

/-! Q2 -/
namespace Mine

theorem okT_app (a b : Tx) : okT (a ++ b) = (okT a && okT b) := by unfold okT; rw [List.all_append]
theorem okT_S (x : String) : okT (S x) = true := by
  show okT (PySem.Str.ofString x).cps.toList = true
  rw [PySem.Str.ofString_eq_toList]
  unfold okT
  rw [List.all_eq_true]
  intro c hc
  simp only [List.mem_map] at hc
  obtain ⟨d, _, rfl⟩ := hc
  have := d.valid
  have h2 : d.toNat < 1114112 := by
    unfold Char.toNat
    rcases this with h | h
    · have : d.val.toNat < 55296 := h
      omega
    · exact h.2
  simpa using h2
theorem okT_itoa (i : Int) : okT (itoa i) = true := okT_S (toString i)
theorem okT_rep (n : Nat) : okT (List.replicate n 32) = true := by
  unfold okT; rw [List.all_eq_true]; intro c hc; rw [List.eq_of_mem_replicate hc]; decide
theorem okT_join {sep : Tx} (hs : okT sep = true) : ∀ {l : List Tx}, (∀ t ∈ l, okT t = true) → okT (joinT sep l) = true
  | [], _ => rfl
  | [x], h => h x (.head _)
  | x :: y :: l, h => by
    rw [show joinT sep (x :: y :: l) = x ++ sep ++ joinT sep (y :: l) from rfl, okT_app, okT_app, h x (.head _), hs, okT_join hs fun t m => h t (.tail _ m)]; rfl
theorem okT_flat : ∀ {l : List Tx}, (∀ t ∈ l, okT t = true) → okT l.flatten = true
  | [], _ => by decide
  | x :: l, h => by rw [List.flatten_cons, okT_app, h x (.head _), okT_flat fun t m => h t (.tail _ m)]; rfl
theorem mem_pyS {α : Type} {lo hi : Option Int} {l : List α} {a : α} (h : a ∈ pyS lo hi l) : a ∈ l := by unfold pyS at h; exact List.mem_of_mem_drop (List.mem_of_mem_take h)
theorem lRows_ok {l : List Tx} {names : Option (List (Option Tx))} {w : Int} {left : Bool} (h : ∀ t ∈ l, okT t = true) (hn : ∀ ns, names = some ns → ∀ o ∈ ns, okT (shown false o) = true) : (lRows l names w left).all okT = true := by
  rw [List.all_eq_true]
  intro r hr
  unfold lRows at hr
  cases names with
  | some ns =>
    have line : ∀ (x : List Tx) f each col, (∀ t ∈ x, okT t = true) → okT (lLine x f each col) = true := fun x f each col hx => by
      unfold lLine
      refine okT_flat fun t m => ?_
      obtain ⟨y, hy, rfl⟩ := List.mem_map.mp m
      unfold lPadL
      rw [okT_app, okT_app, okT_rep, hx y (mem_pyS hy), okT_S]; rfl
    unfold lNam at hr
    obtain ⟨i, _, hi⟩ := List.mem_flatMap.mp hr
    rcases List.mem_cons.mp hi with rfl | hi
    · refine line _ _ _ _ fun t m => ?_
      obtain ⟨o, ho, rfl⟩ := List.mem_map.mp m
      exact hn ns rfl o ho
    · rw [List.mem_singleton] at hi
      rw [hi]
      exact line _ _ _ _ h
  | none =>
    dsimp only at hr
    unfold lNum at hr
    obtain ⟨i, _, rfl⟩ := List.mem_map.mp hr
    unfold lNumRow
    refine okT_join (okT_S " ") fun t m => ?_
    rcases List.mem_cons.mp m with rfl | m
    · unfold lHead lLab
      rw [okT_app, okT_app, okT_app, okT_rep, okT_S, okT_S, okT_itoa]; rfl
    · obtain ⟨y, hy, rfl⟩ := List.mem_map.mp (mem_pyS m)
      unfold lPadR lPadL
      split <;> rw [okT_app, okT_rep, h y hy] <;> rfl
theorem lRows_len {l : List Tx} {w : Int} {left : Bool} (hl : l.length ≤ 50) : (lRows l none w left).length ≤ 50 := by
  unfold lRows lNum
  dsimp only
  rw [List.length_map, List.length_range]
  refine chunks_le (by rw [List.length_map]; omega) ?_
  unfold lEach; omega
theorem lLev_ok {l : List Tx} {o : Bool} {w : Int} (h : ∀ t ∈ l, okT t = true) : okT (lLev l o w) = true := by
  have hs : okT (sepT o) = true := by unfold sepT; split <;> exact okT_S _
  unfold lLev
  split
  · rw [okT_app, okT_S, okT_join hs h]; rfl
  · rw [okT_app, okT_app, okT_itoa, okT_S, okT_join hs fun t m => ?_]; rfl
    unfold lShown at m
    rcases List.mem_append.mp m with m | m
    · rcases List.mem_append.mp m with m | m
      · exact h t (mem_pyS m)
      · rw [List.mem_singleton] at m; rw [m]; exact okT_S _
    · split at m
      · exact h t (mem_pyS m)
      · cases m

/-! the items' texts -/
theorem chr_ok : ∀ k ∈ List.range 8, ∀ q ∈ [true, false], okT (shown q (some (words.getD k []))) = true ∧ (shown q (some (words.getD k []))).length ≤ 50 := by decide +kernel
theorem dbl_ok : ∀ k ∈ List.range 11, ∀ p ∈ List.range 3, okT (pFix (dblN.getD k 0) (dblD.getD k 1) p) = true ∧ (pFix (dblN.getD k 0) (dblD.getD k 1) p).length ≤ 50 := by decide +kernel
theorem na_ok : okT (S "NA") = true ∧ (S "NA").length ≤ 50 := by decide +kernel
theorem log_ok : (okT (S "TRUE") = true ∧ (S "TRUE").length ≤ 50) ∧ okT (S "FALSE") = true ∧ (S "FALSE").length ≤ 50 := by decide +kernel
theorem shn_ok (q : Bool) : okT (shown q none) = true ∧ (shown q none).length ≤ 50 := by cases q <;> decide +kernel
theorem itT_ok {kd : Nat} {os : List (Option Nat)} {q : Bool} (hk : kd < 4) (ho : ∀ k, some k ∈ os → k < 11) : ∀ o ∈ os, okT (itT q os kd o) = true ∧ (itT q os kd o).length ≤ 50 := fun o m => by
  have : kd = 0 ∨ kd = 1 ∨ kd = 2 ∨ kd = 3 := by omega
  rcases this with rfl | rfl | rfl | rfl
  · cases o with
    | none => exact na_ok
    | some k =>
      obtain ⟨_, _, h3, h4⟩ := kI_ok k (List.mem_range.mpr (ho k m))
      show okT (pWhole (kI k)) = true ∧ (pWhole (kI k)).length ≤ 50
      rw [← h3]
      exact ⟨okT_itoa _, by omega⟩
  · cases o with
    | none => exact shn_ok q
    | some k => exact chr_ok (k % 8) (List.mem_range.mpr (Nat.mod_lt _ (by decide))) q (by cases q <;> simp)
  · have hks : ∀ k ∈ os.filterMap id, k < 11 := fun k m => by
      obtain ⟨o, ho', e⟩ := List.mem_filterMap.mp m
      exact ho k (by rw [← show o = some k from e]; exact ho')
    obtain ⟨_, _, _, b4, b5, _, _⟩ := f_bounds _ hks
    obtain ⟨p, hp⟩ := Int.eq_ofNat_of_zero_le b4
    show okT (pForm (fP (os.filterMap id)) o) = true ∧ (pForm (fP (os.filterMap id)) o).length ≤ 50
    rw [hp]
    cases o with
    | none => exact na_ok
    | some k => exact dbl_ok k (List.mem_range.mpr (ho k m)) p (List.mem_range.mpr (by omega))
  · cases o with
    | none => exact na_ok
    | some k =>
      show okT (logT (some (kL k))) = true ∧ (logT (some (kL k))).length ≤ 50
      unfold logT
      dsimp only
      split
      · exact log_ok.1
      · exact log_ok.2
theorem itL_texts {kd : Nat} {os : List (Option Nat)} {q : Bool} (hk : kd < 4) (ho : ∀ k, some k ∈ os → k < 11) : Sz 50 (os.map (itT q os kd)) ∧ ∀ t ∈ os.map (itT q os kd), okT t = true :=
  ⟨fun t m => by obtain ⟨o, h, rfl⟩ := List.mem_map.mp m; exact (itT_ok hk ho o h).2, fun t m => by obtain ⟨o, h, rfl⟩ := List.mem_map.mp m; exact (itT_ok hk ho o h).1⟩

/-! names, levels -/
def nmAll : List (Option Tx) := [some (S "a"), some (S "bcd"), some (S ""), none, some (S "e\\")]
def nmO (v : Int) : Option Tx := nmAll.getD v.toNat none
def okT1b (t : Tx) : Bool := decide (t.length ≤ 40) && t.all fun c => c == 10 || (decide (32 ≤ c) && c != 127)
theorem okT1_of {t : Tx} (h : okT1b t = true) : okT1 (some t) := fun t' e => by
  cases e
  unfold okT1b at h
  rw [Bool.and_eq_true, decide_eq_true_iff, List.all_eq_true] at h
  refine ⟨h.1, fun c hc => ?_⟩
  have := h.2 c hc
  unfold okC
  simp only [Bool.or_eq_true, Bool.and_eq_true, beq_iff_eq, decide_eq_true_iff, bne_iff_ne] at this
  exact this
theorem nm_ok : ∀ k ∈ List.range 5, (match nmAll.getD k none with | some t => okT1b t | none => true) = true ∧ okT (shown false (nmAll.getD k none)) = true := by decide +kernel
theorem nmO_ok (v : Int) : okT1 (nmO v) ∧ okT (shown false (nmO v)) = true := by
  unfold nmO
  by_cases h : v.toNat < 5
  · obtain ⟨h1, h2⟩ := nm_ok v.toNat (List.mem_range.mpr h)
    refine ⟨?_, h2⟩
    cases e : nmAll.getD v.toNat none with
    | none => exact fun t e => by cases e
    | some t => rw [e] at h1; exact okT1_of h1
  · have : nmAll.getD v.toNat none = none := by
      rw [List.getD_eq_getElem?_getD, List.getElem?_eq_none (by show 5 ≤ v.toNat; omega)]; rfl
    rw [this]
    exact ⟨(fun t e => by cases e), (shn_ok false).1⟩

def lvAll : List Tx := [S "x", S "yy", S "a longer level", S "z", S "wwwww", S "q"]
def lvs (m r : Nat) : List Tx := (List.range r).map fun i => lvAll.getD ((i + m) % 6) []
theorem lv_ok : ∀ k ∈ List.range 6, okT1b (lvAll.getD k []) = true ∧ shown false (some (lvAll.getD k [])) = lvAll.getD k [] ∧ okT (lvAll.getD k []) = true ∧ (lvAll.getD k []).length ≤ 20 := by decide +kernel
theorem lvs_ok {m r : Nat} {t : Tx} (h : t ∈ lvs m r) : okT1 (some t) ∧ shown false (some t) = t ∧ okT t = true ∧ t.length ≤ 20 := by
  obtain ⟨i, _, rfl⟩ := List.mem_map.mp h
  obtain ⟨h1, h2, h3, h4⟩ := lv_ok ((i + m) % 6) (List.mem_range.mpr (Nat.mod_lt _ (by decide)))
  exact ⟨okT1_of h1, h2, h3, h4⟩
theorem lvs_len (m r : Nat) : (lvs m r).length = r := by unfold lvs; rw [List.length_map, List.length_range]
theorem lvs_shown (m r : Nat) : ((lvs m r).map fun t => shown false (some t)) = lvs m r := by
  conv => rhs; rw [← List.map_id (lvs m r)]
  exact List.map_congr_left fun t h => (lvs_ok h).2.1
def lTx (lv : List Tx) (i : Nat) : Tx := if i = 0 then S "<NA>" else lv.getD (i - 1) []
theorem getD_mem {lv : List Tx} {i : Nat} (h : i < lv.length) : lv.getD i [] ∈ lv := by
  rw [List.getD_eq_getElem?_getD, List.getElem?_eq_getElem h]; exact List.getElem_mem _
theorem lab_shown {m r i : Nat} (h : i ≤ r) : shown false (lb (lvs m r) i) = lTx (lvs m r) i ∧ okT1 (lb (lvs m r) i) ∧ okT (lTx (lvs m r) i) = true ∧ (lTx (lvs m r) i).length ≤ 20 := by
  cases i with
  | zero => exact ⟨rfl, (fun t e => by cases e), okT_S _, by show (S "<NA>").length ≤ 20; decide +kernel⟩
  | succ i =>
    obtain ⟨h1, h2, h3, h4⟩ := lvs_ok (getD_mem (lv := lvs m r) (i := i) (by rw [lvs_len]; omega))
    exact ⟨h2, h1, h3, h4⟩
end Mine

/-! M36 -/
set_option maxHeartbeats 4000000
namespace Mine
section
variable {W : Wr} {n : Nat} {env : Env} {G : Ga}
theorem sc_62 : Sc (recAt 62) := ⟨rfl, rfl, rfl, by decide +kernel⟩
abbrev lawEnv (pm code doc : Value) (L a : Addr) : Env := callEnvC (fdR (recAt 62) (recAt 62).name .none pm code doc) L a

theorem lvAll_get {a m : Nat} : (lvAll.map T)[(((a : Int) + (m : Int)).fmod 6).toNat]? = some (T (lvAll.getD ((a + m) % 6) [])) := by
  have h1 : (((a : Int) + (m : Int)).fmod 6).toNat = (a + m) % 6 := by rw [Int.fmod_eq_emod_of_nonneg _ (by decide)]; omega
  have h2 : (a + m) % 6 < lvAll.length := Nat.mod_lt _ (by decide)
  rw [h1, List.getElem?_map, List.getElem?_eq_getElem h2, List.getD_eq_getElem?_getD, List.getElem?_eq_getElem h2]; rfl
theorem range_itr {k : Nat} (h : k ≤ 100) : Itr W n (.rng 0 k 1) ((List.range k).map fun (i : Nat) => D.int (i : Int)) := by
  have := Itr.range1 (W := W) (n := n) (k := k) (by omega); rwa [Int.toNat_natCast] at this
/-- a pick, told -/
theorem w_pickE (P : Pg W) {l : List Int} {h : Hst} {lim : Int} (ho : okH l h) (hl : 0 < lim ∧ lim < 1000) : ∃ (h' : Hst) (r : Nat), okH l h' ∧ (r : Int) < lim ∧ CalMG W 1 "_law_pick" (hD l h) [.int lim] (hD l h') (.int (r : Nat)) := by
  obtain ⟨h1, h2, h3⟩ := pk_ok hl.1 ho
  have c := w_pick P ho hl
  obtain ⟨r, e⟩ := Int.eq_ofNat_of_zero_le h2
  rw [e] at c h3
  exact ⟨_, r, h1, h3, c⟩

def emp (o : Bool) : List Tx := if o then [S "ordered(0)"] else [S "factor(0)"]
def clsL (o : Bool) : List Tx := if o then [S "ordered", S "factor"] else [S "factor"]
theorem clsL_has (o : Bool) : (clsL o).contains (S "ordered") = o := by cases o <;> decide +kernel

/-- the law's last rows -/
theorem law_end (P : Pg W) {its : List Nat} {m r : Nat} {w : Int} {o : Bool} (hi : ∀ i ∈ its, i ≤ r) (hz : its.length ≤ 8) (hr : r < 7) (hw : 8 ≤ w ∧ w ≤ 60) (L a : Addr) (pm code doc : Value) :
    Exs W 12 (lawEnv pm code doc L a) [("f", .fz (.vec (key (S "integer")) (.lst (its.map oi)) (fAttr (lvs m r) (clsL o)))), ("items", .fz (.lst (ilist (its.map fun (i : Nat) => (i : Int))))), ("levels", .fz (.lst ((lvs m r).map T))), ("wide", .fz (.int w)), ("ordered", .fz (.bool o))] ((recAt 62).body.drop 16) (Rt W (.bool true)) := by
  have hll := lvs_len m r
  have hlz : Sz 100 (lvs m r) := fun t h => Nat.le_trans (lvs_ok h).2.2.2 (by decide)
  have htx : ∀ i ∈ its, okT (lTx (lvs m r) i) = true ∧ (lTx (lvs m r) i).length ≤ 20 := fun i h => (lab_shown (hi i h)).2.2
  have hsz : Sz 50 (its.map (lTx (lvs m r))) := fun t h => by
    obtain ⟨i, hi', rfl⟩ := List.mem_map.mp h
    exact Nat.le_trans (htx i hi').2 (by decide)
  have hsh : (its.map fun i => shown false (lb (lvs m r) i)) = its.map (lTx (lvs m r)) := List.map_congr_left fun i h => (lab_shown (hi i h)).1
  have eqR : fRows its (lvs m r) o w = if its = [] then emp o else lRows (its.map (lTx (lvs m r))) none w true := by
    unfold fRows emp
    by_cases h : its = []
    · rw [if_pos h, if_pos h]
    · rw [if_neg h, if_neg h, hsh]
      exact rows_eq (left := true) (by rw [List.length_map]; exact List.length_pos_iff.mpr h) (by rw [List.length_map]; omega) (fun _ e => by cases e)
  have hpf := w_print_factor P (its := its) (lv := lvs m r) (cls := clsL o) (w := w) (by omega) (by rw [hll]; exact hi) (by omega) (fun i h => (lab_shown (hi i h)).2.1) (fun t h => (lvs_ok h).1) (by omega) (by rw [hsh]; exact hsz) (by
    rw [clsL_has, eqR]
    split
    · unfold emp; split <;> simp
    · exact Nat.le_trans (lRows_len (by rw [List.length_map]; omega)) (by decide))
  rw [clsL_has, eqR, lvs_shown, lev_eq] at hpf
  have okd : ((if its = [] then emp o else lRows (its.map (lTx (lvs m r))) none w true) ++ [lLev (lvs m r) o w]).all okT = true := by
    rw [List.all_append, List.all_cons, lLev_ok fun t h => (lvs_ok h).2.2.1]
    split
    · unfold emp; split <;> simp [okT_S]
    · rw [lRows_ok (fun t h => by obtain ⟨i, hi', rfl⟩ := List.mem_map.mp h; exact (htx i hi').1) (fun _ e => by cases e)]; rfl
  have hlen : (if its = [] then emp o else lRows (its.map (lTx (lvs m r))) none w true).length ≤ 50 := by
    split
    · unfold emp; split <;> simp
    · exact lRows_len (by rw [List.length_map]; omega)
  generalize hlev : lLev (lvs m r) o w = lev at hpf okd
  have hcl := wl_levels P (l := lvs m r) (o := o) (wide := w) hlz (by omega)
  rw [hlev] at hcl
  refine Exs.assign (d := .lst ((emp o).map T)) (G₁ := [("f", .fz (.vec (key (S "integer")) (.lst (its.map oi)) (fAttr (lvs m r) (clsL o)))), ("items", .fz (.lst (ilist (its.map fun (i : Nat) => (i : Int))))), ("levels", .fz (.lst ((lvs m r).map T))), ("wide", .fz (.int w)), ("ordered", .fz (.bool o))]) ?_ rfl ?_
  · rw [show (emp o).map T = [T (if o then S "ordered(0)" else S "factor(0)")] by unfold emp; cases o <;> rfl]
    exact Ev.display (EvL.cons (Ev.ite (Ts.val (Ev.name rfl) Tru.bool) (fun e => by rw [if_pos e]; exact Ev.lit rfl) (fun e => by rw [if_neg (by rw [e]; decide)]; exact Ev.lit rfl)) EvL.nil) (by simp)
  refine Exs.iteJ (G₂ := [("due", .fz (.lst ((if its = [] then emp o else lRows (its.map (lTx (lvs m r))) none w true).map T))), ("f", .fz (.vec (key (S "integer")) (.lst (its.map oi)) (fAttr (lvs m r) (clsL o)))), ("levels", .fz (.lst ((lvs m r).map T))), ("wide", .fz (.int w)), ("ordered", .fz (.bool o))]) (Ts.cmp (Ev.name rfl) (Ev.display EvL.nil (by decide)) Cmp.neI0) (fun e => ?_) (fun e => ?_) ?_
  · have hne : its ≠ [] := fun q => by subst q; cases e
    rw [if_neg hne]
    refine Exs.assign (Ev.callG (wl_rows P (l := its.map (lTx (lvs m r))) (names := none) (left := true) hsz (by rw [List.length_map]; omega) (fun _ e => by cases e) (by omega)) (EvL.cons (G₁ := ("due", .fz (.lst ((emp o).map T))) :: [("f", .fz (.vec (key (S "integer")) (.lst (its.map oi)) (fAttr (lvs m r) (clsL o)))), ("items", .fz (.lst (ilist (its.map fun (i : Nat) => (i : Int))))), ("levels", .fz (.lst ((lvs m r).map T))), ("wide", .fz (.int w)), ("ordered", .fz (.bool o))]) ?_ (EvL.cons Ev.none (EvL.cons (Ev.name rfl) (EvL.cons Ev.bool EvL.nil))))) rfl ?_
    · have it : Itr W 12 (.lst (ilist (its.map fun (i : Nat) => (i : Int)))) (its.map fun (i : Nat) => D.int (i : Int)) := by unfold ilist; rw [List.map_map]; exact Itr.lst
      rw [show (its.map (lTx (lvs m r))).map T = its.map (fun i => T (lTx (lvs m r) i)) from List.map_map]
      refine EvO.ev (EvO.compAll (d := .lst (ilist (its.map fun (i : Nat) => (i : Int)))) its (fun (i : Nat) => D.int (i : Int)) (fun i => T (lTx (lvs m r) i)) [("levels", .fz (.lst ((lvs m r).map T)))] (Ev.name rfl) it (by omega) ⟨(by intro _; rfl), rfl, SubC.cons rfl .nil, rfl, rfl, rfl, rfl, GcOk.cons rfl rfl rfl rfl rfl GcOk.nil⟩ fun i mi C => ?_)
      unfold lTx
      refine Ev.ite (Ts.cmp (Ev.name (d := .int (i : Int)) rfl) Ev.int Cmp.eqI) (fun e => ?_) fun e => ?_
      · have e' := of_decide_eq_true e
        rw [if_pos (by omega)]; exact Ev.lit rfl
      · have e' := of_decide_eq_false e
        rw [if_neg (by omega)]
        have hle := hi i mi
        have hget : ((lvs m r).map T)[((i : Int) - 1).toNat]? = some (T ((lvs m r).getD (i - 1) [])) := by
          rw [show ((i : Int) - 1).toNat = i - 1 by omega, List.getElem?_map, List.getD_eq_getElem?_getD, List.getElem?_eq_getElem (by omega : i - 1 < (lvs m r).length)]; rfl
        exact Ev.sub (Ev.name rfl) (Ev.bin (Ev.name rfl) Ev.int Bin.subI) (Sub.lst (by omega) (by omega) hget)
    · exact Exs.nil fun fp av h' S' => ⟨rfl, S'.weaken (Sub0.cons rfl (.cons rfl (.cons rfl (.cons rfl (.cons rfl .nil)))))⟩
  · have hne : its = [] := by
      cases its with
      | nil => rfl
      | cons => cases e
    rw [if_pos hne]
    exact Exs.nil fun fp av h' S' => ⟨rfl, S'.weaken (Sub0.cons rfl (.cons rfl (.cons rfl (.cons rfl (.cons rfl .nil)))))⟩
  · generalize (if its = [] then emp o else lRows (its.map (lTx (lvs m r))) none w true) = due at hpf okd hlen
    have fin : (decide (due ++ [lev] = due ++ [lev])) = true := decide_eq_true rfl
    rw [← fin]
    refine Exs.ret (Ev.cmp (Ev.callG hpf (EvL.cons (Ev.name rfl) (EvL.cons (Ev.name rfl) EvL.nil))) (EvO.ev (EvO.bin (d₁ := .lst (due.map T)) (d₂ := .lst [T lev]) (Ev.name rfl) (Ev.display (EvL.cons (Ev.callG hcl (EvL.cons (Ev.name rfl) (EvL.cons (Ev.name rfl) (EvL.cons (Ev.name rfl) EvL.nil)))) EvL.nil) (by simp)) (BinO.addL (by rw [List.length_map, List.length_singleton]; omega)))) ?_)
    have := Cmp.eqL (W := W) (n := 12) okd okd
    rw [List.map_append] at this ⊢
    exact this
end
end Mine

/-! M37 -/
set_option maxHeartbeats 4000000
namespace Mine
section
variable {W : Wr} {n : Nat} {env : Env} {G : Ga}

theorem oi_ite (i : Nat) : oi i = if (i : Int) = 0 then D.none else D.int (i : Int) := by
  cases i with
  | zero => rfl
  | succ i => rw [if_neg (by omega)]; rfl
/-- the law's end: the factor -/
theorem law_factor (P : Pg W) {l : List Int} {h : Hst} {m : Nat} {w : Int} (ho : okH l h) (hm : m ≤ 14) (hw : 8 ≤ w ∧ w ≤ 60) (L a : Addr) (pm code doc : Value) :
    Exs W 12 (lawEnv pm code doc L a) [("hand", .own (hD l h)), ("many", .fz (.int m)), ("wide", .fz (.int w))] ((recAt 62).body.drop 11) (Rt W (.bool true)) := by
  -- levels
  obtain ⟨h1, r, ho1, hr, c1⟩ := w_pickE P (lim := 7) ho (by decide)
  refine Exs.assignC (d := .lst ((lvs m r).map T)) (G₁ := [("hand", .own (hD l h1)), ("hand", .own (hD l h)), ("many", .fz (.int m)), ("wide", .fz (.int w))]) ?_ rfl rfl ?_
  · unfold lvs
    rw [List.map_map]
    exact EvO.ev (EvO.compAll (List.range r) (fun (i : Nat) => D.int (i : Int)) (fun i => T (lvAll.getD ((i + m) % 6) [])) [("many", .fz (.int m))] (Ev.callG (m := 0) ⟨_, P.range, Cal.range1⟩ (EvL.cons (Ev.callMG c1 rfl (EvL.cons Ev.int EvL.nil)) EvL.nil)) (range_itr (by omega)) (by rw [List.length_range]; omega) ⟨(by intro _; rfl), rfl, SubC.cons rfl .nil, rfl, rfl, rfl, rfl, GcOk.cons rfl rfl rfl rfl rfl GcOk.nil⟩
      fun i mm C => Ev.sub (d₁ := .lst (lvAll.map T)) (Ev.display (EvL.cons (Ev.lit rfl) (EvL.cons (Ev.lit rfl) (EvL.cons (Ev.lit rfl) (EvL.cons (Ev.lit rfl) (EvL.cons (Ev.lit rfl) (EvL.cons (Ev.lit rfl) EvL.nil)))))) (by decide)) (Ev.bin (Ev.bin (Ev.name rfl) (Ev.name rfl) Bin.addI) Ev.int (Bin.modI (by decide))) (Sub.lst (Int.fmod_nonneg_of_pos _ (by decide)) (by have := Int.fmod_lt_of_pos ((i : Int) + (m : Int)) (b := 6) (by decide); omega) lvAll_get))
  -- items
  obtain ⟨h2, k, ho2, hk, c2⟩ := w_pickE P (lim := 9) ho1 (by decide)
  have hlv : ((lvs m r).map T).length = r := by rw [List.length_map, lvs_len]
  have cl : Cal W 0 (.builtin "len") [.lst ((lvs m r).map T)] (.int r) := by
    have := Cal.lenL (W := W) (n := 0) (ds := (lvs m r).map T) (by rw [hlv]; omega)
    rwa [hlv] at this
  have lim : 0 < (r : Int) + 1 ∧ (r : Int) + 1 < 1000 := by omega
  refine Exs.assignCompM (x0 := "hand") (List.range k) (fun (i : Nat) => D.int (i : Int)) (fun i => D.int (pv l ((r : Int) + 1) h2 i)) (fun i => hD l (pst l ((r : Int) + 1) h2 i)) [("levels", .fz (.lst ((lvs m r).map T)))] (Ev.callG (m := 0) ⟨_, P.range, Cal.range1⟩ (EvL.cons (Ev.callMG c2 rfl (EvL.cons Ev.int EvL.nil)) EvL.nil)) (range_itr (by omega)) (by rw [List.length_range]; omega)
    ⟨(by intro _; rfl), rfl, SubC.cons rfl (.cons rfl .nil), rfl, rfl, rfl, rfl, GcOk.cons rfl rfl rfl rfl rfl GcOk.nil⟩ rfl (by decide) rfl rfl rfl ⟨_, rfl⟩
    (fun i j hj C al => ⟨_, Ev.callMG (w_pick P (pst_ok lim.1 ho2 i) lim) rfl (EvL.cons (Ev.bin (Ev.callG (m := 0) ⟨_, P.len, cl⟩ (EvL.cons (Ev.name rfl) EvL.nil)) Ev.int Bin.addI) EvL.nil), rfl⟩) rfl ?_
  rw [List.length_range]
  have ho3 := pst_ok lim.1 ho2 k
  generalize hits : (List.range k).map (fun i => (pv l ((r : Int) + 1) h2 i).toNat) = its
  have hlen : its.length ≤ 8 := by rw [← hits, List.length_map, List.length_range]; omega
  have hle : ∀ i ∈ its, i ≤ r := fun i hi => by
    rw [← hits] at hi
    obtain ⟨j, _, rfl⟩ := List.mem_map.mp hi
    have := pv_ok lim.1 ho2 j
    omega
  have hmap : (List.range k).map (fun i => D.int (pv l ((r : Int) + 1) h2 i)) = ilist (its.map fun (i : Nat) => (i : Int)) := by
    rw [← hits]; unfold ilist
    rw [List.map_map, List.map_map]
    refine List.map_congr_left fun j _ => ?_
    have := pv_ok lim.1 ho2 j
    show D.int _ = D.int ((pv l ((r : Int) + 1) h2 j).toNat : Int)
    rw [Int.toNat_of_nonneg this.1]
  rw [hmap]
  generalize pst l ((r : Int) + 1) h2 k = h3 at ho3
  clear hmap hits
  refine Exs.freeze (x := "items") rfl ?_
  -- ordered
  obtain ⟨h4, o, ho4, hor, c3⟩ := w_pickE P (lim := 2) ho3 (by decide)
  refine Exs.assign (Ev.cmp (Ev.callMG c3 rfl (EvL.cons Ev.int EvL.nil)) Ev.int Cmp.eqI) rfl ?_
  generalize decide ((o : Int) = 1) = od
  have it : Itr W 12 (.lst (ilist (its.map fun (i : Nat) => (i : Int)))) (its.map fun (i : Nat) => D.int (i : Int)) := by unfold ilist; rw [List.map_map]; exact Itr.lst
  refine Exs.newV (n := 10) (kd := S "integer") (di := .lst (its.map oi)) ((w_init P).ups (by decide)) (Ev.gname ⟨.inl P.cls, Cee.cls⟩ rfl (by decide +kernel)) (EvL.cons (Ev.lit rfl) (EvL.cons (EvO.ev (EvO.compAll (d := .lst (ilist (its.map fun (i : Nat) => (i : Int)))) its (fun (i : Nat) => D.int (i : Int)) oi [] (Ev.name rfl) it (by omega) ⟨(by intro _; rfl), rfl, SubC.nil, rfl, rfl, rfl, rfl, GcOk.nil⟩ fun i mi C => by
    rw [oi_ite]
    refine Ev.ite (Ts.cmp (Ev.name (d := .int (i : Int)) rfl) Ev.int Cmp.eqI) (fun e => ?_) fun e => ?_
    · rw [if_pos (of_decide_eq_true e)]; exact Ev.none
    · rw [if_neg (of_decide_eq_false e)]; exact Ev.name rfl)) EvL.nil)) rfl (fun x dx => ?_)
  refine ExsV.setattr (nm := "f") (d := fAttr (lvs m r) (clsL od)) rfl (Ev.dictS (ks := [S "levels", S "class"]) (vd := [chV (lvs m r), chV (clsL od)]) (EvPairs.cons (Ev.lit rfl) (Ev.callG (w_vector P) (EvL.cons (Ev.lit rfl) (EvL.cons (Ev.name rfl) EvL.nil))) (EvPairs.cons (Ev.lit rfl) (Ev.callG (w_vector P) (EvL.cons (Ev.lit rfl) (EvL.cons ?_ EvL.nil))) EvPairs.nil)) (by decide +kernel)) (by simp) (Nat.le_of_ble_eq_true rfl) ?_
  · refine Ev.ite (Ts.val (Ev.name (d := .bool od) rfl) Tru.bool) (fun e => ?_) fun e => ?_
    · rw [e]
      exact Ev.display (EvL.cons (Ev.lit rfl) (EvL.cons (Ev.lit rfl) EvL.nil)) (by decide)
    · rw [e]
      exact Ev.display (EvL.cons (Ev.lit rfl) EvL.nil) (by decide)
  · refine ExsV.freeze (nm := "f") (k := S "integer") (di := .lst (its.map oi)) (da := fAttr (lvs m r) (clsL od)) rfl rfl rfl rfl ?_
    exact Exs.weaken (Sub0.cons rfl (.cons rfl (.cons rfl (.cons rfl (.cons rfl .nil))))) (law_end P hle hlen (by omega) hw L a pm code doc)
end
end Mine

/-! M38 -/
set_option maxHeartbeats 4000000
namespace Mine
section
variable {W : Wr} {n : Nat} {env : Env} {G : Ga}

/-- the first comparison -/
theorem law_cmp (P : Pg W) {l : List Int} {h : Hst} {m : Nat} {w : Int} {q : Bool} {due : List Tx} {vD : D} (ho : okH l h) (hm : m ≤ 14) (hw : 8 ≤ w ∧ w ≤ 60) (hd : due.all okT = true) (hpv : CalG W 9 "print_vector" [vD, .int w, .bool q] (.lst (due.map T))) (L a : Addr) (pm code doc : Value) :
    Exs W 12 (lawEnv pm code doc L a) [("due", .fz (.lst (due.map T))), ("quote", .fz (.bool q)), ("wide", .fz (.int w)), ("v", .fz vD), ("hand", .own (hD l h)), ("many", .fz (.int m))] ((recAt 62).body.drop 10) (Rt W (.bool true)) := by
  refine Exs.ite (Ts.cmp (Ev.callG hpv (EvL.cons (Ev.name rfl) (EvL.cons (Ev.name rfl) (EvL.cons (Ev.name rfl) EvL.nil)))) (Ev.name rfl) (Cmp.neL hd hd)) (fun e => ?_) fun _ => ?_
  · rw [decide_eq_true rfl] at e; cases e
  · exact Exs.weaken (Sub0.cons rfl (.cons rfl (.cons rfl .nil))) (law_factor P ho hm hw L a pm code doc)

def nmP (b : Bool) : Tx := if b then S "named " else S ""
def nuT (k : Tx) : Tx := if k = S "double" then S "numeric" else k
theorem emp_eq : ∀ kd ∈ List.range 4, ∀ b ∈ [true, false], (nmP b ++ nuT (kdN kd)) ++ S "(0)" = (if b = true then S "named " ++ eT (kdN kd) else eT (kdN kd)) ∧ (nmP b ++ nuT (kdN kd)).length ≤ 100 ∧ (nuT (kdN kd)).length ≤ 50 := by decide +kernel
theorem emp_ok : ∀ kd ∈ List.range 4, ∀ b ∈ [true, false], okT ((nmP b ++ nuT (kdN kd)) ++ S "(0)") = true := by decide +kernel
theorem kd_ok : ∀ kd ∈ List.range 4, kdN kd ∈ kinds ∧ kdN kd ≠ S "language" ∧ kdN kd ≠ S "environment" := by decide +kernel
theorem nu_at {k : Tx} : (atK [key (S "double")] [T (S "numeric")] (key k)).getD (T k) = T (nuT k) := by
  unfold nuT atK
  by_cases h : k = S "double"
  · rw [if_pos h, if_pos (by rw [h])]; rfl
  · rw [if_neg h, if_neg (fun q => h (by unfold key at q; injection q with q; simpa using (congrArg Array.toList q).symm))]; rfl
/-- what stands as names -/
inductive NmD (m : Nat) : Option (List (Option Tx)) → D → Prop
  | no : NmD m none .none
  | yes {ns : List (Option Tx)} (hl : ns.length = m) (hok : ∀ o ∈ ns, okT1 o ∧ okT (shown false o) = true) : NmD m (some ns) (.dct [key (S "names")] [.vec (key (S "character")) (.lst (ns.map oT)) .none])
theorem NmD.okAttr {m : Nat} {names : Option (List (Option Tx))} {da : D} (x : NmD m names da) : Mine.okAttr da := by
  cases x with
  | no => exact .inl rfl
  | yes => exact .inr ⟨_, _, rfl⟩
theorem NmD.has {m : Nat} {names : Option (List (Option Tx))} {da : D} (x : NmD m names da) : hasNames da = names.isSome := by
  cases x with
  | no => rfl
  | @yes ns hl hok => show (atK [key (S "names")] [D.vec (key (S "character")) (.lst (ns.map oT)) .none] (key (S "names"))).isSome = true; unfold atK; rw [if_pos rfl]; rfl
theorem NmD.call (P : Pg W) {m : Nat} {names : Option (List (Option Tx))} {da di : D} (x : NmD m names da) {kd : Nat} (hk : kd < 4) (hm : m ≤ 14) : CalG W 3 "names_of" [.vec (key (kdN kd)) di da] (onD names) := by
  obtain ⟨_, k1, k2⟩ := kd_ok kd (List.mem_range.mpr hk)
  have ne : key (S "names") ≠ key (S "dim") := by decide +kernel
  cases x with
  | no => exact w_names_none P (.inl rfl) rfl rfl k1 k2
  | @yes ns hl hok =>
    refine w_names_some P (.inr ⟨_, _, rfl⟩) ?_ ?_ k1 k2 (by rw [List.length_map]; omega) (kn := key (S "character")) (an := .none)
    · show (atK [key (S "names")] [D.vec (key (S "character")) (.lst (ns.map oT)) .none] (key (S "dim"))).getD .none = .none
      unfold atK; rw [if_neg ne]; rfl
    · show (atK [key (S "names")] [D.vec (key (S "character")) (.lst (ns.map oT)) .none] (key (S "names"))).getD .none = _
      unfold atK; rw [if_pos rfl]; rfl
theorem noFn_attr {m : Nat} {names : Option (List (Option Tx))} {da : D} (x : NmD m names da) : noFn da = true := by cases x <;> rfl

/-- the law's middle: the vector -/
theorem law_mid (P : Pg W) {l : List Int} {h : Hst} {kd m : Nat} {os : List (Option Nat)} {names : Option (List (Option Tx))} {da : D} (ho : okH l h) (hk : kd < 4) (hm : m ≤ 14) (hos : os.length = m) (hok : ∀ k, some k ∈ os → k < 11) (x : NmD m names da) (L a : Addr) (pm code doc : Value) :
    Exs W 12 (lawEnv pm code doc L a) [("v", .fz (.vec (key (kdN kd)) (.lst (os.map (itD kd))) da)), ("names", .fz (onD names)), ("hand", .own (hD l h)), ("kind", .fz (T (kdN kd))), ("many", .fz (.int m))] ((recAt 62).body.drop 7) (Rt W (.bool true)) := by
  obtain ⟨h1, w, ho1, hw, c1⟩ := w_pickE P (lim := 53) ho (by decide)
  refine Exs.assign (Ev.bin Ev.int (Ev.callMG c1 rfl (EvL.cons Ev.int EvL.nil)) Bin.addI) rfl ?_
  obtain ⟨h2, qi, ho2, hq, c2⟩ := w_pickE P (lim := 3) ho1 (by decide)
  refine Exs.assign (Ev.cmp (Ev.callMG c2 rfl (EvL.cons Ev.int EvL.nil)) Ev.int Cmp.ltI) rfl ?_
  generalize decide ((qi : Int) < 2) = q
  have hw' : 8 ≤ (8 : Int) + w ∧ (8 : Int) + w ≤ 60 := by omega
  generalize (8 : Int) + w = w' at hw'
  have hkm := List.mem_range.mpr hk
  refine Exs.ite (Ts.cmp (Ev.name rfl) Ev.int Cmp.eqI) (fun e => ?_) fun e => ?_
  · have e0 : m = 0 := by have := of_decide_eq_true e; omega
    have eo : os = [] := List.length_eq_zero_iff.mp (by omega)
    subst eo
    obtain ⟨q1, q2, q3⟩ := emp_eq kd hkm names.isSome (by cases names.isSome <;> simp)
    have q4 := emp_ok kd hkm names.isSome (by cases names.isSome <;> simp)
    have hpe : pEmpty (kdN kd) da = (nmP names.isSome ++ nuT (kdN kd)) ++ S "(0)" := by rw [q1]; unfold pEmpty; rw [x.has]
    have hpv := w_print_vector0 P (k := kdN kd) (da := da) (q := q) (w := w') (kd_ok kd hkm).1 x.okAttr
    rw [hpe] at hpv
    have b3 : (S "(0)").length = 3 := by decide +kernel
    have hA : (nmP names.isSome ++ nuT (kdN kd)).length = (nmP names.isSome).length + (nuT (kdN kd)).length := List.length_append
    refine Exs.assign (d := .lst ([(nmP names.isSome ++ nuT (kdN kd)) ++ S "(0)"].map T)) (Ev.display (EvL.cons (Ev.bin (Ev.bin (G₁ := [("quote", .fz (.bool q)), ("hand", .own (hD l h2)), ("wide", .fz (.int w')), ("hand", .own (hD l h1)), ("v", .fz (.vec (key (kdN kd)) (.lst (([] : List (Option Nat)).map (itD kd))) da)), ("names", .fz (onD names)), ("hand", .own (hD l h)), ("kind", .fz (T (kdN kd))), ("many", .fz (.int m))]) (d₁ := T (nmP names.isSome)) (d₂ := T (nuT (kdN kd))) ?_ ?_ (Bin.addT (by omega))) (Ev.lit (l := S "(0)") rfl) (Bin.addT (by omega))) EvL.nil) (by simp)) (G₁ := [("quote", .fz (.bool q)), ("hand", .own (hD l h2)), ("wide", .fz (.int w')), ("hand", .own (hD l h1)), ("v", .fz (.vec (key (kdN kd)) (.lst (([] : List (Option Nat)).map (itD kd))) da)), ("names", .fz (onD names)), ("hand", .own (hD l h)), ("kind", .fz (T (kdN kd))), ("many", .fz (.int m))]) rfl ?_
    · cases names with
      | none => exact Ev.ite (Ts.cmp (Ev.name (d := .none) rfl) Ev.none Cmp.notNone) (fun e => nomatch e) fun _ => Ev.lit rfl
      | some ns => exact Ev.ite (Ts.cmp (Ev.name (d := .lst (ns.map oT)) rfl) Ev.none (Cmp.notNot rfl)) (fun _ => Ev.lit rfl) fun e => nomatch e
    · rw [← nu_at]
      exact Ev.meth (Ev.dictS (ks := [S "double"]) (vd := [T (S "numeric")]) (EvPairs.cons (Ev.lit rfl) (Ev.lit rfl) EvPairs.nil) (by decide +kernel)) Mth.get (EvL.cons (Ev.name rfl) (EvL.cons (Ev.name rfl) EvL.nil)) .builtin Cal.get2
    · exact Exs.weaken (Sub0.cons rfl (.cons rfl (.cons rfl (.cons rfl (.cons rfl (.cons rfl .nil)))))) (law_cmp P ho2 hm hw' (by rw [List.all_cons, q4]; rfl) hpv L a pm code doc)
  · have e0 : m ≠ 0 := by have := of_decide_eq_false e; omega
    obtain ⟨hsz, hokT⟩ := itL_texts (q := q) hk hok
    have hlen : (os.map (itT q os kd)).length = m := by rw [List.length_map, hos]
    have hn : ∀ ns, names = some ns → ns.length = m ∧ ∀ o ∈ ns, okT1 o ∧ okT (shown false o) = true := fun ns e => by
      cases x with
      | no => cases e
      | yes hl hok => cases e; exact ⟨hl, hok⟩
    have hnm := x.call P (di := .lst (os.map (itD kd))) hk hm
    have hit := w_items P (kd := kd) (os := os) (q := q) (da := da) hk (by omega) hok
    obtain ⟨q1, q2⟩ := wd_bounds hsz
    have hpv : CalG W 9 "print_vector" [.vec (key (kdN kd)) (.lst (os.map (itD kd))) da, .int w', .bool q] (.lst ((lRows (os.map (itT q os kd)) names w' (decide (kdN kd = S "character"))).map T)) := by
      rw [← rows_eq (left := decide (kdN kd = S "character")) (by omega) (by omega) (fun ns e => by rw [(hn ns e).1, hlen])]
      have : (!decide (kdN kd = S "character")) = decide (kdN kd ≠ S "character") := by simp
      rw [this]
      cases os with
      | nil => exact absurd hos.symm e0
      | cons o0 os' =>
        have hl' : (os'.map (itD kd)).length ≤ 1000 := by rw [List.length_map]; rw [List.length_cons] at hos; omega
        exact w_print_vector P (d0 := itD kd o0) (ds := os'.map (itD kd)) hit hnm hl' (hsz.mono (by decide)) (by omega) (by omega) (fun ns e => ⟨by have := (hn ns e).1; omega, fun o m => ((hn ns e).2 o m).1⟩) (by omega) q2 hsz
    have hdo : (lRows (os.map (itT q os kd)) names w' (decide (kdN kd = S "character"))).all okT = true := lRows_ok hokT fun ns e o m => ((hn ns e).2 o m).2
    refine Exs.assign (Ev.callG (wl_rows P (l := os.map (itT q os kd)) (names := names) (wide := w') (left := decide (kdN kd = S "character")) hsz (by omega) (fun ns e => ⟨by have := (hn ns e).1; omega, fun o m => ((hn ns e).2 o m).1⟩) (by omega)) (EvL.cons (Ev.callG (wl_texts P hk (by omega) hok) (EvL.cons (Ev.name rfl) (EvL.cons (Ev.attr (Ev.name rfl) Att.items) (EvL.cons (Ev.name rfl) EvL.nil)))) (EvL.cons (Ev.name rfl) (EvL.cons (Ev.name rfl) (EvL.cons (Ev.cmp (Ev.name rfl) (Ev.lit rfl) Cmp.eqT) EvL.nil))))) rfl ?_
    exact Exs.weaken (Sub0.cons rfl (.cons rfl (.cons rfl (.cons rfl (.cons rfl (.cons rfl .nil)))))) (law_cmp P ho2 hm hw' hdo hpv L a pm code doc)
end
end Mine

/-! M39 -/
set_option maxHeartbeats 4000000
namespace Mine
section
variable {W : Wr} {n : Nat} {env : Env} {G : Ga}

def kdAll : List Tx := [S "integer", S "character", S "double", S "logical"]
theorem kdAll_get {r : Nat} (h : r < 4) : (kdAll.map T)[(r : Int).toNat]? = some (T (kdN r)) := by
  rw [Int.toNat_natCast]
  have : r = 0 ∨ r = 1 ∨ r = 2 ∨ r = 3 := by omega
  rcases this with rfl | rfl | rfl | rfl <;> rfl
theorem nmAll_get {v : Int} (h : 0 ≤ v ∧ v < 5) : (nmAll.map oT)[v.toNat]? = some (oT (nmO v)) := by
  have h2 : v.toNat < nmAll.length := by show v.toNat < 5; omega
  unfold nmO
  rw [List.getElem?_map, List.getElem?_eq_getElem h2, List.getD_eq_getElem?_getD, List.getElem?_eq_getElem h2]; rfl

/-- the law -/
theorem law_body (P : Pg W) {l : List Int} (hl : l.length ≤ 63) (L a : Addr) (pm code doc : Value) :
    Exs W 12 (lawEnv pm code doc L a) (pars ["script"] ([.lst (ilist l)] ++ [])) (recAt 62).body (Rt W (.bool true)) := by
  have hs := Sub.slcL (W := W) (n := 12) (ds := ilist l) (lo := none) (hi := some 63) (by unfold ilist; rw [List.length_map]; omega)
  unfold ilist at hs
  rw [pyS_map] at hs
  have hpl := pyS_len none (some 63) l
  refine Exs.assign (Ev.sub (Ev.name rfl) (Ev.slice (lo := none) (hi := some _) trivial Ev.int) hs) rfl ?_
  generalize pyS none (some 63) l = cs at hpl
  refine Exs.assignOC (ds := hD cs ⟨0, 0, cs.sum.fmod 100003 * 7⟩) (EvO.display (EvL.cons (Ev.name (d := .lst (ilist cs)) rfl) (EvL.cons Ev.int (EvL.cons Ev.int (EvL.cons (Ev.bin (Ev.bin (Ev.callG (m := 0) ⟨_, P.sum, Cal.sumL⟩ (EvL.cons (Ev.name (d := .lst (ilist cs)) rfl) EvL.nil)) Ev.int (Bin.modI (by decide))) Ev.int (Bin.mulI (.inr (by decide)))) EvL.nil)))) (by show 4 ≤ _; decide)) rfl rfl ?_
  have ho : okH cs ⟨0, 0, cs.sum.fmod 100003 * 7⟩ := ⟨by omega, by show (0 : Int) ≤ 0; decide, by show (0 : Int) ≤ _; omega⟩
  generalize (⟨0, 0, cs.sum.fmod 100003 * 7⟩ : Hst) = h0 at ho
  obtain ⟨h1, kd, ho1, hk, c1⟩ := w_pickE P (lim := 4) ho (by decide)
  refine Exs.assign (Ev.sub (d₁ := .lst (kdAll.map T)) (Ev.display (EvL.cons (Ev.lit rfl) (EvL.cons (Ev.lit rfl) (EvL.cons (Ev.lit rfl) (EvL.cons (Ev.lit rfl) EvL.nil)))) (by decide)) (Ev.callMG c1 rfl (EvL.cons Ev.int EvL.nil)) (Sub.lst (by omega) (by omega) (kdAll_get (by omega)))) rfl ?_
  obtain ⟨h2, m, ho2, hm, c2⟩ := w_pickE P (lim := 15) ho1 (by decide)
  refine Exs.assignC (Ev.callMG c2 rfl (EvL.cons Ev.int EvL.nil)) rfl rfl ?_
  have ci := wl_items P (kd := kd) (m := m) ho2 (by omega) (by omega)
  have hos := itL_len cs h2 m
  have hok := itL_ok ho2 m
  have ho3 := pst_ok (lim := 12) (by decide) ho2 m
  generalize pst cs 12 h2 m = h3 at ci ho3
  generalize itL cs h2 m = os at ci hos hok
  refine Exs.newV (n := 10) (kd := kdN kd) (di := .lst (os.map (itD kd))) ((w_init P).ups (by decide)) (Ev.gname ⟨.inl P.cls, Cee.cls⟩ rfl (by decide +kernel)) (EvL.cons (Ev.name rfl) (EvL.cons (Ev.callMG ci rfl (EvL.cons (Ev.name rfl) (EvL.cons (Ev.name rfl) EvL.nil))) EvL.nil)) rfl (fun x dx => ?_)
  refine ExsV.cons (Ex1.of_exs (Exs.assign Ev.none rfl Exs.done)) ?_
  obtain ⟨h4, nq, ho4, hnq, c4⟩ := w_pickE P (lim := 3) ho3 (by decide)
  refine ExsV.ite (Ts.cmp (Ev.callMG c4 rfl (EvL.cons Ev.int EvL.nil)) Ev.int Cmp.eqI) (fun _ => ?_) fun _ => ?_
  · have hp := pv_ok (lim := 5) (by decide) ho4
    refine ExsV.cons (Ex1.of_exs (Exs.assignCompM (x0 := "hand") (List.range m) (fun (i : Nat) => D.int (i : Int)) (fun i => oT (nmO (pv cs 5 h4 i))) (fun i => hD cs (pst cs 5 h4 i)) [] (Ev.callG (m := 0) ⟨_, P.range, Cal.range1⟩ (EvL.cons (Ev.name (d := .int m) rfl) EvL.nil)) (range_itr (by omega)) (by rw [List.length_range]; omega)
      ⟨(by intro _; rfl), rfl, SubC.cons rfl .nil, rfl, rfl, rfl, rfl, GcOk.nil⟩ rfl (by decide) rfl rfl rfl ⟨_, rfl⟩
      (fun i j hj C al => ⟨_, Ev.sub (d₁ := .lst (nmAll.map oT)) (Ev.display (EvL.cons (Ev.lit rfl) (EvL.cons (Ev.lit rfl) (EvL.cons (Ev.lit rfl) (EvL.cons Ev.none (EvL.cons (Ev.lit rfl) EvL.nil))))) (by decide)) (Ev.callMG (w_pick P (pst_ok (lim := 5) (by decide) ho4 i) (by decide)) rfl (EvL.cons Ev.int EvL.nil)) (Sub.lst (hp i).1 (by have := (hp i).2; show pv cs 5 h4 i < _; omega) (nmAll_get (hp i))), rfl⟩) rfl (Exs.freeze (x := "names") rfl Exs.done))) ?_
    rw [List.length_range]
    have hmap : (List.range m).map (fun i => oT (nmO (pv cs 5 h4 i))) = ((List.range m).map fun i => nmO (pv cs 5 h4 i)).map oT := by rw [List.map_map]; rfl
    rw [hmap]
    have hns : ((List.range m).map fun i => nmO (pv cs 5 h4 i)).length = m := by rw [List.length_map, List.length_range]
    have hnok : ∀ o ∈ (List.range m).map fun i => nmO (pv cs 5 h4 i), okT1 o ∧ okT (shown false o) = true := fun o mo => by
      obtain ⟨i, _, rfl⟩ := List.mem_map.mp mo
      exact nmO_ok _
    generalize ((List.range m).map fun i => nmO (pv cs 5 h4 i)) = ns at hns hnok
    have ho5 := pst_ok (lim := 5) (by decide) ho4 m
    generalize pst cs 5 h4 m = h5 at ho5
    refine ExsV.setattr (nm := "v") (d := .dct [key (S "names")] [.vec (key (S "character")) (.lst (ns.map oT)) .none]) rfl (Ev.dictS (ks := [S "names"]) (vd := [.vec (key (S "character")) (.lst (ns.map oT)) .none]) (EvPairs.cons (Ev.lit rfl) (Ev.callG (w_vector P) (EvL.cons (Ev.lit rfl) (EvL.cons (Ev.callG (m := 0) ⟨_, P.list, (Cal.listL (by rw [List.length_map]; omega)).cal⟩ (EvL.cons (Ev.name rfl) EvL.nil)) EvL.nil))) EvPairs.nil) (by decide +kernel)) (by simp) (Nat.le_of_ble_eq_true rfl) ?_
    refine ExsV.freeze (nm := "v") (k := kdN kd) (di := .lst (os.map (itD kd))) (da := .dct [key (S "names")] [.vec (key (S "character")) (.lst (ns.map oT)) .none]) rfl rfl rfl rfl ?_
    exact Exs.weaken (Sub0.cons rfl (.cons rfl (.cons rfl (.cons rfl (.cons rfl .nil))))) (law_mid P ho5 (by omega) (by omega) hos hok (.yes hns hnok) L a pm code doc)
  · refine ExsV.freeze (nm := "v") (k := kdN kd) (di := .lst (os.map (itD kd))) (da := .none) rfl rfl rfl rfl ?_
    exact Exs.weaken (Sub0.cons rfl (.cons rfl (.cons rfl (.cons rfl (.cons rfl .nil))))) (law_mid P ho4 (by omega) (by omega) hos hok .no L a pm code doc)
end
end Mine

/-! HEAD -/
namespace Mine

/-! the head: what stands when the law is called, by one check of the top -/
def keepIx : List Nat := [0, 2, 3, 4, 5, 7, 8, 10, 11, 12, 13, 14, 15, 16, 17, 18, 19, 20, 23, 24, 25, 26, 29, 30, 31, 32, 33, 35, 37, 38, 39, 40, 41, 42, 43, 45, 46, 48, 50, 51, 52, 53, 54, 55, 56, 57, 58, 59, 60, 61, 62]
noncomputable def vq : Program := { PySem.Challenge.pw_nz0485_01 with main := { PySem.Challenge.pw_nz0485_01.main with body := keepIx.filterMap fun i => PySem.Challenge.pw_nz0485_01.main.body[i]? } }
def looseL : List PySem.Str := ["number_text", "format_item", "item_texts", "print_vector", "print_factor"]

def fnO (r : DefRec) (qual : PySem.Str) (t : Addr) (md : PySem.Str) (tk : Tok) (code : Addr) : Obj := { cls := .type "function", data := .func (fdR r qual (.ref t) (.str md tk) (.ref code) .none) }
def codeO (nm qual : PySem.Str) (k line args : Nat) (a b : Addr) (c d e : Value) (k2 : Nat) : Obj := { cls := .type "code", data := .fields #[.str nm k, .str qual (k + 1), .str "/claim/cut.py" (k + 2), .int line 0, .int args 0, .int 0 0, .int 0 0, .int 3 0, .ref a, .bool true, .int 181 0, .ref b, .none, c, d, e, .int (k2 - 1) 0, .int line 0, .str "/claim/cut.py" k2] }
/-- what stands at some places -/
noncomputable def kF (P : Params) : Frag := [
  (169, { cls := .type "tuple", data := .seq #[.int 7 400, .bool false] }),
  (175, codeO "format_item" "format_item" 401 174 4 170 171 (.ref 172) (.ref 173) (.ref 174) 409),
  (176, fnO (recAt 27) "format_item" 169 "vectorcove.format" 369 175),
  (177, { cls := .type "tuple", data := .seq #[.int 7 411, .bool true] }),
  (181, codeO "item_texts" "item_texts" 412 182 3 178 179 .none .none (.ref 180) 416),
  (182, fnO (recAt 28) "item_texts" 177 "vectorcove.format" 369 181),
  (219, { cls := .type "tuple", data := .seq #[.none] }),
  (225, codeO "__init__" "Vector.__init__" 471 214 4 220 221 (.ref 222) (.ref 223) (.ref 224) 479),
  (226, fnO (recAt 35) "Vector.__init__" 219 "vectorcove.values" 457 225),
  (235, { cls := .type "dict", data := .dict #[⟨PyData.keyHash P "__module__", .str "__module__" 466, .str "vectorcove.values" 457⟩, ⟨PyData.keyHash P "__firstlineno__", .str "__firstlineno__" 470, .int 212 469⟩, ⟨PyData.keyHash P "__init__", .str "__init__" 480, .ref 226⟩,
    ⟨PyData.keyHash P "copy", .str "copy" 487, .ref 233⟩, ⟨PyData.keyHash P "__static_attributes__", .str "__static_attributes__" 493, .ref 234⟩, ⟨PyData.keyHash P "__dict__", .str "__dict__" 495, .ref 237⟩, ⟨PyData.keyHash P "__weakref__", .str "__weakref__" 497, .ref 238⟩, ⟨PyData.keyHash P "__doc__", .str "__doc__" 498, .none⟩] 4 }),
  (236, { cls := .type "type", data := .cls { name := "Vector", bases := [.type "object"], mro := [.ref 236, .type "object"], ns := 235, qualname := "Vector" }, slots := #[none, none, some (.str "Vector" 459), some (.str "Vector" 467), some (.builtin "object.__new__"), some (.bool true)] }),
  (281, { cls := .type "tuple", data := .seq #[.int 80 503, .bool true, .int 7 561] }),
  (287, codeO "print_vector" "print_vector" 562 265 4 282 283 (.ref 284) (.ref 285) (.ref 286) 570),
  (288, fnO (recAt 44) "print_vector" 281 "vectorcove.printvec" 501 287),
  (301, { cls := .type "tuple", data := .seq #[.int 80 503] }),
  (307, codeO "print_factor" "print_factor" 585 288 2 302 303 (.ref 304) (.ref 305) (.ref 306) 593),
  (308, fnO (recAt 47) "print_factor" 301 "vectorcove.printvec" 501 307)]
def asL : List Addr := [169, 175, 176, 177, 181, 182, 219, 225, 226, 235, 236, 281, 287, 288, 301, 307, 308]
def nmL : List PySem.Str := ["Vector", "format_item", "item_texts", "print_vector", "print_factor", "len", "max", "str", "abs", "ord", "list", "range", "sum"]
def nmV : List (Option (Option Value)) := [some (some (.ref 236)), some (some (.ref 176)), some (some (.ref 182)), some (some (.ref 288)), some (some (.ref 308)), some none, some none, some none, some none, some none, some none, some none, some none]
def mainK (h : Heap) : Frag := match h.get? mainGlobals with
  | some o => [(mainGlobals, o)]
  | none => []
theorem mainK_in (h : Heap) : (mainK h).In h := by
  intro a o e
  unfold mainK at e
  split at e
  · rename_i o' ho
    rw [List.lookup_cons] at e
    split at e
    · rename_i q; cases e; rw [beq_iff_eq.mp q]; exact ho
    · cases e
  · cases e
def obsF (s : Shared) : List (Option Obj) × List (Option (Option Value)) := (asL.map s.heap.get?, nmL.map (nsIn (mainK s.heap) mainGlobals))
noncomputable def valF (w : World) : List (Option Obj) × List (Option (Option Value)) := ((kF w.params).map fun p => some p.2, nmV)
def saysF (w : World) (h : Heap) : Prop := (kF w.params).In h ∧ ∃ K : Frag, K.In h ∧ nmL.map (nsIn K mainGlobals) = nmV
theorem asL_eq (P : Params) : asL = (kF P).map (·.1) := by kernel_rfl
theorem says_of (w : World) (s : Shared) (e : obsF s = valF w) : saysF w s.heap :=
  ⟨Frag.in_of (asL_eq _) (congrArg Prod.fst e), mainK s.heap, mainK_in _, congrArg Prod.snd e⟩
theorem says_keeps (w : World) (h h' : Heap) (x : saysF w h) (k : ∀ b o, h.get? b = some o → h'.get? b = some o) : saysF w h' :=
  ⟨x.1.keeps k, let ⟨K, a, b⟩ := x.2; ⟨K, a.keeps k, b⟩⟩
/-- the top's run and the looks at what it leaves, by one check on the library's quick twins -/
theorem leftF : LeftO PySem.Challenge.rw_nz0485_01.row.prog vq looseL (fun s => xlAt vq [] s && recOk (RowW.records (OpenRow.toRowW PySem.Challenge.rw_nz0485_01.row)) s) obsF valF 4052 := by
  intro w
  unfold openEnds fencedOpening topFrom
  rw [PySem.W.Fast.te10274390034422433532, PySem.W.Fast.te14364793385576792824, PySem.W.Fast.te1435165496053646825, PySem.W.Fast.te14289696077712309145, PySem.W.Fast.te14082659384304107361, PySem.W.Fast.te4187177175401517315]
  kernel_rfl
theorem looksF : looksOpen PySem.Challenge.rw_nz0485_01.row.prog = true := (congrFun PySem.W.Fast.te12908688711261696721 PySem.Challenge.rw_nz0485_01.row.prog).trans (by kernel_rfl)
theorem rowF : PySem.Challenge.rw_nz0485_01.row.wellSaid = true := by
  unfold OpenRow.wellSaid OpenRow.partSaid
  rw [looksF]
  kernel_rfl
theorem saidF : PySem.Challenge.rw_nz0485_01.wellSaid = true := by
  unfold OpenLaw.wellSaid
  rw [rowF]
  kernel_rfl
def plainIx : List Nat := [0, 2, 3, 4, 5, 7, 8, 10, 11, 12, 13, 14, 15, 16, 17, 18, 19, 20, 23, 24, 25, 26, 29, 30, 31, 32, 33, 38, 39, 40, 41, 42, 43, 45, 46, 48, 50, 51, 52, 53, 54, 55, 56, 57, 58, 59, 60, 61, 62]
theorem recs_eq : PyProof.Rows.recsOf vq = plainIx.map recAt := by kernel_rfl
end Mine

/-! END -/
namespace Mine
theorem hs_of {W : Wr} {loose : List PySem.Str} {mean : ExcName → Option Value} (T : Top vq loose mean W.mg W.mb W.H) {i : Nat} (h : i ∈ plainIx) : Hs W i :=
  let ⟨a, o, pm, code, doc, h1, h2, h3, h4⟩ := T.fn _ (by rw [recs_eq]; exact List.mem_map_of_mem h); ⟨a, pm, code, doc, h1, ⟨o, h2, h3⟩, h4⟩
theorem hd_of {W : Wr} {P : Params} (X : (kF P).In W.H) {i : Nat} {a t : Addr} {pm code doc : Value} {dv : List Value} {o ot : Obj} {k : Nat} (hm : W.mg (recAt i).name = some (.ref a)) (hl : (kF P).lookup a = some o) (hd : o.data = .func (fdR (recAt i) (recAt i).name (.ref t) pm code doc))
    (hc : codeIn (kF P) code (recAt i).name = true) (hT : (kF P).lookup t = some ot) (hs : ot.data = .seq dv.toArray k) : Hd W i dv :=
  ⟨a, t, pm, code, doc, hm, ⟨⟨o, X _ _ hl, hd⟩, codeRec_of X hc⟩, ot, k, X _ _ hT, hs⟩
theorem init_of {W : Wr} {P : Params} (X : (kF P).In W.H) (hI : W.I = 226) : ∃ T pm code doc, FnAt W (recAt 35) "Vector.__init__" W.I (.ref T) pm code doc ∧ ∃ o k, W.H.get? T = some o ∧ o.data = .seq #[.none] k :=
  ⟨219, .str "vectorcove.values" 457, .ref 225, .none, ⟨⟨_, X _ _ (by rw [hI]; kernel_rfl : (kF P).lookup W.I = some (fnO (recAt 35) "Vector.__init__" 219 "vectorcove.values" 457 225)), rfl⟩, codeRec_of X (by kernel_rfl : codeIn (kF P) (.ref 225) "Vector.__init__" = true)⟩, _, _, X _ _ (by kernel_rfl : (kF P).lookup 219 = some ({ cls := .type "tuple", data := .seq #[.none] } : Obj)), rfl⟩
/-- the names of the top -/
theorem nm_of {H : Heap} {mg : PySem.Str → Option Value} (g : H.Ns mainGlobals mg) (x : ∃ K : Frag, K.In H ∧ nmL.map (nsIn K mainGlobals) = nmV) : mg "Vector" = some (.ref 236) ∧ mg "format_item" = some (.ref 176) ∧ mg "item_texts" = some (.ref 182) ∧ mg "print_vector" = some (.ref 288) ∧ mg "print_factor" = some (.ref 308) ∧ ∀ x ∈ (["len", "max", "str", "abs", "ord", "list", "range", "sum"] : List PySem.Str), mg x = none := by
  obtain ⟨K, hK, e⟩ := x
  unfold nmL nmV at e
  simp only [List.map_cons, List.map_nil, List.cons.injEq, and_true] at e
  obtain ⟨e1, e2, e3, e4, e5, f1, f2, f3, f4, f5, f6, f7, f8⟩ := e
  refine ⟨mg_of hK g e1, mg_of hK g e2, mg_of hK g e3, mg_of hK g e4, mg_of hK g e5, fun x hx => ?_⟩
  simp only [List.mem_cons, List.mem_nil_iff, or_false] at hx
  rcases hx with rfl | rfl | rfl | rfl | rfl | rfl | rfl | rfl
  · exact mg_none_of hK g f1
  · exact mg_none_of hK g f2
  · exact mg_none_of hK g f3
  · exact mg_none_of hK g f4
  · exact mg_none_of hK g f5
  · exact mg_none_of hK g f6
  · exact mg_none_of hK g f7
  · exact mg_none_of hK g f8
theorem att_of (P : Params) : ∀ x ∈ (["kind", "items", "attrs", "shared", "loose"] : List PySem.Str), findIn (kF P) (.ref 236) x = some Option.none ∧ takerIn (kF P) 236 x = some Option.none := by
  intro x hx
  simp only [List.mem_cons, List.mem_nil_iff, or_false] at hx
  rcases hx with rfl | rfl | rfl | rfl | rfl <;> exact ⟨by kernel_rfl, by kernel_rfl⟩
theorem rd_all {W : Wr} {mu : List Addr} {P : Params} {h : Heap} : ∀ {vs : List Value} {ns : List Int}, WellAll P h vs (ofPys (ns.map PyData.int)) → RdAll W mu h vs (ilist ns)
  | _, [], x => by
    simp only [List.map_nil, ofPys] at x
    cases x; exact .nil
  | _, n :: ns, x => by
    simp only [List.map_cons, ofPys, ofPy] at x
    cases x with
    | cons a b =>
    cases a
    exact .cons (.int _ _) (rd_all b)
theorem rd_list {W : Wr} {P : Params} {h : Heap} {v : Value} {ns : List Int} (x : Well P h v (ofPy (PyData.list (ns.map PyData.int)))) : Rd W [] h v (.lst (ilist ns)) := by
  simp only [ofPy] at x
  cases x with
  | list ho r => exact .lst (n := 0) (by simp) ho (rd_all r)
theorem law_call {W : Wr} (P : Pg W) (h : Hs W 62) {l : List Int} (hl : l.length ≤ 63) : CalG W 13 "law" [.lst (ilist l)] (.bool true) :=
  CalG.def 62 h sc_62 ["script"] (by intro pm c d vs h; obtain ⟨_, rfl⟩ := len1 h; rfl) fun L ad pm c d => law_body P hl L ad pm c d
theorem room0 : Room 13 callerA := by unfold Room; exact ⟨rfl, by decide, by decide⟩
theorem law_ends {W : Wr} (P : Pg W) (h : Hs W 62) {l : List Int} (hl : l.length ≤ 63) {s : Shared} {fa : Addr} {v : Value} (hH : s.heap = W.H) (hm : W.mg "law" = some (.ref fa)) (r : Rd W [] s.heap v (.lst (ilist l))) (E : Value → Shared → Prop) :
    wpAny (Mo W) callerA (call (.ref fa) [v]) (fun x s' => x = .bool true ∧ Same s s' ∧ Keep s.heap s'.heap) E s := by
  obtain ⟨f, g, c⟩ := law_call P h hl
  have hf : f = .ref fa := by
    rcases g.1 with e | e
    · rw [hm] at e; exact (Option.some.inj e).symm
    · rw [hm] at e; cases e.1
  subst hf
  refine wpAny_mono (c [] s [v] ⟨fun a o e => by rw [hH]; exact e, fun a m => nomatch m⟩ (.cons r .nil) callerA E room0) (fun x s' q => ⟨?_, q.1, q.2.1⟩) fun _ _ x => x
  obtain ⟨_, _, rx⟩ := q
  cases rx; rfl
end Mine

set_option maxRecDepth 100000 in
set_option maxHeartbeats 8000000 in
theorem PySem.Challenge.cw_nz0485_01_holds : PySem.Challenge.rw_nz0485_01.Holds := by
  w_on
  refine holds_law Mine.saidF fun said => ?_
  refine holds_open (q := Mine.vq) (loose := Mine.looseL) (d := Mine.recAt 62) (kwd := []) Mine.leftF Mine.says_of Mine.says_keeps (fun s e => xl_of s (Bool.and_eq_true_iff.mp e).1) XL.keeps (by kernel_rfl) (by kernel_rfl) (by kernel_rfl) (fun s e => recFacts_of (Bool.and_eq_true_iff.mp e).2) (by rfl) said (by decide +kernel) ⟨rfl, rfl, rfl, rfl, rfl, by decide +kernel⟩ ?hw ?hc
  case hw => w_witness2
  intro w s₀ s₁ mg mb G Y fa o pm cd doc dV kV ho hd hcd hD hmg hg args vals as hpre hlay hrd hwl hlo
  obtain ⟨KX, NX⟩ := Y
  have TT := G.T
  obtain ⟨n1, n2, n3, n4, n5, n6⟩ := Mine.nm_of TT.g NX
  have hW : ∃ W : Mine.Wr, W.prog = PySem.Challenge.rw_nz0485_01.row.prog ∧ W.w = w ∧ W.H = s₁.heap ∧ W.mg = mg ∧ Mine.Pg W ∧ Mine.Hs W 62 :=
    ⟨{ prog := PySem.Challenge.rw_nz0485_01.row.prog, w := w, H := s₁.heap, mg := mg, mb := mb, C := 236, g := TT.g, b := TT.b, nolimit := TT.nolimit, builtins := TT.builtins, K := Mine.kF w.params, kin := KX, hasDict := (by kernel_rfl), pget := (by kernel_rfl), attr := Mine.att_of _, sets := (by kernel_rfl), over := (by kernel_rfl), makes := (by kernel_rfl), I := 226, init := (by kernel_rfl), initFn := (by kernel_rfl) }, rfl, rfl, rfl, rfl, ⟨fun i hi => Mine.hs_of TT (by
        revert i; decide),
      ⟨400, Mine.hd_of KX (i := 27) n2 (by kernel_rfl : (Mine.kF w.params).lookup 176 = some (Mine.fnO (Mine.recAt 27) "format_item" 169 "vectorcove.format" 369 175)) rfl (by kernel_rfl) (by kernel_rfl : (Mine.kF w.params).lookup 169 = some ({ cls := .type "tuple", data := .seq #[.int 7 400, .bool false] } : Obj)) rfl⟩,
      ⟨411, Mine.hd_of KX (i := 28) n3 (by kernel_rfl : (Mine.kF w.params).lookup 182 = some (Mine.fnO (Mine.recAt 28) "item_texts" 177 "vectorcove.format" 369 181)) rfl (by kernel_rfl) (by kernel_rfl : (Mine.kF w.params).lookup 177 = some ({ cls := .type "tuple", data := .seq #[.int 7 411, .bool true] } : Obj)) rfl⟩,
      ⟨503, 561, Mine.hd_of KX (i := 44) n4 (by kernel_rfl : (Mine.kF w.params).lookup 288 = some (Mine.fnO (Mine.recAt 44) "print_vector" 281 "vectorcove.printvec" 501 287)) rfl (by kernel_rfl) (by kernel_rfl : (Mine.kF w.params).lookup 281 = some ({ cls := .type "tuple", data := .seq #[.int 80 503, .bool true, .int 7 561] } : Obj)) rfl⟩,
      ⟨503, Mine.hd_of KX (i := 47) n5 (by kernel_rfl : (Mine.kF w.params).lookup 308 = some (Mine.fnO (Mine.recAt 47) "print_factor" 301 "vectorcove.printvec" 501 307)) rfl (by kernel_rfl) (by kernel_rfl : (Mine.kF w.params).lookup 301 = some ({ cls := .type "tuple", data := .seq #[.int 80 503] } : Obj)) rfl⟩,
      Mine.init_of KX rfl, n1, n6⟩, Mine.hs_of TT (by decide)⟩
  obtain ⟨W, e1, e2, e3, e4, P, h62⟩ := hW
  wrow_args hpre hlay hrd hwl hlo
  with_reducible rename Well _ _ _ _ => w1
  with_reducible rename ¬ (_ < _) => hc
  refine wpAny_mono (show wpAny _ callerA (call (.ref fa) _) (fun x s' => x = Value.bool true ∧ Mine.Same s₁ s' ∧ Mine.Keep s₁.heap s'.heap) _ s₁ from ?_) (fun x s' q => ?_) fun _ _ x => x
  · rw [← e1, ← e2]
    exact Mine.law_ends P h62 (by omega) e3.symm (by rw [e4]; exact hmg) (Mine.rd_list w1) _
  · obtain ⟨rfl, sm, kp⟩ := q
    obtain ⟨h', tk, rfl⟩ := sm
    refine GoodW.toG ⟨.inl ⟨.bool true, .bool true, [], rfl, ?_, ?_, ?_, ?_⟩, kp, rfl, hg⟩
    · intro cls; rfl
    · exact .bool true
    · exact postW_of (by wrow_shape) (by wtm_val) (by str_meet; first | done | w_fin)
    · exact fun _ => ⟨List.nodup_nil, fun a m => nomatch m⟩
