import PyProof.Rows.All
import Wide.All
import OpenK.AllK
import Wide.FinOn
import KE.KLam
import KE.KLcPair
import Lean
import PySem.Challenge.RW_nn0034_01
open PySem PySem.W PyProof.Rows
set_option Elab.async false
set_option maxRecDepth 100000
set_option linter.unusedVariables false
set_option linter.unusedSimpArgs false
set_option autoImplicit false
namespace Mine

section

/-- a value without the token of an int -/
noncomputable def er : Value → Value
  | .int i _ => .int i 0
  | .str s _ => .str s 0
  | v => v
noncomputable abbrev I (i : Int) : Value := .int i 0

theorem er_ref {v : Value} {a : Addr} (h : er v = .ref a) : v = .ref a := by cases v <;> simp_all [er]
theorem er_int {v : Value} {i : Int} {t : Tok} (h : er v = .int i t) : ∃ u, v = .int i u := by cases v <;> simp_all [er]
theorem er_bool {v : Value} {b : Bool} (h : er v = .bool b) : v = .bool b := by cases v <;> simp_all [er]
theorem er_none {v : Value} (h : er v = .none) : v = .none := by cases v <;> simp_all [er]
theorem er_builtin {v : Value} {b : String} (h : er v = .builtin b) : v = .builtin b := by cases v <;> simp_all [er]
theorem er_type {v : Value} {b : String} (h : er v = .type b) : v = .type b := by cases v <;> simp_all [er]

inductive HO where
  | lst (xs : List Value)
  | tup (xs : List Value)
  | raw (o : Obj)

noncomputable def cap : Nat := 1048576

noncomputable def HO.Is (ob : Obj) : HO → Prop
  | .lst xs => ∃ vs n, ob = ⟨.type "list", none, .seq vs n, #[]⟩ ∧ vs.toList.map er = xs ∧ vs.size ≤ cap
  | .tup xs => ∃ vs n, ob = ⟨.type "tuple", none, .seq vs n, #[]⟩ ∧ vs.toList.map er = xs ∧ vs.size ≤ cap
  | .raw o => ob = o

noncomputable abbrev PH := Addr → Option HO
noncomputable def PH.set (H : PH) (a : Addr) (o : HO) : PH := fun b => if b = a then some o else H b
theorem PH.set_same (H : PH) (a : Addr) (o : HO) : H.set a o a = some o := if_pos rfl
theorem PH.set_ne (H : PH) {a b : Addr} (o : HO) (h : b ≠ a) : H.set a o b = H b := if_neg h

structure WC where
  prog : Program
  w : World
  hb : Heap
  mg : Str → Option Value
  mb : Str → Option Value
  g : hb.Ns mainGlobals mg
  b : hb.Ns builtinsNs mb
  lim : hb.NoLimit

structure View (C : WC) (H : PH) (h : Heap) : Prop where
  at' : ∀ a o, H a = some o → ∃ ob, h.get? a = some ob ∧ o.Is ob
  fresh : ∀ a xs, H a = some (.lst xs) → C.hb.get? a = none

structure Keep (C : WC) (h : Heap) : Prop where
  k : ∀ b o, C.hb.get? b = some o → h.get? b = some o

structure Same (s s' : Shared) : Prop where
  gens : s'.gens = s.gens
  drawn : s'.drawn = s.drawn
  os : s'.os = s.os
theorem Same.refl (s : Shared) : Same s s := ⟨rfl, rfl, rfl⟩
theorem Same.trans {s s' s'' : Shared} (x : Same s s') (y : Same s' s'') : Same s s'' := ⟨y.1.trans x.1, y.2.trans x.2, y.3.trans x.3⟩

/-- from s to s' : what stood and is not spoken of stays (but at X) -/
structure Frm (C : WC) (X : Addr → Prop) (H H' : PH) (s s' : Shared) : Prop where
  same : Same s s'
  old : ∀ b o, ¬ X b → s.heap.get? b = some o → H b = none → s'.heap.get? b = some o ∧ H' b = none
  keep : Keep C s'.heap
  view : View C H' s'.heap

noncomputable def NoX : Addr → Prop := fun _ => False
noncomputable def AtX (L : Addr) : Addr → Prop := fun b => b = L

theorem Frm.refl {C : WC} {X : Addr → Prop} {H : PH} {s : Shared} (k : Keep C s.heap) (v : View C H s.heap) : Frm C X H H s s :=
  ⟨Same.refl s, fun _ _ _ e h => ⟨e, h⟩, k, v⟩
theorem Frm.trans {C : WC} {X : Addr → Prop} {H H' H'' : PH} {s s' s'' : Shared} (x : Frm C X H H' s s') (y : Frm C X H' H'' s' s'') : Frm C X H H'' s s'' :=
  ⟨x.same.trans y.same, fun b o hx e h => y.old b o hx (x.old b o hx e h).1 (x.old b o hx e h).2, y.keep, y.view⟩
theorem Frm.weak {C : WC} {X : Addr → Prop} {H H' : PH} {s s' : Shared} (x : Frm C NoX H H' s s') : Frm C X H H' s s' :=
  ⟨x.same, fun b o _ e h => x.old b o (fun h => h) e h, x.keep, x.view⟩

structure Bud (n : Nat) (A : Around) : Prop where
  hh : A.handled = none
  depth : A.depth + n < 1000
  units : A.units + 4 * n + 70 ≤ 9900
theorem Bud.mono {n m : Nat} {A : Around} (x : Bud n A) (h : m ≤ n) : Bud m A := ⟨x.hh, by have := x.depth; omega, by have := x.units; omega⟩
theorem Bud.deeper {n : Nat} {A : Around} (x : Bud (n + 1) A) (env : Env) : Bud n (A.deeper env) :=
  ⟨x.hh, by have := x.depth; show A.depth + 1 + n < 1000; omega, by have := x.units; show A.units + 3 + 4 * n + 70 ≤ 9900; omega⟩

noncomputable def noE : Value → Shared → Prop := fun _ _ => False

noncomputable abbrev WP (C : WC) {α : Type} (A : Around) (t : Sem α) (Q : α → Shared → Prop) (s : Shared) : Prop := wpAny (model C.prog C.w) A t Q noE s

theorem WP.toE {C : WC} {α : Type} {A : Around} {t : Sem α} {Q : α → Shared → Prop} {E : Value → Shared → Prop} {s : Shared} (h : WP C A t Q s) : wpAny (model C.prog C.w) A t Q E s :=
  wpAny_mono h (fun _ _ x => x) fun _ _ x => x.elim

/-- the call of f on args ends and returns; Q tells of the value and the heap -/
structure CallOk (C : WC) (n : Nat) (f : Value) (args : List Value) (H : PH) (Q : Value → PH → Prop) : Prop where
  ok : ∀ A s f' args', Bud n A → Keep C s.heap → View C H s.heap → er f' = f → args'.map er = args →
    (∀ (Q' : Keeper → Shared → Prop), (∀ k, Q' k s) → WP C A (keeperOf f') Q' s) ∧
    WP C A (call f' args' []) (fun v s' => ∃ H', Frm C NoX H H' s s' ∧ Q (er v) H') s

theorem CallOk.mono {C : WC} {n m : Nat} {f : Value} {args : List Value} {H : PH} {Q Q' : Value → PH → Prop} (x : CallOk C n f args H Q) (hn : n ≤ m) (hq : ∀ v H', Q v H' → Q' v H') : CallOk C m f args H Q' :=
  ⟨fun A s f' args' b k v ef e => ⟨(x.ok A s f' args' (b.mono hn) k v ef e).1, wpAny_mono (x.ok A s f' args' (b.mono hn) k v ef e).2 (fun _ _ ⟨H', a, b⟩ => ⟨H', a, hq _ _ b⟩) fun _ _ x => x⟩⟩

structure BinOk (C : WC) (op : Operator) (a b : Value) (H : PH) (Q : Value → PH → Prop) : Prop where
  ok : ∀ A s a' b', Bud 0 A → Keep C s.heap → View C H s.heap → er a' = a → er b' = b →
    WP C A (binaryOp op a' b') (fun v s' => ∃ H', Frm C NoX H H' s s' ∧ Q (er v) H') s
structure AugOk (C : WC) (op : Operator) (a b : Value) (H : PH) (Q : Value → PH → Prop) : Prop where
  ok : ∀ A s a' b', Bud 0 A → Keep C s.heap → View C H s.heap → er a' = a → er b' = b →
    WP C A (inplaceOp op a' b') (fun v s' => ∃ H', Frm C NoX H H' s s' ∧ Q (er v) H') s
structure CmpOk (C : WC) (op : CmpOp) (a b : Value) (H : PH) (Q : Value → PH → Prop) : Prop where
  ok : ∀ A s a' b', Bud 0 A → Keep C s.heap → View C H s.heap → er a' = a → er b' = b →
    WP C A (compareOp op a' b') (fun v s' => ∃ H', Frm C NoX H H' s s' ∧ Q (er v) H') s
structure IdxOk (C : WC) (a b : Value) (H : PH) (Q : Value → PH → Prop) : Prop where
  ok : ∀ A s a' b' value slice, Bud 0 A → Keep C s.heap → View C H s.heap → er a' = a → er b' = b →
    subscripted slice false a' b' = operate [a', b'] (getItem a' b') →
    WP C A (subscriptTail value slice a' b') (fun v s' => ∃ H', Frm C NoX H H' s s' ∧ Q (er v) H') s
structure SetOk (C : WC) (a b v : Value) (H : PH) (Q : PH → Prop) : Prop where
  ok : ∀ A s a' b' v', Bud 0 A → Keep C s.heap → View C H s.heap → er a' = a → er b' = b → er v' = v →
    WP C A (setItem a' b' v') (fun _ s' => ∃ H', Frm C NoX H H' s s' ∧ Q H') s

section heaps
variable {C : WC} {H : PH} {h : Heap}

theorem View.none_of_size (v : View C H h) (a : Addr) (ha : h.objs.size ≤ a) : H a = none := by
  cases e : H a with
  | none => rfl
  | some o => obtain ⟨ob, h1, _⟩ := v.at' a o e; exact absurd (Heap.lt_size h1) (Nat.not_lt.mpr ha)
theorem Keep.none_at (k : Keep C h) {a : Addr} (ha : h.objs.size ≤ a) : C.hb.get? a = none := by
  cases e : C.hb.get? a with
  | none => rfl
  | some o => exact absurd (Heap.lt_size (k.k a o e)) (Nat.not_lt.mpr ha)
theorem Keep.push (k : Keep C h) (o : Obj) : Keep C (h.push o) := ⟨fun b o' e => Heap.get?_push_of_some o (k.k b o' e)⟩
theorem View.push (v : View C H h) (o : Obj) : View C H (h.push o) :=
  ⟨fun a x e => by obtain ⟨ob, h1, h2⟩ := v.at' a x e; exact ⟨ob, Heap.get?_push_of_some o h1, h2⟩, v.fresh⟩
/-- the sizes: what stands keeps its place -/
theorem View.mono {h' : Heap} (v : View C H h) (hk : ∀ b o, h.get? b = some o → h'.get? b = some o) : View C H h' :=
  ⟨fun a x e => by obtain ⟨ob, h1, h2⟩ := v.at' a x e; exact ⟨ob, hk _ _ h1, h2⟩, v.fresh⟩
theorem Keep.mono {h' : Heap} (k : Keep C h) (hk : ∀ b o, h.get? b = some o → h'.get? b = some o) : Keep C h' := ⟨fun b o e => hk _ _ (k.k b o e)⟩

theorem View.set_new {h' : Heap} (v : View C H h) {r : Addr} {o : HO} {ob : Obj} (hk : ∀ b o, h.get? b = some o → h'.get? b = some o)
    (hr : h'.get? r = some ob) (his : o.Is ob) (hf : ∀ xs, o = .lst xs → C.hb.get? r = none) : View C (H.set r o) h' :=
  ⟨fun a x e => by
    by_cases har : a = r
    · subst har; rw [PH.set_same] at e; cases e; exact ⟨ob, hr, his⟩
    · rw [PH.set_ne _ _ har] at e; obtain ⟨ob', h1, h2⟩ := v.at' a x e; exact ⟨ob', hk _ _ h1, h2⟩,
   fun a xs e => by
    by_cases har : a = r
    · subst har; rw [PH.set_same] at e; cases e; exact hf _ rfl
    · rw [PH.set_ne _ _ har] at e; exact v.fresh a xs e⟩
end heaps

theorem Frm.grow {C : WC} {X : Addr → Prop} {H : PH} {s : Shared} {h' : Heap} {tk : Nat} (k : Keep C s.heap) (v : View C H s.heap) (hk : ∀ b o, s.heap.get? b = some o → h'.get? b = some o) :
    Frm C X H H s { s with heap := h', toks := tk } :=
  ⟨⟨rfl, rfl, rfl⟩, fun b o _ e hn => ⟨hk _ _ e, hn⟩, k.mono hk, v.mono hk⟩
theorem Frm.new {C : WC} {X : Addr → Prop} {H : PH} {s : Shared} {h' : Heap} {tk : Nat} {r : Addr} {o : HO} {ob : Obj} (k : Keep C s.heap) (v : View C H s.heap) (hk : ∀ b o, s.heap.get? b = some o → h'.get? b = some o)
    (hr : h'.get? r = some ob) (his : o.Is ob) (hs : s.heap.objs.size ≤ r) :
    Frm C X H (H.set r o) s { s with heap := h', toks := tk } :=
  ⟨⟨rfl, rfl, rfl⟩, fun b o _ e hn => ⟨hk _ _ e, by rw [PH.set_ne _ _ (Nat.ne_of_lt (Nat.lt_of_lt_of_le (Heap.lt_size e) hs))]; exact hn⟩, k.mono hk, v.set_new hk hr his fun _ _ => k.none_at hs⟩

end

section

/-- small enough for a product, a shift -/
structure Sm (x : Int) : Prop where
  bits : Builtin.Int.intBits x ≤ 4000
theorem Sm.of {x : Int} {m : Nat} (h : x.natAbs < 2 ^ m) (hm : m ≤ 4000) : Sm x := ⟨Nat.le_trans (intBits_le_iff.mpr h) hm⟩

section
variable {C : WC} {H : PH} {Q : Value → PH → Prop} {a b : Int} {s : Shared} {A : Around}

theorem fin1 {tk : Nat} {v : Value} (k : Keep C s.heap) (vw : View C H s.heap) (h : Q (er v) H) : ∃ H', Frm C NoX H H' s { s with toks := tk } ∧ Q (er v) H' :=
  ⟨H, Frm.grow (h' := s.heap) k vw (fun _ _ e => e), h⟩
theorem fin0 {v : Value} (k : Keep C s.heap) (vw : View C H s.heap) (h : Q (er v) H) : ∃ H', Frm C NoX H H' s s ∧ Q (er v) H' :=
  ⟨H, Frm.refl k vw, h⟩

theorem bin_add (h : Q (I (a + b)) H) : BinOk C .Add (I a) (I b) H Q :=
  ⟨fun A s a' b' _ k v ha hb => by obtain ⟨u, rfl⟩ := er_int ha; obtain ⟨t, rfl⟩ := er_int hb; (with_reducible refine add_int ?_); exact fin1 k v h⟩
theorem bin_sub (h : Q (I (a - b)) H) : BinOk C .Sub (I a) (I b) H Q :=
  ⟨fun A s a' b' _ k v ha hb => by obtain ⟨u, rfl⟩ := er_int ha; obtain ⟨t, rfl⟩ := er_int hb; (with_reducible refine sub_int ?_); exact fin1 k v h⟩
theorem bin_mul (h : Q (I (a * b)) H) (ha : Sm a) (hb : Sm b) : BinOk C .Mult (I a) (I b) H Q :=
  ⟨fun A s a' b' _ k v ea eb => by obtain ⟨u, rfl⟩ := er_int ea; obtain ⟨t, rfl⟩ := er_int eb; (with_reducible refine mul_int ?_ (IntMulOk.of_le ha.bits hb.bits (by decide))); exact fin1 k v h⟩
theorem noPy {x y : Int} (h : Sm y) : Builtin.divisionGoesByPylong x y = false := by
  refine PyProof.noPylong_of_log2 ?_
  have h2 := h.bits
  unfold Builtin.Int.intBits at h2
  by_cases h0 : y = 0
  · subst h0; decide +kernel
  · have hb : (y == 0) = false := by simpa using h0
    rw [hb] at h2
    simp only [Bool.false_eq_true, if_false] at h2
    lia
theorem bin_div (h : Q (I (a.fdiv b)) H) (h0 : b ≠ 0) (hb : Sm b) : BinOk C .FloorDiv (I a) (I b) H Q :=
  ⟨fun A s a' b' _ k v ea eb => by obtain ⟨u, rfl⟩ := er_int ea; obtain ⟨t, rfl⟩ := er_int eb; (with_reducible refine floordiv_int h0 ?_ (.inl (noPy hb))); exact fin1 k v h⟩
theorem bin_mod (h : Q (I (a.fmod b)) H) (h0 : b ≠ 0) : BinOk C .Mod (I a) (I b) H Q :=
  ⟨fun A s a' b' _ k v ea eb => by obtain ⟨u, rfl⟩ := er_int ea; obtain ⟨t, rfl⟩ := er_int eb; (with_reducible refine mod_int' h0 ?_); exact fin1 k v h⟩
theorem bin_shl (h : Q (I (a * 2 ^ b.toNat)) H) (h0 : 0 ≤ b) (hb : b ≤ 100000) (ha : Sm a) : BinOk C .LShift (I a) (I b) H Q :=
  ⟨fun A s a' b' _ k v ea eb => by obtain ⟨u, rfl⟩ := er_int ea; obtain ⟨t, rfl⟩ := er_int eb; have hz := ha.bits; (with_reducible refine lshift_int h0 (by lia) ?_); exact fin1 k v h⟩
theorem bin_shr (h : Q (I (a.fdiv (2 ^ b.toNat))) H) (h0 : 0 ≤ b) : BinOk C .RShift (I a) (I b) H Q :=
  ⟨fun A s a' b' _ k v ea eb => by obtain ⟨u, rfl⟩ := er_int ea; obtain ⟨t, rfl⟩ := er_int eb; (with_reducible refine rshift_int h0 ?_); exact fin1 k v h⟩
theorem bin_and (h : Q (I (Builtin.bitAnd a b)) H) : BinOk C .BitAnd (I a) (I b) H Q :=
  ⟨fun A s a' b' _ k v ea eb => by obtain ⟨u, rfl⟩ := er_int ea; obtain ⟨t, rfl⟩ := er_int eb; (with_reducible refine and_int ?_); exact fin1 k v h⟩
theorem bin_or (h : Q (I (Builtin.bitOr a b)) H) : BinOk C .BitOr (I a) (I b) H Q :=
  ⟨fun A s a' b' _ k v ea eb => by obtain ⟨u, rfl⟩ := er_int ea; obtain ⟨t, rfl⟩ := er_int eb; (with_reducible refine or_int ?_); exact fin1 k v h⟩
theorem bin_pow (h : Q (I (a ^ b.toNat)) H) (h0 : 0 ≤ b) (hb : b ≤ 10000) (ha : Sm a) : BinOk C .Pow (I a) (I b) H Q :=
  ⟨fun A s a' b' _ k v ea eb => by
    obtain ⟨u, rfl⟩ := er_int ea
    obtain ⟨t, rfl⟩ := er_int eb
    (with_reducible refine pow_int h0 ?_ ?_)
    rotate_left
    · exact fin1 k v h
    have h1 := ha.bits
    have h2 : (Builtin.Int.intBits a : Int) * b ≤ 4000 * b := Int.mul_le_mul_of_nonneg_right (by lia) h0
    lia⟩

theorem aug_add (h : Q (I (a + b)) H) : AugOk C .Add (I a) (I b) H Q :=
  ⟨fun A s a' b' _ k v ha hb => by obtain ⟨u, rfl⟩ := er_int ha; obtain ⟨t, rfl⟩ := er_int hb; (with_reducible refine iadd_int ?_); exact fin1 k v h⟩
theorem aug_sub (h : Q (I (a - b)) H) : AugOk C .Sub (I a) (I b) H Q :=
  ⟨fun A s a' b' _ k v ha hb => by obtain ⟨u, rfl⟩ := er_int ha; obtain ⟨t, rfl⟩ := er_int hb; (with_reducible refine isub_int ?_); exact fin1 k v h⟩
theorem aug_shr (h : Q (I (a.fdiv (2 ^ b.toNat))) H) (h0 : 0 ≤ b) : AugOk C .RShift (I a) (I b) H Q :=
  ⟨fun A s a' b' _ k v ea eb => by obtain ⟨u, rfl⟩ := er_int ea; obtain ⟨t, rfl⟩ := er_int eb; (with_reducible refine irshift_int h0 ?_); exact fin1 k v h⟩
theorem aug_or (h : Q (I (Builtin.bitOr a b)) H) : AugOk C .BitOr (I a) (I b) H Q :=
  ⟨fun A s a' b' _ k v ea eb => by obtain ⟨u, rfl⟩ := er_int ea; obtain ⟨t, rfl⟩ := er_int eb; (with_reducible refine ior_int ?_); exact fin1 k v h⟩
theorem aug_mod (h : Q (I (a.fmod b)) H) (h0 : b ≠ 0) : AugOk C .Mod (I a) (I b) H Q :=
  ⟨fun A s a' b' _ k v ea eb => by obtain ⟨u, rfl⟩ := er_int ea; obtain ⟨t, rfl⟩ := er_int eb; (with_reducible refine imod_int h0 ?_); exact fin1 k v h⟩

theorem cmp_lt (h : Q (.bool (decide (a < b))) H) : CmpOk C .Lt (I a) (I b) H Q :=
  ⟨fun A s a' b' _ k v ea eb => by obtain ⟨u, rfl⟩ := er_int ea; obtain ⟨t, rfl⟩ := er_int eb; (with_reducible refine lt_int ?_); exact fin0 k v h⟩
theorem cmp_gt (h : Q (.bool (decide (b < a))) H) : CmpOk C .Gt (I a) (I b) H Q :=
  ⟨fun A s a' b' _ k v ea eb => by obtain ⟨u, rfl⟩ := er_int ea; obtain ⟨t, rfl⟩ := er_int eb; (with_reducible refine gt_int ?_); exact fin0 k v h⟩
theorem cmp_le (h : Q (.bool (decide (a ≤ b))) H) : CmpOk C .LtE (I a) (I b) H Q :=
  ⟨fun A s a' b' _ k v ea eb => by obtain ⟨u, rfl⟩ := er_int ea; obtain ⟨t, rfl⟩ := er_int eb; (with_reducible refine le_int ?_); exact fin0 k v h⟩
theorem cmp_eq (h : Q (.bool (decide (a = b))) H) : CmpOk C .Eq (I a) (I b) H Q :=
  ⟨fun A s a' b' _ k v ea eb => by obtain ⟨u, rfl⟩ := er_int ea; obtain ⟨t, rfl⟩ := er_int eb; (with_reducible refine eq_int ?_); exact fin0 k v h⟩
theorem cmp_ne (h : Q (.bool (decide (a ≠ b))) H) : CmpOk C .NotEq (I a) (I b) H Q :=
  ⟨fun A s a' b' _ k v ea eb => by
    obtain ⟨u, rfl⟩ := er_int ea; obtain ⟨t, rfl⟩ := er_int eb
    (with_reducible refine ne_int ?_)
    refine fin0 k v ?_
    have e : (a != b) = decide (a ≠ b) := by by_cases hh : a = b <;> simp [hh]
    rw [e]; exact h⟩
theorem cmp_eqb {c d : Bool} (h : Q (.bool (c == d)) H) : CmpOk C .Eq (.bool c) (.bool d) H Q :=
  ⟨fun A s a' b' _ k v ea eb => by obtain rfl := er_bool ea; obtain rfl := er_bool eb; (with_reducible refine eq_bool ?_); exact fin0 k v h⟩
theorem cmp_neb {c d : Bool} (h : Q (.bool (c != d)) H) : CmpOk C .NotEq (.bool c) (.bool d) H Q :=
  ⟨fun A s a' b' _ k v ea eb => by obtain rfl := er_bool ea; obtain rfl := er_bool eb; (with_reducible refine ne_bool ?_); exact fin0 k v h⟩
theorem er_beq_none (v : Value) : (v == .none) = (er v == .none) := by cases v <;> rfl
theorem cmp_is {v : Value} (h : Q (.bool (v == .none)) H) : CmpOk C .Is v .none H Q :=
  ⟨fun A s a' b' _ k vw ea eb => by
    obtain rfl := er_none eb
    (with_reducible refine is_none ?_)
    refine fin0 k vw ?_
    rw [er_beq_none, ea]; exact h⟩
end

section lists
variable {C : WC} {H : PH} {Q : Value → PH → Prop} {s : Shared}

/-- the items of a list or a tuple -/
noncomputable def seqAt (H : PH) (a : Addr) : Option (List Value) := match H a with
  | some (.lst xs) => some xs
  | some (.tup xs) => some xs
  | _ => none

theorem View.lst {a : Addr} {xs : List Value} (v : View C H s.heap) (e : H a = some (.lst xs)) :
    ∃ vs n, s.heap.get? a = some ⟨.type "list", none, .seq vs n, #[]⟩ ∧ vs.toList.map er = xs ∧ vs.size ≤ cap := by
  obtain ⟨ob, h1, vs, n, rfl, h2, h3⟩ := v.at' a _ e
  exact ⟨vs, n, h1, h2, h3⟩
theorem View.tup {a : Addr} {xs : List Value} (v : View C H s.heap) (e : H a = some (.tup xs)) :
    ∃ vs n, s.heap.get? a = some ⟨.type "tuple", none, .seq vs n, #[]⟩ ∧ vs.toList.map er = xs ∧ vs.size ≤ cap := by
  obtain ⟨ob, h1, vs, n, rfl, h2, h3⟩ := v.at' a _ e
  exact ⟨vs, n, h1, h2, h3⟩

theorem len_of {vs : Array Value} {xs : List Value} (h : vs.toList.map er = xs) : vs.size = xs.length := by rw [← h]; simp
theorem get_of {vs : Array Value} {xs : List Value} (h : vs.toList.map er = xs) {j : Nat} {x : Value} (e : xs[j]? = some x) : ∃ y, vs[j]? = some y ∧ er y = x := by
  rw [← h, List.getElem?_map] at e
  cases hy : vs.toList[j]? with
  | none => rw [hy] at e; cases e
  | some y => rw [hy] at e; exact ⟨y, by simpa using hy, Option.some.inj e⟩
theorem cap_line {n : Nat} (h : n ≤ cap) : n ≤ sizeLine := by rw [sizeLine_eq]; unfold cap at h; lia
theorem cap_63 {n : Nat} (h : n ≤ cap) : (n : Int) < 2 ^ 63 := by unfold cap at h; lia

/-- an item by an index from the front -/
theorem idx_lst {a : Addr} {xs : List Value} {k : Int} {x : Value} (e : H a = some (.lst xs)) (h0 : 0 ≤ k) (hx : xs[k.toNat]? = some x) (h : Q x H) : IdxOk C (.ref a) (I k) H Q :=
  ⟨fun A s a' b' value slice _ kp v ea eb hs => by
    obtain rfl := er_ref ea; obtain ⟨t, rfl⟩ := er_int eb
    obtain ⟨vs, n, h1, h2, h3⟩ := v.lst e
    have hL : s.heap.IsList a vs := ⟨_, h1, rfl, n, rfl⟩
    obtain ⟨y, hy, rfl⟩ := get_of h2 hx
    have hlt : k.toNat < vs.size := (Array.getElem?_eq_some_iff.mp hy).1
    exact tail_any hL.typeIs slot_list_getitem.lookup (wpAny_getItem_list hL h0 (by have := cap_63 h3; lia) hy (fin0 kp v h)) hs⟩
theorem idx_tup {a : Addr} {xs : List Value} {k : Int} {x : Value} (e : H a = some (.tup xs)) (h0 : 0 ≤ k) (hx : xs[k.toNat]? = some x) (h : Q x H) : IdxOk C (.ref a) (I k) H Q :=
  ⟨fun A s a' b' value slice _ kp v ea eb hs => by
    obtain rfl := er_ref ea; obtain ⟨t, rfl⟩ := er_int eb
    obtain ⟨vs, n, h1, h2, h3⟩ := v.tup e
    have hL : IsTup s.heap a vs := ⟨_, h1, rfl, n, rfl⟩
    obtain ⟨y, hy, rfl⟩ := get_of h2 hx
    have hlt : k.toNat < vs.size := (Array.getElem?_eq_some_iff.mp hy).1
    have h63 := cap_63 h3
    refine tail_any hL.typeIs slot_tuple_getitem.lookup (getItem_tuple hL (by lia) (by lia) (j := k.toNat) ?_ hy (fin0 kp v h)) hs
    unfold seqIndex?
    have e1 : (if k < 0 then k + (vs.size : Int) else k) = k := if_neg (by lia)
    simp only [e1]
    rw [if_pos (by simp only [Bool.and_eq_true, decide_eq_true_eq]; lia)]⟩
end lists
end

section

section lists
variable {C : WC} {H : PH} {Q : Value → PH → Prop} {s : Shared}

/-- an item by an index from the end -/
theorem idx_neg {a : Addr} {xs : List Value} {k : Int} {x : Value} (e : H a = some (.lst xs)) (h0 : k < 0) (h1 : -(xs.length : Int) ≤ k) (hx : xs[(k + xs.length).toNat]? = some x) (h : Q x H) : IdxOk C (.ref a) (I k) H Q :=
  ⟨fun A s a' b' value slice _ kp v ea eb hs => by
    obtain rfl := er_ref ea; obtain ⟨t, rfl⟩ := er_int eb
    obtain ⟨vs, n, g1, g2, g3⟩ := v.lst e
    have hL : s.heap.IsList a vs := ⟨_, g1, rfl, n, rfl⟩
    rw [← len_of g2] at hx h1
    obtain ⟨y, hy, rfl⟩ := get_of g2 hx
    have h63 := cap_63 g3
    exact tail_any hL.typeIs slot_list_getitem.lookup (wpAny_getItem_list_neg hL h0 h1 (by lia) hy (fin0 kp v h)) hs⟩

theorem Frm.alloc {H : PH} {o : HO} {ob : Obj} {tk : Nat} (k : Keep C s.heap) (v : View C H s.heap) (his : o.Is ob) (hf : ob.isFreed = false) :
    Frm C NoX H (H.set s.heap.objs.size o) s { s with heap := s.heap.push ob, toks := tk } :=
  Frm.new k v (fun b o e => Heap.get?_push_of_some _ e) (Heap.get?_push_size _ hf) his (Nat.le_refl _)

/-- a new list or tuple -/
theorem finA {H : PH} {o : HO} {ob : Obj} {tk : Nat} (k : Keep C s.heap) (v : View C H s.heap) (his : o.Is ob) (hf : ob.isFreed = false) (h : ∀ r, H r = none → Q (.ref r) (H.set r o)) :
    ∃ H', Frm C NoX H H' s { s with heap := s.heap.push ob, toks := tk } ∧ Q (er (.ref s.heap.objs.size)) H' :=
  ⟨_, Frm.alloc k v his hf, h _ (v.none_of_size _ (Nat.le_refl _))⟩

theorem lst_is {vs : Array Value} {xs : List Value} {n : Nat} (h : vs.toList.map er = xs) (hs : vs.size ≤ cap) : (HO.lst xs).Is ⟨.type "list", none, .seq vs n, #[]⟩ := ⟨vs, n, rfl, h, hs⟩
theorem tup_is {vs : Array Value} {xs : List Value} {n : Nat} (h : vs.toList.map er = xs) (hs : vs.size ≤ cap) : (HO.tup xs).Is ⟨.type "tuple", none, .seq vs n, #[]⟩ := ⟨vs, n, rfl, h, hs⟩

/-- list times a number -/
theorem bin_rep {a : Addr} {xs : List Value} {k : Int} (e : H a = some (.lst xs)) (hk : xs.length * k.toNat ≤ cap) (hk0 : -1000000 ≤ k) (hk1 : k ≤ 1000000)
    (h : ∀ r, H r = none → Q (.ref r) (H.set r (.lst (List.replicate k.toNat xs).flatten))) : BinOk C .Mult (.ref a) (I k) H Q :=
  ⟨fun A s a' b' _ kp v ea eb => by
    obtain rfl := er_ref ea; obtain ⟨t, rfl⟩ := er_int eb
    obtain ⟨vs, n, g1, g2, g3⟩ := v.lst e
    have hlen := len_of g2
    have hm : vs.size * k.toNat ≤ 2 ^ 24 := by rw [hlen]; unfold cap at hk; lia
    refine wpAny_binaryOp_repeat_ref (T := "list") (U := "int") (by decide) ⟨_, g1, rfl⟩ (fun s' => typeIs_int s' k t) noFill_list_mul F.fills_int_mul F.slot_int_rmul repeat_list F.slot_int_index.lookup ?_
    refine call_meets F.slot_int_rmul (typeIs_int s k t) F.entry_int_rmul (F.args_int_rmul_2 _ _) (int___rmul___int_list k t a vs n) ⟨g1, rfl, ⟨_, g1, rfl⟩, ?_⟩
    refine call_meets F.slot_list_mul ⟨_, g1, rfl⟩ F.entry_list_mul (F.args_list_mul_2 _ _)
        (AutoListH.list___mul___list_int_3 a vs n k t (by simp [Builtin.List.listFitsIndex]; lia) (by lia) (by simp [Builtin.List.listTooLong, sizeLine]; lia)) ⟨g1, ?_⟩
    have key : ∀ (m : Nat) (acc : Array Value), ((List.replicate m vs).foldl (fun x y => x ++ y) acc).toList.map er = acc.toList.map er ++ (List.replicate m xs).flatten := by
      intro m
      induction m with
      | zero => intro acc; simp
      | succ m ih =>
        intro acc
        rw [List.replicate_succ, List.foldl_cons, ih, List.replicate_succ, List.flatten_cons, Array.toList_append, List.map_append, g2, List.append_assoc]
    have hvs : (List.foldl (fun x1 x2 => x1 ++ x2) #[] (List.replicate (if vs.isEmpty = true then 0 else k.toNat) vs)).toList.map er = (List.replicate k.toNat xs).flatten := by
      rw [key]
      by_cases he : vs.isEmpty = true
      · rw [if_pos he]
        have : xs = [] := by rw [← g2]; simp [Array.isEmpty_iff.mp he]
        subst this; simp
      · rw [if_neg he]; simp
    refine finA (tk := s.toks) kp v (lst_is hvs ?_) rfl h
    have := len_of hvs
    rw [this, List.length_flatten, List.map_replicate, List.sum_replicate_nat, Nat.mul_comm]
    exact hk⟩

/-- list plus list -/
theorem bin_cat {a b : Addr} {xs ys : List Value} (e : H a = some (.lst xs)) (e' : H b = some (.lst ys)) (hk : xs.length + ys.length ≤ cap)
    (h : ∀ r, H r = none → Q (.ref r) (H.set r (.lst (xs ++ ys)))) : BinOk C .Add (.ref a) (.ref b) H Q :=
  ⟨fun A s a' b' _ kp v ea eb => by
    obtain rfl := er_ref ea; obtain rfl := er_ref eb
    obtain ⟨vs, n, g1, g2, g3⟩ := v.lst e
    obtain ⟨ws, n', k1, k2, k3⟩ := v.lst e'
    have hl1 := len_of g2
    have hl2 := len_of k2
    refine concat_meets ⟨_, g1, rfl⟩ ⟨_, k1, rfl⟩ noFill_list_add seq_list_add PySem.F.slot_list_add PySem.F.entry_list_add (PySem.F.args_list_add_2 _ _)
      (list_addW a b vs ws n n' none none #[] #[] (by rw [sizeLine_eq]; unfold cap at *; lia)) ⟨g1, k1, ?_⟩
    refine finA (tk := s.toks) kp v (lst_is ?_ ?_) rfl h
    · simp [g2, k2]
    · simp; lia⟩

/-- a store -/
theorem set_lst {a : Addr} {xs : List Value} {k : Int} {x : Value} {Q : PH → Prop} (e : H a = some (.lst xs)) (h0 : 0 ≤ k) (hk : k < xs.length) (h : Q (H.set a (.lst (xs.set k.toNat x)))) : SetOk C (.ref a) (I k) x H Q :=
  ⟨fun A s a' b' v' _ kp v ea eb ev => by
    obtain rfl := er_ref ea; obtain ⟨t, rfl⟩ := er_int eb
    obtain ⟨vs, n, g1, g2, g3⟩ := v.lst e
    have hl := len_of g2
    have hL : s.heap.IsList a vs := ⟨_, g1, rfl, n, rfl⟩
    have hfr := v.fresh a xs e
    have h63 := cap_63 g3
    have hn : k.toNat < vs.size := by lia
    have hx : vs[k.toNat]? = some vs[k.toNat] := Array.getElem?_eq_getElem hn
    have fin : ∃ H', Frm C NoX H H' s { s with heap := s.heap.update a (Obj.mapSeq (·.setIfInBounds k.toNat v')) } ∧ Q H' := by
      refine ⟨_, ⟨⟨rfl, rfl, rfl⟩, fun b o _ he hb => ?_, ⟨fun b o he => ?_⟩, ⟨fun b o he => ?_, fun b ys he => ?_⟩⟩, h⟩
      · have hba : b ≠ a := fun q => by rw [q, e] at hb; cases hb
        exact ⟨(Heap.get?_update_other _ _ (Ne.symm hba)).trans he, by rw [PH.set_ne _ _ hba]; exact hb⟩
      · have hba : b ≠ a := fun q => by rw [q, hfr] at he; cases he
        exact (Heap.get?_update_other _ _ (Ne.symm hba)).trans (kp.k b o he)
      · by_cases hba : b = a
        · subst hba
          rw [PH.set_same] at he; cases he
          refine ⟨_, Heap.get?_update_self _ g1 rfl, _, _, rfl, ?_, ?_⟩
          · rw [Array.toList_setIfInBounds, List.map_set, g2, ev]
          · rw [Array.size_setIfInBounds]; exact g3
        · rw [PH.set_ne _ _ hba] at he
          obtain ⟨ob, k1, k2⟩ := v.at' b o he
          exact ⟨ob, (Heap.get?_update_other _ _ (Ne.symm hba)).trans k1, k2⟩
      · by_cases hba : b = a
        · subst hba; exact hfr
        · rw [PH.set_ne _ _ hba] at he; exact v.fresh b ys he
    unfold setItem
    refine wpAny_holding ?_
    refine wpAny_bind (wpAny_sequenceKey hL.typeIs (by decide) ?_)
    refine wpAny_bind (wpAny_callSpecial?_slot (name := Str.ofString "__setitem__") hL.typeIs slot_list_setitem
      (wpAny_call_entry slot_list_setitem hL.typeIs entry_list_setitem ?_ (args_list_setitem _ _ _)))
    refine wpAny_bind (m := Builtin.List.listSubscript? (.int k t)) (wpAny_listSubscript_int (fitsIndex_of h0 (by lia)) ?_)
    clear h63
    obtain ⟨j, rfl⟩ := Int.eq_ofNat_of_zero_le h0
    refine wpAny_bind (m := seqItemAt a j >>= fun r => pure (r.map (j, ·))) (wpAny_bind (wpAny_seqItemAt g1 rfl (wpAny_pure ?_)))
    rw [show vs[j]? = some vs[j] from hx]
    refine wpAny_bind (m := setSeqItemAt a j v') (wpAny_setSeqItemAt g1 rfl ?_)
    exact wpAny_bind (wpAny_pure (wpAny_pure ⟨.none, rfl, wpAny_pure fin⟩))⟩

/-- append; the state behind it -/
theorem Frm.upd {a : Addr} {xs ys : List Value} {vs ws : Array Value} {n n' : Nat} {tk : Nat} {h' : Heap} (kp : Keep C s.heap) (v : View C H s.heap) (e : H a = some (.lst xs))
    (hs : Heap.SameBut a s.heap h') (hr : h'.get? a = some ⟨.type "list", none, .seq ws n', #[]⟩) (hw : ws.toList.map er = ys) (hz : ws.size ≤ cap) :
    Frm C NoX H (H.set a (.lst ys)) s { s with heap := h', toks := tk } := by
  have hfr := v.fresh a xs e
  refine ⟨⟨rfl, rfl, rfl⟩, fun b o _ he hb => ?_, ⟨fun b o he => ?_⟩, ⟨fun b o he => ?_, fun b ys he => ?_⟩⟩
  · have hba : b ≠ a := fun q => by rw [q, e] at hb; cases hb
    exact ⟨(hs.2 b hba).trans he, by rw [PH.set_ne _ _ hba]; exact hb⟩
  · have hba : b ≠ a := fun q => by rw [q, hfr] at he; cases he
    exact (hs.2 b hba).trans (kp.k b o he)
  · by_cases hba : b = a
    · subst hba
      rw [PH.set_same] at he; cases he
      exact ⟨_, hr, _, _, rfl, hw, hz⟩
    · rw [PH.set_ne _ _ hba] at he
      obtain ⟨ob, k1, k2⟩ := v.at' b o he
      exact ⟨ob, (hs.2 b hba).trans k1, k2⟩
  · by_cases hba : b = a
    · subst hba; exact hfr
    · rw [PH.set_ne _ _ hba] at he; exact v.fresh b ys he

theorem one_arg {args' : List Value} {x : Value} (ea : args'.map er = [x]) : ∃ x', args' = [x'] ∧ er x' = x := by
  obtain ⟨p, l, rfl, e1, e2⟩ := List.map_eq_cons_iff.mp ea
  rw [List.map_eq_nil_iff] at e2
  subst e2
  exact ⟨p, rfl, e1⟩
theorem two_args {args' : List Value} {x y : Value} (ea : args'.map er = [x, y]) : ∃ x' y', args' = [x', y'] ∧ er x' = x ∧ er y' = y := by
  obtain ⟨p, l, rfl, e1, e2⟩ := List.map_eq_cons_iff.mp ea
  obtain ⟨q, rfl, e3⟩ := one_arg e2
  exact ⟨p, q, rfl, e1, e3⟩
theorem app_lst {a : Addr} {xs : List Value} {x : Value} {n : Nat} (e : H a = some (.lst xs)) (hz : xs.length < cap) (h : Q .none (H.set a (.lst (xs ++ [x])))) : CallOk C n (.builtin "list.append") [.ref a, x] H Q :=
  ⟨fun A s f' args' bd kp v ef ea => by
    obtain rfl := er_builtin ef
    obtain ⟨a', x', rfl, e1, e2⟩ := two_args ea
    obtain rfl := er_ref e1
    refine ⟨fun Q' hk => wpAny_pure (hk _), ?_⟩
    obtain ⟨vs, n, g1, g2, g3⟩ := v.lst e
    have hl := len_of g2
    have hL : s.heap.IsList a vs := ⟨_, g1, rfl, n, rfl⟩
    refine wpAny_call_entry slot_list_append hL.typeIs entry_list_append ?_ (args_list_append _ _)
    refine wpAny_bind (m := updateSeq a (·.push x')) (wpAny_updateSeq g1 rfl (wpAny_pure ⟨.none, rfl, ?_⟩) (cap_line g3) (by rw [sizeLine_eq]; unfold cap at *; simp; lia))
    refine ⟨_, Frm.upd (tk := s.toks) (vs := vs) (n := n) kp v e (Heap.SameBut.update ..) (Heap.get?_update_self _ g1 rfl) ?_ ?_, h⟩
    · simp [g2, e2]
    · simp; lia⟩

section calls
variable {n : Nat}
theorem len_lst {a : Addr} {xs : List Value} (e : H a = some (.lst xs)) (h : Q (I xs.length) H) : CallOk C n (.builtin "len") [.ref a] H Q :=
  ⟨fun A s f' args' bd kp v ef ea => by
    obtain rfl := er_builtin ef
    obtain ⟨x', rfl, e1⟩ := one_arg ea
    obtain rfl := er_ref e1
    refine ⟨fun Q' hk => wpAny_pure (hk _), ?_⟩
    obtain ⟨vs, n, g1, g2, g3⟩ := v.lst e
    rw [← len_of g2] at h
    refine Calls.call_len_list ⟨_, g1, rfl, n, rfl⟩ (cap_63 g3) ?_
    exact fin1 kp v h⟩
theorem len_tup {a : Addr} {xs : List Value} (e : H a = some (.tup xs)) (h : Q (I xs.length) H) : CallOk C n (.builtin "len") [.ref a] H Q :=
  ⟨fun A s f' args' bd kp v ef ea => by
    obtain rfl := er_builtin ef
    obtain ⟨x', rfl, e1⟩ := one_arg ea
    obtain rfl := er_ref e1
    refine ⟨fun Q' hk => wpAny_pure (hk _), ?_⟩
    obtain ⟨vs, n, g1, g2, g3⟩ := v.tup e
    rw [← len_of g2] at h
    refine PyProof.Rows.len_tuple ⟨_, g1, rfl, n, rfl⟩ (cap_63 g3) ?_
    exact fin1 kp v h⟩
theorem min_int {a b : Int} (h : Q (I (if b < a then b else a)) H) : CallOk C n (.builtin "min") [I a, I b] H Q :=
  ⟨fun A s f' args' bd kp v ef ea => by
    obtain rfl := er_builtin ef
    obtain ⟨x', y', rfl, e1, e2⟩ := two_args ea
    obtain ⟨t, rfl⟩ := er_int e1; obtain ⟨u, rfl⟩ := er_int e2
    refine ⟨fun Q' hk => wpAny_pure (hk _), ?_⟩
    refine min_two_ints bd.hh fun h' tk hk => ⟨H, Frm.grow kp v hk, ?_⟩
    by_cases hba : b < a
    · rw [if_pos hba] at h ⊢; exact h
    · rw [if_neg hba] at h ⊢; exact h⟩
theorem bitlen_int {a : Int} (h : Q (I (Builtin.Int.intBits a)) H) : CallOk C n (.builtin "int.bit_length") [I a] H Q :=
  ⟨fun A s f' args' bd kp v ef ea => by
    obtain rfl := er_builtin ef
    obtain ⟨x', rfl, e1⟩ := one_arg ea
    obtain ⟨t, rfl⟩ := er_int e1
    refine ⟨fun Q' hk => wpAny_pure (hk _), ?_⟩
    (with_reducible refine call_int_bit_length ?_)
    exact fin1 kp v h⟩
theorem abs_int {a : Int} (h : Q (I (if a < 0 then -a else a)) H) : CallOk C n (.builtin "abs") [I a] H Q :=
  ⟨fun A s f' args' bd kp v ef ea => by
    obtain rfl := er_builtin ef
    obtain ⟨x', rfl, e1⟩ := one_arg ea
    obtain ⟨t, rfl⟩ := er_int e1
    refine ⟨fun Q' hk => wpAny_pure (hk _), ?_⟩
    (with_reducible refine call_abs_int ?_)
    intro u tk
    exact fin1 kp v h⟩
theorem int_int {a : Int} (h : Q (I a) H) : CallOk C n (.type "int") [I a] H Q :=
  ⟨fun A s f' args' bd kp v ef ea => by
    obtain rfl := er_type ef
    obtain ⟨x', rfl, e1⟩ := one_arg ea
    obtain ⟨t, rfl⟩ := er_int e1
    refine ⟨fun Q' hk => wpAny_pure (hk _), ?_⟩
    refine call_int_int ?_
    exact fin0 kp v h⟩
theorem list_of {a : Addr} {xs : List Value} {ob : Obj} {T : String} {vs : Array Value} {m : Nat} (hT : T = "list" ∨ T = "tuple") (ho : ∀ s : Shared, Keep C s.heap → View C H s.heap → ∃ ob vs m, s.heap.get? a = some ob ∧ ob.cls = .type T ∧ ob.data = .seq vs m ∧ vs.toList.map er = xs ∧ vs.size ≤ cap)
    (h : ∀ r, H r = none → Q (.ref r) (H.set r (.lst xs))) : CallOk C n (.type "list") [.ref a] H Q :=
  ⟨fun A s f' args' bd kp v ef ea => by
    obtain rfl := er_type ef
    obtain ⟨x', rfl, e1⟩ := one_arg ea
    obtain rfl := er_ref e1
    refine ⟨fun Q' hk => wpAny_pure (hk _), ?_⟩
    obtain ⟨ob, vs, m, g1, g2, g3, g4, g5⟩ := ho s kp v
    refine call_list_seq (hsz := cap_line g5) a hT g1 g2 g3 fun h' c' hk hr => ⟨H.set s.heap.objs.size (.lst xs), ?_, h _ (v.none_of_size _ (Nat.le_refl _))⟩
    exact Frm.new (tk := s.toks) kp v hk hr (lst_is g4 g5) (Nat.le_refl _)⟩
theorem list_lst {a : Addr} {xs : List Value} (e : H a = some (.lst xs)) (h : ∀ r, H r = none → Q (.ref r) (H.set r (.lst xs))) : CallOk C n (.type "list") [.ref a] H Q :=
  list_of (ob := default) (vs := #[]) (m := 0) (.inl rfl) (fun s kp v => by obtain ⟨vs, n, g1, g2, g3⟩ := v.lst e; exact ⟨_, vs, n, g1, rfl, rfl, g2, g3⟩) h
theorem list_tup {a : Addr} {xs : List Value} (e : H a = some (.tup xs)) (h : ∀ r, H r = none → Q (.ref r) (H.set r (.lst xs))) : CallOk C n (.type "list") [.ref a] H Q :=
  list_of (ob := default) (vs := #[]) (m := 0) (.inr rfl) (fun s kp v => by obtain ⟨vs, n, g1, g2, g3⟩ := v.tup e; exact ⟨_, vs, n, g1, rfl, rfl, g2, g3⟩) h
end calls
end lists
end

section

mutual
inductive PE where
  | int (i : Nat) | bool (b : Bool) | none
  | var (i : Nat) | glob (x : Str) (v : Value)
  | bin (op : Operator) (l r : PE) | cmp (op : CmpOp) (l r : PE)
  | neg (i : Nat) | and (l r : PE) | not (e : PE) | ite (t b o : PE)
  | idx (e i : PE) | slc (e lo hi : PE) | absent
  | tup (es : PEs) | lst (es : PEs)
  | call (f : PE) (es : PEs) | meth (e : PE) (name : Str) (es : PEs) | attr (e : PE) (name : Str)
inductive PEs where
  | nil | cons (e : PE) (es : PEs)
end

structure SlcOk (C : WC) (o l u : Value) (H : PH) (Q : Value → PH → Prop) : Prop where
  ok : ∀ A (s : Shared) o' l' u', Bud 0 A → Keep C s.heap → View C H s.heap → er o' = o → er l' = l → er u' = u →
    (∀ ob, ({ s with heap := s.heap.push ob } : Shared).TypeIs o' "list") ∧
    WP C A (getItem o' (.ref s.heap.objs.size)) (fun v s' => ∃ H', Frm C NoX H H' s s' ∧ Q (er v) H') { s with heap := s.heap.push { cls := .type "slice", data := .fields #[l', u', .none] } }
structure MethOk (C : WC) (o : Value) (name : Str) (f : Value) (H : PH) : Prop where
  ef : er f = f
  ok : ∀ A s o' pl (Q' : Value × List Value → Shared → Prop), Keep C s.heap → View C H s.heap → er o' = o → Q' (f, [o']) s → WP C A (getMethod o' name pl) Q' s
structure AttrOk (C : WC) (o : Value) (name : Str) (H : PH) (Q : Value → PH → Prop) : Prop where
  ok : ∀ A s o', Bud 0 A → Keep C s.heap → View C H s.heap → er o' = o →
    WP C A (getAttr o' name true) (fun v s' => ∃ H', Frm C NoX H H' s s' ∧ Q (er v) H') s
structure TruthOk (C : WC) (v : Value) (H : PH) (Q : Bool → PH → Prop) : Prop where
  ok : ∀ A s v', Bud 0 A → Keep C s.heap → View C H s.heap → er v' = v →
    WP C A (truthy v') (fun b s' => ∃ H', Frm C NoX H H' s s' ∧ Q b H') s

/-- the value at a place of the frame -/
noncomputable def lk0 : Option Value → (Value → Prop) → Prop
  | some v, k => k v
  | none, _ => False
noncomputable def lk : List (Option Value) → Nat → (Value → Prop) → Prop
  | [], _, _ => False
  | a :: _, 0, k => lk0 a k
  | _ :: l, i + 1, k => lk l i k
theorem lk_get : ∀ {l : List (Option Value)} {i : Nat} {k : Value → Prop}, lk l i k → ∃ v, l[i]? = some (some v) ∧ k v
  | [], _, _, h => h.elim
  | none :: _, 0, _, h => h.elim
  | some v :: _, 0, _, h => ⟨v, rfl, h⟩
  | _ :: l, i + 1, k, h => lk_get (l := l) (i := i) h
section
variable (C : WC) (n : Nat) (σ : List (Option Value))
mutual
noncomputable def pE : PE → PH → (Value → PH → Prop) → Prop
  | .int i, H, Q => Q (I (i : Int)) H
  | .bool b, H, Q => Q (.bool b) H
  | .none, H, Q => Q .none H
  | .absent, H, Q => Q .none H
  | .var i, H, Q => lk σ i fun v => Q v H
  | .glob _ v, H, Q => Q v H
  | .bin op l r, H, Q => pE l H fun a H => pE r H fun b H => BinOk C op a b H Q
  | .cmp op l r, H, Q => pE l H fun a H => pE r H fun b H => CmpOk C op a b H Q
  | .neg i, H, Q => Q (I (-(i : Int))) H
  | .and l r, H, Q => pE l H fun v H => TruthOk C v H fun b H => if b then pE r H Q else Q v H
  | .not _, _, _ => False
  | .ite t b o, H, Q => pT t H fun c H => if c then pE b H Q else pE o H Q
  | .idx e i, H, Q => pE e H fun a H => pE i H fun b H => IdxOk C a b H Q
  | .slc e lo hi, H, Q => pE e H fun a H => pE lo H fun l H => pE hi H fun u H => SlcOk C a l u H Q
  | .tup es, H, Q => pEs es H fun vs H => vs.length ≤ cap ∧ ∀ r, H r = none → Q (.ref r) (H.set r (.tup vs))
  | .lst es, H, Q => pEs es H fun vs H => vs.length ≤ cap ∧ ∀ r, H r = none → Q (.ref r) (H.set r (.lst vs))
  | .call f es, H, Q => pE f H fun fv H => pEs es H fun vs H => CallOk C n fv vs H Q
  | .meth e name es, H, Q => pE e H fun o H => ∃ f, MethOk C o name f H ∧ pEs es H fun vs H => CallOk C n f (o :: vs) H Q
  | .attr e name, H, Q => pE e H fun o H => AttrOk C o name H Q
noncomputable def pT : PE → PH → (Bool → PH → Prop) → Prop
  | .cmp op l r, H, Q => pE l H fun a H => pE r H fun b H => CmpOk C op a b H fun v H => ∃ c, v = .bool c ∧ Q c H
  | .and l r, H, Q => pT l H fun c H => if c then pT r H Q else Q false H
  | .not e, H, Q => pT e H fun c H => Q (!c) H
  | .call f es, H, Q => pE f H fun fv H => pEs es H fun vs H => CallOk C n fv vs H fun v H => ∃ c, v = .bool c ∧ Q c H
  | _, _, _ => False
noncomputable def pEs : PEs → PH → (List Value → PH → Prop) → Prop
  | .nil, H, Q => Q [] H
  | .cons e es, H, Q => pE e H fun v H => pEs es H fun vs H => Q (v :: vs) H
end
end

section
variable {C : WC} {n : Nat} {σ : List (Option Value)} {H : PH} {Q : Value → PH → Prop} {T : Bool → PH → Prop} {L : List Value → PH → Prop} {K : Value → Prop}
theorem lk_0 {v : Value} {l : List (Option Value)} : lk (some v :: l) 0 K = K v := rfl
theorem lk_s {a : Option Value} {l : List (Option Value)} {i : Nat} : lk (a :: l) (i + 1) K = lk l i K := rfl
theorem w_int {i : Nat} : pE C n σ (.int i) H Q = (Q (I (i : Int)) H) := rfl
theorem w_bool {b : Bool} : pE C n σ (.bool b) H Q = (Q (.bool b) H) := rfl
theorem w_none  : pE C n σ (.none) H Q = (Q .none H) := rfl
theorem w_absent  : pE C n σ (.absent) H Q = (Q .none H) := rfl
theorem w_var {i : Nat} : pE C n σ (.var i) H Q = (lk σ i fun v => Q v H) := rfl
theorem w_glob {x : Str} {v : Value} : pE C n σ (.glob x v) H Q = (Q v H) := rfl
theorem w_bin {op : Operator} {l : PE} {r : PE} : pE C n σ (.bin op l r) H Q = (pE C n σ l H fun a H => pE C n σ r H fun b H => BinOk C op a b H Q) := rfl
theorem w_cmp {op : CmpOp} {l : PE} {r : PE} : pE C n σ (.cmp op l r) H Q = (pE C n σ l H fun a H => pE C n σ r H fun b H => CmpOk C op a b H Q) := rfl
theorem w_neg {i : Nat} : pE C n σ (.neg i) H Q = (Q (I (-(i : Int))) H) := rfl
theorem w_and {l : PE} {r : PE} : pE C n σ (.and l r) H Q = (pE C n σ l H fun v H => TruthOk C v H fun b H => if b then pE C n σ r H Q else Q v H) := rfl
theorem w_ite {t b o : PE} : pE C n σ (.ite t b o) H Q = (pT C n σ t H fun c H => if c then pE C n σ b H Q else pE C n σ o H Q) := rfl
theorem w_idx {e i : PE} : pE C n σ (.idx e i) H Q = (pE C n σ e H fun a H => pE C n σ i H fun b H => IdxOk C a b H Q) := rfl
theorem w_slc {e lo hi : PE} : pE C n σ (.slc e lo hi) H Q = (pE C n σ e H fun a H => pE C n σ lo H fun l H => pE C n σ hi H fun u H => SlcOk C a l u H Q) := rfl
theorem w_tup {es : PEs} : pE C n σ (.tup es) H Q = (pEs C n σ es H fun vs H => vs.length ≤ cap ∧ ∀ r, H r = none → Q (.ref r) (H.set r (.tup vs))) := rfl
theorem w_lst {es : PEs} : pE C n σ (.lst es) H Q = (pEs C n σ es H fun vs H => vs.length ≤ cap ∧ ∀ r, H r = none → Q (.ref r) (H.set r (.lst vs))) := rfl
theorem w_call {f : PE} {es : PEs} : pE C n σ (.call f es) H Q = (pE C n σ f H fun fv H => pEs C n σ es H fun vs H => CallOk C n fv vs H Q) := rfl
theorem w_meth {e : PE} {name : Str} {es : PEs} : pE C n σ (.meth e name es) H Q = (pE C n σ e H fun o H => ∃ f, MethOk C o name f H ∧ pEs C n σ es H fun vs H => CallOk C n f (o :: vs) H Q) := rfl
theorem w_attr {e : PE} {name : Str} : pE C n σ (.attr e name) H Q = (pE C n σ e H fun o H => AttrOk C o name H Q) := rfl
theorem v_cmp {op : CmpOp} {l : PE} {r : PE} : pT C n σ (.cmp op l r) H T = (pE C n σ l H fun a H => pE C n σ r H fun b H => CmpOk C op a b H fun v H => ∃ c, v = .bool c ∧ T c H) := rfl
theorem v_and {l : PE} {r : PE} : pT C n σ (.and l r) H T = (pT C n σ l H fun c H => if c then pT C n σ r H T else T false H) := rfl
theorem v_not {e : PE} : pT C n σ (.not e) H T = (pT C n σ e H fun c H => T (!c) H) := rfl
theorem v_call {f : PE} {es : PEs} : pT C n σ (.call f es) H T = (pE C n σ f H fun fv H => pEs C n σ es H fun vs H => CallOk C n fv vs H fun v H => ∃ c, v = .bool c ∧ T c H) := rfl
theorem u_nil  : pEs C n σ (.nil) H L = (L [] H) := rfl
theorem u_cons {e : PE} {es : PEs} : pEs C n σ (.cons e es) H L = (pE C n σ e H fun v H => pEs C n σ es H fun vs H => L (v :: vs) H) := rfl
end

noncomputable def noSlice : Expr → Bool
  | .Slice .. => false
  | .Starred .. => false
  | _ => true
noncomputable def noCall : Expr → Bool
  | .Call .. => false
  | _ => true

noncomputable def isAbs : PE → Bool
  | .absent => true
  | _ => false
theorem no_ff {P : Prop} (h : false = true) : P := (Bool.false_ne_true h).elim
theorem and_k {a b : Bool} {P : Prop} (h : (a && b) = true) (k : a = true → b = true → P) : P := k (Bool.and_eq_true_iff.mp h).1 (Bool.and_eq_true_iff.mp h).2
section
variable {α β γ δ : Type}
noncomputable abbrev n1 : α → Bool := fun _ => false
noncomputable abbrev n2 : α → β → Bool := fun _ _ => false
noncomputable abbrev n3 : α → β → γ → Bool := fun _ _ _ => false
noncomputable abbrev n4 : α → β → γ → δ → Bool := fun _ _ _ _ => false
noncomputable def onNil : List α → Bool
  | [] => true
  | _ :: _ => false
noncomputable def onCons (f : α → List α → Bool) : List α → Bool
  | [] => false
  | a :: l => f a l
@[elab_as_elim] theorem onNil_inv {P : List α → Prop} (l : List α) (h : onNil l = true) (k : P []) : P l := by
  cases l with
  | nil => exact k
  | cons _ _ => exact no_ff h
@[elab_as_elim] theorem onCons_inv {f : α → List α → Bool} {P : List α → Prop} (l : List α) (h : onCons f l = true) (k : ∀ a r, f a r = true → P (a :: r)) : P l := by
  cases l with
  | nil => exact no_ff h
  | cons a r => exact k a r h
end
/-- what is asked of an expression, by its form -/
noncomputable def goE (fC : Const → Bool) (fN : Str → Pos → Bool) (fB : Expr → Operator → Expr → Bool) (fM : Expr → List CmpOp → List Expr → Bool) (fU : UnaryOp → Expr → Bool) (fO : BoolOp → List Expr → Bool) (fI : Expr → Expr → Expr → Bool)
    (fS : Expr → Expr → Bool) (fT : List Expr → Bool) (fL : List Expr → Bool) (fK : Expr → List Expr → List Keyword → Pos → Bool) (fA : Expr → Str → Pos → Bool) (fX : Option Expr → Option Expr → Option Expr → Bool) : Expr → Bool
  | .Constant c _ _ => fC c
  | .Name x p => fN x p
  | .BinOp l op r _ => fB l op r
  | .Compare l ops rs _ => fM l ops rs
  | .UnaryOp op e _ => fU op e
  | .BoolOp op es _ => fO op es
  | .IfExp t b o _ => fI t b o
  | .Subscript e i _ => fS e i
  | .Tuple es _ _ => fT es
  | .List es _ => fL es
  | .Call f es kw p => fK f es kw p
  | .Attribute e x p => fA e x p
  | .Slice a b c _ => fX a b c
  | _ => false
section
variable {fC : Const → Bool} {fN : Str → Pos → Bool} {fB : Expr → Operator → Expr → Bool} {fM : Expr → List CmpOp → List Expr → Bool} {fU : UnaryOp → Expr → Bool} {fO : BoolOp → List Expr → Bool} {fI : Expr → Expr → Expr → Bool}
    {fS : Expr → Expr → Bool} {fT : List Expr → Bool} {fL : List Expr → Bool} {fK : Expr → List Expr → List Keyword → Pos → Bool} {fA : Expr → Str → Pos → Bool} {fX : Option Expr → Option Expr → Option Expr → Bool}
    {P : Expr → Prop}
theorem goE_inv {x : Expr} (h : goE fC fN fB fM fU fO fI fS fT fL fK fA fX x = true) (kC : ∀ c k p, fC c = true → P (.Constant c k p)) (kN : ∀ x p, fN x p = true → P (.Name x p)) (kB : ∀ l op r p, fB l op r = true → P (.BinOp l op r p))
    (kM : ∀ l ops rs p, fM l ops rs = true → P (.Compare l ops rs p)) (kU : ∀ op e p, fU op e = true → P (.UnaryOp op e p)) (kO : ∀ op es p, fO op es = true → P (.BoolOp op es p)) (kI : ∀ t b o p, fI t b o = true → P (.IfExp t b o p))
    (kS : ∀ e i p, fS e i = true → P (.Subscript e i p)) (kT : ∀ es k p, fT es = true → P (.Tuple es k p)) (kL : ∀ es p, fL es = true → P (.List es p)) (kK : ∀ f es kw p, fK f es kw p = true → P (.Call f es kw p))
    (kA : ∀ (e : Expr) (x : Str) (p : Pos), fA e x p = true → P (.Attribute e x p)) (kX : ∀ a b c p, fX a b c = true → P (.Slice a b c p)) : P x := by
  cases x with
  | Constant c k p => exact kC c k p h
  | Name x p => exact kN x p h
  | BinOp l op r p => exact kB l op r p h
  | Compare l ops rs p => exact kM l ops rs p h
  | UnaryOp op e p => exact kU op e p h
  | BoolOp op es p => exact kO op es p h
  | IfExp t b o p => exact kI t b o p h
  | Subscript e i p => exact kS e i p h
  | Tuple es k p => exact kT es k p h
  | List es p => exact kL es p h
  | Call f es kw p => exact kK f es kw p h
  | Attribute e x p => exact kA e x p h
  | Slice a b c p => exact kX a b c p h
  | _ => exact no_ff h
noncomputable def onC (fC : Const → Bool) (x : Expr) : Bool := goE fC n2 n3 n3 n2 n2 n3 n2 n1 n1 n4 n3 n3 x
@[elab_as_elim] theorem onC_inv (x : Expr) (h : onC fC x = true) (k : ∀ c k p, fC c = true → P (.Constant c k p)) : P x := goE_inv h k (fun _ _ h => no_ff h) (fun _ _ _ _ h => no_ff h) (fun _ _ _ _ h => no_ff h) (fun _ _ _ h => no_ff h) (fun _ _ _ h => no_ff h) (fun _ _ _ _ h => no_ff h) (fun _ _ _ h => no_ff h) (fun _ _ _ h => no_ff h) (fun _ _ h => no_ff h) (fun _ _ _ _ h => no_ff h) (fun _ _ _ h => no_ff h) (fun _ _ _ _ h => no_ff h)
noncomputable def onN (fN : Str → Pos → Bool) (x : Expr) : Bool := goE n1 fN n3 n3 n2 n2 n3 n2 n1 n1 n4 n3 n3 x
@[elab_as_elim] theorem onN_inv (x : Expr) (h : onN fN x = true) (k : ∀ x p, fN x p = true → P (.Name x p)) : P x := goE_inv h (fun _ _ _ h => no_ff h) k (fun _ _ _ _ h => no_ff h) (fun _ _ _ _ h => no_ff h) (fun _ _ _ h => no_ff h) (fun _ _ _ h => no_ff h) (fun _ _ _ _ h => no_ff h) (fun _ _ _ h => no_ff h) (fun _ _ _ h => no_ff h) (fun _ _ h => no_ff h) (fun _ _ _ _ h => no_ff h) (fun _ _ _ h => no_ff h) (fun _ _ _ _ h => no_ff h)
noncomputable def onB (fB : Expr → Operator → Expr → Bool) (x : Expr) : Bool := goE n1 n2 fB n3 n2 n2 n3 n2 n1 n1 n4 n3 n3 x
@[elab_as_elim] theorem onB_inv (x : Expr) (h : onB fB x = true) (k : ∀ l op r p, fB l op r = true → P (.BinOp l op r p)) : P x := goE_inv h (fun _ _ _ h => no_ff h) (fun _ _ h => no_ff h) k (fun _ _ _ _ h => no_ff h) (fun _ _ _ h => no_ff h) (fun _ _ _ h => no_ff h) (fun _ _ _ _ h => no_ff h) (fun _ _ _ h => no_ff h) (fun _ _ _ h => no_ff h) (fun _ _ h => no_ff h) (fun _ _ _ _ h => no_ff h) (fun _ _ _ h => no_ff h) (fun _ _ _ _ h => no_ff h)
noncomputable def onM (fM : Expr → List CmpOp → List Expr → Bool) (x : Expr) : Bool := goE n1 n2 n3 fM n2 n2 n3 n2 n1 n1 n4 n3 n3 x
@[elab_as_elim] theorem onM_inv (x : Expr) (h : onM fM x = true) (k : ∀ l ops rs p, fM l ops rs = true → P (.Compare l ops rs p)) : P x := goE_inv h (fun _ _ _ h => no_ff h) (fun _ _ h => no_ff h) (fun _ _ _ _ h => no_ff h) k (fun _ _ _ h => no_ff h) (fun _ _ _ h => no_ff h) (fun _ _ _ _ h => no_ff h) (fun _ _ _ h => no_ff h) (fun _ _ _ h => no_ff h) (fun _ _ h => no_ff h) (fun _ _ _ _ h => no_ff h) (fun _ _ _ h => no_ff h) (fun _ _ _ _ h => no_ff h)
noncomputable def onU (fU : UnaryOp → Expr → Bool) (x : Expr) : Bool := goE n1 n2 n3 n3 fU n2 n3 n2 n1 n1 n4 n3 n3 x
@[elab_as_elim] theorem onU_inv (x : Expr) (h : onU fU x = true) (k : ∀ op e p, fU op e = true → P (.UnaryOp op e p)) : P x := goE_inv h (fun _ _ _ h => no_ff h) (fun _ _ h => no_ff h) (fun _ _ _ _ h => no_ff h) (fun _ _ _ _ h => no_ff h) k (fun _ _ _ h => no_ff h) (fun _ _ _ _ h => no_ff h) (fun _ _ _ h => no_ff h) (fun _ _ _ h => no_ff h) (fun _ _ h => no_ff h) (fun _ _ _ _ h => no_ff h) (fun _ _ _ h => no_ff h) (fun _ _ _ _ h => no_ff h)
noncomputable def onO (fO : BoolOp → List Expr → Bool) (x : Expr) : Bool := goE n1 n2 n3 n3 n2 fO n3 n2 n1 n1 n4 n3 n3 x
@[elab_as_elim] theorem onO_inv (x : Expr) (h : onO fO x = true) (k : ∀ op es p, fO op es = true → P (.BoolOp op es p)) : P x := goE_inv h (fun _ _ _ h => no_ff h) (fun _ _ h => no_ff h) (fun _ _ _ _ h => no_ff h) (fun _ _ _ _ h => no_ff h) (fun _ _ _ h => no_ff h) k (fun _ _ _ _ h => no_ff h) (fun _ _ _ h => no_ff h) (fun _ _ _ h => no_ff h) (fun _ _ h => no_ff h) (fun _ _ _ _ h => no_ff h) (fun _ _ _ h => no_ff h) (fun _ _ _ _ h => no_ff h)
noncomputable def onI (fI : Expr → Expr → Expr → Bool) (x : Expr) : Bool := goE n1 n2 n3 n3 n2 n2 fI n2 n1 n1 n4 n3 n3 x
@[elab_as_elim] theorem onI_inv (x : Expr) (h : onI fI x = true) (k : ∀ t b o p, fI t b o = true → P (.IfExp t b o p)) : P x := goE_inv h (fun _ _ _ h => no_ff h) (fun _ _ h => no_ff h) (fun _ _ _ _ h => no_ff h) (fun _ _ _ _ h => no_ff h) (fun _ _ _ h => no_ff h) (fun _ _ _ h => no_ff h) k (fun _ _ _ h => no_ff h) (fun _ _ _ h => no_ff h) (fun _ _ h => no_ff h) (fun _ _ _ _ h => no_ff h) (fun _ _ _ h => no_ff h) (fun _ _ _ _ h => no_ff h)
noncomputable def onS (fS : Expr → Expr → Bool) (x : Expr) : Bool := goE n1 n2 n3 n3 n2 n2 n3 fS n1 n1 n4 n3 n3 x
@[elab_as_elim] theorem onS_inv (x : Expr) (h : onS fS x = true) (k : ∀ e i p, fS e i = true → P (.Subscript e i p)) : P x := goE_inv h (fun _ _ _ h => no_ff h) (fun _ _ h => no_ff h) (fun _ _ _ _ h => no_ff h) (fun _ _ _ _ h => no_ff h) (fun _ _ _ h => no_ff h) (fun _ _ _ h => no_ff h) (fun _ _ _ _ h => no_ff h) k (fun _ _ _ h => no_ff h) (fun _ _ h => no_ff h) (fun _ _ _ _ h => no_ff h) (fun _ _ _ h => no_ff h) (fun _ _ _ _ h => no_ff h)
noncomputable def onT (fT : List Expr → Bool) (x : Expr) : Bool := goE n1 n2 n3 n3 n2 n2 n3 n2 fT n1 n4 n3 n3 x
@[elab_as_elim] theorem onT_inv (x : Expr) (h : onT fT x = true) (k : ∀ es k p, fT es = true → P (.Tuple es k p)) : P x := goE_inv h (fun _ _ _ h => no_ff h) (fun _ _ h => no_ff h) (fun _ _ _ _ h => no_ff h) (fun _ _ _ _ h => no_ff h) (fun _ _ _ h => no_ff h) (fun _ _ _ h => no_ff h) (fun _ _ _ _ h => no_ff h) (fun _ _ _ h => no_ff h) k (fun _ _ h => no_ff h) (fun _ _ _ _ h => no_ff h) (fun _ _ _ h => no_ff h) (fun _ _ _ _ h => no_ff h)
noncomputable def onL (fL : List Expr → Bool) (x : Expr) : Bool := goE n1 n2 n3 n3 n2 n2 n3 n2 n1 fL n4 n3 n3 x
@[elab_as_elim] theorem onL_inv (x : Expr) (h : onL fL x = true) (k : ∀ es p, fL es = true → P (.List es p)) : P x := goE_inv h (fun _ _ _ h => no_ff h) (fun _ _ h => no_ff h) (fun _ _ _ _ h => no_ff h) (fun _ _ _ _ h => no_ff h) (fun _ _ _ h => no_ff h) (fun _ _ _ h => no_ff h) (fun _ _ _ _ h => no_ff h) (fun _ _ _ h => no_ff h) (fun _ _ _ h => no_ff h) k (fun _ _ _ _ h => no_ff h) (fun _ _ _ h => no_ff h) (fun _ _ _ _ h => no_ff h)
noncomputable def onK (fK : Expr → List Expr → List Keyword → Pos → Bool) (x : Expr) : Bool := goE n1 n2 n3 n3 n2 n2 n3 n2 n1 n1 fK n3 n3 x
@[elab_as_elim] theorem onK_inv (x : Expr) (h : onK fK x = true) (k : ∀ f es kw p, fK f es kw p = true → P (.Call f es kw p)) : P x := goE_inv h (fun _ _ _ h => no_ff h) (fun _ _ h => no_ff h) (fun _ _ _ _ h => no_ff h) (fun _ _ _ _ h => no_ff h) (fun _ _ _ h => no_ff h) (fun _ _ _ h => no_ff h) (fun _ _ _ _ h => no_ff h) (fun _ _ _ h => no_ff h) (fun _ _ _ h => no_ff h) (fun _ _ h => no_ff h) k (fun _ _ _ h => no_ff h) (fun _ _ _ _ h => no_ff h)
noncomputable def onA (fA : Expr → Str → Pos → Bool) (x : Expr) : Bool := goE n1 n2 n3 n3 n2 n2 n3 n2 n1 n1 n4 fA n3 x
@[elab_as_elim] theorem onA_inv (x : Expr) (h : onA fA x = true) (kA : ∀ e x p, fA e x p = true → P (.Attribute e x p)) : P x := goE_inv h (fun _ _ _ h => no_ff h) (fun _ _ h => no_ff h) (fun _ _ _ _ h => no_ff h) (fun _ _ _ _ h => no_ff h) (fun _ _ _ h => no_ff h) (fun _ _ _ h => no_ff h) (fun _ _ _ _ h => no_ff h) (fun _ _ _ h => no_ff h) (fun _ _ _ h => no_ff h) (fun _ _ h => no_ff h) (fun _ _ _ _ h => no_ff h) kA (fun _ _ _ _ h => no_ff h)
noncomputable def onX (fX : Option Expr → Option Expr → Option Expr → Bool) (x : Expr) : Bool := goE n1 n2 n3 n3 n2 n2 n3 n2 n1 n1 n4 n3 fX x
@[elab_as_elim] theorem onX_inv (x : Expr) (h : onX fX x = true) (k : ∀ a b c p, fX a b c = true → P (.Slice a b c p)) : P x := goE_inv h (fun _ _ _ h => no_ff h) (fun _ _ h => no_ff h) (fun _ _ _ _ h => no_ff h) (fun _ _ _ _ h => no_ff h) (fun _ _ _ h => no_ff h) (fun _ _ _ h => no_ff h) (fun _ _ _ _ h => no_ff h) (fun _ _ _ h => no_ff h) (fun _ _ _ h => no_ff h) (fun _ _ h => no_ff h) (fun _ _ _ _ h => no_ff h) (fun _ _ _ h => no_ff h) k
end
section
variable (sc : Scope) (ns : List Str) (GT : List (Str × Value))
/-- a part of a slice: there or not -/
noncomputable def onPart (n : Bool) (f : Expr → Bool) : Option Expr → Bool
  | none => n
  | some x => f x
mutual
noncomputable def isE : PE → Expr → Bool
  | .int i, x => onC (fun c => decide (c = .int i)) x
  | .bool b, x => onC (fun c => decide (c = .bool b)) x
  | .none, x => onC (fun c => decide (c = .none)) x
  | .var i, x => onN (fun y _ => decide (ns[i]? = some y)) x
  | .glob y v, x => onN (fun z _ => decide (y = z) && decide (sc.names.lookup z = some .globalImplicit ∨ sc.names.lookup z = some .cell) && decide (GT.lookup y = some v)) x
  | .bin op l r, x => onB (fun l' op' r' => decide (op = op') && isE l l' && isE r r') x
  | .cmp op l r, x => onM (fun l' ops rs => onCons (fun op' os => onNil os && onCons (fun r' rs => onNil rs && (decide (op = op') && isE l l' && isE r r' && !behindInMarks op' r')) rs) ops) x
  | .neg i, x => onU (fun op e => decide (op = .USub) && onC (fun c => decide (c = .int i)) e) x
  | .and l r, x => onO (fun op es => decide (op = .And) && onCons (fun l' es => onCons (fun r' es => onNil es && (isE l l' && isE r r')) es) es) x
  | .not e, x => onU (fun op e' => decide (op = .Not) && isE e e') x
  | .ite t b o, x => onI (fun t' b' o' => isE t t' && isE b b' && isE o o') x
  | .idx e i, x => onS (fun e' i' => isE e e' && isE i i' && noSlice i') x
  | .slc e lo hi, x => onS (fun e' i' => onN (fun y p => isE e (.Name y p)) e' && onX (fun lo' hi' st => onPart true (fun _ => false) st && onPart (isAbs lo) (isE lo) lo' && onPart (isAbs hi) (isE hi) hi') i') x
  | .tup es, x => onT (isEs es) x
  | .lst es, x => onL (isEs es) x
  | .call f es, x => onK (fun g es' kw _ => onNil kw && onN (fun y p => isE f (.Name y p)) g && isEs es es' && decide (es'.length < 30)) x
  | .meth e nm es, x => onK (fun g es' kw pos => onNil kw && onA (fun o name apos => isE e o && noCall o && decide (nm = name) && (apos.endLine == pos.line)) g && isEs es es' && decide (es'.length < 29)) x
  | .attr e nm, x => onA (fun g name _ => onN (fun y p => isE e (.Name y p)) g && decide (nm = name)) x
  | .absent, _ => false
noncomputable def isEs : PEs → List Expr → Bool
  | .nil, xs => onNil xs
  | .cons e es, xs => onCons (fun x xs => isE e x && noSlice x && isEs es xs) xs
end
end
end

section

structure EnvOk (C : WC) (env : Env) (ns : List Str) : Prop where
  kind : env.scope.kind = .function
  glob : env.globals = mainGlobals
  blt : env.builtins = builtinsNs
  loc : ∀ (i : Nat) (x : Str), ns[i]? = some x → env.kindOf x = some .local ∧ (x == ("__debug__" : Str)) = false
  nd : ns.Nodup

/-- the locals -/
structure Loc (L : Addr) (ns : List Str) (σ : List (Option Value)) (h : Heap) : Prop where
  len : σ.length = ns.length
  m : ∃ m : Str → Option Value, h.Ns L m ∧ ∀ (i : Nat) (x : Str), ns[i]? = some x → some ((m x).map er) = σ[i]?

structure Inn (C : WC) (env : Env) (ns : List Str) (σ : List (Option Value)) (H : PH) (s : Shared) : Prop where
  keep : Keep C s.heap
  view : View C H s.heap
  loc : Loc env.locals ns σ s.heap
  hL : H env.locals = none
  lL : C.hb.get? env.locals = none

theorem Inn.frm {C : WC} {env : Env} {ns : List Str} {σ : List (Option Value)} {H H' : PH} {s s' : Shared} (x : Inn C env ns σ H s) (f : Frm C NoX H H' s s') : Inn C env ns σ H' s' := by
  obtain ⟨l1, m, ⟨o, es, ep, ho, r⟩, hm⟩ := x.loc
  obtain ⟨g1, g2⟩ := f.old _ _ (fun h => h) ho x.hL
  exact ⟨f.keep, f.view, ⟨l1, m, ⟨o, es, ep, g1, r⟩, hm⟩, g2, x.lL⟩

structure Globs (C : WC) (GT : List (Str × Value)) : Prop where
  g : ∀ x v, GT.lookup x = some v → (x == ("__debug__" : Str)) = false ∧ ((C.mg x).map er = some v ∨ (C.mg x = none ∧ C.mb x = some v ∧ er v = v))

/-- a cell of the frame, written once and for all -/
structure CelAt (C : WC) (env : Env) (x : Str) (v : Value) : Prop where
  ex : ∃ c u, env.cells.lookup x = some c ∧ C.hb.IsCell c (some u) ∧ er u = v
structure GlobsE (C : WC) (env : Env) (GT : List (Str × Value)) : Prop where
  dbg : ∀ x v, GT.lookup x = some v → (x == ("__debug__" : Str)) = false
  g : ∀ x v, GT.lookup x = some v → env.kindOf x = some .globalImplicit → ((C.mg x).map er = some v ∨ (C.mg x = none ∧ C.mb x = some v ∧ er v = v))
  c : ∀ x v, GT.lookup x = some v → env.kindOf x = some .cell → CelAt C env x v
theorem Globs.toE {C : WC} {env : Env} {GT : List (Str × Value)} (gl : Globs C GT) (h : ∀ x v, GT.lookup x = some v → env.kindOf x ≠ some .cell) : GlobsE C env GT :=
  ⟨fun x v e => (gl.g x v e).1, fun x v e _ => (gl.g x v e).2, fun x v e k => absurd k (h x v e)⟩

theorem ns_keep {C : WC} {h : Heap} {a : Addr} {m : Str → Option Value} (k : Keep C h) (x : C.hb.Ns a m) : h.Ns a m := x.keeps k.k

section
variable {C : WC} {env : Env} {ns : List Str} {GT : List (Str × Value)} {n : Nat} {σ : List (Option Value)}

/-- what an expression's step must give -/
noncomputable abbrev Post (C : WC) (H : PH) (s : Shared) (Q : Value → PH → Prop) : Value → Shared → Prop := fun v s' => ∃ H', Frm C NoX H H' s s' ∧ Q (er v) H'
noncomputable abbrev PostB (C : WC) (H : PH) (s : Shared) (Q : Bool → PH → Prop) : Bool → Shared → Prop := fun b s' => ∃ H', Frm C NoX H H' s s' ∧ Q b H'
noncomputable abbrev PostL (C : WC) (H : PH) (s : Shared) (k : Nat) (Q : List Value → PH → Prop) : List Value → Shared → Prop := fun vs s' => ∃ H', Frm C NoX H H' s s' ∧ vs.length = k ∧ Q (vs.map er) H'

theorem postT {H H' : PH} {s s' : Shared} {Q : Value → PH → Prop} {A : Around} {t : Sem Value} (f : Frm C NoX H H' s s') (h : WP C A t (Post C H' s' Q) s') : WP C A t (Post C H s Q) s' :=
  wpAny_mono h (fun _ _ ⟨H'', f', q⟩ => ⟨H'', f.trans f', q⟩) fun _ _ x => x
theorem postTB {H H' : PH} {s s' : Shared} {Q : Bool → PH → Prop} {A : Around} {t : Sem Bool} (f : Frm C NoX H H' s s') (h : WP C A t (PostB C H' s' Q) s') : WP C A t (PostB C H s Q) s' :=
  wpAny_mono h (fun _ _ ⟨H'', f', q⟩ => ⟨H'', f.trans f', q⟩) fun _ _ x => x
theorem loadLocal {A : Around} {x : Str} {i : Nat} {v : Value} {H : PH} {s : Shared} (eo : EnvOk C env ns) (i0 : Inn C env ns σ H s) (hx : ns[i]? = some x) (hv : σ[i]? = some (some v)) :
    ∃ u, er u = v ∧ ∀ {Q : Value → Shared → Prop}, Q u s → WP C A (loadName env x) Q s := by
  obtain ⟨l1, m, hN, hm⟩ := i0.loc
  have e := hm i x hx
  rw [hv] at e
  cases hu : m x with
  | none => rw [hu] at e; cases e
  | some u =>
    rw [hu] at e
    refine ⟨u, Option.some.inj (Option.some.inj e), fun {Q} hq => ?_⟩
    exact wpAny_loadName_local eo.kind (eo.loc i x hx).1 hN hu hq

theorem evalArgs_any {A : Around} {f : Value} {trees : List (Bool × Sem Value)} {Q : Args → Shared → Prop} {s : Shared} (hstar : trees.any (·.1) = false)
    (h : WP C A (spliced trees) (fun vs s₁ => Q ⟨vs, []⟩ s₁) s) : WP C A (evalArgs f true trees []) Q s := by
  cases trees with
  | nil => 
    unfold evalArgs
    show WP C A (spliced [] >>= _) Q s
    refine wpAny_bind (wpAny_mono h (fun vs s₁ h₁ => ?_) fun _ _ x => x)
    refine wpAny_holding ?_
    exact wpAny_bind (wpAny_pure (wpAny_bind (wpAny_pure (wpAny_pure h₁))))
  | cons e r =>
    obtain ⟨b, x⟩ := e
    have hb : b = false := by cases b <;> simp_all
    subst hb
    unfold evalArgs
    show WP C A (spliced ((false, x) :: r) >>= _) Q s
    refine wpAny_bind (wpAny_mono h (fun vs s₁ h₁ => ?_) fun _ _ x => x)
    refine wpAny_holding ?_
    exact wpAny_bind (wpAny_pure (wpAny_bind (wpAny_pure (wpAny_pure h₁))))

theorem callWith_ok {A : Around} {pos : Pos} {f : Value} {first : List Value} {trees : List (Bool × Sem Value)} {Q : Value → Shared → Prop} {s : Shared}
    (hstar : trees.any (·.1) = false)
    (h : WP C A (spliced trees) (fun vs s₁ => (∀ (Q' : Keeper → Shared → Prop), (∀ k, Q' k s₁) → WP C A (keeperOf f) Q' s₁) ∧ WP C A (call f (first ++ vs) []) Q s₁) s) :
    WP C A (callWith pos f first trees []) Q s := by
  unfold callWith
  refine wpAny_bind (wpAny_holding (evalArgs_any hstar (wpAny_mono h (fun vs s₁ h₁ => wpAny_bind (wpAny_standAt ?_)) fun _ _ x => x)))
  have tail : ∀ {t : Sem Value}, WP C A t Q s₁ → WP C A (t >>= fun r => holding [r] point >>= fun _ => pure r) Q s₁ :=
    fun ht => wpAny_bind (wpAny_mono ht (fun r s₂ hr => wpAny_bind (wpAny_holding (wpAny_point (wpAny_pure hr)))) fun _ _ x => x)
  have hc : WP C A (call f (first ++ vs) []) Q s₁ := h₁.2
  have hm : ∀ m, WP C A (callMarked m f (first ++ vs) []) Q s₁ := fun m => by unfold callMarked; exact Calls.wpAny_keep hc
  have ho : ∀ l, WP C A (operate l (call f (first ++ vs) [])) Q s₁ := fun l => wpAny_operating hc
  simp only [hstar, List.any_nil, Bool.or_false]
  refine wpAny_bind (m := keeperOf f) (h₁.1 _ fun k => ?_)
  cases k with
  | frame =>
    dsimp only
    split <;> first | exact tail hc | exact tail (hm _)
  | boundFrame =>
    dsimp only
    split <;> first | exact tail hc | exact tail (hm _)
  | machine => exact tail hc
  | caller => exact tail (ho _)
end
end

section
theorem star_no {x : Expr} (h : noSlice x = true) (xs : List Expr) (env : Env) : starEach (x :: xs) env = (false, eval x env) :: starEach xs env := by
  cases x <;> first | rfl | cases h
theorem sub_no {i : Expr} (h : noSlice i = true) (o v : Value) : subscripted i false o v = operate [o, v] (getItem o v) := by
  cases i <;> first | rfl | cases h
theorem base_no {o : Expr} (h : noCall o = true) (name : Str) (env : Env) (whole : Sem Value) : attributeBase o name env whole = whole := by
  cases o <;> first | rfl | cases h

section
variable {C : WC} {env : Env} {ns : List Str} {GT : List (Str × Value)} {n : Nat} {σ : List (Option Value)}

theorem isEs_star (sc : Scope) (pos : Pos) : ∀ (es : PEs) (xs : List Expr), isEs sc ns GT es xs = true → (backTo pos (starEach xs env)).any (·.1) = false
  | .nil, xs, h => onNil_inv xs h rfl
  | .cons e es, xs, h => onCons_inv xs h fun x xs h => and_k h fun h1 h2 => and_k h1 fun _ h3 => by
    rw [star_no h3]
    exact isEs_star sc pos es xs h2

theorem form_ok {es : List Expr} {pos : Pos} (hs : (backTo pos (starEach es env)).any (·.1) = false) (hl : es.length < 29) :
    methodCallForm (es.length + ([] : List Keyword).length) (backTo pos (starEach es env)) (backToKw pos (keywordEach [] env)) = true := by
  unfold methodCallForm
  have h1 : (backTo pos (starEach es env)).all (fun x => !x.1) = true := by
    rw [List.all_eq_true]
    intro p hp
    rw [List.any_eq_false] at hs
    simpa using hs p hp
  rw [h1]
  show (true && true && decide _) = true
  simp only [Bool.true_and, decide_eq_true_eq]
  show es.length + 0 + 0 < 30
  omega

theorem loadGlob {A : Around} {x : Str} {v : Value} {s : Shared} (eo : EnvOk C env ns) (gl : GlobsE C env GT) (k : Keep C s.heap) (hx : env.kindOf x = some .globalImplicit) (hv : GT.lookup x = some v) :
    ∃ u, er u = v ∧ ∀ {Q : Value → Shared → Prop} {p : Pos}, Q u s → WP C A (eval (.Name x p) env) Q s := by
  have hd := gl.dbg x v hv
  rcases gl.g x v hv hx with h | ⟨h1, h2, h3⟩
  · cases hu : C.mg x with
    | none => rw [hu] at h; cases h
    | some u =>
      rw [hu] at h
      refine ⟨u, Option.some.inj h, fun {Q p} hq => ?_⟩
      exact Calls.Name_function_global eo.kind hx (Calls.loadGlobal_global (mg := C.mg) (by rw [eo.glob]; exact ns_keep k C.g) hu hq) hd
  · refine ⟨v, h3, fun {Q p} hq => ?_⟩
    exact Calls.Name_function_global eo.kind hx (Calls.loadGlobal_builtin (mg := C.mg) (mb := C.mb) (by rw [eo.glob]; exact ns_keep k C.g) h1 (by rw [eo.blt]; exact ns_keep k C.b) h2 hq) hd

/-- what the induction says of an expression -/
noncomputable def GoodE (C : WC) (env : Env) (ns : List Str) (GT : List (Str × Value)) (n : Nat) (σ : List (Option Value)) (q : PE) : Prop :=
  ∀ (x : Expr) (H : PH) (Q : Value → PH → Prop), isE env.scope ns GT q x = true → pE C n σ q H Q → ∀ (A : Around) (s : Shared), Bud n A → Inn C env ns σ H s → WP C A (eval x env) (Post C H s Q) s
noncomputable def GoodEs (C : WC) (env : Env) (ns : List Str) (GT : List (Str × Value)) (n : Nat) (σ : List (Option Value)) (q : PEs) : Prop :=
  ∀ (x : List Expr) (pos : Pos) (H : PH) (Q : List Value → PH → Prop), isEs env.scope ns GT q x = true → pEs C n σ q H Q → ∀ (A : Around) (s : Shared), Bud n A → Inn C env ns σ H s →
    WP C A (spliced (backTo pos (starEach x env))) (PostL C H s x.length Q) s

theorem postE {m : Sem Value} {A : Around} {H : PH} {s s' : Shared} {K : Value → PH → Prop} {Q : Value → Shared → Prop} (h : WP C A m (Post C H s K) s') (k : ∀ a s₁ H₁, Frm C NoX H H₁ s s₁ → K (er a) H₁ → Q a s₁) : WP C A m Q s' :=
  wpAny_mono h (fun a s₁ h => h.elim fun H₁ h => k a s₁ H₁ h.1 h.2) fun _ _ x => x
theorem postB {m : Sem Bool} {A : Around} {H : PH} {s : Shared} {K : Bool → PH → Prop} {Q : Bool → Shared → Prop} (h : WP C A m (PostB C H s K) s) (k : ∀ a s₁ H₁, Frm C NoX H H₁ s s₁ → K a H₁ → Q a s₁) : WP C A m Q s :=
  wpAny_mono h (fun a s₁ h => h.elim fun H₁ h => k a s₁ H₁ h.1 h.2) fun _ _ x => x
theorem postL {m : Sem (List Value)} {A : Around} {H : PH} {s : Shared} {l : Nat} {K : List Value → PH → Prop} {Q : List Value → Shared → Prop} (h : WP C A m (PostL C H s l K) s) (k : ∀ a s₁ H₁, Frm C NoX H H₁ s s₁ → a.length = l → K (a.map er) H₁ → Q a s₁) : WP C A m Q s :=
  wpAny_mono h (fun a s₁ h => h.elim fun H₁ h => k a s₁ H₁ h.1 h.2.1 h.2.2) fun _ _ x => x

theorem sCall {f : PE} {es : PEs} (ihf : GoodE C env ns GT n σ f) (ihes : GoodEs C env ns GT n σ es) (x : Expr) (H : PH) (Q : Value → PH → Prop) (hx : isE env.scope ns GT (.call f es) x = true)
    (h : pE C n σ f H fun fv H => pEs C n σ es H fun vs H => CallOk C n fv vs H Q) (A : Around) (s : Shared) (bd : Bud n A) (i0 : Inn C env ns σ H s) :
    (∃ y p es' q, x = .Call (.Name y p) es' [] q) ∧ WP C A (eval x env) (Post C H s Q) s :=
  onK_inv x hx fun g es' kw q hx => and_k hx fun hx h3 => and_k hx fun hx h2 => and_k hx fun h0 h1 => onNil_inv kw h0 (onN_inv g h1 fun y p h1 => by
    refine ⟨⟨_, _, _, _, rfl⟩, Call_ (postE (ihf _ H _ h1 h A s bd i0) fun a s₁ H₁ f₁ g₁ => callWith_ok (isEs_star _ _ _ _ h2) (postL (ihes _ _ H₁ _ h2 g₁ A s₁ bd (i0.frm f₁)) fun vs s₂ H₂ f₂ g₀ g₂ => ?_))⟩
    have z := g₂.ok A s₂ a vs bd f₂.keep f₂.view rfl rfl
    exact ⟨z.1, postT (f₁.trans f₂) z.2⟩)

mutual
theorem sE (eo : EnvOk C env ns) (gl : GlobsE C env GT) : ∀ (e : PE) (x : Expr) (H : PH) (Q : Value → PH → Prop), isE env.scope ns GT e x = true → pE C n σ e H Q →
    ∀ (A : Around) (s : Shared), Bud n A → Inn C env ns σ H s → WP C A (eval x env) (Post C H s Q) s
  | .int i, x, H, Q, hx, h, A, s, bd, i0 => onC_inv x hx fun c k p hc => by
    cases of_decide_eq_true hc
    exact wpAny_Constant_int (fin1 i0.keep i0.view h)
  | .bool b, x, H, Q, hx, h, A, s, bd, i0 => onC_inv x hx fun c k p hc => by
    cases of_decide_eq_true hc
    exact wpAny_Constant_bool (fin0 i0.keep i0.view h)
  | .none, x, H, Q, hx, h, A, s, bd, i0 => onC_inv x hx fun c k p hc => by
    cases of_decide_eq_true hc
    exact wpAny_Constant_none (fin0 i0.keep i0.view h)
  | .absent, x, H, Q, hx, h, A, s, bd, i0 => no_ff hx
  | .var i, x, H, Q, hx, h, A, s, bd, i0 => onN_inv x hx fun y p hx => by
    have hn := of_decide_eq_true hx
    obtain ⟨v, hv, hq⟩ := lk_get h
    obtain ⟨u, rfl, hl⟩ := loadLocal (A := A) eo i0 hn hv
    exact wpAny_Name (hl (fin0 i0.keep i0.view hq)) (eo.loc i _ hn).2
  | .glob y v, x, H, Q, hx, h, A, s, bd, i0 => onN_inv x hx fun z p hx => and_k hx fun hx h3 => and_k hx fun h1 h2 => by
    cases of_decide_eq_true h1
    replace h3 := of_decide_eq_true h3
    rcases of_decide_eq_true h2 with h2 | h2
    · obtain ⟨u, rfl, hl⟩ := loadGlob (A := A) eo gl i0.keep h2 h3
      exact hl (fin0 i0.keep i0.view h)
    · obtain ⟨c, u, hc, hu, rfl⟩ := (gl.c _ _ h3 h2).ex
      exact wpAny_Name (wpAny_loadName_cell eo.kind h2 hc (hu.keeps i0.keep.k) (fin0 i0.keep i0.view h)) (gl.dbg _ _ h3)
  | .bin op l r, x, H, Q, hx, h, A, s, bd, i0 => onB_inv x hx fun l' op' r' p hx => and_k hx fun hx h3 => and_k hx fun h1 h2 => by
    cases of_decide_eq_true h1
    exact wpAny_BinOp (postE (sE eo gl l _ H _ h2 h A s bd i0) fun a s₁ H₁ f₁ g₁ => postE (sE eo gl r _ H₁ _ h3 g₁ A s₁ bd (i0.frm f₁)) fun b s₂ H₂ f₂ g₂ =>
      postT (f₁.trans f₂) (g₂.ok A s₂ a b (bd.mono (Nat.zero_le _)) f₂.keep f₂.view rfl rfl))
  | .cmp op l r, x, H, Q, hx, h, A, s, bd, i0 => onM_inv x hx fun l' ops rs p hx => onCons_inv ops hx fun op' os hx => and_k hx fun h0 hx => onNil_inv os h0 (onCons_inv rs hx fun r' rs hx => and_k hx fun h0 hx => onNil_inv rs h0
      (and_k hx fun hx h4 => and_k hx fun hx h3 => and_k hx fun h1 h2 => by
    cases of_decide_eq_true h1
    exact wpAny_Compare1 (postE (sE eo gl l _ H _ h2 h A s bd i0) fun a s₁ H₁ f₁ g₁ => postE (sE eo gl r _ H₁ _ h3 g₁ A s₁ bd (i0.frm f₁)) fun b s₂ H₂ f₂ g₂ =>
      postT (f₁.trans f₂) (g₂.ok A s₂ a b (bd.mono (Nat.zero_le _)) f₂.keep f₂.view rfl rfl)) (Bool.not_eq_true' _ |>.mp h4)))
  | .neg i, x, H, Q, hx, h, A, s, bd, i0 => onU_inv x hx fun op e q hx => and_k hx fun h1 hx => onC_inv e hx fun c k p hc => by
    cases of_decide_eq_true h1
    cases of_decide_eq_true hc
    exact wpAny_UnaryOp (wpAny_Constant_int (PyProof.Rows.neg_int ⟨H, Frm.grow (h' := s.heap) (tk := s.toks + 1 + 1) i0.keep i0.view (fun _ _ e => e), h⟩))
  | .and l r, x, H, Q, hx, h, A, s, bd, i0 => onO_inv x hx fun op es p hx => and_k hx fun h1 hx => onCons_inv es hx fun l' es hx => onCons_inv es hx fun r' es hx => and_k hx fun h0 hx => onNil_inv es h0
      (and_k hx fun h2 h3 => by
    cases of_decide_eq_true h1
    refine wpAny_And2 (postE (sE eo gl l _ H _ h2 h A s bd i0) fun a s₁ H₁ f₁ g₁ => postB (g₁.ok A s₁ a (bd.mono (Nat.zero_le _)) f₁.keep f₁.view rfl) fun b s₂ H₂ f₂ g₂ => ?_)
    cases b with
    | false => exact ⟨H₂, f₁.trans f₂, g₂⟩
    | true => exact postT (f₁.trans f₂) (sE eo gl r _ H₂ _ h3 g₂ A s₂ bd ((i0.frm f₁).frm f₂)))
  | .not e, x, H, Q, hx, h, A, s, bd, i0 => False.elim h
  | .ite t b o, x, H, Q, hx, h, A, s, bd, i0 => onI_inv x hx fun t' b' o' p hx => and_k hx fun hx h3 => and_k hx fun h1 h2 =>
    wpAny_IfExp (postB (sT eo gl t _ H _ h1 h A s bd i0) fun c s₁ H₁ f₁ g₁ => by
    cases c with
    | false => exact postT f₁ (sE eo gl o _ H₁ _ h3 g₁ A s₁ bd (i0.frm f₁))
    | true => exact postT f₁ (sE eo gl b _ H₁ _ h2 g₁ A s₁ bd (i0.frm f₁)))
  | .idx e i, x, H, Q, hx, h, A, s, bd, i0 => onS_inv x hx fun e' i' p hx => and_k hx fun hx h3 => and_k hx fun h1 h2 =>
    Subscript_ (postE (sE eo gl e _ H _ h1 h A s bd i0) fun a s₁ H₁ f₁ g₁ => postE (sE eo gl i _ H₁ _ h2 g₁ A s₁ bd (i0.frm f₁)) fun b s₂ H₂ f₂ g₂ =>
      postT (f₁.trans f₂) (g₂.ok A s₂ a b _ _ (bd.mono (Nat.zero_le _)) f₂.keep f₂.view rfl rfl (sub_no h3 a b)))
  | .slc e lo hi, x, H, Q, hx, h, A, s, bd, i0 => onS_inv x hx fun e' i' r hx => and_k hx fun h1 hx => onN_inv e' h1 fun y p h1 => onX_inv i' hx fun lo' hi' st q hx => and_k hx fun hx h3 => and_k hx fun h0 h2 => by
    cases st with
    | some _ => exact no_ff h0
    | none =>
    have part : ∀ (q : PE) (ih : ∀ (x : Expr) (H : PH) (Q : Value → PH → Prop), isE env.scope ns GT q x = true → pE C n σ q H Q →
          ∀ (A : Around) (s : Shared), Bud n A → Inn C env ns σ H s → WP C A (eval x env) (Post C H s Q) s)
        (o : Option Expr) (H : PH) (Q : Value → PH → Prop) (s : Shared), onPart (isAbs q) (isE env.scope ns GT q) o = true → pE C n σ q H Q → Inn C env ns σ H s →
        WP C A (evalPart o env) (Post C H s Q) s := by
      intro q ih o H Q s ho hq i0
      cases o with
      | some x => exact ih x H Q ho hq A s bd i0
      | none => 
        revert ho
        cases q <;> intro ho
        case absent => exact wpAny_pure (fin0 i0.keep i0.view hq)
        all_goals exact no_ff ho
    refine wpAny_Subscript_Slice (T := "list") slot_list_getitem.lookup (postE (sE eo gl e _ H _ h1 h A s bd i0) fun a s₁ H₁ f₁ g₁ => wpAny_Slice (postE (part lo (sE eo gl lo) _ H₁ _ s₁ h2 g₁ (i0.frm f₁)) fun l s₂ H₂ f₂ g₂ =>
      postE (part hi (sE eo gl hi) _ H₂ _ s₂ h3 g₂ ((i0.frm f₁).frm f₂)) fun u s₃ H₃ f₃ g₃ => wpAny_pure ?_))
    have z := g₃.ok A s₃ a l u (bd.mono (Nat.zero_le _)) f₃.keep f₃.view rfl rfl rfl
    exact ⟨z.1 _, postE z.2 fun _ _ H₄ f₄ q => ⟨H₄, ((f₁.trans f₂).trans f₃).trans f₄, q⟩⟩
  | .tup es, x, H, Q, hx, h, A, s, bd, i0 => onT_inv x hx fun es' k p hx =>
    wpAny_Tuple (postL (sEs eo gl es _ _ H _ hx h A s bd i0) fun vs s₁ H₁ f₁ _ g => by
    have g₁ := g.1
    rw [List.length_map] at g₁
    refine ⟨cap_line g₁, ?_⟩
    have z := finA (Q := Q) (tk := s₁.toks) (ob := ⟨.type "tuple", none, .seq vs.toArray 0, #[]⟩) f₁.keep f₁.view (tup_is (xs := vs.map er) (by simp) (by simpa using g₁)) rfl g.2
    obtain ⟨H', f, q⟩ := z
    exact ⟨H', f₁.trans f, q⟩)
  | .lst es, x, H, Q, hx, h, A, s, bd, i0 => onL_inv x hx fun es' p hx =>
    wpAny_List (postL (sEs eo gl es _ _ H _ hx h A s bd i0) fun vs s₁ H₁ f₁ _ g => by
    have g₁ := g.1
    rw [List.length_map] at g₁
    refine ⟨cap_line g₁, ?_⟩
    have z := finA (Q := Q) (tk := s₁.toks) (ob := ⟨.type "list", none, .seq vs.toArray 0, #[]⟩) f₁.keep f₁.view (lst_is (xs := vs.map er) (by simp) (by simpa using g₁)) rfl g.2
    obtain ⟨H', f, q⟩ := z
    exact ⟨H', f₁.trans f, q⟩)
  | .call f es, x, H, Q, hx, h, A, s, bd, i0 => (sCall (sE eo gl f) (sEs eo gl es) x H Q hx h A s bd i0).2
  | .meth e nm es, x, H, Q, hx, h, A, s, bd, i0 => onK_inv x hx fun g es' kw pos hx => and_k hx fun hx h6 => and_k hx fun hx h5 => and_k hx fun h0 hx => onNil_inv kw h0 (onA_inv g hx fun o name apos hx => and_k hx fun hx h4 => and_k hx fun hx h3 => and_k hx fun h1 h2 => by
    cases of_decide_eq_true h3
    rw [arm_eval_Call, base_no h2]
    refine wpAny_bind (postE (sE eo gl e _ H _ h1 h A s bd i0) fun a s₁ H₁ f₁ g₁ => g₁.elim fun f g₁ => wpAny_bind (wpAny_standAt ?_))
    have hs := isEs_star (env := env) env.scope pos _ _ h5
    unfold methodCall
    have hform : methodCallForm (es'.length + ([] : List Keyword).length) (backTo pos (starEach es' env)) (backToKw pos (keywordEach [] env)) = true := form_ok hs (of_decide_eq_true h6)
    rw [hform]
    refine wpAny_bind (wpAny_holding (g₁.1.ok A s₁ a _ _ f₁.keep f₁.view rfl ?_))
    have hpos : methodCallPos true o env apos pos = pure pos := by unfold methodCallPos; simp [h4]
    refine wpAny_bind (wpAny_of_eq hpos (callWith_ok hs (postL (sEs eo gl es _ _ H₁ _ h5 g₁.2 A s₁ bd (i0.frm f₁)) fun vs s₂ H₂ f₂ g₀ g₂ => ?_)))
    have z := g₂.ok A s₂ f (a :: vs) bd f₂.keep f₂.view g₁.1.ef rfl
    exact ⟨z.1, postT (f₁.trans f₂) z.2⟩)
  | .attr e nm, x, H, Q, hx, h, A, s, bd, i0 => onA_inv x hx fun g name q hx => and_k hx fun h1 h3 => onN_inv g h1 fun y p h1 => by
    cases of_decide_eq_true h3
    rw [arm_eval_Attribute, base_no rfl]
    exact wpAny_bind (postE (sE eo gl e _ H _ h1 h A s bd i0) fun a s₁ H₁ f₁ g₁ => wpAny_bind (wpAny_standAt (wpAny_bind (wpAny_holding (postE (g₁.ok A s₁ a (bd.mono (Nat.zero_le _)) f₁.keep f₁.view rfl) fun v s₂ H₂ f₂ g₂ =>
      wpAny_bind (wpAny_letTemporaryGo (wpAny_pure ⟨H₂, f₁.trans f₂, g₂⟩)))))))
theorem sT (eo : EnvOk C env ns) (gl : GlobsE C env GT) : ∀ (e : PE) (x : Expr) (H : PH) (Q : Bool → PH → Prop), isE env.scope ns GT e x = true → pT C n σ e H Q →
    ∀ (A : Around) (s : Shared), Bud n A → Inn C env ns σ H s → WP C A (isTrue x env (eval x env)) (PostB C H s Q) s
  | .cmp op l r, x, H, Q, hx, h, A, s, bd, i0 => onM_inv x hx fun l' ops rs p hx => onCons_inv ops hx fun op' os hx => and_k hx fun h0 hx => onNil_inv os h0 (onCons_inv rs hx fun r' rs hx => and_k hx fun h0 hx => onNil_inv rs h0
      (and_k hx fun hx h4 => and_k hx fun hx h3 => and_k hx fun h1 h2 => by
    cases of_decide_eq_true h1
    refine wpAny_isTrue_Compare1 (postE (sE eo gl l _ H _ h2 h A s bd i0) fun a s₁ H₁ f₁ g₁ => postE (sE eo gl r _ H₁ _ h3 g₁ A s₁ bd (i0.frm f₁)) fun b s₂ H₂ f₂ g₂ =>
      postE (K := fun v H => ∃ c, v = .bool c ∧ Q c H) (g₂.ok A s₂ a b (bd.mono (Nat.zero_le _)) f₂.keep f₂.view rfl rfl) fun v s₃ H₃ f₃ g₃ => ?_) (Bool.not_eq_true' _ |>.mp h4)
    obtain ⟨c, g₃, g₄⟩ := g₃
    cases er_bool g₃
    exact wpAny_truthy_bool ⟨H₃, (f₁.trans f₂).trans f₃, g₄⟩))
  | .and l r, x, H, Q, hx, h, A, s, bd, i0 => onO_inv x hx fun op es p hx => and_k hx fun h1 hx => onCons_inv es hx fun l' es hx => onCons_inv es hx fun r' es hx => and_k hx fun h0 hx => onNil_inv es h0
      (and_k hx fun h2 h3 => by
    cases of_decide_eq_true h1
    refine wpAny_isTrue_BoolOp (wpAny_allTrue_And_cons (postB (sT eo gl l _ H _ h2 h A s bd i0) fun c s₁ H₁ f₁ g₁ => ?_))
    cases c with
    | false => exact ⟨H₁, f₁, g₁⟩
    | true =>
      refine wpAny_allTrue_And_cons (postB (sT eo gl r _ H₁ _ h3 g₁ A s₁ bd (i0.frm f₁)) fun d s₂ H₂ f₂ g₂ => ?_)
      cases d with
      | false => exact ⟨H₂, f₁.trans f₂, g₂⟩
      | true => exact wpAny_allTrue_And_nil ⟨H₂, f₁.trans f₂, g₂⟩)
  | .not e, x, H, Q, hx, h, A, s, bd, i0 => onU_inv x hx fun op e' p hx => and_k hx fun h1 hx => by
    cases of_decide_eq_true h1
    exact wpAny_isTrue_Not (postB (sT eo gl e _ H _ hx h A s bd i0) fun c s₁ H₁ f₁ g₁ => ⟨H₁, f₁, g₁⟩)
  | .call f es, x, H, Q, hx, h, A, s, bd, i0 => by
    have z := sCall (sE eo gl f) (sEs eo gl es) x H _ hx h A s bd i0
    obtain ⟨⟨y, p, es', q, rfl⟩, z⟩ := z
    exact wpAny_isTrue_value (postE z fun v s₁ H₁ f₁ g₁ => g₁.elim fun c g₁ => er_bool g₁.1 ▸ wpAny_truthy_bool ⟨H₁, f₁, g₁.2⟩)
  | .int _, _, _, _, _, h, _, _, _, _ => False.elim h
  | .bool _, _, _, _, _, h, _, _, _, _ => False.elim h
  | .none, _, _, _, _, h, _, _, _, _ => False.elim h
  | .absent, _, _, _, _, h, _, _, _, _ => False.elim h
  | .var _, _, _, _, _, h, _, _, _, _ => False.elim h
  | .glob _ _, _, _, _, _, h, _, _, _, _ => False.elim h
  | .bin _ _ _, _, _, _, _, h, _, _, _, _ => False.elim h
  | .neg _, _, _, _, _, h, _, _, _, _ => False.elim h
  | .ite _ _ _, _, _, _, _, h, _, _, _, _ => False.elim h
  | .idx _ _, _, _, _, _, h, _, _, _, _ => False.elim h
  | .slc _ _ _, _, _, _, _, h, _, _, _, _ => False.elim h
  | .tup _, _, _, _, _, h, _, _, _, _ => False.elim h
  | .lst _, _, _, _, _, h, _, _, _, _ => False.elim h
  | .meth _ _ _, _, _, _, _, h, _, _, _, _ => False.elim h
  | .attr _ _, _, _, _, _, h, _, _, _, _ => False.elim h
theorem sEs (eo : EnvOk C env ns) (gl : GlobsE C env GT) : ∀ (e : PEs) (x : List Expr) (pos : Pos) (H : PH) (Q : List Value → PH → Prop), isEs env.scope ns GT e x = true → pEs C n σ e H Q →
    ∀ (A : Around) (s : Shared), Bud n A → Inn C env ns σ H s → WP C A (spliced (backTo pos (starEach x env))) (PostL C H s x.length Q) s
  | .nil, x, pos, H, Q, hx, h, A, s, bd, i0 => onNil_inv x hx (wpAny_items_nil ⟨H, Frm.refl i0.keep i0.view, rfl, h⟩)
  | .cons e es, x, pos, H, Q, hx, h, A, s, bd, i0 => onCons_inv x hx fun x xs hx => and_k hx fun hx h3 => and_k hx fun h1 h2 =>
    wpAny_items_cons (postE (sE eo gl e _ H _ h1 h A s bd i0) fun a s₁ H₁ f₁ g₁ => postL (sEs eo gl es _ pos H₁ _ h3 g₁ A s₁ bd (i0.frm f₁)) fun vs s₂ H₂ f₂ g₀ g₂ =>
      ⟨H₂, f₁.trans f₂, by rw [List.length_cons, List.length_cons, g₀], g₂⟩) (star_no h2 xs env)
end
end
end

section

mutual
inductive PS where
  | asg (i : Nat) (e : PE) | asgD (is : List Nat) (es : PEs) | asgT (is : List Nat) (e : PE)
  | seti (o i e : PE) | aug (i : Nat) (op : Operator) (e : PE) | expr (e : PE)
  | ifs (t : PE) (b o : PSs) | whl (t : PE) (b : PSs)
  | forR (i : Nat) (es : PEs) (b : PSs) | forL (i : Nat) (e : PE) (b : PSs) | forE (i j : Nat) (e : PE) (b : PSs)
  | ret (e : PE) | rais
inductive PSs where
  | nil | cons (s : PS) (r : PSs)
end

/-- several stores -/
noncomputable def setMany (σ : List (Option Value)) : List Nat → List Value → List (Option Value)
  | i :: is, v :: vs => setMany (σ.set i (some v)) is vs
  | _, _ => σ

/-- range's arguments: the first, how many, the step -/
inductive RangeOf : List Value → Int → Nat → Int → Prop where
  | one (b : Int) (h0 : -1000000000 < b) (h : b < 1000000000) : RangeOf [I b] 0 b.toNat 1
  | two (a b : Int) (h0 : -1000000000 < b) (h : b < 1000000000) (h' : -1000000000 < a) (h2 : a < 1000000000) : RangeOf [I a, I b] a (b - a).toNat 1
  | down (a : Int) (h0 : -1000000000 < a) (h : a < 1000000000) : RangeOf [I a, I (-1), I (-1)] a (a + 1).toNat (-1)

noncomputable def HO.items : HO → Option (List Value)
  | .lst xs => some xs
  | .tup xs => some xs
  | .raw _ => none

section
variable (C : WC) (n : Nat)
noncomputable abbrev Lo := List (Option Value)
mutual
noncomputable def pS : PS → Lo → PH → (Lo → PH → Prop) → (Value → PH → Prop) → Prop
  | .asg i e, σ, H, N, R => pE C n σ e H fun v H => N (σ.set i (some v)) H
  | .asgD is es, σ, H, N, R => pEs C n σ es H fun vs H => N (setMany σ is vs) H
  | .asgT is e, σ, H, N, R => pE C n σ e H fun v H => ∃ a vs, v = .ref a ∧ H a = some (.tup vs) ∧ vs.length = is.length ∧ N (setMany σ is vs) H
  | .seti o i e, σ, H, N, R => pE C n σ e H fun v H => pE C n σ o H fun a H => pE C n σ i H fun k H => SetOk C a k v H fun H => N σ H
  | .aug i op e, σ, H, N, R => lk σ i fun old => pE C n σ e H fun v H => AugOk C op old v H fun r H => N (σ.set i (some r)) H
  | .expr e, σ, H, N, R => pE C n σ e H fun v H => v = .none ∧ N σ H
  | .ifs t b o, σ, H, N, R => pT C n σ t H fun c H => if c then pSs b σ H N R else pSs o σ H N R
  | .whl t b, σ, H, N, R => ∃ J : Nat → Lo → PH → Prop, (∃ k, J k σ H) ∧ ∀ k σ H, J k σ H → pT C n σ t H fun c H => if c then pSs b σ H (fun σ H => ∃ k', k' < k ∧ J k' σ H) R else N σ H
  | .forR i es b, σ, H, N, R => pEs C n σ es H fun vs H => ∃ lo cnt step, RangeOf vs lo cnt step ∧ ∃ J : Nat → Lo → PH → Prop, J 0 σ H ∧
      (∀ k σ H, k < cnt → J k σ H → pSs b (σ.set i (some (I (lo + k * step)))) H (fun σ H => J (k + 1) σ H) R) ∧ (∀ σ H, J cnt σ H → N σ H)
  | .forL i e b, σ, H, N, R => pE C n σ e H fun v H => ∃ a o xs, v = .ref a ∧ H a = some o ∧ o.items = some xs ∧ ∃ J : Nat → Lo → PH → Prop, J 0 σ H ∧
      (∀ k x σ H, xs[k]? = some x → J k σ H → H a = some o ∧ pSs b (σ.set i (some x)) H (fun σ H => J (k + 1) σ H) R) ∧ (∀ σ H, J xs.length σ H → H a = some o ∧ N σ H)
  | .forE i j e b, σ, H, N, R => pE C n σ e H fun v H => ∃ a xs, v = .ref a ∧ H a = some (.lst xs) ∧ ∃ J : Nat → Lo → PH → Prop, J 0 σ H ∧
      (∀ (k : Nat) x σ H, xs[k]? = some x → J k σ H → H a = some (.lst xs) ∧ pSs b ((σ.set i (some (I k))).set j (some x)) H (fun σ H => J (k + 1) σ H) R) ∧ (∀ σ H, J xs.length σ H → H a = some (.lst xs) ∧ N σ H)
  | .ret e, σ, H, N, R => pE C n σ e H R
  | .rais, _, _, _, _ => False
noncomputable def pSs : PSs → Lo → PH → (Lo → PH → Prop) → (Value → PH → Prop) → Prop
  | .nil, σ, H, N, R => N σ H
  | .cons s r, σ, H, N, R => pS s σ H (fun σ H => pSs r σ H N R) R
end
end

section
variable {C : WC} {n : Nat} {σ : Lo} {H : PH} {N : Lo → PH → Prop} {R : Value → PH → Prop}
theorem set_m {i : Nat} {is : List Nat} {v : Value} {vs : List Value} : setMany σ (i :: is) (v :: vs) = setMany (σ.set i (some v)) is vs := rfl
theorem set_n {vs : List Value} : setMany σ [] vs = σ := rfl
theorem z_asg {i : Nat} {e : PE} : pS C n (.asg i e) σ H N R = (pE C n σ e H fun v H => N (σ.set i (some v)) H) := rfl
theorem z_asgD {is : List Nat} {es : PEs} : pS C n (.asgD is es) σ H N R = (pEs C n σ es H fun vs H => N (setMany σ is vs) H) := rfl
theorem z_asgT {is : List Nat} {e : PE} : pS C n (.asgT is e) σ H N R = (pE C n σ e H fun v H => ∃ a vs, v = .ref a ∧ H a = some (.tup vs) ∧ vs.length = is.length ∧ N (setMany σ is vs) H) := rfl
theorem z_seti {o i e : PE} : pS C n (.seti o i e) σ H N R = (pE C n σ e H fun v H => pE C n σ o H fun a H => pE C n σ i H fun k H => SetOk C a k v H fun H => N σ H) := rfl
theorem z_aug {i : Nat} {op : Operator} {e : PE} : pS C n (.aug i op e) σ H N R = (lk σ i fun old => pE C n σ e H fun v H => AugOk C op old v H fun r H => N (σ.set i (some r)) H) := rfl
theorem z_expr {e : PE} : pS C n (.expr e) σ H N R = (pE C n σ e H fun v H => v = .none ∧ N σ H) := rfl
theorem z_ifs {t : PE} {b o : PSs} : pS C n (.ifs t b o) σ H N R = (pT C n σ t H fun c H => if c then pSs C n b σ H N R else pSs C n o σ H N R) := rfl
theorem z_whl {t : PE} {b : PSs} : pS C n (.whl t b) σ H N R = (∃ J : Nat → Lo → PH → Prop, (∃ k, J k σ H) ∧ ∀ k σ H, J k σ H → pT C n σ t H fun c H => if c then pSs C n b σ H (fun σ H => ∃ k', k' < k ∧ J k' σ H) R else N σ H) := rfl
theorem z_forR {i : Nat} {es : PEs} {b : PSs} : pS C n (.forR i es b) σ H N R = (pEs C n σ es H fun vs H => ∃ lo cnt step, RangeOf vs lo cnt step ∧ ∃ J : Nat → Lo → PH → Prop, J 0 σ H ∧ (∀ k σ H, k < cnt → J k σ H → pSs C n b (σ.set i (some (I (lo + k * step)))) H (fun σ H => J (k + 1) σ H) R) ∧ (∀ σ H, J cnt σ H → N σ H)) := rfl
theorem z_forL {i : Nat} {e : PE} {b : PSs} : pS C n (.forL i e b) σ H N R = (pE C n σ e H fun v H => ∃ a o xs, v = .ref a ∧ H a = some o ∧ o.items = some xs ∧ ∃ J : Nat → Lo → PH → Prop, J 0 σ H ∧ (∀ k x σ H, xs[k]? = some x → J k σ H → H a = some o ∧ pSs C n b (σ.set i (some x)) H (fun σ H => J (k + 1) σ H) R) ∧ (∀ σ H, J xs.length σ H → H a = some o ∧ N σ H)) := rfl
theorem z_forE {i j : Nat} {e : PE} {b : PSs} : pS C n (.forE i j e b) σ H N R = (pE C n σ e H fun v H => ∃ a xs, v = .ref a ∧ H a = some (.lst xs) ∧ ∃ J : Nat → Lo → PH → Prop, J 0 σ H ∧ (∀ (k : Nat) x σ H, xs[k]? = some x → J k σ H → H a = some (.lst xs) ∧ pSs C n b ((σ.set i (some (I k))).set j (some x)) H (fun σ H => J (k + 1) σ H) R) ∧ (∀ σ H, J xs.length σ H → H a = some (.lst xs) ∧ N σ H)) := rfl
theorem z_ret {e : PE} : pS C n (.ret e) σ H N R = (pE C n σ e H R) := rfl
theorem z_cons {s : PS} {r : PSs} : pSs C n (.cons s r) σ H N R = pS C n s σ H (fun σ H => pSs C n r σ H N R) R := rfl
theorem z_nil : pSs C n .nil σ H N R = N σ H := rfl
end

theorem l_cons {C : WC} {n : Nat} {s : PS} {r : PSs} {σ : Lo} {H : PH} {N : Lo → PH → Prop} {R : Value → PH → Prop} (h : pS C n s σ H (fun σ H => pSs C n r σ H N R) R) : pSs C n (.cons s r) σ H N R := h
theorem l_nil {C : WC} {n : Nat} {σ : Lo} {H : PH} {N : Lo → PH → Prop} {R : Value → PH → Prop} (h : N σ H) : pSs C n .nil σ H N R := h

/-- an invariant kept out of sight -/
structure IsJ (J I : Nat → Lo → PH → Prop) : Prop where
  h : ∀ k σ H, I k σ H → J k σ H
theorem J_in {J I : Nat → Lo → PH → Prop} (x : IsJ J I) {k : Nat} {σ : Lo} {H : PH} (h : I k σ H) : J k σ H := x.h _ _ _ h
theorem JW_in {J I : Nat → Lo → PH → Prop} (x : IsJ J I) {m : Nat} {σ : Lo} {H : PH} (h : ∃ k, k < m ∧ I k σ H) : ∃ k, k < m ∧ J k σ H := h.elim fun k h => ⟨k, h.1, x.h _ _ _ h.2⟩
theorem whl_J {I : Nat → Lo → PH → Prop} {P : (Nat → Lo → PH → Prop) → Nat → Lo → PH → Prop} {σ : Lo} {H : PH} (h0 : ∃ k, I k σ H) (st : ∀ J, IsJ J I → ∀ k σ H, I k σ H → P J k σ H) :
    ∃ J : Nat → Lo → PH → Prop, (∃ k, J k σ H) ∧ ∀ k σ H, J k σ H → P J k σ H := ⟨I, h0, fun k σ H h => st I ⟨fun _ _ _ h => h⟩ k σ H h⟩
theorem forR_J {I : Nat → Lo → PH → Prop} {P : (Nat → Lo → PH → Prop) → Nat → Lo → PH → Prop} {N : Lo → PH → Prop} {c : Nat} {σ : Lo} {H : PH} (h0 : I 0 σ H) (st : ∀ J, IsJ J I → ∀ k σ H, k < c → I k σ H → P J k σ H) (en : ∀ σ H, I c σ H → N σ H) :
    ∃ J : Nat → Lo → PH → Prop, J 0 σ H ∧ (∀ k σ H, k < c → J k σ H → P J k σ H) ∧ ∀ σ H, J c σ H → N σ H := ⟨I, h0, fun k σ H hk h => st I ⟨fun _ _ _ h => h⟩ k σ H hk h, en⟩
theorem forL_J {I : Nat → Lo → PH → Prop} {P : (Nat → Lo → PH → Prop) → Nat → Value → Lo → PH → Prop} {N : Lo → PH → Prop} {xs : List Value} {σ : Lo} {H : PH} (h0 : I 0 σ H)
    (st : ∀ J, IsJ J I → ∀ (k : Nat) x σ H, xs[k]? = some x → I k σ H → P J k x σ H) (en : ∀ σ H, I xs.length σ H → N σ H) :
    ∃ J : Nat → Lo → PH → Prop, J 0 σ H ∧ (∀ (k : Nat) x σ H, xs[k]? = some x → J k σ H → P J k x σ H) ∧ ∀ σ H, J xs.length σ H → N σ H := ⟨I, h0, fun k x σ H hk h => st I ⟨fun _ _ _ h => h⟩ k x σ H hk h, en⟩

noncomputable def noComp : Expr → Bool
  | .ListComp .. => false
  | .SetComp .. => false
  | .DictComp .. => false
  | .Tuple .. => false
  | _ => true

noncomputable def isTup : Expr → Bool
  | .Tuple .. => true
  | _ => false
noncomputable def isName : Expr → Bool
  | .Name .. => true
  | _ => false

noncomputable def namesOk (ns : List Str) : List Nat → List Expr → Bool
  | [], es => onNil es
  | i :: is, es => onCons (fun e es => onN (fun x _ => decide (ns[i]? = some x)) e && namesOk ns is es) es

/-- what is asked of a statement, by its form -/
noncomputable def goS (fA : List Expr → Expr → Bool) (fG : Expr → Operator → Expr → Bool) (fE : Expr → Bool) (fI : Expr → List Stmt → List Stmt → Bool) (fW : Expr → List Stmt → List Stmt → Bool) (fF : Expr → Expr → List Stmt → List Stmt → Bool) (fR : Option Expr → Bool) (r : Bool) : Stmt → Bool
  | .Assign ts v _ => fA ts v
  | .AugAssign t op v _ => fG t op v
  | .Expr v _ => fE v
  | .If t b o _ => fI t b o
  | .While t b o _ => fW t b o
  | .For t v b o _ => fF t v b o
  | .Return v _ => fR v
  | .Raise _ _ _ => r
  | _ => false
section
variable {fA : List Expr → Expr → Bool} {fG : Expr → Operator → Expr → Bool} {fE : Expr → Bool} {fI : Expr → List Stmt → List Stmt → Bool} {fW : Expr → List Stmt → List Stmt → Bool} {fF : Expr → Expr → List Stmt → List Stmt → Bool} {fR : Option Expr → Bool}
    {P : Stmt → Prop}
theorem goS_inv {x : Stmt} (h : goS fA fG fE fI fW fF fR false x = true) (kA : ∀ ts v p, fA ts v = true → P (.Assign ts v p)) (kG : ∀ t op v p, fG t op v = true → P (.AugAssign t op v p)) (kE : ∀ v p, fE v = true → P (.Expr v p))
    (kI : ∀ t b o p, fI t b o = true → P (.If t b o p)) (kW : ∀ t b o p, fW t b o = true → P (.While t b o p)) (kF : ∀ t v b o p, fF t v b o = true → P (.For t v b o p)) (kR : ∀ v p, fR v = true → P (.Return v p)) : P x := by
  cases x with
  | Assign ts v p => exact kA ts v p h
  | AugAssign t op v p => exact kG t op v p h
  | Expr v p => exact kE v p h
  | If t b o p => exact kI t b o p h
  | While t b o p => exact kW t b o p h
  | For t v b o p => exact kF t v b o p h
  | Return v p => exact kR v p h
  | _ => exact no_ff h
noncomputable def atA (fA : List Expr → Expr → Bool) (x : Stmt) : Bool := goS fA n3 n1 n3 n3 n4 n1 false x
@[elab_as_elim] theorem atA_inv (x : Stmt) (h : atA fA x = true) (k : ∀ ts v p, fA ts v = true → P (.Assign ts v p)) : P x := goS_inv h k (fun _ _ _ _ h => no_ff h) (fun _ _ h => no_ff h) (fun _ _ _ _ h => no_ff h) (fun _ _ _ _ h => no_ff h) (fun _ _ _ _ _ h => no_ff h) (fun _ _ h => no_ff h)
noncomputable def atG (fG : Expr → Operator → Expr → Bool) (x : Stmt) : Bool := goS n2 fG n1 n3 n3 n4 n1 false x
@[elab_as_elim] theorem atG_inv (x : Stmt) (h : atG fG x = true) (k : ∀ t op v p, fG t op v = true → P (.AugAssign t op v p)) : P x := goS_inv h (fun _ _ _ h => no_ff h) k (fun _ _ h => no_ff h) (fun _ _ _ _ h => no_ff h) (fun _ _ _ _ h => no_ff h) (fun _ _ _ _ _ h => no_ff h) (fun _ _ h => no_ff h)
noncomputable def atE (fE : Expr → Bool) (x : Stmt) : Bool := goS n2 n3 fE n3 n3 n4 n1 false x
@[elab_as_elim] theorem atE_inv (x : Stmt) (h : atE fE x = true) (k : ∀ v p, fE v = true → P (.Expr v p)) : P x := goS_inv h (fun _ _ _ h => no_ff h) (fun _ _ _ _ h => no_ff h) k (fun _ _ _ _ h => no_ff h) (fun _ _ _ _ h => no_ff h) (fun _ _ _ _ _ h => no_ff h) (fun _ _ h => no_ff h)
noncomputable def atI (fI : Expr → List Stmt → List Stmt → Bool) (x : Stmt) : Bool := goS n2 n3 n1 fI n3 n4 n1 false x
@[elab_as_elim] theorem atI_inv (x : Stmt) (h : atI fI x = true) (k : ∀ t b o p, fI t b o = true → P (.If t b o p)) : P x := goS_inv h (fun _ _ _ h => no_ff h) (fun _ _ _ _ h => no_ff h) (fun _ _ h => no_ff h) k (fun _ _ _ _ h => no_ff h) (fun _ _ _ _ _ h => no_ff h) (fun _ _ h => no_ff h)
noncomputable def atW (fW : Expr → List Stmt → List Stmt → Bool) (x : Stmt) : Bool := goS n2 n3 n1 n3 fW n4 n1 false x
@[elab_as_elim] theorem atW_inv (x : Stmt) (h : atW fW x = true) (k : ∀ t b o p, fW t b o = true → P (.While t b o p)) : P x := goS_inv h (fun _ _ _ h => no_ff h) (fun _ _ _ _ h => no_ff h) (fun _ _ h => no_ff h) (fun _ _ _ _ h => no_ff h) k (fun _ _ _ _ _ h => no_ff h) (fun _ _ h => no_ff h)
noncomputable def atF (fF : Expr → Expr → List Stmt → List Stmt → Bool) (x : Stmt) : Bool := goS n2 n3 n1 n3 n3 fF n1 false x
@[elab_as_elim] theorem atF_inv (x : Stmt) (h : atF fF x = true) (k : ∀ t v b o p, fF t v b o = true → P (.For t v b o p)) : P x := goS_inv h (fun _ _ _ h => no_ff h) (fun _ _ _ _ h => no_ff h) (fun _ _ h => no_ff h) (fun _ _ _ _ h => no_ff h) (fun _ _ _ _ h => no_ff h) k (fun _ _ h => no_ff h)
noncomputable def atR (fR : Option Expr → Bool) (x : Stmt) : Bool := goS n2 n3 n1 n3 n3 n4 fR false x
@[elab_as_elim] theorem atR_inv (x : Stmt) (h : atR fR x = true) (k : ∀ v p, fR v = true → P (.Return v p)) : P x := goS_inv h (fun _ _ _ h => no_ff h) (fun _ _ _ _ h => no_ff h) (fun _ _ h => no_ff h) (fun _ _ _ _ h => no_ff h) (fun _ _ _ _ h => no_ff h) (fun _ _ _ _ _ h => no_ff h) k
end

section
variable (sc : Scope) (ns : List Str) (GT : List (Str × Value))
/-- a call of one of the given kinds -/
noncomputable def isGl (T : String) (sc : Scope) (GT : List (Str × Value)) (y : Str) : Bool := decide (y = Str.ofString T) && decide (sc.names.lookup y = some .globalImplicit) && decide (GT.lookup y = some (.type T))
mutual
noncomputable def isS : PS → Stmt → Bool
  | .asg i e, x => atA (fun ts v => onCons (fun t ts => onNil ts && onN (fun x _ => decide (ns[i]? = some x)) t) ts && isE sc ns GT e v && (noComp v || isTup v)) x
  | .asgD is es, x => atA (fun ts v => onCons (fun t ts' => onNil ts' && onT (fun ts => onT (fun vs => namesOk ns is ts && decide is.Nodup && decide (vs.length = is.length ∧ is.length ≤ 30) && isEs sc ns GT es vs && (!(vs.all (constantsAlone 8)) || vs.all (foldedForSure 8))) v) t) ts) x
  | .asgT is e, x => atA (fun ts v => onCons (fun t ts' => onNil ts' && onT (fun ts => namesOk ns is ts) t) ts && isE sc ns GT e v && noComp v) x
  | .seti o i e, x => atA (fun ts v => onCons (fun t ts => onNil ts && onS (fun o' i' => isE sc ns GT o o' && isE sc ns GT i i') t) ts && isE sc ns GT e v && noComp v) x
  | .aug i op e, x => atG (fun t op' v => onN (fun x _ => decide (ns[i]? = some x)) t && decide (op = op') && isE sc ns GT e v) x
  | .expr e, x => atE (fun v => isE sc ns GT e v && noComp v) x
  | .ifs t b o, x => atI (fun t' b' o' => isE sc ns GT t t' && isSs b b' && isSs o o') x
  | .whl t b, x => atW (fun t' b' o' => onNil o' && isE sc ns GT t t' && isSs b b') x
  | .forR i es b, x => atF (fun t v b' o' => onNil o' && onN (fun x _ => decide (ns[i]? = some x)) t && onK (fun g args kw _ => onNil kw && onN (fun y _ => isGl "range" sc GT y) g && isEs sc ns GT es args) v && isSs b b') x
  | .forL i e b, x => atF (fun t v b' o' => onNil o' && onN (fun x _ => decide (ns[i]? = some x)) t && isE sc ns GT e v && isName v && isSs b b') x
  | .forE i j e b, x => atF (fun t v b' o' => onNil o' && onT (fun ts => decide (i ≠ j) && namesOk ns [i, j] ts) t && onK (fun g args kw _ => onNil kw && onN (fun y _ => isGl "enumerate" sc GT y) g && onCons (fun v as => onNil as && isE sc ns GT e v && noSlice v) args) v && isSs b b') x
  | .ret e, x => atR (onPart false (isE sc ns GT e)) x
  | .rais, x => goS n2 n3 n1 n3 n3 n4 n1 true x
noncomputable def isSs : PSs → List Stmt → Bool
  | .nil, xs => onNil xs
  | .cons s r, xs => onCons (fun x xs => isS s x && isSs r xs) xs
end
end
end

section

section
variable {C : WC} {env : Env} {ns : List Str} {GT : List (Str × Value)} {n : Nat}

noncomputable def PostS (C : WC) (env : Env) (ns : List Str) (H : PH) (s : Shared) (N : Lo → PH → Prop) (R : Value → PH → Prop) : Flow → Shared → Prop
  | .next, s' => ∃ σ' H', Frm C (AtX env.locals) H H' s s' ∧ Inn C env ns σ' H' s' ∧ N σ' H'
  | .ret v, s' => ∃ H', Frm C (AtX env.locals) H H' s s' ∧ R (er v) H'
  | _, _ => False

theorem postS {H H' : PH} {s s' : Shared} {N : Lo → PH → Prop} {R : Value → PH → Prop} {A : Around} {t : Sem Flow} (f : Frm C (AtX env.locals) H H' s s') (h : WP C A t (PostS C env ns H' s' N R) s') :
    WP C A t (PostS C env ns H s N R) s' :=
  wpAny_mono h (fun fl _ h => by
    cases fl with
    | next => obtain ⟨σ', H'', f', i, q⟩ := h; exact ⟨σ', H'', f.trans f', i, q⟩
    | ret v => obtain ⟨H'', f', q⟩ := h; exact ⟨H'', f.trans f', q⟩
    | brk => exact h.elim
    | cont => exact h.elim) fun _ _ x => x
theorem PostS.mono {H : PH} {s s' : Shared} {N N' : Lo → PH → Prop} {R : Value → PH → Prop} {fl : Flow} (h : PostS C env ns H s N R fl s') (hn : ∀ σ H, N σ H → N' σ H) : PostS C env ns H s N' R fl s' := by
  cases fl with
  | next => obtain ⟨σ', H'', f', i, q⟩ := h; exact ⟨σ', H'', f', i, hn _ _ q⟩
  | ret v => exact h
  | brk => exact h.elim
  | cont => exact h.elim

/-- a store into a local -/
theorem storeLocal {A : Around} {x : Str} {i : Nat} {v : Value} {σ : Lo} {H : PH} {s : Shared} {Q : Unit → Shared → Prop} (eo : EnvOk C env ns) (i0 : Inn C env ns σ H s) (hx : ns[i]? = some x)
    (h : ∀ s', Frm C (AtX env.locals) H H s s' → Inn C env ns (σ.set i (some (er v))) H s' → Q () s') : WP C A (storeName env x v) Q s := by
  obtain ⟨l1, m, hN, hm⟩ := i0.loc
  refine wpAny_storeName_local (eo.loc i x hx).1 hN (fun h' hn hs => ?_) (by rw [eo.kind]; rfl)
  have hv : View C H h' := ⟨fun a o e => by
    have ha : a ≠ env.locals := fun q => by rw [q, i0.hL] at e; cases e
    obtain ⟨ob, k1, k2⟩ := i0.view.at' a o e
    exact ⟨ob, (hs.2 a ha).trans k1, k2⟩, i0.view.fresh⟩
  have hk : Keep C h' := ⟨fun b o e => by
    have hb : b ≠ env.locals := fun q => by rw [q, i0.lL] at e; cases e
    exact (hs.2 b hb).trans (i0.keep.k b o e)⟩
  refine h _ ⟨⟨rfl, rfl, rfl⟩, fun b o hb e hn => ⟨(hs.2 b hb).trans e, hn⟩, hk, hv⟩ ⟨hk, hv, ⟨by rw [List.length_set]; exact l1, _, hn, fun j y hy => ?_⟩, i0.hL, i0.lL⟩
  by_cases hij : j = i
  · subst hij
    rw [hx] at hy; cases hy
    have hlt : j < σ.length := by rw [l1]; exact (List.getElem?_eq_some_iff.mp hx).1
    rw [if_pos rfl, List.getElem?_set_self hlt]; rfl
  · have hne : y ≠ x := fun q => by
      subst q
      exact hij ((List.getElem?_inj (List.getElem?_eq_some_iff.mp hy).1 eo.nd).mp (hy.trans hx.symm))
    rw [if_neg hne, List.getElem?_set_ne (Ne.symm hij)]
    exact hm j y hy

theorem swWith {v : Expr} (h : noComp v = true ∨ isTup v = true) (t : Option Expr) (l : Nat) : swapsWith v t l env = pure false := by
  cases v <;> first | rfl | (rcases h with h | h <;> cases h)
theorem swSole {v t : Expr} (h : noComp v = true ∨ isTup v = true) (l : Nat) : swapsWithSole [t] v l env = pure false := swWith h _ _
theorem swStores {v : Expr} (h : noComp v = true) (ts : List Expr) (k : Nat) (p : Pos) : swappedStores [.Tuple ts k p] v env = pure none := by
  cases v <;> first | rfl | cases h

theorem namesOk_len : ∀ (is : List Nat) (es : List Expr), namesOk ns is es = true → es.length = is.length
  | [], es, h => onNil_inv es h rfl
  | i :: is, es, h => onCons_inv es h fun e es h => and_k h fun _ h => by rw [List.length_cons, List.length_cons, namesOk_len is es h]

theorem assignEach_len : ∀ (is : List Nat) (es : List Expr), namesOk ns is es = true → (assignEach es env).length = is.length ∧ (assignEach es env).findIdx? (·.1) = none
  | [], es, h => onNil_inv es h ⟨rfl, rfl⟩
  | i :: is, es, h => onCons_inv es h fun e es h => and_k h fun h1 h2 => onN_inv e h1 fun x p _ => by
    obtain ⟨h1, h2⟩ := assignEach_len is es h2
    refine ⟨congrArg Nat.succ h1, ?_⟩
    show List.findIdx? _ ((false, _) :: assignEach es env) = none
    rw [List.findIdx?_cons, h2]; rfl

/-- the stores of a tuple's items, in order -/
theorem assignOrder {A : Around} (eo : EnvOk C env ns) : ∀ (is : List Nat) (es : List Expr) (vs : List Value) (σ : Lo) (H : PH) (s : Shared) (Q : Unit → Shared → Prop), namesOk ns is es = true → vs.length = is.length → Inn C env ns σ H s →
    (∀ s', Frm C (AtX env.locals) H H s s' → Inn C env ns (setMany σ is (vs.map er)) H s' → Q () s') → WP C A (assignInOrder ((assignEach es env).map (·.2)) vs) Q s
  | [], es, vs, σ, H, s, Q, hn, hl, i0, h => onNil_inv es hn (by
    cases vs with
    | nil => exact wpAny_pure (h s (Frm.refl i0.keep i0.view) i0)
    | cons _ _ => cases hl)
  | i :: is, es, vs, σ, H, s, Q, hn, hl, i0, h => onCons_inv es hn fun e es hn => and_k hn fun h1 h2 => onN_inv e h1 fun x p h1 => by
    cases vs with
    | nil => cases hl
    | cons v vs =>
      show WP C A (do holding vs (assign (.Name _ _) env v); assignInOrder ((assignEach es env).map (·.2)) vs) Q s
      exact wpAny_bind (wpAny_holding (wpAny_assign_Name (storeLocal eo i0 (of_decide_eq_true h1) fun s₁ f₁ i₁ =>
        assignOrder eo is es vs _ H s₁ Q h2 (Nat.succ.inj hl) i₁ fun s' f' i' => h s' (f₁.trans f') i')))

noncomputable def nmOk (ns : List Str) : List Nat → List Str → Prop
  | [], xs => xs = []
  | i :: is, xs => ∃ x r, xs = x :: r ∧ ns[i]? = some x ∧ nmOk ns is r

theorem filt_ok (F : Expr → Option Str) (hF : ∀ e x, F e = some x → ∃ p, e = .Name x p) : ∀ (is : List Nat) (ts : List Expr), namesOk ns is ts = true → (ts.filterMap F).length = ts.length → nmOk ns is (ts.filterMap F)
  | [], ts, h, _ => onNil_inv ts h rfl
  | i :: is, ts, h, hl => by
    revert hl
    refine onCons_inv ts h fun e es h => and_k h fun h1 h2 => onN_inv e h1 fun x p h1 hl => ?_
    rw [List.filterMap_cons] at hl ⊢
    cases hf : F (.Name x p) with
    | none =>
      rw [hf] at hl
      exact absurd hl (Nat.ne_of_lt (Nat.lt_succ_of_le (List.length_filterMap_le ..)))
    | some y =>
      rw [hf] at hl
      obtain ⟨p', q⟩ := hF _ _ hf
      cases q
      exact ⟨_, _, rfl, of_decide_eq_true h1, filt_ok F hF is es h2 (Nat.succ.inj hl)⟩

theorem swapped_cases {is : List Nat} {ts vs : List Expr} {k k' : Nat} {p p' : Pos} (eo : EnvOk C env ns) (hn : namesOk ns is ts = true) (hl : vs.length = is.length)
    (hc : vs.all (constantsAlone 8) = false ∨ vs.all (foldedForSure 8) = true) :
    swappedStores [.Tuple ts k p] (.Tuple vs k' p') env = pure none ∨ ∃ xs, swappedStores [.Tuple ts k p] (.Tuple vs k' p') env = pure (some xs) ∧ nmOk ns is xs ∧ (is.length = 2 ∨ is.length = 3) := by
  have hts := namesOk_len is ts hn
  unfold swappedStores
  simp only
  split
  · exact .inl rfl
  · rename_i h1
    split
    · exact .inl rfl
    · rename_i h2
      split
      · exact .inl rfl
      · rename_i h3
        split
        · exact .inl rfl
        · rename_i h4
          split
          · rename_i h5
            rcases hc with hc | hc
            · rw [hc] at h5; cases h5
            · exact absurd hc h4
          · refine .inr ⟨_, rfl, ?_, ?_⟩
            · refine filt_ok _ (fun e x he => ?_) is ts hn ?_
              · split at he
                · split at he
                  · cases he; exact ⟨_, rfl⟩
                  · cases he
                · cases he
              · simp only [Bool.or_eq_true, bne_iff_ne, ne_eq, not_or, Decidable.not_not] at h3
                exact h3.1
            · simp only [Bool.or_eq_true, Bool.not_eq_true', not_or, Bool.not_eq_false, bne_iff_ne, ne_eq, Decidable.not_not, beq_iff_eq] at h1
              rw [hts] at h1
              exact h1.1.1

/-- stores in another order -/
theorem bindOrder {A : Around} (eo : EnvOk C env ns) : ∀ (is : List Nat) (xs : List Str) (vs : List Value) (σ : Lo) (H : PH) (s : Shared) (Q : Unit → Shared → Prop), nmOk ns is xs → vs.length = is.length → Inn C env ns σ H s →
    (∀ s', Frm C (AtX env.locals) H H s s' → Inn C env ns (setMany σ is (vs.map er)) H s' → Q () s') → WP C A (assignInOrder (xs.map fun x => bindName env x) vs) Q s
  | [], xs, vs, σ, H, s, Q, hn, hl, i0, h => by
    cases hn
    cases vs with
    | nil => exact wpAny_pure (h s (Frm.refl i0.keep i0.view) i0)
    | cons _ _ => cases hl
  | i :: is, xs, vs, σ, H, s, Q, hn, hl, i0, h => by
    obtain ⟨x, xs, rfl, h1, h2⟩ := hn
    cases vs with
    | nil => cases hl
    | cons v vs =>
      show WP C A (do holding vs (bindName env x v); assignInOrder (xs.map fun x => bindName env x) vs) Q s
      exact wpAny_bind (wpAny_holding (wpAny_bindName (storeLocal eo i0 h1 fun s₁ f₁ i₁ =>
        bindOrder eo is xs vs _ H s₁ Q h2 (Nat.succ.inj hl) i₁ fun s' f' i' => h s' (f₁.trans f') i')))

theorem len_s {α : Type} {n : Nat} {l : List α} (h : l.length = n + 1) : ∃ a r, l = a :: r ∧ r.length = n := by
  cases l with
  | nil => cases h
  | cons a r => exact ⟨a, r, rfl, Nat.succ.inj h⟩
theorem len_2 {α : Type} {l : List α} (h : l.length = 2) : ∃ a b, l = [a, b] := by
  obtain ⟨a, r, rfl, h1⟩ := len_s h
  obtain ⟨b, r, rfl, h2⟩ := len_s h1
  exact ⟨a, b, by rw [List.length_eq_zero_iff.mp h2]⟩
theorem len_3 {α : Type} {l : List α} (h : l.length = 3) : ∃ a b c, l = [a, b, c] := by
  obtain ⟨a, r, rfl, h1⟩ := len_s h
  obtain ⟨b, c, rfl⟩ := len_2 h1
  exact ⟨a, b, c, rfl⟩
/-- lists of two or three -/
theorem two3 {α : Type} {P : List α → Prop} (l : List α) (h : l.length = 2 ∨ l.length = 3) (h2 : ∀ a b, P [a, b]) (h3 : ∀ a b c, P [a, b, c]) : P l := by
  rcases h with h | h
  · obtain ⟨a, b, rfl⟩ := len_2 h; exact h2 a b
  · obtain ⟨a, b, c, rfl⟩ := len_3 h; exact h3 a b c
theorem nmOk_rev2 {is : List Nat} {xs : List Str} (h : nmOk ns is xs) (hl : is.length = 2 ∨ is.length = 3) : nmOk ns is.reverse xs.reverse := by
  revert h
  refine two3 (P := fun is => nmOk ns is xs → nmOk ns is.reverse xs.reverse) is hl (fun a b h => ?_) fun a b c h => ?_
  · obtain ⟨x, _, rfl, h1, y, _, rfl, h2, rfl⟩ := h
    exact ⟨_, _, rfl, h2, _, _, rfl, h1, rfl⟩
  · obtain ⟨x, _, rfl, h1, y, _, rfl, h2, z, _, rfl, h3, rfl⟩ := h
    exact ⟨_, _, rfl, h3, _, _, rfl, h2, _, _, rfl, h1, rfl⟩
theorem setMany_rev {is : List Nat} {vs : List Value} {σ : Lo} (hn : is.Nodup) (hl : is.length = 2 ∨ is.length = 3) (hv : vs.length = is.length) : setMany σ is.reverse vs.reverse = setMany σ is vs := by
  revert hv hn
  refine two3 (P := fun is => is.Nodup → vs.length = is.length → setMany σ is.reverse vs.reverse = setMany σ is vs) is hl (fun a b hn hv => ?_) fun a b c hn hv => ?_
  · obtain ⟨x, y, rfl⟩ := len_2 hv
    have hab : a ≠ b := fun e => (List.nodup_cons.mp hn).1 (e ▸ .head _)
    exact List.set_comm _ _ (Ne.symm hab)
  · obtain ⟨x, y, z, rfl⟩ := len_3 hv
    have h1 := List.nodup_cons.mp hn
    have hab : a ≠ b := fun e => h1.1 (e ▸ .head _)
    have hac : a ≠ c := fun e => h1.1 (e ▸ .tail _ (.head _))
    have hbc : b ≠ c := fun e => (List.nodup_cons.mp h1.2).1 (e ▸ .head _)
    show ((σ.set c (some z)).set b (some y)).set a (some x) = ((σ.set a (some x)).set b (some y)).set c (some z)
    rw [List.set_comm _ _ (Ne.symm hbc), List.set_comm (l := (σ.set b (some y))) _ _ (Ne.symm hac), List.set_comm _ _ (Ne.symm hab)]
end
end

section

section
variable {C : WC} {env : Env} {ns : List Str} {GT : List (Str × Value)} {n : Nat}

/-- an iterator: at each place it hands on an item, and it ends -/
structure IterOk (C : WC) (it : Addr) (cnt : Nat) (item : Nat → Value → Prop) (Src : PH → Prop) (At : Nat → Heap → Prop) : Prop where
  ex : ∀ k h, At k h → ∃ o, h.get? it = some o
  stay : ∀ k h h', At k h → (∀ o, h.get? it = some o → h'.get? it = some o) → At k h'
  next : ∀ A k s H, A.handled = none → View C H s.heap → Src H → k < cnt → At k s.heap →
    WP C A (pyNext (.ref it)) (fun r s' => ∃ v h' tk, r = some v ∧ item k (er v) ∧ s' = { s with heap := h', toks := tk } ∧ Heap.SameBut it s.heap h' ∧ At (k + 1) h') s
  done : ∀ A s H, A.handled = none → View C H s.heap → Src H → At cnt s.heap →
    WP C A (pyNext (.ref it)) (fun r s' => ∃ h' tk, r = none ∧ s' = { s with heap := h', toks := tk } ∧ ∀ b o, b ≠ it → s.heap.get? b = some o → h'.get? b = some o) s

/-- what the induction says of a body -/
noncomputable def GoodS (C : WC) (env : Env) (ns : List Str) (GT : List (Str × Value)) (n : Nat) (b : PSs) : Prop :=
  ∀ (xs : List Stmt) (σ : Lo) (H : PH) (N : Lo → PH → Prop) (R : Value → PH → Prop), isSs env.scope ns GT b xs = true → pSs C n b σ H N R →
    ∀ (A : Around) (s : Shared), Bud n A → Inn C env ns σ H s → WP C A (execs xs env) (PostS C env ns H s N R) s

theorem Inn.same {σ : Lo} {H : PH} {s : Shared} {it : Addr} {h' : Heap} {tk : Nat} (x : Inn C env ns σ H s) (hi : H it = none) (hb : C.hb.get? it = none) (hL : it ≠ env.locals)
    (hs : ∀ b o, b ≠ it → s.heap.get? b = some o → h'.get? b = some o) : Inn C env ns σ H { s with heap := h', toks := tk } := by
  obtain ⟨l1, m, ⟨o, es, ep, ho, r⟩, hm⟩ := x.loc
  refine ⟨⟨fun b o e => ?_⟩, ⟨fun a o e => ?_, x.view.fresh⟩, ⟨l1, m, ⟨o, es, ep, hs _ _ (Ne.symm hL) ho, r⟩, hm⟩, x.hL, x.lL⟩
  · have : b ≠ it := fun q => by rw [q, hb] at e; cases e
    exact hs _ _ this (x.keep.k b o e)
  · have : a ≠ it := fun q => by rw [q, hi] at e; cases e
    obtain ⟨ob, k1, k2⟩ := x.view.at' a o e
    exact ⟨ob, hs _ _ this k1, k2⟩

/-- the end of a loop, seen from ahead of it -/
noncomputable def EndS (C : WC) (env : Env) (ns : List Str) (A : Around) (H : PH) (s : Shared) (N : Lo → PH → Prop) (R : Value → PH → Prop) (r : Result) (s' : Shared) : Prop :=
  match r with | .ok f => PostS C env ns H s N R f s' | .error e => cameBackBy (model C.prog C.w) A env noE e s'
theorem endS {A : Around} {H H₁ : PH} {s s₁ : Shared} {N : Lo → PH → Prop} {R : Value → PH → Prop} (f : Frm C (AtX env.locals) H H₁ s s₁) (r : Result) (s' : Shared) (h : EndS C env ns A H₁ s₁ N R r s') : EndS C env ns A H s N R r s' := by
  cases r with
  | error e => exact h
  | ok fl =>
    cases fl with
    | next => exact h.elim fun σ' h => h.elim fun H' h => ⟨σ', H', f.trans h.1, h.2⟩
    | ret v => exact h.elim fun H' h => ⟨H', f.trans h.1, h.2⟩
    | brk => exact h.elim
    | cont => exact h.elim

theorem for_ok (eo : EnvOk C env ns) {it : Addr} {cnt : Nat} {item : Nat → Value → Prop} {Src : PH → Prop} {At : Nat → Heap → Prop} (io : IterOk C it cnt item Src At)
    {x : Str} {px : Pos} {i : Nat} (hx : ns[i]? = some x) {b : PSs} {body : List Stmt} (hb : isSs env.scope ns GT b body = true) (ih : GoodS C env ns GT n b)
    {J : Nat → Lo → PH → Prop} {σ : Lo} {H : PH} {N : Lo → PH → Prop} {R : Value → PH → Prop} (j0 : J 0 σ H)
    (turn : ∀ k v σ H, k < cnt → item k v → J k σ H → pSs C n b (σ.set i (some v)) H (fun σ H => J (k + 1) σ H) R) (src : ∀ k σ H, k ≤ cnt → J k σ H → Src H) (fin : ∀ σ H, J cnt σ H → N σ H)
    {A : Around} {s : Shared} (bd : Bud n A) (i0 : Inn C env ns σ H s) (hi : H it = none) (hbi : C.hb.get? it = none) (hL : it ≠ env.locals) (at0 : At 0 s.heap)
    {s0 : Shared} {H0 : PH} (hf : Frm C (fun b => b = env.locals ∨ b = it) H0 H s0 s) (hit : ∀ o, s0.heap.get? it ≠ some o) :
    codeAny (model C.prog C.w) A (.forLoop (.Name x px) (.ref it) body [] env) (EndS C env ns A H0 s0 N R) s := by
  have close : ∀ {H' : PH} {s' : Shared}, Frm C (fun b => b = env.locals ∨ b = it) H0 H' s0 s' → Frm C (AtX env.locals) H0 H' s0 s' := fun f =>
    ⟨f.same, fun b o hb e hn => f.old b o (fun q => q.elim hb fun q => hit o (q ▸ e)) e hn, f.keep, f.view⟩
  refine codeAny_forLoop (fun m s' => ∃ k σ' H', m = cnt - k ∧ k ≤ cnt ∧ Frm C (fun b => b = env.locals ∨ b = it) H0 H' s0 s' ∧ Inn C env ns σ' H' s' ∧ J k σ' H' ∧ At k s'.heap ∧ H' it = none) ?_ cnt
    ⟨0, σ, H, rfl, Nat.zero_le _, hf, i0, j0, at0, hi⟩
  rintro m s' ⟨k, σ', H', rfl, hk, f', i', j', at', hi'⟩
  by_cases hlt : k < cnt
  · refine WP.toE (wpAny_mono (io.next A k s' H' bd.hh i'.view (src k σ' H' hk j') hlt at') (fun r s₁ h₁ => ?_) fun _ _ x => x.elim) |> fun z => z
    obtain ⟨v, h', tk, rfl, hv, rfl, hs, at₁⟩ := h₁
    have i₁ : Inn C env ns σ' H' { s' with heap := h', toks := tk } := i'.same hi' hbi hL hs.extBut
    have f₁ : Frm C (fun b => b = env.locals ∨ b = it) H' H' s' { s' with heap := h', toks := tk } :=
      ⟨⟨rfl, rfl, rfl⟩, fun b o hb e hn => ⟨hs.extBut b o (fun q => hb (.inr q)) e, hn⟩, i₁.keep, i₁.view⟩
    show wpAny _ A (assign (.Name x px) env v) _ _ _
    refine WP.toE (wpAny_assign_Name (storeLocal eo i₁ hx fun s₂ f₂ i₂ => ?_))
    obtain ⟨ob, hob⟩ := io.ex _ _ at₁
    have e₂ := f₂.old it ob hL hob hi'
    have at₂ : At (k + 1) s₂.heap := io.stay _ _ _ at₁ fun o ho => by rw [hob] at ho; cases ho; exact e₂.1
    refine WP.toE (wpAny_mono (ih body _ H' _ R hb (turn k (er v) σ' H' hlt hv j') A s₂ bd i₂) (fun fl s₃ h₃ => ?_) fun _ _ x => x)
    have f₁₂ : Frm C (fun b => b = env.locals ∨ b = it) H0 H' s0 s₂ := (f'.trans f₁).trans ⟨f₂.same, fun b o hb e hn => f₂.old b o (fun q => hb (.inl q)) e hn, f₂.keep, f₂.view⟩
    cases fl with
    | next =>
      obtain ⟨σ₃, H₃, f₃, i₃, j₃⟩ := h₃
      have e₃ := f₃.old it ob hL e₂.1 hi'
      refine ⟨cnt - (k + 1), by lia, k + 1, σ₃, H₃, rfl, hlt, f₁₂.trans ⟨f₃.same, fun b o hb e hn => f₃.old b o (fun q => hb (.inl q)) e hn, f₃.keep, f₃.view⟩, i₃, j₃, ?_, e₃.2⟩
      exact io.stay _ _ _ at₂ fun o ho => by rw [e₂.1] at ho; cases ho; exact e₃.1
    | ret v =>
      obtain ⟨H₃, f₃, q⟩ := h₃
      exact ⟨H₃, close (f₁₂.trans ⟨f₃.same, fun b o hb e hn => f₃.old b o (fun q => hb (.inl q)) e hn, f₃.keep, f₃.view⟩), q⟩
    | brk => exact h₃.elim
    | cont => exact h₃.elim
  · have hk' : k = cnt := by lia
    subst hk'
    refine WP.toE (wpAny_mono (io.done A s' H' bd.hh i'.view (src k σ' H' hk j') at') (fun r s₁ h₁ => ?_) fun _ _ x => x.elim) |> fun z => z
    obtain ⟨h', tk, rfl, rfl, hs⟩ := h₁
    have i₁ : Inn C env ns σ' H' { s' with heap := h', toks := tk } := i'.same hi' hbi hL hs
    refine wpAny_execs_nil ?_
    exact ⟨σ', H', close (f'.trans ⟨⟨rfl, rfl, rfl⟩, fun b o hb e hn => ⟨hs b o (fun q => hb (.inr q)) e, hn⟩, i₁.keep, i₁.view⟩), i₁, fin _ _ j'⟩

theorem iter_range {it : Addr} {lo step : Int} {cnt : Nat} (hc : cnt < 2000000000) : IterOk C it cnt (fun k v => v = I (lo + k * step)) (fun _ => True) (fun k h => IsRangeIter h it (lo + k * step) ((cnt : Int) - k) step) where
  ex := fun k h e => ⟨_, e⟩
  stay := fun k h h' e hk => hk _ e
  next := fun A k s H hh v _ hlt e => by
    refine wpAny_pyNext_range_item e (by lia) fun h' hit hs => ?_
    refine ⟨_, h', _, rfl, rfl, rfl, hs, ?_⟩
    have e1 : lo + ((k + 1 : Nat) : Int) * step = lo + (k : Int) * step + step := by push_cast; rw [Int.add_mul, Int.one_mul, Int.add_assoc]
    have e2 : (cnt : Int) - ((k + 1 : Nat) : Int) = (cnt : Int) - k - 1 := by push_cast; lia
    rw [e1, e2]; exact hit
  done := fun A s H hh v _ e => by
    refine wpAny_pyNext_range_end hh e (by lia) fun h' hs => ?_
    exact ⟨h', s.toks, rfl, rfl, hs⟩

theorem iter_list {it a : Addr} {xs : List Value} : IterOk C it xs.length (fun k v => xs[k]? = some v) (fun H => H a = some (.lst xs)) (fun k h => h.IsListIter it a k) where
  ex := fun k h ⟨o, e, _⟩ => ⟨o, e⟩
  stay := fun k h h' ⟨o, e, r⟩ hk => ⟨o, hk _ e, r⟩
  next := fun A k s H hh v hH hlt e => by
    obtain ⟨vs, m, g1, g2, g3⟩ := v.lst hH
    obtain ⟨y, hy, hy'⟩ := get_of g2 (List.getElem?_eq_getElem hlt)
    refine wpAny_pyNext_list_item e ⟨_, g1, rfl, m, rfl⟩ hy fun h' hit hs => ?_
    exact ⟨y, h', s.toks, rfl, by rw [hy']; exact List.getElem?_eq_getElem hlt, rfl, hs, hit⟩
  done := fun A s H hh v hH e => by
    obtain ⟨vs, m, g1, g2, g3⟩ := v.lst hH
    refine wpAny_pyNext_list_end hh e ⟨_, g1, rfl, m, rfl⟩ (by rw [Array.getElem?_eq_none_iff, len_of g2]; exact Nat.le_refl _) fun h' hs => ?_
    exact ⟨h', s.toks, rfl, rfl, hs⟩

theorem iter_tup {it a : Addr} {xs : List Value} : IterOk C it xs.length (fun k v => xs[k]? = some v) (fun H => H a = some (.tup xs)) (fun k h => IsTupIter h it a k) where
  ex := fun k h ⟨o, e, _⟩ => ⟨o, e⟩
  stay := fun k h h' ⟨o, e, r⟩ hk => ⟨o, hk _ e, r⟩
  next := fun A k s H hh v hH hlt e => by
    obtain ⟨vs, m, g1, g2, g3⟩ := v.tup hH
    obtain ⟨y, hy, hy'⟩ := get_of g2 (List.getElem?_eq_getElem hlt)
    refine next_tuple_item e ⟨_, g1, rfl, m, rfl⟩ hy fun h' hit hs => ?_
    exact ⟨y, h', s.toks, rfl, by rw [hy']; exact List.getElem?_eq_getElem hlt, rfl, hs, hit⟩
  done := fun A s H hh v hH e => by
    obtain ⟨vs, m, g1, g2, g3⟩ := v.tup hH
    refine next_tuple_end hh e ⟨_, g1, rfl, m, rfl⟩ (by rw [Array.getElem?_eq_none_iff, len_of g2]; exact Nat.le_refl _) fun h' hs => ?_
    exact ⟨h', s.toks, rfl, rfl, hs⟩

/-- a For over a made iterator, from the state ahead of it -/
theorem for_new (eo : EnvOk C env ns) {it : Addr} {cnt : Nat} {item : Nat → Value → Prop} {Src : PH → Prop} {At : Nat → Heap → Prop} (io : IterOk C it cnt item Src At)
    {x : Str} {px : Pos} {i : Nat} (hx : ns[i]? = some x) {b : PSs} {body : List Stmt} (hb : isSs env.scope ns GT b body = true) (ih : GoodS C env ns GT n b)
    {J : Nat → Lo → PH → Prop} {σ : Lo} {H : PH} {N : Lo → PH → Prop} {R : Value → PH → Prop} (j0 : J 0 σ H)
    (turn : ∀ k v σ H, k < cnt → item k v → J k σ H → pSs C n b (σ.set i (some v)) H (fun σ H => J (k + 1) σ H) R) (src : ∀ k σ H, k ≤ cnt → J k σ H → Src H) (fin : ∀ σ H, J cnt σ H → N σ H)
    {A : Around} {s : Shared} {o : Obj} (bd : Bud n A) (i0 : Inn C env ns σ H s) (hit : it = s.heap.objs.size) (at0 : At 0 (s.heap.push o)) :
    codeAny (model C.prog C.w) A (.forLoop (.Name x px) (.ref it) body [] env) (EndS C env ns A H s N R) { s with heap := s.heap.push o } := by
  subst hit
  have hne : ∀ ob, s.heap.get? s.heap.objs.size ≠ some ob := fun ob e => Nat.lt_irrefl _ (Heap.lt_size e)
  have hL : s.heap.objs.size ≠ env.locals := fun q => by
    obtain ⟨l1, m, ⟨ob, es, ep, ho, r⟩, hm⟩ := i0.loc
    exact hne ob (q ▸ ho)
  have f0 : Frm C NoX H H s { s with heap := s.heap.push o } := Frm.grow (tk := s.toks) i0.keep i0.view fun b o' e => Heap.get?_push_of_some _ e
  exact for_ok eo io hx hb ih j0 turn src fin bd (i0.frm f0) (i0.view.none_of_size _ (Nat.le_refl _)) (i0.keep.none_at (Nat.le_refl _)) hL at0 f0.weak hne
end
end

section

section
variable {C : WC} {env : Env} {ns : List Str} {GT : List (Str × Value)} {n : Nat}

theorem names2 {x y : Str} {px py : Pos} {i j : Nat} (hx : ns[i]? = some x) (hy : ns[j]? = some y) : namesOk ns [i, j] [.Name x px, .Name y py] = true :=
  Bool.and_eq_true_iff.mpr ⟨decide_eq_true hx, Bool.and_eq_true_iff.mpr ⟨decide_eq_true hy, rfl⟩⟩
@[elab_as_elim] theorem names2_inv {i j : Nat} {P : List Expr → Prop} (ts : List Expr) (h : namesOk ns [i, j] ts = true) (k : ∀ x px y py, ns[i]? = some x → ns[j]? = some y → P [.Name x px, .Name y py]) : P ts :=
  onCons_inv ts h fun e es h => and_k h fun h1 h => onN_inv e h1 fun x px h1 => onCons_inv es h fun e es h => and_k h fun h2 h => onN_inv e h2 fun y py h2 => onNil_inv es h (k x px y py (of_decide_eq_true h1) (of_decide_eq_true h2))
theorem Inn.sameX {σ : Lo} {H : PH} {s : Shared} {X : Addr → Prop} {h' : Heap} {tk : Nat} (x : Inn C env ns σ H s) (hi : ∀ b, X b → H b = none ∧ C.hb.get? b = none ∧ b ≠ env.locals)
    (hs : ∀ b o, ¬ X b → s.heap.get? b = some o → h'.get? b = some o) : Inn C env ns σ H { s with heap := h', toks := tk } := by
  obtain ⟨l1, m, ⟨o, es, ep, ho, r⟩, hm⟩ := x.loc
  refine ⟨⟨fun b o e => ?_⟩, ⟨fun a o e => ?_, x.view.fresh⟩, ⟨l1, m, ⟨o, es, ep, hs _ _ (fun q => (hi _ q).2.2 rfl) ho, r⟩, hm⟩, x.hL, x.lL⟩
  · exact hs _ _ (fun q => by rw [(hi _ q).2.1] at e; cases e) (x.keep.k b o e)
  · obtain ⟨ob, k1, k2⟩ := x.view.at' a o e
    exact ⟨ob, hs _ _ (fun q => by rw [(hi _ q).1] at e; cases e) k1, k2⟩

theorem enum_ok (eo : EnvOk C env ns) {e it a : Addr} {xs : List Value} (hei : e ≠ it)
    {x y : Str} {px py pt : Pos} {x1 : Nat} {i j : Nat} (hx : ns[i]? = some x) (hy : ns[j]? = some y) {b : PSs} {body : List Stmt} (hb : isSs env.scope ns GT b body = true) (ih : GoodS C env ns GT n b)
    {J : Nat → Lo → PH → Prop} {σ : Lo} {H : PH} {N : Lo → PH → Prop} {R : Value → PH → Prop} (j0 : J 0 σ H)
    (turn : ∀ (k : Nat) v σ H, xs[k]? = some v → J k σ H → H a = some (.lst xs) ∧ pSs C n b ((σ.set i (some (I k))).set j (some v)) H (fun σ H => J (k + 1) σ H) R) (fin : ∀ σ H, J xs.length σ H → H a = some (.lst xs) ∧ N σ H)
    {A : Around} {s : Shared} (bd : Bud n A) (i0 : Inn C env ns σ H s) (hX : ∀ b, (b = e ∨ b = it) → H b = none ∧ C.hb.get? b = none ∧ b ≠ env.locals)
    (he0 : IsEnum s.heap e it 0 .none) (hit0 : s.heap.IsListIter it a 0)
    {s0 : Shared} {H0 : PH} (hf : Frm C (fun b => b = env.locals ∨ (b = e ∨ b = it)) H0 H s0 s) (hne : ∀ b o, (b = e ∨ b = it) → s0.heap.get? b ≠ some o) :
    codeAny (model C.prog C.w) A (.forLoop (.Tuple [.Name x px, .Name y py] x1 pt) (.ref e) body [] env) (EndS C env ns A H0 s0 N R) s := by
  have close : ∀ {H' : PH} {s' : Shared}, Frm C (fun b => b = env.locals ∨ (b = e ∨ b = it)) H0 H' s0 s' → Frm C (AtX env.locals) H0 H' s0 s' := fun f =>
    ⟨f.same, fun b o hb e hn => f.old b o (fun q => q.elim hb fun q => hne b o q e) e hn, f.keep, f.view⟩
  refine codeAny_forLoop_any (fun m s' => ∃ k old σ' H', m = xs.length - k ∧ k ≤ xs.length ∧ Frm C (fun b => b = env.locals ∨ (b = e ∨ b = it)) H0 H' s0 s' ∧ Inn C env ns σ' H' s' ∧ J k σ' H' ∧
      IsEnum s'.heap e it ((k : Nat) : Int) old ∧ s'.heap.IsListIter it a k ∧ (∀ b, (b = e ∨ b = it) → H' b = none)) ?_ xs.length
    ⟨0, .none, σ, H, rfl, Nat.zero_le _, hf, i0, j0, he0, hit0, fun b q => (hX b q).1⟩
  rintro m s' ⟨k, old, σ', H', rfl, hk, f', i', j', he', hit', hn'⟩
  have hX' : ∀ b, (b = e ∨ b = it) → H' b = none ∧ C.hb.get? b = none ∧ b ≠ env.locals := fun b q => ⟨hn' b q, (hX b q).2⟩
  by_cases hlt : k < xs.length
  · have hv := List.getElem?_eq_getElem hlt
    obtain ⟨hH, hp⟩ := turn k _ σ' H' hv j'
    obtain ⟨vs, q, g1, g2, g3⟩ := i'.view.lst hH
    obtain ⟨w, hw, hw'⟩ := get_of g2 hv
    refine wpAny_pyNext_enum_item he' hit' ⟨_, g1, rfl, q, rfl⟩ hw hei fun h₁ heo hit₁ ht₁ hz₁ hk₁ => ?_
    refine wpAny_letOwnedTupleGo_enum heo fun h₂ he₂ hs₂ => ?_
    replace hs₂ : Heap.SameBut e h₁ h₂ := hs₂
    have heH : e < s'.heap.objs.size := Heap.lt_size he'
    have hne₁ : s'.heap.objs.size ≠ e := Nat.ne_of_gt heH
    have ht₂ : h₂.IsTuple s'.heap.objs.size #[.int k s'.toks, w] := ⟨_, (hs₂.2 _ hne₁).trans ht₁, rfl, _, rfl⟩
    refine wpAny_assign_Tuple bd.hh ht₂ rfl rfl fun h₃ hx₃ => ?_
    replace hx₃ : Heap.ExtBut h₂.objs.size h₂ h₃ := hx₃
    have up : ∀ b o, h₂.get? b = some o → h₃.get? b = some o := fun b o ho => hx₃ b o (Nat.ne_of_lt (Heap.lt_size ho)) ho
    have all : ∀ b o, ¬ (b = e ∨ b = it) → s'.heap.get? b = some o → h₃.get? b = some o := fun b o hb ho =>
      up b o (hs₂.extBut b o (fun q => hb (.inl q)) (hk₁ b o (fun q => hb (.inl q)) (fun q => hb (.inr q)) ho))
    have he₃ : IsEnum h₃ e it ((k : Int) + 1) w := up _ _ he₂
    have hit₃ : h₃.IsListIter it a (k + 1) := (hit₁.extBut hs₂.extBut (Ne.symm hei)).at fun o ho => up _ _ ho
    have i₃ : Inn C env ns σ' H' { s' with heap := h₃, toks := s'.toks + 1 } := i'.sameX hX' all
    have f₃ : Frm C (fun b => b = env.locals ∨ (b = e ∨ b = it)) H' H' s' { s' with heap := h₃, toks := s'.toks + 1 } :=
      ⟨⟨rfl, rfl, rfl⟩, fun b o hb e hn => ⟨all b o (fun q => hb (.inr q)) e, hn⟩, i₃.keep, i₃.view⟩
    refine WP.toE (assignOrder eo [i, j] [.Name x px, .Name y py] [.int k s'.toks, w] σ' H' _ _ (names2 hx hy) rfl i₃ fun s₄ f₄ i₄ => ?_)
    rw [show setMany σ' [i, j] (List.map er [.int k s'.toks, w]) = ((σ'.set i (some (I k))).set j (some (er w))) from rfl, hw'] at i₄
    obtain ⟨oi, hoi, ri⟩ := id hit₃
    have e₄ := f₄.old e _ (hX' e (.inl rfl)).2.2 he₃ (hn' e (.inl rfl))
    have t₄ := f₄.old it _ (hX' it (.inr rfl)).2.2 hoi (hn' it (.inr rfl))
    have f₀₄ : Frm C (fun b => b = env.locals ∨ (b = e ∨ b = it)) H0 H' s0 s₄ := (f'.trans f₃).trans ⟨f₄.same, fun b o hb e hn => f₄.old b o (fun q => hb (.inl q)) e hn, f₄.keep, f₄.view⟩
    refine WP.toE (wpAny_mono (ih body _ H' _ R hb hp A s₄ bd i₄) (fun fl s₅ h₅ => ?_) fun _ _ x => x)
    cases fl with
    | next =>
      obtain ⟨σ₅, H₅, f₅, i₅, j₅⟩ := h₅
      have e₅ := f₅.old e _ (hX' e (.inl rfl)).2.2 e₄.1 e₄.2
      have t₅ := f₅.old it _ (hX' it (.inr rfl)).2.2 t₄.1 t₄.2
      refine ⟨xs.length - (k + 1), by omega, k + 1, w, σ₅, H₅, rfl, hlt, f₀₄.trans ⟨f₅.same, fun b o hb e hn => f₅.old b o (fun q => hb (.inl q)) e hn, f₅.keep, f₅.view⟩, i₅, j₅, ?_, ⟨oi, t₅.1, ri⟩, ?_⟩
      · have : ((k + 1 : Nat) : Int) = (k : Int) + 1 := by push_cast; rfl
        rw [this]; exact e₅.1
      · rintro b (rfl | rfl)
        · exact e₅.2
        · exact t₅.2
    | ret v =>
      obtain ⟨H₅, f₅, q⟩ := h₅
      exact ⟨H₅, close (f₀₄.trans ⟨f₅.same, fun b o hb e hn => f₅.old b o (fun q => hb (.inl q)) e hn, f₅.keep, f₅.view⟩), q⟩
    | brk => exact h₅.elim
    | cont => exact h₅.elim
  · have hk' : k = xs.length := by omega
    subst hk'
    obtain ⟨hH, hN⟩ := fin σ' H' j'
    obtain ⟨vs, q, g1, g2, g3⟩ := i'.view.lst hH
    refine wpAny_pyNext_enum_end bd.hh he' hit' ⟨_, g1, rfl, q, rfl⟩ (by rw [Array.getElem?_eq_none_iff, len_of g2]; exact Nat.le_refl _) fun h' hs => ?_
    have all : ∀ b o, ¬ (b = e ∨ b = it) → s'.heap.get? b = some o → h'.get? b = some o := fun b o hb ho => hs b o (fun q => hb (.inr q)) ho
    have i₁ : Inn C env ns σ' H' { s' with heap := h', toks := s'.toks } := i'.sameX hX' all
    refine wpAny_execs_nil ?_
    exact ⟨σ', H', close (f'.trans ⟨⟨rfl, rfl, rfl⟩, fun b o hb e hn => ⟨all b o (fun q => hb (.inr q)) e, hn⟩, i₁.keep, i₁.view⟩), i₁, hN⟩
end
end

section
section
variable {C : WC} {env : Env} {ns : List Str} {GT : List (Str × Value)} {n : Nat}

theorem RangeOf.cnt {vs : List Value} {lo : Int} {cnt : Nat} {step : Int} (h : RangeOf vs lo cnt step) : cnt < 2000000000 := by
  cases h <;> lia

theorem size_down (a : Int) : Builtin.Range.rangeSize a (-1) (-1) = ((a + 1).toNat : Nat) := by
  unfold Builtin.Range.rangeSize
  simp only [show ¬ ((-1 : Int) > 0) by decide, if_false, Int.neg_neg, Int.ediv_one]
  split <;> lia
theorem small_down {a : Int} (h : a < 1000000000) (h' : a ≥ -1000000000) : Builtin.Range.small a (-1) (-1) = true := by
  unfold Builtin.Range.small
  rw [size_down]
  simp only [Builtin.Range.rangeFitsLong, Bool.and_eq_true, Bool.or_eq_true, decide_eq_true_eq, beq_iff_eq, show ¬ ((-1 : Int) > 0) by decide, if_false]
  lia

theorem call_range {A : Around} {s : Shared} {H : PH} {vs : List Value} {ws : List Value} {lo : Int} {cnt : Nat} {step : Int} (h : RangeOf vs lo cnt step) (e : ws.map er = vs) (k : Keep C s.heap) (v : View C H s.heap) :
    WP C A (call (.type "range") ws []) (fun v s' => ∃ r a b c t u w, v = .ref r ∧ IsRange s'.heap r a b c t u w ∧ Builtin.Range.small a b c = true ∧ a = lo ∧ c = step ∧ Builtin.Range.rangeSize a b c = cnt ∧ Frm C NoX H H s s') s := by
  cases h with
  | one b h0 h =>
    obtain ⟨x, rfl, ex⟩ := one_arg e
    obtain ⟨t, rfl⟩ := er_int ex
    refine call_range_1 ?_
    refine ⟨_, 0, b, 1, _, _, _, rfl, IsRange.new .., small_one (by decide) (by decide) (by lia) (by lia), rfl, rfl, ?_, Frm.grow k v fun _ _ e => Heap.get?_push_of_some _ e⟩
    rw [rangeSize_one]; split <;> lia
  | two a b h0 h h' h2 =>
    obtain ⟨x, y, rfl, ex, ey⟩ := two_args e
    obtain ⟨t, rfl⟩ := er_int ex
    obtain ⟨u, rfl⟩ := er_int ey
    refine call_range_2 ?_
    refine ⟨_, lo, b, 1, _, _, _, rfl, IsRange.new .., small_one (by lia) (by lia) (by lia) (by lia), rfl, rfl, ?_, Frm.grow k v fun _ _ e => Heap.get?_push_of_some _ e⟩
    rw [rangeSize_one]; split <;> lia
  | down a h0 h =>
    obtain ⟨p, l, rfl, e1, e2⟩ := List.map_eq_cons_iff.mp e
    obtain ⟨x, y, rfl, ex, ey⟩ := two_args e2
    obtain ⟨t, rfl⟩ := er_int e1
    obtain ⟨u, rfl⟩ := er_int ex
    obtain ⟨w, rfl⟩ := er_int ey
    refine call_range_3 (by decide) ?_ (.inl (PyProof.noPylong_small (by decide)))
    exact ⟨_, lo, -1, -1, _, _, _, rfl, IsRange.new .., small_down h (by lia), rfl, rfl, size_down lo, Frm.grow (tk := s.toks) k v fun _ _ e => Heap.get?_push_of_some _ e⟩

theorem nmOk_len : ∀ (is : List Nat) (xs : List Str), nmOk ns is xs → xs.length = is.length
  | [], xs, h => by cases h; rfl
  | i :: is, xs, h => by obtain ⟨x, r, rfl, _, h⟩ := h; rw [List.length_cons, List.length_cons, nmOk_len is r h]
theorem fold_name {v : Expr} (h : isName v = true) (env : Env) (x : Value) : foldedSetIterable v env x = pure x := by
  cases v <;> first | rfl | cases h

theorem postN {m : Sem Flow} {A : Around} {H : PH} {s : Shared} {N : Lo → PH → Prop} {R : Value → PH → Prop} {Q : Flow → Shared → Prop} (h : WP C A m (PostS C env ns H s N R) s) (k : ∀ s₁ σ₁ H₁, Frm C (AtX env.locals) H H₁ s s₁ → Inn C env ns σ₁ H₁ s₁ → N σ₁ H₁ → Q .next s₁)
    (r : ∀ v s₁ H₁, Frm C (AtX env.locals) H H₁ s s₁ → R (er v) H₁ → Q (.ret v) s₁) : WP C A m Q s :=
  wpAny_mono h (fun fl s₁ h => by
    cases fl with
    | next => exact h.elim fun σ₁ h => h.elim fun H₁ h => k s₁ σ₁ H₁ h.1 h.2.1 h.2.2
    | ret v => exact h.elim fun H₁ h => r v s₁ H₁ h.1 h.2
    | brk => exact h.elim
    | cont => exact h.elim) fun _ _ x => x
theorem not_tt {b : Bool} (h : (!b) = true) : b = false := (Bool.not_eq_true' _).mp h
theorem glob_at {T : String} {sc : Scope} {y : Str} (h : isGl T sc GT y = true) : y = Str.ofString T ∧ sc.names.lookup y = some .globalImplicit ∧ GT.lookup y = some (.type T) :=
  and_k h fun h h3 => and_k h fun h1 h2 => ⟨of_decide_eq_true h1, of_decide_eq_true h2, of_decide_eq_true h3⟩

/-- a tuple, stored into names -/
theorem asgT_core {A : Around} {is : List Nat} {ts : List Expr} {k : Nat} {p : Pos} {σ : Lo} {H H₁ : PH} {s s₁ : Shared} {N : Lo → PH → Prop} {R : Value → PH → Prop} {t : Addr} {ws : Array Value} {m : Nat} (bd : Bud n A) (eo : EnvOk C env ns) (i₁ : Inn C env ns σ H₁ s₁)
    (f₁ : Frm C NoX H H₁ s s₁) (h1 : namesOk ns is ts = true) (ht : s₁.heap.get? t = some ⟨.type "tuple", none, .seq ws m, #[]⟩) (hl : ws.toList.length = is.length) (hN : N (setMany σ is (ws.toList.map er)) H₁) :
    WP C A (assign (.Tuple ts k p) env (.ref t)) (fun _ s' => PostS C env ns H s N R .next s') s₁ := by
  obtain ⟨q1, q2⟩ := assignEach_len (env := env) is ts h1
  refine wpAny_assign_Tuple bd.hh ⟨_, ht, rfl, _, rfl⟩ (by rw [q1]; simpa using hl.symm) q2 fun h' hx' => ?_
  have f₂ : Frm C NoX H₁ H₁ s₁ { s₁ with heap := h', toks := s₁.toks } := Frm.grow f₁.keep f₁.view fun b o e => hx' b o (Nat.ne_of_lt (Heap.lt_size e)) e
  exact assignOrder eo is ts ws.toList σ H₁ _ _ h1 hl (i₁.frm f₂) fun s₃ f₃ i₃ => ⟨_, H₁, (f₁.trans f₂).weak.trans f₃, i₃, hN⟩
mutual
theorem sS (eo : EnvOk C env ns) (gl : GlobsE C env GT) (hint : interactive env = false) : ∀ (p : PS) (x : Stmt) (σ : Lo) (H : PH) (N : Lo → PH → Prop) (R : Value → PH → Prop), isS env.scope ns GT p x = true → pS C n p σ H N R →
    ∀ (A : Around) (s : Shared), Bud n A → Inn C env ns σ H s → WP C A (exec x env) (PostS C env ns H s N R) s
  | .asg i e, x, σ, H, N, R, hx, h, A, s, bd, i0 => atA_inv x hx fun ts v q hx => and_k hx fun hx h3 => and_k hx fun hx h2 => onCons_inv ts hx fun t ts hx => and_k hx fun h0 hx => onNil_inv ts h0 (onN_inv t hx fun y p h1 => by
    refine wpAny_Assign_Name ?_ (swWith (Bool.or_eq_true_iff.mp h3) _ _)
    exact postE (sE eo gl e _ H _ h2 h A s bd i0) fun v s₁ H₁ f₁ g₁ => storeLocal eo (i0.frm f₁) (of_decide_eq_true h1) fun s₂ f₂ i₂ => ⟨_, H₁, f₁.weak.trans f₂, i₂, g₁⟩)
  | .asgD is es, x, σ, H, N, R, hx, h, A, s, bd, i0 => atA_inv x hx fun ts v q hx => onCons_inv ts hx fun t ts' hx => and_k hx fun h0 hx => onNil_inv ts' h0 (onT_inv t hx fun ts k tpos hx => onT_inv v hx fun vs k' vpos hx =>
      and_k hx fun hx h5 => and_k hx fun hx h4 => and_k hx fun hx h3 => and_k hx fun h1 h2 => by
    replace h3 := of_decide_eq_true h3
    have hval : ∀ {Q : Value → Shared → Prop}, (∀ (t : Addr) (ws : List Value) (s₁ : Shared) (H₁ : PH), Frm C NoX H H₁ s s₁ → s₁.heap.get? t = some ⟨.type "tuple", none, .seq ws.toArray 0, #[]⟩ → ws.length = is.length → N (setMany σ is (ws.map er)) H₁ → Q (.ref t) s₁) →
        WP C A (eval (.Tuple vs k' vpos) env) Q s := fun hq =>
      wpAny_Tuple (postL (sEs eo gl es _ _ H _ h4 h A s bd i0) fun ws s₁ H₁ f₁ g₀ g₁ =>
        ⟨by rw [g₀, h3.1, sizeLine_eq]; have := h3.2; lia, hq _ ws _ H₁ (f₁.trans (Frm.grow (tk := s₁.toks) f₁.keep f₁.view fun _ _ e => Heap.get?_push_of_some _ e)) (Heap.get?_push_size _ rfl) (g₀.trans h3.1) g₁⟩)
    rcases swapped_cases (k := k) (k' := k') (p := tpos) (p' := vpos) eo h1 h3.1 ((Bool.or_eq_true_iff.mp h5).imp not_tt id) with hw | ⟨xs, hw, hm, hl⟩
    · exact Assign_Tuple (hval fun t ws s₁ H₁ f₁ ht hlen hN => asgT_core bd eo (i0.frm f₁) f₁ h1 ht hlen hN) (swSole (.inr rfl) _) hw
    · refine Assign_Tuple_swapped (hval fun t ws s₁ H₁ f₁ ht hlen hN => ?_) (swSole (.inr rfl) _) hw
      rw [show xs.length = ws.toArray.size from (nmOk_len _ _ hm).trans hlen.symm]
      refine wpAny_unpackItems_tuple bd.hh ⟨_, ht, rfl, _, rfl⟩ fun h' hx' => ?_
      have f₂ : Frm C NoX H₁ H₁ s₁ { s₁ with heap := h', toks := s₁.toks } := Frm.grow f₁.keep f₁.view fun b o e => hx' b o (Nat.ne_of_lt (Heap.lt_size e)) e
      refine bindOrder eo is.reverse xs.reverse ws.reverse σ H₁ _ _ (nmOk_rev2 hm hl) (by simpa using hlen) ((i0.frm f₁).frm f₂) fun s₃ f₃ i₃ => ?_
      rw [List.map_reverse, setMany_rev (of_decide_eq_true h2) hl (by simpa using hlen)] at i₃
      exact ⟨_, H₁, (f₁.trans f₂).weak.trans f₃, i₃, hN⟩)
  | .asgT is e, x, σ, H, N, R, hx, h, A, s, bd, i0 => atA_inv x hx fun ts v q hx => and_k hx fun hx h3 => and_k hx fun hx h2 => onCons_inv ts hx fun t ts' hx => and_k hx fun h0 hx => onNil_inv ts' h0 (onT_inv t hx fun ts k tpos h1 => by
    refine Assign_Tuple (postE (sE eo gl e _ H _ h2 h A s bd i0) fun v s₁ H₁ f₁ g₁ => ?_) (swSole (.inl h3) _) (swStores h3 _ _ _)
    obtain ⟨a, vs, e1, e2, e3, e4⟩ := g₁
    cases er_ref e1
    obtain ⟨ws, m, k1, k2, k3⟩ := f₁.view.tup e2
    refine asgT_core bd eo (i0.frm f₁) f₁ h1 k1 (by rw [← e3, ← k2, List.length_map]) ?_
    rw [k2]; exact e4)
  | .seti o i e, x, σ, H, N, R, hx, h, A, s, bd, i0 => atA_inv x hx fun ts v q hx => and_k hx fun hx h4 => and_k hx fun hx h3 => onCons_inv ts hx fun t ts' hx => and_k hx fun h0 hx => onNil_inv ts' h0 (onS_inv t hx fun o' i' p hx => and_k hx fun h1 h2 =>
    wpAny_Assign_Subscript (postE (sE eo gl e _ H _ h3 h A s bd i0) fun v s₁ H₁ f₁ g₁ => postE (sE eo gl o _ H₁ _ h1 g₁ A s₁ bd (i0.frm f₁)) fun a s₂ H₂ f₂ g₂ => postE (sE eo gl i _ H₂ _ h2 g₂ A s₂ bd ((i0.frm f₁).frm f₂)) fun k s₃ H₃ f₃ g₃ =>
      wpAny_mono (g₃.ok A s₃ a k v (bd.mono (Nat.zero_le _)) f₃.keep f₃.view rfl rfl rfl) (fun _ s₄ h => h.elim fun H₄ h => ⟨σ, H₄, (((f₁.trans f₂).trans f₃).trans h.1).weak, (((i0.frm f₁).frm f₂).frm f₃).frm h.1, h.2⟩) fun _ _ x => x) (swWith (.inl h4) _ _))
  | .aug i op e, x, σ, H, N, R, hx, h, A, s, bd, i0 => atG_inv x hx fun t op' v q hx => and_k hx fun hx h3 => and_k hx fun h1 h2 => onN_inv t h1 fun y p h1 => by
    cases of_decide_eq_true h2
    replace h1 := of_decide_eq_true h1
    obtain ⟨old, hold, h⟩ := lk_get h
    obtain ⟨u, rfl, hl⟩ := loadLocal (A := A) eo i0 h1 hold
    exact wpAny_AugAssign_Name (hl (postE (sE eo gl e _ H _ h3 h A s bd i0) fun v s₁ H₁ f₁ g₁ => postE (K := fun r H => N (σ.set i (some r)) H) (g₁.ok A s₁ u v (bd.mono (Nat.zero_le _)) f₁.keep f₁.view rfl rfl) fun r s₂ H₂ f₂ g₂ =>
      storeLocal eo ((i0.frm f₁).frm f₂) h1 fun s₃ f₃ i₃ => ⟨_, H₂, (f₁.trans f₂).weak.trans f₃, i₃, g₂⟩))
  | .expr e, x, σ, H, N, R, hx, h, A, s, bd, i0 => atE_inv x hx fun v q hx => and_k hx fun h1 h2 =>
    wpAny_Expr (postE (sE eo gl e _ H _ h1 h A s bd i0) fun v s₁ H₁ f₁ g₁ => er_none g₁.1 ▸ ⟨σ, H₁, f₁.weak, i0.frm f₁, g₁.2⟩) hint (swWith (.inl h2) _ _)
  | .ifs t b o, x, σ, H, N, R, hx, h, A, s, bd, i0 => atI_inv x hx fun t' b' o' q hx => and_k hx fun hx h3 => and_k hx fun h1 h2 =>
    wpAny_If (postB (sT eo gl t _ H _ h1 h A s bd i0) fun c s₁ H₁ f₁ g₁ => by
    cases c with
    | false => exact postS f₁.weak (sSs eo gl hint o _ σ H₁ N R h3 g₁ A s₁ bd (i0.frm f₁))
    | true => exact postS f₁.weak (sSs eo gl hint b _ σ H₁ N R h2 g₁ A s₁ bd (i0.frm f₁)))
  | .whl t b, x, σ, H, N, R, hx, h, A, s, bd, i0 => atW_inv x hx fun t' b' o' q hx => and_k hx fun hx h2 => and_k hx fun h0 h1 => onNil_inv o' h0 (by
    obtain ⟨J, ⟨k₀, j₀⟩, turn⟩ := h
    refine wpAny_While (codeAny_whileLoop (fun k s' => ∃ σ' H', Frm C (AtX env.locals) H H' s s' ∧ Inn C env ns σ' H' s' ∧ J k σ' H') ?_ k₀ ⟨σ, H, Frm.refl i0.keep i0.view, i0, j₀⟩)
    rintro k s' ⟨σ', H', f', i', j'⟩
    refine WP.toE (postB (sT eo gl t _ H' _ h1 (turn k σ' H' j') A s' bd i') fun c s₁ H₁ f₁ g₁ => ?_) |> fun z => z
    cases c with
    | true =>
      exact WP.toE (postN (sSs eo gl hint b _ σ' H₁ _ R h2 g₁ A s₁ bd (i'.frm f₁)) (fun s₂ σ₂ H₂ f₂ i₂ j => j.elim fun k' j => ⟨k', j.1, σ₂, H₂, (f'.trans f₁.weak).trans f₂, i₂, j.2⟩) fun v s₂ H₂ f₂ q => ⟨H₂, (f'.trans f₁.weak).trans f₂, q⟩)
    | false => exact wpAny_execs_nil ⟨σ', H₁, f'.trans f₁.weak, i'.frm f₁, g₁⟩)
  | .forR i es b, x, σ, H, N, R, hx, h, A, s, bd, i0 => atF_inv x hx fun t v b' o' q hx => and_k hx fun hx h6 => and_k hx fun hx hv => and_k hx fun h0 h1 => onNil_inv o' h0 (onN_inv t h1 fun X p h1 => onK_inv v hv fun g args kw r hx => and_k hx fun hx h5 => and_k hx fun h0 hg =>
      onNil_inv kw h0 (onN_inv g hg fun Y q hg => by
    obtain ⟨rfl, h3, h4⟩ := glob_at hg
    obtain ⟨u, hu, hl⟩ := loadGlob (A := A) eo gl i0.keep h3 h4
    cases er_type hu
    refine wpAny_For (Call_ (hl (callWith_ok (isEs_star _ _ _ _ h5) (postL (sEs eo gl es _ _ H _ h5 h A s bd i0) fun vs s₁ H₁ f₁ g₀ g => ⟨fun Q' hk => wpAny_pure (hk _), ?_⟩)))) (fun _ => rfl)
    obtain ⟨lo, cnt, step, hr, J, j0, turn, fin⟩ := g
    refine wpAny_mono (call_range hr rfl f₁.keep f₁.view) (fun v s₂ h => ?_) fun _ _ x => x
    obtain ⟨r, a, b', c, t, u, w, rfl, e2, e3, rfl, rfl, e6, f₂⟩ := h
    refine wpAny_pyIter_range e2 e3 (codeAny_mono (for_new eo (iter_range (lo := a) (step := c) hr.cnt) (of_decide_eq_true h1) h6 (sSs eo gl hint b) (J := J) (N := N) (R := R) j0 (fun k v σ H hlt hv hj => ?_) (fun _ _ _ _ _ => trivial) fin bd ((i0.frm f₁).frm f₂) rfl ?_) (endS (f₁.trans f₂).weak))
    · subst hv; exact turn k σ H hlt hj
    · rw [e6]
      have : IsRangeIter (s₂.heap.push { cls := .type "range_iterator", data := .fields #[rawInt a, rawInt (cnt : Int), rawInt c] }) s₂.heap.objs.size a cnt c := Heap.get?_push_size _ rfl
      simpa using this))
  | .forL i e b, x, σ, H, N, R, hx, h, A, s, bd, i0 => atF_inv x hx fun t v b' o' q hx => and_k hx fun hx h4 => and_k hx fun hx h3 => and_k hx fun hx h2 => and_k hx fun h0 h1 => onNil_inv o' h0 (onN_inv t h1 fun X p h1 => by
    refine wpAny_For (postE (sE eo gl e _ H _ h2 h A s bd i0) fun v s₁ H₁ f₁ g => ?_) (fold_name h3 _)
    obtain ⟨a, o, xs, e1, e2, e3, J, j0, turn, fin⟩ := g
    cases er_ref e1
    have held : ∀ k σ H, k ≤ xs.length → J k σ H → H a = some o := fun k σ H hk hj => by
      by_cases hlt : k < xs.length
      · exact (turn k _ σ H (List.getElem?_eq_getElem hlt) hj).1
      · have : k = xs.length := Nat.le_antisymm hk (Nat.le_of_not_lt hlt)
        subst this; exact (fin σ H hj).1
    cases o with
    | raw ob => cases e3
    | lst ys =>
      cases e3
      obtain ⟨vs, m, k1, k2, k3⟩ := f₁.view.lst e2
      exact wpAny_pyIter_list ⟨_, k1, rfl, m, rfl⟩ (codeAny_mono (for_new eo (iter_list (a := a) (xs := xs)) (of_decide_eq_true h1) h4 (sSs eo gl hint b) (J := J) (N := N) (R := R) j0 (fun k v σ H hlt hv hj => (turn k v σ H hv hj).2) held (fun σ H hj => (fin σ H hj).2) bd (i0.frm f₁) rfl
        ⟨_, Heap.get?_push_size _ rfl, rfl, rfl⟩) (endS f₁.weak))
    | tup ys =>
      cases e3
      obtain ⟨vs, m, k1, k2, k3⟩ := f₁.view.tup e2
      exact iter_tuple ⟨_, k1, rfl, m, rfl⟩ (codeAny_mono (for_new eo (iter_tup (a := a) (xs := xs)) (of_decide_eq_true h1) h4 (sSs eo gl hint b) (J := J) (N := N) (R := R) j0 (fun k v σ H hlt hv hj => (turn k v σ H hv hj).2) held (fun σ H hj => (fin σ H hj).2) bd (i0.frm f₁) rfl
        ⟨_, Heap.get?_push_size _ rfl, rfl, rfl⟩) (endS f₁.weak)))
  | .forE i j e b, x, σ, H, N, R, hx, h, A, s, bd, i0 => atF_inv x hx fun t v b' o' q hx => and_k hx fun hx h9 => and_k hx fun hx hv => and_k hx fun h0 ht => onNil_inv o' h0 (onT_inv t ht fun ts k tp ht => and_k ht fun h3 ht => names2_inv ts ht fun X p X' p' h1 h2 =>
      onK_inv v hv fun g args kw r hx => and_k hx fun hx ha => and_k hx fun h0 hg => onNil_inv kw h0 (onN_inv g hg fun Y q hg => onCons_inv args ha fun v as ha => and_k ha fun ha h8 => and_k ha fun h0 h7 => onNil_inv as h0 (by
    obtain ⟨rfl, h5, h6⟩ := glob_at hg
    obtain ⟨u, hu, hl⟩ := loadGlob (A := A) eo gl i0.keep h5 h6
    cases er_type hu
    refine wpAny_For (Call_ (hl (callWith_ok (by rw [star_no h8]; rfl) (wpAny_items_cons (postE (sE eo gl e _ H _ h7 h A s bd i0) fun v s₁ H₁ f₁ g => wpAny_items_nil ⟨fun Q' hk => wpAny_pure (hk _), ?_⟩) (star_no h8 _ _))))) (fun _ => rfl)
    obtain ⟨a, xs, e1, e2, J, j0, turn, fin⟩ := g
    cases er_ref e1
    obtain ⟨vs, m, k1, k2, k3⟩ := f₁.view.lst e2
    refine call_enumerate_1 k1 fun h' he hit hz hk => wpAny_pyIter_enum he ?_
    have f₂ : Frm C NoX H₁ H₁ s₁ { s₁ with heap := h', toks := s₁.toks } := Frm.grow f₁.keep f₁.view hk
    have hlt : ∀ b o, s₁.heap.get? b = some o → b < s₁.heap.objs.size := fun b o e => Heap.lt_size e
    refine codeAny_mono (enum_ok eo (Nat.succ_ne_self _) h1 h2 h9 (sSs eo gl hint b) (J := J) (N := N) (R := R) j0 turn fin bd ((i0.frm f₁).frm f₂) (fun b hb => ?_) he hit (s0 := s₁) (H0 := H₁) f₂.weak (fun b o hb e => ?_)) (endS f₁.weak)
    · have hge : s₁.heap.objs.size ≤ b := by rcases hb with rfl | rfl <;> first | exact Nat.le_succ _ | exact Nat.le_refl _
      refine ⟨f₁.view.none_of_size _ hge, f₁.keep.none_at hge, fun q => ?_⟩
      obtain ⟨l1, mm, ⟨ob, es, ep, ho, r⟩, hm⟩ := (i0.frm f₁).loc
      exact absurd (hlt _ _ ho) (Nat.not_lt.mpr (q ▸ hge))
    · have := hlt _ _ e
      rcases hb with rfl | rfl
      · exact Nat.lt_irrefl _ (Nat.lt_of_succ_lt this)
      · exact Nat.lt_irrefl _ this)))
  | .ret e, x, σ, H, N, R, hx, h, A, s, bd, i0 => atR_inv x hx fun v q hx => by
    cases v with
    | none => exact no_ff hx
    | some v => exact wpAny_Return_some (postE (sE eo gl e _ H _ hx h A s bd i0) fun v s₁ H₁ f₁ g₁ => ⟨H₁, f₁.weak, g₁⟩)
  | .rais, x, σ, H, N, R, hx, h, A, s, bd, i0 => False.elim h
theorem sSs (eo : EnvOk C env ns) (gl : GlobsE C env GT) (hint : interactive env = false) : ∀ (p : PSs), GoodS C env ns GT n p
  | .nil, xs, σ, H, N, R, hx, h, A, s, bd, i0 => onNil_inv xs hx (wpAny_execs_nil ⟨σ, H, Frm.refl i0.keep i0.view, i0, h⟩)
  | .cons p r, xs, σ, H, N, R, hx, h, A, s, bd, i0 => onCons_inv xs hx fun x xs hx => and_k hx fun h1 h2 =>
    wpAny_execs_cons (postN (sS eo gl hint p x σ H _ R h1 h A s bd i0) (fun s₁ σ₁ H₁ f₁ i₁ g₁ => postS f₁ (sSs eo gl hint r xs σ₁ H₁ N R h2 g₁ A s₁ bd i₁)) fun v s₁ H₁ f₁ q => ⟨H₁, f₁, q⟩)
end
end
end

section

theorem lookup_rev (x : Str) : ∀ l : List (Str × Value), (l.map (·.1)).Nodup → l.reverse.lookup x = l.lookup x
  | [], _ => rfl
  | (k, v) :: t, h => by
    rw [List.map_cons, List.nodup_cons] at h
    rw [List.reverse_cons, List.lookup_append, lookup_rev x t h.2, List.lookup_cons, List.lookup_cons]
    by_cases hx : x = k
    · subst hx
      have hn : t.lookup x = none := by
        rw [List.lookup_eq_none_iff]
        intro p hp
        have : p.1 ∈ t.map (·.1) := List.mem_map.mpr ⟨p, hp, rfl⟩
        by_cases q : x = p.1
        · subst q; exact absurd this h.1
        · simp [q]
      simp [hn]
    · have hb : (x == k) = false := beq_eq_false_iff_ne.mpr hx
      simp [hb]
theorem lookup_zip : ∀ (ps : List Str) (args : List Value) (rest : List Str), (ps ++ rest).Nodup → args.length = ps.length → ∀ (i : Nat) (x : Str), (ps ++ rest)[i]? = some x →
    some (((ps.zip args).lookup x).map er) = (args.map (fun v => some (er v)) ++ List.replicate rest.length none)[i]?
  | [], [], rest, hn, _, i, x, hx => by
    simp only [List.nil_append] at hx
    have hi := (List.getElem?_eq_some_iff.mp hx).1
    simp [List.getElem?_replicate, hi]
  | [], _ :: _, _, _, h, _, _, _ => by cases h
  | _ :: _, [], _, _, h, _, _, _ => by cases h
  | p :: ps, a :: args, rest, hn, hl, i, x, hx => by
    rw [List.cons_append, List.nodup_cons] at hn
    cases i with
    | zero =>
      simp only [List.cons_append, List.getElem?_cons_zero, Option.some.injEq] at hx
      subst hx
      simp [List.lookup_cons]
    | succ i =>
      simp only [List.cons_append, List.getElem?_cons_succ] at hx
      have hne : (x == p) = false := beq_eq_false_iff_ne.mpr fun q => hn.1 (q ▸ List.mem_of_getElem? hx)
      have ih := lookup_zip ps args rest hn.2 (by simpa using hl) i x hx
      simpa [List.lookup_cons, hne] using ih

structure FnAt (C : WC) (a : Addr) (q : Str) (ps : List Str) (body : List Stmt) (sc : Scope) : Prop where
  fn : ∃ o fd, C.hb.get? a = some o ∧ o.data = .func fd ∧ fd.qualname = q ∧ fd.body = .stmts body ∧ fd.scope = sc ∧ fd.globals = mainGlobals ∧ fd.closure = [] ∧ fd.builtins = builtinsNs ∧ C.hb.CodeRec fd.code q ∧
    ∀ args : List Value, args.length = ps.length → bindArgs fd ⟨args, []⟩ = pure (ps.zip args)

/-- what is looked up of a scope, once -/
structure ScOk (sc : Scope) (ns : List Str) : Prop where
  kind : sc.kind = .function
  co : sc.isCoroutine = false
  gen : sc.isGenerator = false
  cell : ∀ x ∈ sc.names, x.2 ≠ .cell
  loc : ∀ (i : Nat) (x : Str), ns[i]? = some x → sc.names.lookup x = some .local ∧ (x == ("__debug__" : Str)) = false
  nd : ns.Nodup

noncomputable def scOk (sc : Scope) (ns : List Str) : Bool :=
  (sc.kind == .function) && !sc.isCoroutine && !sc.isGenerator && sc.names.all (fun x => x.2 != .cell) && ns.all (fun x => decide (sc.names.lookup x = some .local) && !(x == ("__debug__" : Str))) && decide ns.Nodup
theorem scOk_ok {sc : Scope} {ns : List Str} (h : scOk sc ns = true) : ScOk sc ns := by
  unfold scOk at h
  simp only [Bool.and_eq_true, Bool.not_eq_true', List.all_eq_true, bne_iff_ne, ne_eq, decide_eq_true_eq, beq_iff_eq] at h
  obtain ⟨⟨⟨⟨⟨h1, h2⟩, h3⟩, h4⟩, h5⟩, h6⟩ := h
  exact ⟨h1, h2, h3, h4, fun i x hx => h5 x (List.mem_of_getElem? hx), h6⟩

theorem Bud.depth0 {n : Nat} {A : Around} (b : Bud n A) : A.depth < recursionLimit := by have := b.depth; show A.depth < 1000; omega

theorem fn_ok {C : WC} {GT : List (Str × Value)} {n : Nat} {a : Addr} {q : Str} {ps rest : List Str} {body : List Stmt} {sc : Scope} {b : PSs} (fa : FnAt C a q ps body sc) (gl : Globs C GT)
    (hs : ScOk sc (ps ++ rest)) (hb : isSs sc (ps ++ rest) GT b body = true) {args : List Value} {H : PH} {Q : Value → PH → Prop} (hl : args.length = ps.length)
    (h : pSs C n b (args.map some ++ List.replicate rest.length none) H (fun _ H' => Q .none H') Q) : CallOk C (n + 1) (.ref a) args H Q :=
  ⟨fun A s f' args' bd k v ef ea => by
    obtain rfl := er_ref ef
    obtain ⟨o, fd, ho, hd, e1, e2, e3, e4, e5, e6, hcd, hbind⟩ := fa.fn
    refine ⟨fun Q' hk => ?_, ?_⟩
    · unfold keeperOf
      refine wpAny_bind (wpAny_load (k.k _ _ ho) ?_)
      rw [hd]; exact wpAny_pure (hk _)
    have hl' : args'.length = ps.length := by rw [← hl, ← ea]; simp
    refine wpAny_call (codeAny_call_function bd.depth0 (k.k _ _ ho) hd (by rw [e3]; exact hs.co) (by rw [e3]; exact hs.gen) e2 (by rw [e1]; exact hcd.keeps k.k) ?_)
    rw [hbind _ hl']
    refine wpAny_pure ?_
    have hloc : ∀ x ∈ ps.zip args', sc.names.lookup x.1 = some .local := fun x hx => by
      obtain ⟨i, hi⟩ := List.getElem?_of_mem (List.of_mem_zip hx).1
      exact (hs.loc i x.1 (by rw [List.getElem?_append_left (List.getElem?_eq_some_iff.mp hi).1]; exact hi)).1
    rw [e3]
    refine wpAny_newFunctionEnv hs.cell hloc (fun h₁ hns hsb => ⟨C.lim.keeps k.k |>.fresh _ hsb, ?_⟩) hs.kind
    rw [e4, e5, e6]
    generalize henv : newEnv sc s.heap.objs.size mainGlobals [] _ (some a) fd.code none builtinsNs = env
    have hscope : env.scope = sc := by rw [← henv]; rfl
    have hL : env.locals = s.heap.objs.size := by rw [← henv]; rfl
    have eo : EnvOk C env (ps ++ rest) := ⟨by rw [hscope]; exact hs.kind, by rw [← henv]; rfl, by rw [← henv]; rfl, fun i x hx => by
      refine ⟨?_, (hs.loc i x hx).2⟩
      show env.scope.names.lookup x = _
      rw [hscope]; exact (hs.loc i x hx).1, hs.nd⟩
    have hint : interactive env = false := by unfold interactive; rw [hscope, hs.kind]; rfl
    have hk₁ : ∀ b o, s.heap.get? b = some o → h₁.get? b = some o := fun b o e => hsb.extBut b o (Nat.ne_of_lt (Heap.lt_size e)) (Heap.get?_push_of_some _ e)
    have f₁ : Frm C NoX H H s { s with heap := h₁, toks := s.toks + (ps.zip args').length } := Frm.grow k v hk₁
    have hLn : ∀ o, s.heap.get? env.locals ≠ some o := fun o e => by rw [hL] at e; exact Nat.lt_irrefl _ (Heap.lt_size e)
    have i₁ : Inn C env (ps ++ rest) (args.map some ++ List.replicate rest.length none) H { s with heap := h₁, toks := s.toks + (ps.zip args').length } := by
      refine ⟨f₁.keep, f₁.view, ⟨by simp [hl], _, by rw [hL]; exact hns, fun i x hx => ?_⟩, by rw [hL]; exact v.none_of_size _ (Nat.le_refl _), by rw [hL]; exact k.none_at (Nat.le_refl _)⟩
      have hnd : ((ps.zip args').map (·.1)).Nodup := by
        rw [List.map_fst_zip (by omega)]
        exact (List.nodup_append.mp hs.nd).1
      rw [lookup_rev x _ hnd, lookup_zip ps args' rest hs.nd hl' i x hx, ← ea, List.map_map]
      rfl
    have gle : GlobsE C env GT := gl.toE fun x v _ hk => by
      have hk' : env.scope.names.lookup x = some .cell := hk
      rw [hscope] at hk'
      exact hs.cell _ (mem_of_lookup hk') rfl
    refine codeAny_func ?_
    refine WP.toE (wpAny_mono (sSs eo gle hint b body _ H _ Q (by rw [hscope]; exact hb) h (A.deeper env) _ (bd.deeper env) i₁) (fun fl s₂ h₂ => ?_) fun _ _ x => x)
    have close : ∀ {H' : PH}, Frm C (AtX env.locals) H H' { s with heap := h₁, toks := s.toks + (ps.zip args').length } s₂ → Frm C NoX H H' s s₂ := fun f =>
      ⟨f₁.same.trans f.same, fun b o _ e hn => f.old b o (fun q => hLn o (q ▸ e)) (hk₁ b o e) hn, f.keep, f.view⟩
    cases fl with
    | next => obtain ⟨σ', H', f', i', q⟩ := h₂; exact ⟨H', close f', q⟩
    | ret v => obtain ⟨H', f', q⟩ := h₂; exact ⟨H', close f', q⟩
    | brk => exact h₂.elim
    | cont => exact h₂.elim⟩
end

section
noncomputable abbrev S (x : String) : Str := Str.ofString x
noncomputable def stAt (i : Nat) : Stmt := (PySem.Challenge.pw_nn0034_01.main.body[i]?).getD (.Pass default)
noncomputable def meAt (i j : Nat) : Stmt := match stAt i with
  | .ClassDef _ _ _ b .. => (b[j]?).getD (.Pass default)
  | _ => .Pass default
noncomputable def fBody : Stmt → List Stmt
  | .FunctionDef _ _ b .. => b
  | _ => []
noncomputable def fSc : Stmt → Scope
  | .FunctionDef _ _ _ _ _ _ sc .. => sc
  | _ => default
noncomputable def GT : List (Str × Value) := [
  (S "normal", .ref 58),
  (S "nat_of", .ref 65),
  (S "compare", .ref 72),
  (S "add", .ref 79),
  (S "sub", .ref 86),
  (S "divrem_limb", .ref 93),
  (S "shift_left", .ref 100),
  (S "shift_right", .ref 107),
  (S "bits", .ref 114),
  (S "product_of_counts", .ref 121),
  (S "signed", .ref 128),
  (S "s_add", .ref 135),
  (S "s_mul", .ref 142),
  (S "of_groups", .ref 155),
  (S "split_sum", .ref 232),
  (S "series_fraction", .ref 239),
  (S "whole_bits", .ref 246),
  (S "terms_of_e", .ref 253),
  (S "e_bits", .ref 260),
  (S "terms_of_arctan", .ref 267),
  (S "arctan_bits", .ref 274),
  (S "pi_machin", .ref 281),
  (S "pi_chudnovsky", .ref 288),
  (S "power_of_ten", .ref 295),
  (S "settled_digits", .ref 302),
  (S "digits_of", .ref 309),
  (S "mul_school", .ref 316),
  (S "divrem_small", .ref 323),
  (S "guessed_limb", .ref 330),
  (S "take_away", .ref 337),
  (S "put_back", .ref 344),
  (S "divide_rows", .ref 351),
  (S "divrem_school", .ref 358),
  (S "_law_draw", .ref 365),
  (S "_law_pool", .ref 370),
  (S "_law_row", .ref 377),
  (S "_law_whole", .ref 382),
  (S "_law_term", .ref 396),
  (S "_law_pieces_right", .ref 403),
  (S "_law_arctan", .ref 410),
  (S "_law_euler", .ref 417),
  (S "_law_root", .ref 424),
  (S "_law_between", .ref 431),
  (S "ERROR", I ((2 : Nat) : Int)),
  (S "GUARD", I ((8 : Nat) : Int)),
  (S "BITS_OF_TERM", I ((45 : Nat) : Int)),
  (S "MACHIN", .ref 143),
  (S "FIRST_GROUPS", .ref 144),
  (S "STEP_GROUPS", .ref 145),
  (S "CUBE_FACTORS", .ref 146),
  (S "ROOT_GROUPS", .ref 147),
  (S "FRONT_GROUPS", .ref 148),
  (S "EulerSeries", .ref 172),
  (S "ArctanSeries", .ref 200),
  (S "ChudnovskySeries", .ref 221),
  (S "len", .builtin "len"),
  (S "min", .builtin "min"),
  (S "abs", .builtin "abs"),
  (S "sum", .builtin "sum"),
  (S "range", .type "range"),
  (S "enumerate", .type "enumerate"),
  (S "int", .type "int"),
  (S "list", .type "list")]
noncomputable abbrev a_normal : Addr := 58
noncomputable def p_normal : List Str := [S "a"]
noncomputable def r_normal : List Str := [S "end"]
noncomputable def b_normal : PSs := (.cons (.asg 1 (.call (.glob (S "len") (.builtin "len")) (.cons (.var 0) .nil))) (.cons (.whl (.and (.cmp .Gt (.var 1) (.int 0)) (.cmp .Eq (.idx (.var 0) (.bin .Sub (.var 1) (.int 1))) (.int 0))) (.cons (.aug 1 .Sub (.int 1)) .nil)) (.cons (.ret (.slc (.var 0) .absent (.var 1))) .nil)))
theorem is_normal : isSs (fSc (stAt 4)) (p_normal ++ r_normal) GT b_normal (fBody (stAt 4)) = true := by decide +kernel
theorem so_normal : ScOk (fSc (stAt 4)) (p_normal ++ r_normal) := scOk_ok (by decide +kernel)
-- normal 0:a 1:end
noncomputable abbrev a_nat_of : Addr := 65
noncomputable def p_nat_of : List Str := [S "number", S "w"]
noncomputable def r_nat_of : List Str := [S "found", S "mask"]
noncomputable def b_nat_of : PSs := (.cons (.ifs (.cmp .Lt (.var 0) (.int 0)) (.cons (.rais) .nil) .nil) (.cons (.asgD [2, 3] (.cons (.lst .nil) (.cons (.bin .Sub (.bin .LShift (.int 1) (.var 1)) (.int 1)) .nil))) (.cons (.whl (.cmp .Gt (.var 0) (.int 0)) (.cons (.expr (.meth (.var 2) (S "append") (.cons (.bin .BitAnd (.var 0) (.var 3)) .nil))) (.cons (.aug 0 .RShift (.var 1)) .nil))) (.cons (.ret (.var 2)) .nil))))
theorem is_nat_of : isSs (fSc (stAt 5)) (p_nat_of ++ r_nat_of) GT b_nat_of (fBody (stAt 5)) = true := by decide +kernel
theorem so_nat_of : ScOk (fSc (stAt 5)) (p_nat_of ++ r_nat_of) := scOk_ok (by decide +kernel)
-- nat_of 0:number 1:w 2:found 3:mask
noncomputable abbrev a_compare : Addr := 72
noncomputable def p_compare : List Str := [S "a", S "b"]
noncomputable def r_compare : List Str := [S "at"]
noncomputable def b_compare : PSs := (.cons (.ifs (.cmp .NotEq (.call (.glob (S "len") (.builtin "len")) (.cons (.var 0) .nil)) (.call (.glob (S "len") (.builtin "len")) (.cons (.var 1) .nil))) (.cons (.ret (.ite (.cmp .Lt (.call (.glob (S "len") (.builtin "len")) (.cons (.var 0) .nil)) (.call (.glob (S "len") (.builtin "len")) (.cons (.var 1) .nil))) (.neg 1) (.int 1))) .nil) .nil) (.cons (.forR 2 (.cons (.bin .Sub (.call (.glob (S "len") (.builtin "len")) (.cons (.var 0) .nil)) (.int 1)) (.cons (.neg 1) (.cons (.neg 1) .nil))) (.cons (.ifs (.cmp .NotEq (.idx (.var 0) (.var 2)) (.idx (.var 1) (.var 2))) (.cons (.ret (.ite (.cmp .Lt (.idx (.var 0) (.var 2)) (.idx (.var 1) (.var 2))) (.neg 1) (.int 1))) .nil) .nil) .nil)) (.cons (.ret (.int 0)) .nil)))
theorem is_compare : isSs (fSc (stAt 6)) (p_compare ++ r_compare) GT b_compare (fBody (stAt 6)) = true := by decide +kernel
theorem so_compare : ScOk (fSc (stAt 6)) (p_compare ++ r_compare) := scOk_ok (by decide +kernel)
-- compare 0:a 1:b 2:at
noncomputable abbrev a_add : Addr := 79
noncomputable def p_add : List Str := [S "a", S "b", S "w"]
noncomputable def r_add : List Str := [S "found", S "carry", S "mask", S "at"]
noncomputable def b_add : PSs := (.cons (.ifs (.cmp .Lt (.call (.glob (S "len") (.builtin "len")) (.cons (.var 0) .nil)) (.call (.glob (S "len") (.builtin "len")) (.cons (.var 1) .nil))) (.cons (.asgD [0, 1] (.cons (.var 1) (.cons (.var 0) .nil))) .nil) .nil) (.cons (.asgD [3, 4, 5] (.cons (.lst .nil) (.cons (.int 0) (.cons (.bin .Sub (.bin .LShift (.int 1) (.var 2)) (.int 1)) .nil)))) (.cons (.forR 6 (.cons (.call (.glob (S "len") (.builtin "len")) (.cons (.var 1) .nil)) .nil) (.cons (.aug 4 .Add (.bin .Add (.idx (.var 0) (.var 6)) (.idx (.var 1) (.var 6)))) (.cons (.expr (.meth (.var 3) (S "append") (.cons (.bin .BitAnd (.var 4) (.var 5)) .nil))) (.cons (.aug 4 .RShift (.var 2)) .nil)))) (.cons (.forR 6 (.cons (.call (.glob (S "len") (.builtin "len")) (.cons (.var 1) .nil)) (.cons (.call (.glob (S "len") (.builtin "len")) (.cons (.var 0) .nil)) .nil)) (.cons (.aug 4 .Add (.idx (.var 0) (.var 6))) (.cons (.expr (.meth (.var 3) (S "append") (.cons (.bin .BitAnd (.var 4) (.var 5)) .nil))) (.cons (.aug 4 .RShift (.var 2)) .nil)))) (.cons (.ifs (.cmp .Gt (.var 4) (.int 0)) (.cons (.expr (.meth (.var 3) (S "append") (.cons (.var 4) .nil))) .nil) .nil) (.cons (.ret (.var 3)) .nil))))))
theorem is_add : isSs (fSc (stAt 7)) (p_add ++ r_add) GT b_add (fBody (stAt 7)) = true := by decide +kernel
theorem so_add : ScOk (fSc (stAt 7)) (p_add ++ r_add) := scOk_ok (by decide +kernel)
-- add 0:a 1:b 2:w 3:found 4:carry 5:mask 6:at
noncomputable abbrev a_sub : Addr := 86
noncomputable def p_sub : List Str := [S "a", S "b", S "w"]
noncomputable def r_sub : List Str := [S "found", S "borrow", S "base", S "at", S "limb"]
noncomputable def b_sub : PSs := (.cons (.ifs (.cmp .Lt (.call (.glob (S "compare") (.ref 72)) (.cons (.var 0) (.cons (.var 1) .nil))) (.int 0)) (.cons (.rais) .nil) .nil) (.cons (.asgD [3, 4, 5] (.cons (.lst .nil) (.cons (.int 0) (.cons (.bin .LShift (.int 1) (.var 2)) .nil)))) (.cons (.forR 6 (.cons (.call (.glob (S "len") (.builtin "len")) (.cons (.var 0) .nil)) .nil) (.cons (.asg 7 (.bin .Sub (.bin .Sub (.idx (.var 0) (.var 6)) (.var 4)) (.ite (.cmp .Lt (.var 6) (.call (.glob (S "len") (.builtin "len")) (.cons (.var 1) .nil))) (.idx (.var 1) (.var 6)) (.int 0)))) (.cons (.asg 4 (.ite (.cmp .Lt (.var 7) (.int 0)) (.int 1) (.int 0))) (.cons (.expr (.meth (.var 3) (S "append") (.cons (.ite (.cmp .Lt (.var 7) (.int 0)) (.bin .Add (.var 7) (.var 5)) (.var 7)) .nil))) .nil)))) (.cons (.ret (.call (.glob (S "normal") (.ref 58)) (.cons (.var 3) .nil))) .nil))))
theorem is_sub : isSs (fSc (stAt 8)) (p_sub ++ r_sub) GT b_sub (fBody (stAt 8)) = true := by decide +kernel
theorem so_sub : ScOk (fSc (stAt 8)) (p_sub ++ r_sub) := scOk_ok (by decide +kernel)
-- sub 0:a 1:b 2:w 3:found 4:borrow 5:base 6:at 7:limb
noncomputable abbrev a_divrem_limb : Addr := 93
noncomputable def p_divrem_limb : List Str := [S "a", S "limb", S "w"]
noncomputable def r_divrem_limb : List Str := [S "found", S "rest", S "at"]
noncomputable def b_divrem_limb : PSs := (.cons (.ifs (.cmp .Eq (.var 1) (.int 0)) (.cons (.rais) .nil) .nil) (.cons (.asgD [3, 4] (.cons (.bin .Mult (.lst (.cons (.int 0) .nil)) (.call (.glob (S "len") (.builtin "len")) (.cons (.var 0) .nil))) (.cons (.int 0) .nil))) (.cons (.forR 5 (.cons (.bin .Sub (.call (.glob (S "len") (.builtin "len")) (.cons (.var 0) .nil)) (.int 1)) (.cons (.neg 1) (.cons (.neg 1) .nil))) (.cons (.asg 4 (.bin .BitOr (.bin .LShift (.var 4) (.var 2)) (.idx (.var 0) (.var 5)))) (.cons (.seti (.var 3) (.var 5) (.bin .FloorDiv (.var 4) (.var 1))) (.cons (.aug 4 .Mod (.var 1)) .nil)))) (.cons (.ret (.tup (.cons (.call (.glob (S "normal") (.ref 58)) (.cons (.var 3) .nil)) (.cons (.var 4) .nil)))) .nil))))
theorem is_divrem_limb : isSs (fSc (stAt 9)) (p_divrem_limb ++ r_divrem_limb) GT b_divrem_limb (fBody (stAt 9)) = true := by decide +kernel
theorem so_divrem_limb : ScOk (fSc (stAt 9)) (p_divrem_limb ++ r_divrem_limb) := scOk_ok (by decide +kernel)
-- divrem_limb 0:a 1:limb 2:w 3:found 4:rest 5:at
noncomputable abbrev a_shift_left : Addr := 100
noncomputable def p_shift_left : List Str := [S "a", S "n", S "w"]
noncomputable def r_shift_left : List Str := [S "spots", S "few", S "found", S "carry", S "mask", S "one"]
noncomputable def b_shift_left : PSs := (.cons (.ifs (.cmp .Eq (.call (.glob (S "len") (.builtin "len")) (.cons (.var 0) .nil)) (.int 0)) (.cons (.ret (.lst .nil)) .nil) .nil) (.cons (.asgD [3, 4] (.cons (.bin .FloorDiv (.var 1) (.var 2)) (.cons (.bin .Mod (.var 1) (.var 2)) .nil))) (.cons (.asgD [5, 6, 7] (.cons (.bin .Mult (.lst (.cons (.int 0) .nil)) (.var 3)) (.cons (.int 0) (.cons (.bin .Sub (.bin .LShift (.int 1) (.var 2)) (.int 1)) .nil)))) (.cons (.forL 8 (.var 0) (.cons (.aug 6 .BitOr (.bin .LShift (.var 8) (.var 4))) (.cons (.expr (.meth (.var 5) (S "append") (.cons (.bin .BitAnd (.var 6) (.var 7)) .nil))) (.cons (.aug 6 .RShift (.var 2)) .nil)))) (.cons (.ifs (.cmp .Gt (.var 6) (.int 0)) (.cons (.expr (.meth (.var 5) (S "append") (.cons (.var 6) .nil))) .nil) .nil) (.cons (.ret (.var 5)) .nil))))))
theorem is_shift_left : isSs (fSc (stAt 10)) (p_shift_left ++ r_shift_left) GT b_shift_left (fBody (stAt 10)) = true := by decide +kernel
theorem so_shift_left : ScOk (fSc (stAt 10)) (p_shift_left ++ r_shift_left) := scOk_ok (by decide +kernel)
-- shift_left 0:a 1:n 2:w 3:spots 4:few 5:found 6:carry 7:mask 8:one
noncomputable abbrev a_shift_right : Addr := 107
noncomputable def p_shift_right : List Str := [S "a", S "n", S "w"]
noncomputable def r_shift_right : List Str := [S "spots", S "few", S "found", S "mask", S "at", S "above"]
noncomputable def b_shift_right : PSs := (.cons (.asgD [3, 4] (.cons (.bin .FloorDiv (.var 1) (.var 2)) (.cons (.bin .Mod (.var 1) (.var 2)) .nil))) (.cons (.asgD [5, 6] (.cons (.lst .nil) (.cons (.bin .Sub (.bin .LShift (.int 1) (.var 2)) (.int 1)) .nil))) (.cons (.forR 7 (.cons (.var 3) (.cons (.call (.glob (S "len") (.builtin "len")) (.cons (.var 0) .nil)) .nil)) (.cons (.asg 8 (.ite (.cmp .Lt (.bin .Add (.var 7) (.int 1)) (.call (.glob (S "len") (.builtin "len")) (.cons (.var 0) .nil))) (.idx (.var 0) (.bin .Add (.var 7) (.int 1))) (.int 0))) (.cons (.expr (.meth (.var 5) (S "append") (.cons (.bin .BitAnd (.bin .BitOr (.bin .RShift (.idx (.var 0) (.var 7)) (.var 4)) (.bin .LShift (.var 8) (.bin .Sub (.var 2) (.var 4)))) (.var 6)) .nil))) .nil))) (.cons (.ret (.call (.glob (S "normal") (.ref 58)) (.cons (.var 5) .nil))) .nil))))
theorem is_shift_right : isSs (fSc (stAt 11)) (p_shift_right ++ r_shift_right) GT b_shift_right (fBody (stAt 11)) = true := by decide +kernel
theorem so_shift_right : ScOk (fSc (stAt 11)) (p_shift_right ++ r_shift_right) := scOk_ok (by decide +kernel)
-- shift_right 0:a 1:n 2:w 3:spots 4:few 5:found 6:mask 7:at 8:above
noncomputable abbrev a_bits : Addr := 114
noncomputable def p_bits : List Str := [S "a", S "w"]
noncomputable def r_bits : List Str := []
noncomputable def b_bits : PSs := (.cons (.ret (.ite (.cmp .Gt (.call (.glob (S "len") (.builtin "len")) (.cons (.var 0) .nil)) (.int 0)) (.bin .Add (.bin .Mult (.bin .Sub (.call (.glob (S "len") (.builtin "len")) (.cons (.var 0) .nil)) (.int 1)) (.var 1)) (.meth (.idx (.var 0) (.neg 1)) (S "bit_length") .nil)) (.int 0))) .nil)
theorem is_bits : isSs (fSc (stAt 12)) (p_bits ++ r_bits) GT b_bits (fBody (stAt 12)) = true := by decide +kernel
theorem so_bits : ScOk (fSc (stAt 12)) (p_bits ++ r_bits) := scOk_ok (by decide +kernel)
-- bits 0:a 1:w
noncomputable abbrev a_product_of_counts : Addr := 121
noncomputable def p_product_of_counts : List Str := [S "some", S "w", S "mul"]
noncomputable def r_product_of_counts : List Str := [S "half"]
noncomputable def b_product_of_counts : PSs := (.cons (.ifs (.cmp .Eq (.call (.glob (S "len") (.builtin "len")) (.cons (.var 0) .nil)) (.int 0)) (.cons (.ret (.lst (.cons (.int 1) .nil))) .nil) .nil) (.cons (.ifs (.cmp .Eq (.call (.glob (S "len") (.builtin "len")) (.cons (.var 0) .nil)) (.int 1)) (.cons (.ret (.call (.glob (S "nat_of") (.ref 65)) (.cons (.idx (.var 0) (.int 0)) (.cons (.var 1) .nil)))) .nil) .nil) (.cons (.asg 3 (.bin .FloorDiv (.call (.glob (S "len") (.builtin "len")) (.cons (.var 0) .nil)) (.int 2))) (.cons (.ret (.call (.var 2) (.cons (.call (.glob (S "product_of_counts") (.ref 121)) (.cons (.slc (.var 0) .absent (.var 3)) (.cons (.var 1) (.cons (.var 2) .nil)))) (.cons (.call (.glob (S "product_of_counts") (.ref 121)) (.cons (.slc (.var 0) (.var 3) .absent) (.cons (.var 1) (.cons (.var 2) .nil)))) (.cons (.var 1) .nil))))) .nil))))
theorem is_product_of_counts : isSs (fSc (stAt 14)) (p_product_of_counts ++ r_product_of_counts) GT b_product_of_counts (fBody (stAt 14)) = true := by decide +kernel
theorem so_product_of_counts : ScOk (fSc (stAt 14)) (p_product_of_counts ++ r_product_of_counts) := scOk_ok (by decide +kernel)
-- product_of_counts 0:some 1:w 2:mul 3:half
noncomputable abbrev a_signed : Addr := 128
noncomputable def p_signed : List Str := [S "is_below", S "nat"]
noncomputable def r_signed : List Str := []
noncomputable def b_signed : PSs := (.cons (.ret (.tup (.cons (.and (.var 0) (.cmp .Gt (.call (.glob (S "len") (.builtin "len")) (.cons (.var 1) .nil)) (.int 0))) (.cons (.var 1) .nil)))) .nil)
theorem is_signed : isSs (fSc (stAt 16)) (p_signed ++ r_signed) GT b_signed (fBody (stAt 16)) = true := by decide +kernel
theorem so_signed : ScOk (fSc (stAt 16)) (p_signed ++ r_signed) := scOk_ok (by decide +kernel)
-- signed 0:is_below 1:nat
noncomputable abbrev a_s_add : Addr := 135
noncomputable def p_s_add : List Str := [S "x", S "y", S "w"]
noncomputable def r_s_add : List Str := []
noncomputable def b_s_add : PSs := (.cons (.ifs (.cmp .Eq (.idx (.var 0) (.int 0)) (.idx (.var 1) (.int 0))) (.cons (.ret (.call (.glob (S "signed") (.ref 128)) (.cons (.idx (.var 0) (.int 0)) (.cons (.call (.glob (S "add") (.ref 79)) (.cons (.idx (.var 0) (.int 1)) (.cons (.idx (.var 1) (.int 1)) (.cons (.var 2) .nil)))) .nil)))) .nil) .nil) (.cons (.ifs (.cmp .Lt (.call (.glob (S "compare") (.ref 72)) (.cons (.idx (.var 0) (.int 1)) (.cons (.idx (.var 1) (.int 1)) .nil))) (.int 0)) (.cons (.ret (.call (.glob (S "signed") (.ref 128)) (.cons (.idx (.var 1) (.int 0)) (.cons (.call (.glob (S "sub") (.ref 86)) (.cons (.idx (.var 1) (.int 1)) (.cons (.idx (.var 0) (.int 1)) (.cons (.var 2) .nil)))) .nil)))) .nil) .nil) (.cons (.ret (.call (.glob (S "signed") (.ref 128)) (.cons (.idx (.var 0) (.int 0)) (.cons (.call (.glob (S "sub") (.ref 86)) (.cons (.idx (.var 0) (.int 1)) (.cons (.idx (.var 1) (.int 1)) (.cons (.var 2) .nil)))) .nil)))) .nil)))
theorem is_s_add : isSs (fSc (stAt 17)) (p_s_add ++ r_s_add) GT b_s_add (fBody (stAt 17)) = true := by decide +kernel
theorem so_s_add : ScOk (fSc (stAt 17)) (p_s_add ++ r_s_add) := scOk_ok (by decide +kernel)
-- s_add 0:x 1:y 2:w
noncomputable abbrev a_s_mul : Addr := 142
noncomputable def p_s_mul : List Str := [S "x", S "y", S "w", S "mul"]
noncomputable def r_s_mul : List Str := []
noncomputable def b_s_mul : PSs := (.cons (.ret (.call (.glob (S "signed") (.ref 128)) (.cons (.cmp .NotEq (.idx (.var 0) (.int 0)) (.idx (.var 1) (.int 0))) (.cons (.call (.var 3) (.cons (.idx (.var 0) (.int 1)) (.cons (.idx (.var 1) (.int 1)) (.cons (.var 2) .nil)))) .nil)))) .nil)
theorem is_s_mul : isSs (fSc (stAt 18)) (p_s_mul ++ r_s_mul) GT b_s_mul (fBody (stAt 18)) = true := by decide +kernel
theorem so_s_mul : ScOk (fSc (stAt 18)) (p_s_mul ++ r_s_mul) := scOk_ok (by decide +kernel)
-- s_mul 0:x 1:y 2:w 3:mul
noncomputable abbrev a_of_groups : Addr := 155
noncomputable def p_of_groups : List Str := [S "groups", S "w", S "mul"]
noncomputable def r_of_groups : List Str := [S "found", S "group"]
noncomputable def b_of_groups : PSs := (.cons (.asg 3 (.lst .nil)) (.cons (.forL 4 (.var 0) (.cons (.asg 3 (.call (.glob (S "add") (.ref 79)) (.cons (.call (.var 2) (.cons (.var 3) (.cons (.call (.glob (S "nat_of") (.ref 65)) (.cons (.int 1000) (.cons (.var 1) .nil))) (.cons (.var 1) .nil)))) (.cons (.call (.glob (S "nat_of") (.ref 65)) (.cons (.var 4) (.cons (.var 1) .nil))) (.cons (.var 1) .nil))))) .nil)) (.cons (.ret (.var 3)) .nil)))
theorem is_of_groups : isSs (fSc (stAt 29)) (p_of_groups ++ r_of_groups) GT b_of_groups (fBody (stAt 29)) = true := by decide +kernel
theorem so_of_groups : ScOk (fSc (stAt 29)) (p_of_groups ++ r_of_groups) := scOk_ok (by decide +kernel)
-- of_groups 0:groups 1:w 2:mul 3:found 4:group
noncomputable abbrev a_EulerSeries_at : Addr := 169
noncomputable def p_EulerSeries_at : List Str := [S "self", S "k", S "w", S "mul"]
noncomputable def r_EulerSeries_at : List Str := []
noncomputable def b_EulerSeries_at : PSs := (.cons (.ret (.tup (.cons (.bool false) (.cons (.lst (.cons (.int 1) .nil)) (.cons (.call (.glob (S "nat_of") (.ref 65)) (.cons (.var 1) (.cons (.var 2) .nil))) (.cons (.lst (.cons (.int 1) .nil)) .nil)))))) .nil)
theorem is_EulerSeries_at : isSs (fSc (meAt 30 0)) (p_EulerSeries_at ++ r_EulerSeries_at) GT b_EulerSeries_at (fBody (meAt 30 0)) = true := by decide +kernel
theorem so_EulerSeries_at : ScOk (fSc (meAt 30 0)) (p_EulerSeries_at ++ r_EulerSeries_at) := scOk_ok (by decide +kernel)
-- EulerSeries_at 0:self 1:k 2:w 3:mul
noncomputable abbrev a_ArctanSeries_init : Addr := 190
noncomputable abbrev a_ArctanSeries_at : Addr := 197
noncomputable def p_ArctanSeries_at : List Str := [S "self", S "k", S "w", S "mul"]
noncomputable def r_ArctanSeries_at : List Str := []
noncomputable def b_ArctanSeries_at : PSs := (.cons (.ret (.tup (.cons (.bool true) (.cons (.call (.glob (S "nat_of") (.ref 65)) (.cons (.bin .Sub (.bin .Mult (.int 2) (.var 1)) (.int 1)) (.cons (.var 2) .nil))) (.cons (.call (.glob (S "product_of_counts") (.ref 121)) (.cons (.lst (.cons (.bin .Add (.bin .Mult (.int 2) (.var 1)) (.int 1)) (.cons (.attr (.var 0) (S "x")) (.cons (.attr (.var 0) (S "x")) .nil)))) (.cons (.var 2) (.cons (.var 3) .nil)))) (.cons (.lst (.cons (.int 1) .nil)) .nil)))))) .nil)
theorem is_ArctanSeries_at : isSs (fSc (meAt 31 1)) (p_ArctanSeries_at ++ r_ArctanSeries_at) GT b_ArctanSeries_at (fBody (meAt 31 1)) = true := by decide +kernel
theorem so_ArctanSeries_at : ScOk (fSc (meAt 31 1)) (p_ArctanSeries_at ++ r_ArctanSeries_at) := scOk_ok (by decide +kernel)
-- ArctanSeries_at 0:self 1:k 2:w 3:mul
noncomputable abbrev a_ChudnovskySeries_at : Addr := 218
noncomputable def p_ChudnovskySeries_at : List Str := [S "self", S "k", S "w", S "mul"]
noncomputable def r_ChudnovskySeries_at : List Str := [S "above", S "below", S "step"]
noncomputable def b_ChudnovskySeries_at : PSs := (.cons (.asg 4 (.call (.glob (S "product_of_counts") (.ref 121)) (.cons (.lst (.cons (.bin .Sub (.bin .Mult (.int 6) (.var 1)) (.int 5)) (.cons (.bin .Sub (.bin .Mult (.int 2) (.var 1)) (.int 1)) (.cons (.bin .Sub (.bin .Mult (.int 6) (.var 1)) (.int 1)) .nil)))) (.cons (.var 2) (.cons (.var 3) .nil))))) (.cons (.asg 5 (.call (.glob (S "product_of_counts") (.ref 121)) (.cons (.bin .Add (.lst (.cons (.var 1) (.cons (.var 1) (.cons (.var 1) .nil)))) (.call (.glob (S "list") (.type "list")) (.cons (.glob (S "CUBE_FACTORS") (.ref 146)) .nil))) (.cons (.var 2) (.cons (.var 3) .nil))))) (.cons (.asg 6 (.call (.var 3) (.cons (.call (.glob (S "of_groups") (.ref 155)) (.cons (.glob (S "STEP_GROUPS") (.ref 145)) (.cons (.var 2) (.cons (.var 3) .nil)))) (.cons (.call (.glob (S "nat_of") (.ref 65)) (.cons (.var 1) (.cons (.var 2) .nil))) (.cons (.var 2) .nil))))) (.cons (.ret (.tup (.cons (.bool true) (.cons (.var 4) (.cons (.var 5) (.cons (.call (.glob (S "add") (.ref 79)) (.cons (.call (.glob (S "of_groups") (.ref 155)) (.cons (.glob (S "FIRST_GROUPS") (.ref 144)) (.cons (.var 2) (.cons (.var 3) .nil)))) (.cons (.var 6) (.cons (.var 2) .nil)))) .nil)))))) .nil))))
theorem is_ChudnovskySeries_at : isSs (fSc (meAt 32 0)) (p_ChudnovskySeries_at ++ r_ChudnovskySeries_at) GT b_ChudnovskySeries_at (fBody (meAt 32 0)) = true := by decide +kernel
theorem so_ChudnovskySeries_at : ScOk (fSc (meAt 32 0)) (p_ChudnovskySeries_at ++ r_ChudnovskySeries_at) := scOk_ok (by decide +kernel)
-- ChudnovskySeries_at 0:self 1:k 2:w 3:mul 4:above 5:below 6:step
noncomputable abbrev a_split_sum : Addr := 232
noncomputable def p_split_sum : List Str := [S "series", S "begin", S "end", S "w", S "mul"]
noncomputable def r_split_sum : List Str := [S "is_below", S "above", S "below", S "front", S "half", S "one", S "other", S "told"]
noncomputable def b_split_sum : PSs := (.cons (.ifs (.cmp .Eq (.bin .Sub (.var 2) (.var 1)) (.int 1)) (.cons (.asgT [5, 6, 7, 8] (.meth (.var 0) (S "at") (.cons (.var 1) (.cons (.var 3) (.cons (.var 4) .nil))))) (.cons (.ret (.tup (.cons (.tup (.cons (.var 5) (.cons (.var 6) .nil))) (.cons (.var 7) (.cons (.tup (.cons (.var 5) (.cons (.call (.var 4) (.cons (.var 8) (.cons (.var 6) (.cons (.var 3) .nil)))) .nil))) .nil))))) .nil)) .nil) (.cons (.asg 9 (.bin .FloorDiv (.bin .Add (.var 1) (.var 2)) (.int 2))) (.cons (.asgD [10, 11] (.cons (.call (.glob (S "split_sum") (.ref 232)) (.cons (.var 0) (.cons (.var 1) (.cons (.var 9) (.cons (.var 3) (.cons (.var 4) .nil)))))) (.cons (.call (.glob (S "split_sum") (.ref 232)) (.cons (.var 0) (.cons (.var 9) (.cons (.var 2) (.cons (.var 3) (.cons (.var 4) .nil)))))) .nil))) (.cons (.asg 12 (.call (.glob (S "s_add") (.ref 135)) (.cons (.call (.glob (S "s_mul") (.ref 142)) (.cons (.idx (.var 10) (.int 2)) (.cons (.tup (.cons (.bool false) (.cons (.idx (.var 11) (.int 1)) .nil))) (.cons (.var 3) (.cons (.var 4) .nil))))) (.cons (.call (.glob (S "s_mul") (.ref 142)) (.cons (.idx (.var 10) (.int 0)) (.cons (.idx (.var 11) (.int 2)) (.cons (.var 3) (.cons (.var 4) .nil))))) (.cons (.var 3) .nil))))) (.cons (.ret (.tup (.cons (.call (.glob (S "s_mul") (.ref 142)) (.cons (.idx (.var 10) (.int 0)) (.cons (.idx (.var 11) (.int 0)) (.cons (.var 3) (.cons (.var 4) .nil))))) (.cons (.call (.var 4) (.cons (.idx (.var 10) (.int 1)) (.cons (.idx (.var 11) (.int 1)) (.cons (.var 3) .nil)))) (.cons (.var 12) .nil))))) .nil)))))
theorem is_split_sum : isSs (fSc (stAt 33)) (p_split_sum ++ r_split_sum) GT b_split_sum (fBody (stAt 33)) = true := by decide +kernel
theorem so_split_sum : ScOk (fSc (stAt 33)) (p_split_sum ++ r_split_sum) := scOk_ok (by decide +kernel)
-- split_sum 0:series 1:begin 2:end 3:w 4:mul 5:is_below 6:above 7:below 8:front 9:half 10:one 11:other 12:told
noncomputable abbrev a_series_fraction : Addr := 239
noncomputable def p_series_fraction : List Str := [S "series", S "many", S "w", S "mul"]
noncomputable def r_series_fraction : List Str := [S "products", S "below", S "told"]
noncomputable def b_series_fraction : PSs := (.cons (.ifs (.cmp .Eq (.var 1) (.int 0)) (.cons (.ret (.tup (.cons (.lst (.cons (.int 1) .nil)) (.cons (.lst (.cons (.int 1) .nil)) .nil)))) .nil) .nil) (.cons (.asgT [4, 5, 6] (.call (.glob (S "split_sum") (.ref 232)) (.cons (.var 0) (.cons (.int 1) (.cons (.bin .Add (.var 1) (.int 1)) (.cons (.var 2) (.cons (.var 3) .nil))))))) (.cons (.ret (.tup (.cons (.idx (.call (.glob (S "s_add") (.ref 135)) (.cons (.tup (.cons (.bool false) (.cons (.var 5) .nil))) (.cons (.var 6) (.cons (.var 2) .nil)))) (.int 1)) (.cons (.var 5) .nil)))) .nil)))
theorem is_series_fraction : isSs (fSc (stAt 34)) (p_series_fraction ++ r_series_fraction) GT b_series_fraction (fBody (stAt 34)) = true := by decide +kernel
theorem so_series_fraction : ScOk (fSc (stAt 34)) (p_series_fraction ++ r_series_fraction) := scOk_ok (by decide +kernel)
-- series_fraction 0:series 1:many 2:w 3:mul 4:products 5:below 6:told
noncomputable abbrev a_whole_bits : Addr := 246
noncomputable def p_whole_bits : List Str := [S "above", S "below", S "n", S "w", S "divrem"]
noncomputable def r_whole_bits : List Str := []
noncomputable def b_whole_bits : PSs := (.cons (.ret (.idx (.call (.var 4) (.cons (.call (.glob (S "shift_left") (.ref 100)) (.cons (.var 0) (.cons (.var 2) (.cons (.var 3) .nil)))) (.cons (.var 1) (.cons (.var 3) .nil)))) (.int 0))) .nil)
theorem is_whole_bits : isSs (fSc (stAt 35)) (p_whole_bits ++ r_whole_bits) GT b_whole_bits (fBody (stAt 35)) = true := by decide +kernel
theorem so_whole_bits : ScOk (fSc (stAt 35)) (p_whole_bits ++ r_whole_bits) := scOk_ok (by decide +kernel)
-- whole_bits 0:above 1:below 2:n 3:w 4:divrem
noncomputable abbrev a_terms_of_e : Addr := 253
noncomputable def p_terms_of_e : List Str := [S "n"]
noncomputable def r_terms_of_e : List Str := [S "many", S "have"]
noncomputable def b_terms_of_e : PSs := (.cons (.asgD [1, 2] (.cons (.int 1) (.cons (.int 0) .nil))) (.cons (.whl (.cmp .LtE (.var 2) (.var 0)) (.cons (.aug 1 .Add (.int 1)) (.cons (.aug 2 .Add (.bin .Sub (.meth (.var 1) (S "bit_length") .nil) (.int 1))) .nil))) (.cons (.ret (.var 1)) .nil)))
theorem is_terms_of_e : isSs (fSc (stAt 36)) (p_terms_of_e ++ r_terms_of_e) GT b_terms_of_e (fBody (stAt 36)) = true := by decide +kernel
theorem so_terms_of_e : ScOk (fSc (stAt 36)) (p_terms_of_e ++ r_terms_of_e) := scOk_ok (by decide +kernel)
-- terms_of_e 0:n 1:many 2:have
noncomputable abbrev a_e_bits : Addr := 260
noncomputable def p_e_bits : List Str := [S "n", S "w", S "mul", S "divrem"]
noncomputable def r_e_bits : List Str := [S "above", S "below"]
noncomputable def b_e_bits : PSs := (.cons (.asgT [4, 5] (.call (.glob (S "series_fraction") (.ref 239)) (.cons (.call (.glob (S "EulerSeries") (.ref 172)) .nil) (.cons (.call (.glob (S "terms_of_e") (.ref 253)) (.cons (.var 0) .nil)) (.cons (.var 1) (.cons (.var 2) .nil)))))) (.cons (.ret (.call (.glob (S "whole_bits") (.ref 246)) (.cons (.var 4) (.cons (.var 5) (.cons (.var 0) (.cons (.var 1) (.cons (.var 3) .nil))))))) .nil))
theorem is_e_bits : isSs (fSc (stAt 37)) (p_e_bits ++ r_e_bits) GT b_e_bits (fBody (stAt 37)) = true := by decide +kernel
theorem so_e_bits : ScOk (fSc (stAt 37)) (p_e_bits ++ r_e_bits) := scOk_ok (by decide +kernel)
-- e_bits 0:n 1:w 2:mul 3:divrem 4:above 5:below
noncomputable abbrev a_terms_of_arctan : Addr := 267
noncomputable def p_terms_of_arctan : List Str := [S "x", S "n"]
noncomputable def r_terms_of_arctan : List Str := []
noncomputable def b_terms_of_arctan : PSs := (.cons (.ret (.bin .Add (.bin .Mult (.bin .FloorDiv (.bin .FloorDiv (.var 1) (.bin .Mult (.int 2) (.bin .Sub (.meth (.var 0) (S "bit_length") .nil) (.int 1)))) (.int 2)) (.int 2)) (.int 1))) .nil)
theorem is_terms_of_arctan : isSs (fSc (stAt 38)) (p_terms_of_arctan ++ r_terms_of_arctan) GT b_terms_of_arctan (fBody (stAt 38)) = true := by decide +kernel
theorem so_terms_of_arctan : ScOk (fSc (stAt 38)) (p_terms_of_arctan ++ r_terms_of_arctan) := scOk_ok (by decide +kernel)
-- terms_of_arctan 0:x 1:n
noncomputable abbrev a_arctan_bits : Addr := 274
noncomputable def p_arctan_bits : List Str := [S "x", S "n", S "w", S "mul", S "divrem"]
noncomputable def r_arctan_bits : List Str := [S "above", S "below"]
noncomputable def b_arctan_bits : PSs := (.cons (.asgT [5, 6] (.call (.glob (S "series_fraction") (.ref 239)) (.cons (.call (.glob (S "ArctanSeries") (.ref 200)) (.cons (.var 0) .nil)) (.cons (.call (.glob (S "terms_of_arctan") (.ref 267)) (.cons (.var 0) (.cons (.var 1) .nil))) (.cons (.var 2) (.cons (.var 3) .nil)))))) (.cons (.ret (.call (.glob (S "whole_bits") (.ref 246)) (.cons (.var 5) (.cons (.call (.var 3) (.cons (.var 6) (.cons (.call (.glob (S "nat_of") (.ref 65)) (.cons (.var 0) (.cons (.var 2) .nil))) (.cons (.var 2) .nil)))) (.cons (.var 1) (.cons (.var 2) (.cons (.var 4) .nil))))))) .nil))
theorem is_arctan_bits : isSs (fSc (stAt 39)) (p_arctan_bits ++ r_arctan_bits) GT b_arctan_bits (fBody (stAt 39)) = true := by decide +kernel
theorem so_arctan_bits : ScOk (fSc (stAt 39)) (p_arctan_bits ++ r_arctan_bits) := scOk_ok (by decide +kernel)
-- arctan_bits 0:x 1:n 2:w 3:mul 4:divrem 5:above 6:below
noncomputable abbrev a_pi_machin : Addr := 281
noncomputable def p_pi_machin : List Str := [S "n", S "w", S "mul", S "divrem"]
noncomputable def r_pi_machin : List Str := [S "more", S "one", S "other"]
noncomputable def b_pi_machin : PSs := (.cons (.asg 4 (.bin .Add (.var 0) (.glob (S "GUARD") (I ((8 : Nat) : Int))))) (.cons (.asg 5 (.call (.glob (S "shift_left") (.ref 100)) (.cons (.call (.glob (S "arctan_bits") (.ref 274)) (.cons (.idx (.glob (S "MACHIN") (.ref 143)) (.int 0)) (.cons (.var 4) (.cons (.var 1) (.cons (.var 2) (.cons (.var 3) .nil)))))) (.cons (.int 4) (.cons (.var 1) .nil))))) (.cons (.asg 6 (.call (.glob (S "add") (.ref 79)) (.cons (.call (.glob (S "arctan_bits") (.ref 274)) (.cons (.idx (.glob (S "MACHIN") (.ref 143)) (.int 1)) (.cons (.var 4) (.cons (.var 1) (.cons (.var 2) (.cons (.var 3) .nil)))))) (.cons (.call (.glob (S "nat_of") (.ref 65)) (.cons (.glob (S "ERROR") (I ((2 : Nat) : Int))) (.cons (.var 1) .nil))) (.cons (.var 1) .nil))))) (.cons (.ret (.call (.glob (S "shift_right") (.ref 107)) (.cons (.call (.glob (S "sub") (.ref 86)) (.cons (.var 5) (.cons (.call (.glob (S "shift_left") (.ref 100)) (.cons (.var 6) (.cons (.int 2) (.cons (.var 1) .nil)))) (.cons (.var 1) .nil)))) (.cons (.glob (S "GUARD") (I ((8 : Nat) : Int))) (.cons (.var 1) .nil))))) .nil))))
theorem is_pi_machin : isSs (fSc (stAt 40)) (p_pi_machin ++ r_pi_machin) GT b_pi_machin (fBody (stAt 40)) = true := by decide +kernel
theorem so_pi_machin : ScOk (fSc (stAt 40)) (p_pi_machin ++ r_pi_machin) := scOk_ok (by decide +kernel)
-- pi_machin 0:n 1:w 2:mul 3:divrem 4:more 5:one 6:other
noncomputable abbrev a_pi_chudnovsky : Addr := 288
noncomputable def p_pi_chudnovsky : List Str := [S "n", S "w", S "mul", S "divrem", S "root"]
noncomputable def r_pi_chudnovsky : List Str := [S "more", S "products", S "below", S "told", S "first", S "sum_of_all", S "square", S "above", S "found"]
noncomputable def b_pi_chudnovsky : PSs := (.cons (.asg 5 (.bin .Add (.var 0) (.glob (S "GUARD") (I ((8 : Nat) : Int))))) (.cons (.asgT [6, 7, 8] (.call (.glob (S "split_sum") (.ref 232)) (.cons (.call (.glob (S "ChudnovskySeries") (.ref 221)) .nil) (.cons (.int 1) (.cons (.bin .Add (.bin .FloorDiv (.var 5) (.glob (S "BITS_OF_TERM") (I ((45 : Nat) : Int)))) (.int 3)) (.cons (.var 1) (.cons (.var 2) .nil))))))) (.cons (.asg 9 (.call (.var 2) (.cons (.call (.glob (S "of_groups") (.ref 155)) (.cons (.glob (S "FIRST_GROUPS") (.ref 144)) (.cons (.var 1) (.cons (.var 2) .nil)))) (.cons (.var 7) (.cons (.var 1) .nil))))) (.cons (.asg 10 (.idx (.call (.glob (S "s_add") (.ref 135)) (.cons (.tup (.cons (.bool false) (.cons (.var 9) .nil))) (.cons (.var 8) (.cons (.var 1) .nil)))) (.int 1))) (.cons (.asg 11 (.call (.var 4) (.cons (.call (.glob (S "shift_left") (.ref 100)) (.cons (.call (.glob (S "of_groups") (.ref 155)) (.cons (.glob (S "ROOT_GROUPS") (.ref 147)) (.cons (.var 1) (.cons (.var 2) .nil)))) (.cons (.bin .Mult (.int 2) (.var 5)) (.cons (.var 1) .nil)))) (.cons (.var 1) .nil)))) (.cons (.asg 12 (.call (.var 2) (.cons (.call (.var 2) (.cons (.call (.glob (S "of_groups") (.ref 155)) (.cons (.glob (S "FRONT_GROUPS") (.ref 148)) (.cons (.var 1) (.cons (.var 2) .nil)))) (.cons (.var 11) (.cons (.var 1) .nil)))) (.cons (.var 7) (.cons (.var 1) .nil))))) (.cons (.asg 13 (.idx (.call (.var 3) (.cons (.var 12) (.cons (.var 10) (.cons (.var 1) .nil)))) (.int 0))) (.cons (.ret (.call (.glob (S "shift_right") (.ref 107)) (.cons (.call (.glob (S "sub") (.ref 86)) (.cons (.var 13) (.cons (.lst (.cons (.int 1) .nil)) (.cons (.var 1) .nil)))) (.cons (.glob (S "GUARD") (I ((8 : Nat) : Int))) (.cons (.var 1) .nil))))) .nil))))))))
theorem is_pi_chudnovsky : isSs (fSc (stAt 41)) (p_pi_chudnovsky ++ r_pi_chudnovsky) GT b_pi_chudnovsky (fBody (stAt 41)) = true := by decide +kernel
theorem so_pi_chudnovsky : ScOk (fSc (stAt 41)) (p_pi_chudnovsky ++ r_pi_chudnovsky) := scOk_ok (by decide +kernel)
-- pi_chudnovsky 0:n 1:w 2:mul 3:divrem 4:root 5:more 6:products 7:below 8:told 9:first 10:sum_of_all 11:square 12:above 13:found
noncomputable abbrev a_power_of_ten : Addr := 295
noncomputable def p_power_of_ten : List Str := [S "many", S "w", S "mul"]
noncomputable def r_power_of_ten : List Str := []
noncomputable def b_power_of_ten : PSs := (.cons (.ret (.call (.glob (S "product_of_counts") (.ref 121)) (.cons (.bin .Mult (.lst (.cons (.int 10) .nil)) (.var 0)) (.cons (.var 1) (.cons (.var 2) .nil))))) .nil)
theorem is_power_of_ten : isSs (fSc (stAt 42)) (p_power_of_ten ++ r_power_of_ten) GT b_power_of_ten (fBody (stAt 42)) = true := by decide +kernel
theorem so_power_of_ten : ScOk (fSc (stAt 42)) (p_power_of_ten ++ r_power_of_ten) := scOk_ok (by decide +kernel)
-- power_of_ten 0:many 1:w 2:mul
noncomputable abbrev a_settled_digits : Addr := 302
noncomputable def p_settled_digits : List Str := [S "value", S "n", S "digits", S "w", S "mul"]
noncomputable def r_settled_digits : List Str := [S "scale", S "least", S "most"]
noncomputable def b_settled_digits : PSs := (.cons (.asg 5 (.call (.glob (S "power_of_ten") (.ref 295)) (.cons (.var 2) (.cons (.var 3) (.cons (.var 4) .nil))))) (.cons (.asg 6 (.call (.glob (S "shift_right") (.ref 107)) (.cons (.call (.var 4) (.cons (.var 0) (.cons (.var 5) (.cons (.var 3) .nil)))) (.cons (.var 1) (.cons (.var 3) .nil))))) (.cons (.asg 7 (.call (.glob (S "shift_right") (.ref 107)) (.cons (.call (.var 4) (.cons (.call (.glob (S "add") (.ref 79)) (.cons (.var 0) (.cons (.call (.glob (S "nat_of") (.ref 65)) (.cons (.glob (S "ERROR") (I ((2 : Nat) : Int))) (.cons (.var 3) .nil))) (.cons (.var 3) .nil)))) (.cons (.var 5) (.cons (.var 3) .nil)))) (.cons (.var 1) (.cons (.var 3) .nil))))) (.cons (.ret (.ite (.cmp .Eq (.call (.glob (S "compare") (.ref 72)) (.cons (.var 6) (.cons (.var 7) .nil))) (.int 0)) (.var 6) .none)) .nil))))
theorem is_settled_digits : isSs (fSc (stAt 43)) (p_settled_digits ++ r_settled_digits) GT b_settled_digits (fBody (stAt 43)) = true := by decide +kernel
theorem so_settled_digits : ScOk (fSc (stAt 43)) (p_settled_digits ++ r_settled_digits) := scOk_ok (by decide +kernel)
-- settled_digits 0:value 1:n 2:digits 3:w 4:mul 5:scale 6:least 7:most
noncomputable abbrev a_digits_of : Addr := 309
noncomputable def p_digits_of : List Str := [S "told", S "digits", S "w", S "mul"]
noncomputable def r_digits_of : List Str := [S "n", S "found"]
noncomputable def b_digits_of : PSs := (.cons (.asg 4 (.bin .Add (.call (.glob (S "bits") (.ref 114)) (.cons (.call (.glob (S "power_of_ten") (.ref 295)) (.cons (.var 1) (.cons (.var 2) (.cons (.var 3) .nil)))) (.cons (.var 2) .nil))) (.glob (S "GUARD") (I ((8 : Nat) : Int))))) (.cons (.asg 5 (.call (.glob (S "settled_digits") (.ref 302)) (.cons (.call (.var 0) (.cons (.var 4) .nil)) (.cons (.var 4) (.cons (.var 1) (.cons (.var 2) (.cons (.var 3) .nil))))))) (.cons (.whl (.cmp .Is (.var 5) .none) (.cons (.asg 4 (.bin .Mult (.int 2) (.var 4))) (.cons (.asg 5 (.call (.glob (S "settled_digits") (.ref 302)) (.cons (.call (.var 0) (.cons (.var 4) .nil)) (.cons (.var 4) (.cons (.var 1) (.cons (.var 2) (.cons (.var 3) .nil))))))) .nil))) (.cons (.ret (.var 5)) .nil))))
theorem is_digits_of : isSs (fSc (stAt 44)) (p_digits_of ++ r_digits_of) GT b_digits_of (fBody (stAt 44)) = true := by decide +kernel
theorem so_digits_of : ScOk (fSc (stAt 44)) (p_digits_of ++ r_digits_of) := scOk_ok (by decide +kernel)
-- digits_of 0:told 1:digits 2:w 3:mul 4:n 5:found
noncomputable abbrev a_mul_school : Addr := 316
noncomputable def p_mul_school : List Str := [S "a", S "b", S "w"]
noncomputable def r_mul_school : List Str := [S "found", S "mask", S "at", S "limb", S "carry", S "spot", S "other"]
noncomputable def b_mul_school : PSs := (.cons (.asgD [3, 4] (.cons (.bin .Mult (.lst (.cons (.int 0) .nil)) (.bin .Add (.call (.glob (S "len") (.builtin "len")) (.cons (.var 0) .nil)) (.call (.glob (S "len") (.builtin "len")) (.cons (.var 1) .nil)))) (.cons (.bin .Sub (.bin .LShift (.int 1) (.var 2)) (.int 1)) .nil))) (.cons (.forE 5 6 (.var 0) (.cons (.asg 7 (.int 0)) (.cons (.forE 8 9 (.var 1) (.cons (.aug 7 .Add (.bin .Add (.idx (.var 3) (.bin .Add (.var 5) (.var 8))) (.bin .Mult (.var 6) (.var 9)))) (.cons (.seti (.var 3) (.bin .Add (.var 5) (.var 8)) (.bin .BitAnd (.var 7) (.var 4))) (.cons (.aug 7 .RShift (.var 2)) .nil)))) (.cons (.seti (.var 3) (.bin .Add (.var 5) (.call (.glob (S "len") (.builtin "len")) (.cons (.var 1) .nil))) (.var 7)) .nil)))) (.cons (.ret (.call (.glob (S "normal") (.ref 58)) (.cons (.var 3) .nil))) .nil)))
theorem is_mul_school : isSs (fSc (stAt 46)) (p_mul_school ++ r_mul_school) GT b_mul_school (fBody (stAt 46)) = true := by decide +kernel
theorem so_mul_school : ScOk (fSc (stAt 46)) (p_mul_school ++ r_mul_school) := scOk_ok (by decide +kernel)
-- mul_school 0:a 1:b 2:w 3:found 4:mask 5:at 6:limb 7:carry 8:spot 9:other
noncomputable abbrev a_divrem_small : Addr := 323
noncomputable def p_divrem_small : List Str := [S "a", S "b", S "w"]
noncomputable def r_divrem_small : List Str := [S "quotient", S "rest"]
noncomputable def b_divrem_small : PSs := (.cons (.asgT [3, 4] (.call (.glob (S "divrem_limb") (.ref 93)) (.cons (.var 0) (.cons (.idx (.var 1) (.int 0)) (.cons (.var 2) .nil))))) (.cons (.ret (.tup (.cons (.var 3) (.cons (.ite (.cmp .Gt (.var 4) (.int 0)) (.lst (.cons (.var 4) .nil)) (.lst .nil)) .nil)))) .nil))
theorem is_divrem_small : isSs (fSc (stAt 47)) (p_divrem_small ++ r_divrem_small) GT b_divrem_small (fBody (stAt 47)) = true := by decide +kernel
theorem so_divrem_small : ScOk (fSc (stAt 47)) (p_divrem_small ++ r_divrem_small) := scOk_ok (by decide +kernel)
-- divrem_small 0:a 1:b 2:w 3:quotient 4:rest
noncomputable abbrev a_guessed_limb : Addr := 330
noncomputable def p_guessed_limb : List Str := [S "top", S "first", S "second", S "w"]
noncomputable def r_guessed_limb : List Str := [S "high", S "base", S "limb", S "rest"]
noncomputable def b_guessed_limb : PSs := (.cons (.asgD [4, 5] (.cons (.bin .BitOr (.bin .LShift (.idx (.var 0) (.int 2)) (.var 3)) (.idx (.var 0) (.int 1))) (.cons (.bin .LShift (.int 1) (.var 3)) .nil))) (.cons (.asg 6 (.call (.glob (S "min") (.builtin "min")) (.cons (.bin .FloorDiv (.var 4) (.var 1)) (.cons (.bin .Sub (.var 5) (.int 1)) .nil)))) (.cons (.asg 7 (.bin .Sub (.var 4) (.bin .Mult (.var 6) (.var 1)))) (.cons (.whl (.and (.cmp .Lt (.var 7) (.var 5)) (.cmp .Gt (.bin .Mult (.var 6) (.var 2)) (.bin .BitOr (.bin .LShift (.var 7) (.var 3)) (.idx (.var 0) (.int 0))))) (.cons (.aug 6 .Sub (.int 1)) (.cons (.aug 7 .Add (.var 1)) .nil))) (.cons (.ret (.var 6)) .nil)))))
theorem is_guessed_limb : isSs (fSc (stAt 48)) (p_guessed_limb ++ r_guessed_limb) GT b_guessed_limb (fBody (stAt 48)) = true := by decide +kernel
theorem so_guessed_limb : ScOk (fSc (stAt 48)) (p_guessed_limb ++ r_guessed_limb) := scOk_ok (by decide +kernel)
-- guessed_limb 0:top 1:first 2:second 3:w 4:high 5:base 6:limb 7:rest
noncomputable abbrev a_take_away : Addr := 337
noncomputable def p_take_away : List Str := [S "rest", S "b", S "limb", S "at", S "w"]
noncomputable def r_take_away : List Str := [S "carry", S "base", S "spot", S "other", S "here"]
noncomputable def b_take_away : PSs := (.cons (.asgD [5, 6] (.cons (.int 0) (.cons (.bin .LShift (.int 1) (.var 4)) .nil))) (.cons (.forE 7 8 (.var 1) (.cons (.asg 9 (.bin .Sub (.idx (.var 0) (.bin .Add (.var 3) (.var 7))) (.bin .Mod (.bin .Add (.bin .Mult (.var 2) (.var 8)) (.var 5)) (.var 6)))) (.cons (.asg 5 (.bin .Add (.bin .FloorDiv (.bin .Add (.bin .Mult (.var 2) (.var 8)) (.var 5)) (.var 6)) (.ite (.cmp .Lt (.var 9) (.int 0)) (.int 1) (.int 0)))) (.cons (.seti (.var 0) (.bin .Add (.var 3) (.var 7)) (.ite (.cmp .Lt (.var 9) (.int 0)) (.bin .Add (.var 9) (.var 6)) (.var 9))) .nil)))) (.cons (.asg 9 (.bin .Sub (.idx (.var 0) (.bin .Add (.var 3) (.call (.glob (S "len") (.builtin "len")) (.cons (.var 1) .nil)))) (.var 5))) (.cons (.seti (.var 0) (.bin .Add (.var 3) (.call (.glob (S "len") (.builtin "len")) (.cons (.var 1) .nil))) (.ite (.cmp .Lt (.var 9) (.int 0)) (.bin .Add (.var 9) (.var 6)) (.var 9))) (.cons (.ret (.ite (.cmp .Lt (.var 9) (.int 0)) (.int 1) (.int 0))) .nil)))))
theorem is_take_away : isSs (fSc (stAt 49)) (p_take_away ++ r_take_away) GT b_take_away (fBody (stAt 49)) = true := by decide +kernel
theorem so_take_away : ScOk (fSc (stAt 49)) (p_take_away ++ r_take_away) := scOk_ok (by decide +kernel)
-- take_away 0:rest 1:b 2:limb 3:at 4:w 5:carry 6:base 7:spot 8:other 9:here
noncomputable abbrev a_put_back : Addr := 344
noncomputable def p_put_back : List Str := [S "rest", S "b", S "at", S "w"]
noncomputable def r_put_back : List Str := [S "carry", S "mask", S "spot", S "other"]
noncomputable def b_put_back : PSs := (.cons (.asgD [4, 5] (.cons (.int 0) (.cons (.bin .Sub (.bin .LShift (.int 1) (.var 3)) (.int 1)) .nil))) (.cons (.forE 6 7 (.var 1) (.cons (.aug 4 .Add (.bin .Add (.idx (.var 0) (.bin .Add (.var 2) (.var 6))) (.var 7))) (.cons (.seti (.var 0) (.bin .Add (.var 2) (.var 6)) (.bin .BitAnd (.var 4) (.var 5))) (.cons (.aug 4 .RShift (.var 3)) .nil)))) (.cons (.seti (.var 0) (.bin .Add (.var 2) (.call (.glob (S "len") (.builtin "len")) (.cons (.var 1) .nil))) (.bin .BitAnd (.bin .Add (.idx (.var 0) (.bin .Add (.var 2) (.call (.glob (S "len") (.builtin "len")) (.cons (.var 1) .nil)))) (.var 4)) (.var 5))) .nil)))
theorem is_put_back : isSs (fSc (stAt 50)) (p_put_back ++ r_put_back) GT b_put_back (fBody (stAt 50)) = true := by decide +kernel
theorem so_put_back : ScOk (fSc (stAt 50)) (p_put_back ++ r_put_back) := scOk_ok (by decide +kernel)
-- put_back 0:rest 1:b 2:at 3:w 4:carry 5:mask 6:spot 7:other
noncomputable abbrev a_divide_rows : Addr := 351
noncomputable def p_divide_rows : List Str := [S "rest", S "b", S "w"]
noncomputable def r_divide_rows : List Str := [S "size", S "quotient", S "at", S "limb"]
noncomputable def b_divide_rows : PSs := (.cons (.asg 3 (.call (.glob (S "len") (.builtin "len")) (.cons (.var 1) .nil))) (.cons (.asg 4 (.bin .Mult (.lst (.cons (.int 0) .nil)) (.bin .Sub (.call (.glob (S "len") (.builtin "len")) (.cons (.var 0) .nil)) (.var 3)))) (.cons (.forR 5 (.cons (.bin .Sub (.bin .Sub (.call (.glob (S "len") (.builtin "len")) (.cons (.var 0) .nil)) (.var 3)) (.int 1)) (.cons (.neg 1) (.cons (.neg 1) .nil))) (.cons (.asg 6 (.call (.glob (S "guessed_limb") (.ref 330)) (.cons (.slc (.var 0) (.bin .Sub (.bin .Add (.var 5) (.var 3)) (.int 2)) (.bin .Add (.bin .Add (.var 5) (.var 3)) (.int 1))) (.cons (.idx (.var 1) (.bin .Sub (.var 3) (.int 1))) (.cons (.idx (.var 1) (.bin .Sub (.var 3) (.int 2))) (.cons (.var 2) .nil)))))) (.cons (.ifs (.cmp .Eq (.call (.glob (S "take_away") (.ref 337)) (.cons (.var 0) (.cons (.var 1) (.cons (.var 6) (.cons (.var 5) (.cons (.var 2) .nil)))))) (.int 1)) (.cons (.aug 6 .Sub (.int 1)) (.cons (.expr (.call (.glob (S "put_back") (.ref 344)) (.cons (.var 0) (.cons (.var 1) (.cons (.var 5) (.cons (.var 2) .nil)))))) .nil)) .nil) (.cons (.seti (.var 4) (.var 5) (.var 6)) .nil)))) (.cons (.ret (.var 4)) .nil))))
theorem is_divide_rows : isSs (fSc (stAt 51)) (p_divide_rows ++ r_divide_rows) GT b_divide_rows (fBody (stAt 51)) = true := by decide +kernel
theorem so_divide_rows : ScOk (fSc (stAt 51)) (p_divide_rows ++ r_divide_rows) := scOk_ok (by decide +kernel)
-- divide_rows 0:rest 1:b 2:w 3:size 4:quotient 5:at 6:limb
noncomputable abbrev a_divrem_school : Addr := 358
noncomputable def p_divrem_school : List Str := [S "a", S "b", S "w"]
noncomputable def r_divrem_school : List Str := [S "shift", S "divisor", S "rest", S "quotient"]
noncomputable def b_divrem_school : PSs := (.cons (.ifs (.cmp .Eq (.call (.glob (S "len") (.builtin "len")) (.cons (.var 1) .nil)) (.int 0)) (.cons (.rais) .nil) .nil) (.cons (.ifs (.cmp .Lt (.call (.glob (S "compare") (.ref 72)) (.cons (.var 0) (.cons (.var 1) .nil))) (.int 0)) (.cons (.ret (.tup (.cons (.lst .nil) (.cons (.slc (.var 0) .absent .absent) .nil)))) .nil) .nil) (.cons (.ifs (.cmp .Eq (.call (.glob (S "len") (.builtin "len")) (.cons (.var 1) .nil)) (.int 1)) (.cons (.ret (.call (.glob (S "divrem_small") (.ref 323)) (.cons (.var 0) (.cons (.var 1) (.cons (.var 2) .nil))))) .nil) .nil) (.cons (.asg 3 (.bin .Sub (.var 2) (.call (.glob (S "bits") (.ref 114)) (.cons (.lst (.cons (.idx (.var 1) (.neg 1)) .nil)) (.cons (.var 2) .nil))))) (.cons (.asg 4 (.call (.glob (S "shift_left") (.ref 100)) (.cons (.var 1) (.cons (.var 3) (.cons (.var 2) .nil))))) (.cons (.asg 5 (.call (.glob (S "shift_left") (.ref 100)) (.cons (.var 0) (.cons (.var 3) (.cons (.var 2) .nil))))) (.cons (.asg 5 (.bin .Add (.var 5) (.bin .Mult (.lst (.cons (.int 0) .nil)) (.bin .Sub (.bin .Add (.call (.glob (S "len") (.builtin "len")) (.cons (.var 0) .nil)) (.int 1)) (.call (.glob (S "len") (.builtin "len")) (.cons (.var 5) .nil)))))) (.cons (.asg 6 (.call (.glob (S "divide_rows") (.ref 351)) (.cons (.var 5) (.cons (.var 4) (.cons (.var 2) .nil))))) (.cons (.ret (.tup (.cons (.call (.glob (S "normal") (.ref 58)) (.cons (.var 6) .nil)) (.cons (.call (.glob (S "shift_right") (.ref 107)) (.cons (.call (.glob (S "normal") (.ref 58)) (.cons (.var 5) .nil)) (.cons (.var 3) (.cons (.var 2) .nil)))) .nil)))) .nil)))))))))
theorem is_divrem_school : isSs (fSc (stAt 52)) (p_divrem_school ++ r_divrem_school) GT b_divrem_school (fBody (stAt 52)) = true := by decide +kernel
theorem so_divrem_school : ScOk (fSc (stAt 52)) (p_divrem_school ++ r_divrem_school) := scOk_ok (by decide +kernel)
-- divrem_school 0:a 1:b 2:w 3:shift 4:divisor 5:rest 6:quotient
noncomputable abbrev a_law_draw : Addr := 365
noncomputable def p_law_draw : List Str := [S "pool", S "many"]
noncomputable def r_law_draw : List Str := []
noncomputable def b_law_draw : PSs := (.cons (.ifs (.cmp .Lt (.idx (.var 0) (.int 1)) (.call (.glob (S "len") (.builtin "len")) (.cons (.idx (.var 0) (.int 0)) .nil))) (.cons (.seti (.var 0) (.int 1) (.bin .Add (.idx (.var 0) (.int 1)) (.int 1))) (.cons (.ret (.bin .Mod (.idx (.idx (.var 0) (.int 0)) (.bin .Sub (.idx (.var 0) (.int 1)) (.int 1))) (.var 1))) .nil)) .nil) (.cons (.seti (.var 0) (.int 2) (.bin .Mod (.bin .Add (.bin .Mult (.idx (.var 0) (.int 2)) (.int 4021)) (.int 577)) (.int 1000003))) (.cons (.ret (.bin .Mod (.bin .FloorDiv (.idx (.var 0) (.int 2)) (.int 7)) (.var 1))) .nil)))
theorem is_law_draw : isSs (fSc (stAt 54)) (p_law_draw ++ r_law_draw) GT b_law_draw (fBody (stAt 54)) = true := by decide +kernel
theorem so_law_draw : ScOk (fSc (stAt 54)) (p_law_draw ++ r_law_draw) := scOk_ok (by decide +kernel)
-- law_draw 0:pool 1:many
noncomputable abbrev a_law_pool : Addr := 370
noncomputable abbrev a_law_row : Addr := 377
noncomputable def p_law_row : List Str := [S "number", S "w"]
noncomputable def r_law_row : List Str := [S "found"]
noncomputable def b_law_row : PSs := (.cons (.asg 2 (.lst .nil)) (.cons (.whl (.cmp .Gt (.var 0) (.int 0)) (.cons (.expr (.meth (.var 2) (S "append") (.cons (.bin .Mod (.var 0) (.bin .Pow (.int 2) (.var 1))) .nil))) (.cons (.asg 0 (.bin .FloorDiv (.var 0) (.bin .Pow (.int 2) (.var 1)))) .nil))) (.cons (.ret (.var 2)) .nil)))
theorem is_law_row : isSs (fSc (stAt 56)) (p_law_row ++ r_law_row) GT b_law_row (fBody (stAt 56)) = true := by decide +kernel
theorem so_law_row : ScOk (fSc (stAt 56)) (p_law_row ++ r_law_row) := scOk_ok (by decide +kernel)
-- law_row 0:number 1:w 2:found
noncomputable abbrev a_law_whole : Addr := 382
noncomputable abbrev a_law_number : Addr := 389
noncomputable abbrev a_law_term : Addr := 396
noncomputable def p_law_term : List Str := [S "form", S "x", S "k"]
noncomputable def r_law_term : List Str := []
noncomputable def b_law_term : PSs := (.cons (.ifs (.cmp .Eq (.var 0) (.int 0)) (.cons (.ret (.tup (.cons (.int 1) (.cons (.var 2) (.cons (.int 1) .nil))))) .nil) .nil) (.cons (.ifs (.cmp .Eq (.var 0) (.int 1)) (.cons (.ret (.tup (.cons (.bin .Sub (.int 1) (.bin .Mult (.int 2) (.var 2))) (.cons (.bin .Mult (.bin .Mult (.bin .Add (.bin .Mult (.int 2) (.var 2)) (.int 1)) (.var 1)) (.var 1)) (.cons (.int 1) .nil))))) .nil) .nil) (.cons (.ret (.tup (.cons (.bin .Sub (.int 0) (.bin .Mult (.bin .Mult (.bin .Sub (.bin .Mult (.int 6) (.var 2)) (.int 5)) (.bin .Sub (.bin .Mult (.int 2) (.var 2)) (.int 1))) (.bin .Sub (.bin .Mult (.int 6) (.var 2)) (.int 1)))) (.cons (.bin .Mult (.bin .FloorDiv (.bin .Pow (.int 640320) (.int 3)) (.int 24)) (.bin .Pow (.var 2) (.int 3))) (.cons (.bin .Add (.int 13591409) (.bin .Mult (.int 545140134) (.var 2))) .nil))))) .nil)))
theorem is_law_term : isSs (fSc (stAt 59)) (p_law_term ++ r_law_term) GT b_law_term (fBody (stAt 59)) = true := by decide +kernel
theorem so_law_term : ScOk (fSc (stAt 59)) (p_law_term ++ r_law_term) := scOk_ok (by decide +kernel)
-- law_term 0:form 1:x 2:k
noncomputable abbrev a_law_pieces_right : Addr := 403
noncomputable def p_law_pieces_right : List Str := [S "pool", S "w"]
noncomputable def r_law_pieces_right : List Str := [S "form", S "x", S "begin", S "end", S "series", S "above", S "below", S "told", S "k", S "p", S "q", S "a", S "found", S "due"]
noncomputable def b_law_pieces_right : PSs := (.cons (.asgD [2, 3] (.cons (.call (.glob (S "_law_draw") (.ref 365)) (.cons (.var 0) (.cons (.int 3) .nil))) (.cons (.bin .Add (.int 2) (.call (.glob (S "_law_draw") (.ref 365)) (.cons (.var 0) (.cons (.int 6) .nil)))) .nil))) (.cons (.asg 4 (.bin .Add (.int 1) (.call (.glob (S "_law_draw") (.ref 365)) (.cons (.var 0) (.cons (.int 4) .nil))))) (.cons (.asg 5 (.bin .Add (.bin .Add (.var 4) (.int 1)) (.call (.glob (S "_law_draw") (.ref 365)) (.cons (.var 0) (.cons (.ite (.cmp .Lt (.var 2) (.int 2)) (.int 9) (.int 3)) .nil))))) (.cons (.asg 6 (.idx (.lst (.cons (.call (.glob (S "EulerSeries") (.ref 172)) .nil) (.cons (.call (.glob (S "ArctanSeries") (.ref 200)) (.cons (.var 3) .nil)) (.cons (.call (.glob (S "ChudnovskySeries") (.ref 221)) .nil) .nil)))) (.var 2))) (.cons (.asgD [7, 8, 9] (.cons (.int 1) (.cons (.int 1) (.cons (.int 0) .nil)))) (.cons (.forR 10 (.cons (.var 4) (.cons (.var 5) .nil)) (.cons (.asgT [11, 12, 13] (.call (.glob (S "_law_term") (.ref 396)) (.cons (.var 2) (.cons (.var 3) (.cons (.var 10) .nil))))) (.cons (.asgD [7, 8] (.cons (.bin .Mult (.var 7) (.var 11)) (.cons (.bin .Mult (.var 8) (.var 12)) .nil))) (.cons (.asg 9 (.bin .Add (.bin .Mult (.var 9) (.var 12)) (.bin .Mult (.var 13) (.var 7)))) .nil)))) (.cons (.asg 14 (.call (.glob (S "split_sum") (.ref 232)) (.cons (.var 6) (.cons (.var 4) (.cons (.var 5) (.cons (.var 1) (.cons (.glob (S "mul_school") (.ref 316)) .nil))))))) (.cons (.asg 15 (.tup (.cons (.tup (.cons (.cmp .Lt (.var 7) (.int 0)) (.cons (.call (.glob (S "_law_row") (.ref 377)) (.cons (.call (.glob (S "abs") (.builtin "abs")) (.cons (.var 7) .nil)) (.cons (.var 1) .nil))) .nil))) (.cons (.call (.glob (S "_law_row") (.ref 377)) (.cons (.var 8) (.cons (.var 1) .nil))) (.cons (.tup (.cons (.cmp .Lt (.var 9) (.int 0)) (.cons (.call (.glob (S "_law_row") (.ref 377)) (.cons (.call (.glob (S "abs") (.builtin "abs")) (.cons (.var 9) .nil)) (.cons (.var 1) .nil))) .nil))) .nil))))) (.cons (.ret (.cmp .Eq (.var 14) (.var 15))) .nil)))))))))
theorem is_law_pieces_right : isSs (fSc (stAt 60)) (p_law_pieces_right ++ r_law_pieces_right) GT b_law_pieces_right (fBody (stAt 60)) = true := by decide +kernel
theorem so_law_pieces_right : ScOk (fSc (stAt 60)) (p_law_pieces_right ++ r_law_pieces_right) := scOk_ok (by decide +kernel)
-- law_pieces_right 0:pool 1:w 2:form 3:x 4:begin 5:end 6:series 7:above 8:below 9:told 10:k 11:p 12:q 13:a 14:found 15:due
noncomputable abbrev a_law_arctan : Addr := 410
noncomputable def p_law_arctan : List Str := [S "x", S "n"]
noncomputable def r_law_arctan : List Str := [S "found", S "k", S "part"]
noncomputable def b_law_arctan : PSs := (.cons (.asgD [2, 3, 4] (.cons (.int 0) (.cons (.int 0) (.cons (.bin .FloorDiv (.bin .Pow (.int 2) (.var 1)) (.var 0)) .nil)))) (.cons (.whl (.cmp .Gt (.var 4) (.int 0)) (.cons (.asg 2 (.bin .Add (.var 2) (.ite (.cmp .Eq (.bin .Mod (.var 3) (.int 2)) (.int 0)) (.bin .FloorDiv (.var 4) (.bin .Add (.bin .Mult (.int 2) (.var 3)) (.int 1))) (.bin .Sub (.int 0) (.bin .FloorDiv (.var 4) (.bin .Add (.bin .Mult (.int 2) (.var 3)) (.int 1))))))) (.cons (.asgD [4, 3] (.cons (.bin .FloorDiv (.var 4) (.bin .Mult (.var 0) (.var 0))) (.cons (.bin .Add (.var 3) (.int 1)) .nil))) .nil))) (.cons (.ret (.var 2)) .nil)))
theorem is_law_arctan : isSs (fSc (stAt 61)) (p_law_arctan ++ r_law_arctan) GT b_law_arctan (fBody (stAt 61)) = true := by decide +kernel
theorem so_law_arctan : ScOk (fSc (stAt 61)) (p_law_arctan ++ r_law_arctan) := scOk_ok (by decide +kernel)
-- law_arctan 0:x 1:n 2:found 3:k 4:part
noncomputable abbrev a_law_euler : Addr := 417
noncomputable def p_law_euler : List Str := [S "n"]
noncomputable def r_law_euler : List Str := [S "found", S "part", S "k"]
noncomputable def b_law_euler : PSs := (.cons (.asgD [1, 2, 3] (.cons (.int 0) (.cons (.bin .Pow (.int 2) (.var 0)) (.cons (.int 1) .nil)))) (.cons (.whl (.cmp .Gt (.var 2) (.int 0)) (.cons (.asgD [1, 2, 3] (.cons (.bin .Add (.var 1) (.var 2)) (.cons (.bin .FloorDiv (.var 2) (.var 3)) (.cons (.bin .Add (.var 3) (.int 1)) .nil)))) .nil)) (.cons (.ret (.var 1)) .nil)))
theorem is_law_euler : isSs (fSc (stAt 62)) (p_law_euler ++ r_law_euler) GT b_law_euler (fBody (stAt 62)) = true := by decide +kernel
theorem so_law_euler : ScOk (fSc (stAt 62)) (p_law_euler ++ r_law_euler) := scOk_ok (by decide +kernel)
-- law_euler 0:n 1:found 2:part 3:k
noncomputable abbrev a_law_root : Addr := 424
noncomputable def p_law_root : List Str := [S "a", S "w"]
noncomputable def r_law_root : List Str := [S "number", S "found"]
noncomputable def b_law_root : PSs := (.cons (.asg 2 (.call (.glob (S "_law_whole") (.ref 382)) (.cons (.var 0) (.cons (.var 1) .nil)))) (.cons (.asg 3 (.bin .Pow (.int 2) (.bin .Add (.bin .FloorDiv (.bin .Mult (.call (.glob (S "len") (.builtin "len")) (.cons (.var 0) .nil)) (.var 1)) (.int 2)) (.int 1)))) (.cons (.whl (.cmp .Gt (.bin .Mult (.var 3) (.var 3)) (.var 2)) (.cons (.asg 3 (.bin .FloorDiv (.bin .Add (.var 3) (.bin .FloorDiv (.var 2) (.var 3))) (.int 2))) .nil)) (.cons (.ret (.call (.glob (S "_law_row") (.ref 377)) (.cons (.var 3) (.cons (.var 1) .nil)))) .nil))))
theorem is_law_root : isSs (fSc (stAt 63)) (p_law_root ++ r_law_root) GT b_law_root (fBody (stAt 63)) = true := by decide +kernel
theorem so_law_root : ScOk (fSc (stAt 63)) (p_law_root ++ r_law_root) := scOk_ok (by decide +kernel)
-- law_root 0:a 1:w 2:number 3:found
noncomputable abbrev a_law_between : Addr := 431
noncomputable def p_law_between : List Str := [S "told", S "w", S "n", S "near"]
noncomputable def r_law_between : List Str := [S "value"]
noncomputable def b_law_between : PSs := (.cons (.asg 4 (.call (.glob (S "_law_whole") (.ref 382)) (.cons (.var 0) (.cons (.var 1) .nil)))) (.cons (.ret (.and (.cmp .LtE (.bin .Mult (.var 4) (.bin .Pow (.int 2) (.int 40))) (.bin .Add (.var 3) (.int 4096))) (.cmp .Lt (.bin .Sub (.var 3) (.int 4096)) (.bin .Mult (.bin .Add (.var 4) (.int 2)) (.bin .Pow (.int 2) (.int 40)))))) .nil))
theorem is_law_between : isSs (fSc (stAt 64)) (p_law_between ++ r_law_between) GT b_law_between (fBody (stAt 64)) = true := by decide +kernel
theorem so_law_between : ScOk (fSc (stAt 64)) (p_law_between ++ r_law_between) := scOk_ok (by decide +kernel)
-- law_between 0:told 1:w 2:n 3:near 4:value
noncomputable abbrev a_law : Addr := 438
/-- the functions stand where the top's run left them -/
structure PW (C : WC) : Prop where
  gl : Globs C GT
  f_normal : FnAt C a_normal (S "normal") p_normal (fBody (stAt 4)) (fSc (stAt 4))
  f_nat_of : FnAt C a_nat_of (S "nat_of") p_nat_of (fBody (stAt 5)) (fSc (stAt 5))
  f_compare : FnAt C a_compare (S "compare") p_compare (fBody (stAt 6)) (fSc (stAt 6))
  f_add : FnAt C a_add (S "add") p_add (fBody (stAt 7)) (fSc (stAt 7))
  f_sub : FnAt C a_sub (S "sub") p_sub (fBody (stAt 8)) (fSc (stAt 8))
  f_divrem_limb : FnAt C a_divrem_limb (S "divrem_limb") p_divrem_limb (fBody (stAt 9)) (fSc (stAt 9))
  f_shift_left : FnAt C a_shift_left (S "shift_left") p_shift_left (fBody (stAt 10)) (fSc (stAt 10))
  f_shift_right : FnAt C a_shift_right (S "shift_right") p_shift_right (fBody (stAt 11)) (fSc (stAt 11))
  f_bits : FnAt C a_bits (S "bits") p_bits (fBody (stAt 12)) (fSc (stAt 12))
  f_product_of_counts : FnAt C a_product_of_counts (S "product_of_counts") p_product_of_counts (fBody (stAt 14)) (fSc (stAt 14))
  f_signed : FnAt C a_signed (S "signed") p_signed (fBody (stAt 16)) (fSc (stAt 16))
  f_s_add : FnAt C a_s_add (S "s_add") p_s_add (fBody (stAt 17)) (fSc (stAt 17))
  f_s_mul : FnAt C a_s_mul (S "s_mul") p_s_mul (fBody (stAt 18)) (fSc (stAt 18))
  f_of_groups : FnAt C a_of_groups (S "of_groups") p_of_groups (fBody (stAt 29)) (fSc (stAt 29))
  f_EulerSeries_at : FnAt C a_EulerSeries_at (S "EulerSeries.at") p_EulerSeries_at (fBody (meAt 30 0)) (fSc (meAt 30 0))
  f_ArctanSeries_at : FnAt C a_ArctanSeries_at (S "ArctanSeries.at") p_ArctanSeries_at (fBody (meAt 31 1)) (fSc (meAt 31 1))
  f_ChudnovskySeries_at : FnAt C a_ChudnovskySeries_at (S "ChudnovskySeries.at") p_ChudnovskySeries_at (fBody (meAt 32 0)) (fSc (meAt 32 0))
  f_split_sum : FnAt C a_split_sum (S "split_sum") p_split_sum (fBody (stAt 33)) (fSc (stAt 33))
  f_series_fraction : FnAt C a_series_fraction (S "series_fraction") p_series_fraction (fBody (stAt 34)) (fSc (stAt 34))
  f_whole_bits : FnAt C a_whole_bits (S "whole_bits") p_whole_bits (fBody (stAt 35)) (fSc (stAt 35))
  f_terms_of_e : FnAt C a_terms_of_e (S "terms_of_e") p_terms_of_e (fBody (stAt 36)) (fSc (stAt 36))
  f_e_bits : FnAt C a_e_bits (S "e_bits") p_e_bits (fBody (stAt 37)) (fSc (stAt 37))
  f_terms_of_arctan : FnAt C a_terms_of_arctan (S "terms_of_arctan") p_terms_of_arctan (fBody (stAt 38)) (fSc (stAt 38))
  f_arctan_bits : FnAt C a_arctan_bits (S "arctan_bits") p_arctan_bits (fBody (stAt 39)) (fSc (stAt 39))
  f_pi_machin : FnAt C a_pi_machin (S "pi_machin") p_pi_machin (fBody (stAt 40)) (fSc (stAt 40))
  f_pi_chudnovsky : FnAt C a_pi_chudnovsky (S "pi_chudnovsky") p_pi_chudnovsky (fBody (stAt 41)) (fSc (stAt 41))
  f_power_of_ten : FnAt C a_power_of_ten (S "power_of_ten") p_power_of_ten (fBody (stAt 42)) (fSc (stAt 42))
  f_settled_digits : FnAt C a_settled_digits (S "settled_digits") p_settled_digits (fBody (stAt 43)) (fSc (stAt 43))
  f_digits_of : FnAt C a_digits_of (S "digits_of") p_digits_of (fBody (stAt 44)) (fSc (stAt 44))
  f_mul_school : FnAt C a_mul_school (S "mul_school") p_mul_school (fBody (stAt 46)) (fSc (stAt 46))
  f_divrem_small : FnAt C a_divrem_small (S "divrem_small") p_divrem_small (fBody (stAt 47)) (fSc (stAt 47))
  f_guessed_limb : FnAt C a_guessed_limb (S "guessed_limb") p_guessed_limb (fBody (stAt 48)) (fSc (stAt 48))
  f_take_away : FnAt C a_take_away (S "take_away") p_take_away (fBody (stAt 49)) (fSc (stAt 49))
  f_put_back : FnAt C a_put_back (S "put_back") p_put_back (fBody (stAt 50)) (fSc (stAt 50))
  f_divide_rows : FnAt C a_divide_rows (S "divide_rows") p_divide_rows (fBody (stAt 51)) (fSc (stAt 51))
  f_divrem_school : FnAt C a_divrem_school (S "divrem_school") p_divrem_school (fBody (stAt 52)) (fSc (stAt 52))
  f_law_draw : FnAt C a_law_draw (S "_law_draw") p_law_draw (fBody (stAt 54)) (fSc (stAt 54))
  f_law_row : FnAt C a_law_row (S "_law_row") p_law_row (fBody (stAt 56)) (fSc (stAt 56))
  f_law_term : FnAt C a_law_term (S "_law_term") p_law_term (fBody (stAt 59)) (fSc (stAt 59))
  f_law_pieces_right : FnAt C a_law_pieces_right (S "_law_pieces_right") p_law_pieces_right (fBody (stAt 60)) (fSc (stAt 60))
  f_law_arctan : FnAt C a_law_arctan (S "_law_arctan") p_law_arctan (fBody (stAt 61)) (fSc (stAt 61))
  f_law_euler : FnAt C a_law_euler (S "_law_euler") p_law_euler (fBody (stAt 62)) (fSc (stAt 62))
  f_law_root : FnAt C a_law_root (S "_law_root") p_law_root (fBody (stAt 63)) (fSc (stAt 63))
  f_law_between : FnAt C a_law_between (S "_law_between") p_law_between (fBody (stAt 64)) (fSc (stAt 64))
end

section

/-! heaps that grow -/
structure Ext (H H' : PH) : Prop where
  e : ∀ a o, H a = some o → H' a = some o
theorem Ext.refl (H : PH) : Ext H H := ⟨fun _ _ h => h⟩
theorem Ext.trans {H H' H'' : PH} (x : Ext H H') (y : Ext H' H'') : Ext H H'' := ⟨fun a o h => y.e a o (x.e a o h)⟩
theorem set_old {H : PH} {a r : Addr} {o x : HO} (ha : H a = some x) (hr : H r = none) : H.set r o a = some x := by
  rw [PH.set_ne]; · exact ha
  · rintro rfl; rw [ha] at hr; cases hr
theorem Ext.set {H H' : PH} {r : Addr} {o : HO} (x : Ext H H') (hr : H r = none) : Ext H (H'.set r o) :=
  ⟨fun a y h => by
    rw [PH.set_ne]
    · exact x.e a y h
    · rintro rfl; rw [h] at hr; cases hr⟩
theorem Ext.none {H H' : PH} {r : Addr} (x : Ext H H') (h : H' r = none) : H r = none := by
  cases e : H r with
  | none => rfl
  | some o => rw [x.e r o e] at h; cases h
theorem PH.set_set (H : PH) (r : Addr) (o o' : HO) : (H.set r o).set r o' = H.set r o' := by
  funext b; unfold PH.set; by_cases h : b = r <;> simp [h]

/-- what a call hands back: a new object -/
structure Ret (H H' : PH) (r : Addr) (o : HO) : Prop where
  ext : Ext H H'
  new : H r = none
  at' : H' r = some o

/-- numbers as values -/
noncomputable abbrev nv (ds : List Nat) : List Value := ds.map fun d : Nat => I (d : Int)
theorem nv_get (ds : List Nat) {k d : Nat} (h : ds[k]? = some d) : (nv ds)[k]? = some (I (d : Int)) := by simp [nv, h]
theorem nv_get' (ds : List Nat) {k : Nat} {x : Value} (h : (nv ds)[k]? = some x) : ∃ d, ds[k]? = some d ∧ x = I (d : Int) := by
  simp only [nv, List.getElem?_map] at h
  cases hd : ds[k]? with
  | none => rw [hd] at h; cases h
  | some d => rw [hd] at h; exact ⟨d, rfl, (Option.some.inj h).symm⟩
theorem nv_len (ds : List Nat) : (nv ds).length = ds.length := by simp
theorem nv_app (ds es : List Nat) : nv ds ++ nv es = nv (ds ++ es) := by simp

section
variable {C : WC} {n : Nat} {H : PH} {Q : Value → PH → Prop} {P : Bool → PH → Prop} {a b : Nat} {x y : Int}

theorem Sm.nat {m : Nat} (h : a < 2 ^ m) (hm : m ≤ 4000) : Sm (a : Int) := Sm.of (m := m) (by simpa using h) hm

/-! numbers that are not below nought -/
theorem fmod_nat : Int.fmod (a : Int) (b : Int) = ((a % b : Nat) : Int) := by
  rw [Int.fmod_eq_emod_of_nonneg _ (by omega)]; rfl
theorem fdiv_nat : Int.fdiv (a : Int) (b : Int) = ((a / b : Nat) : Int) := by
  rw [Int.fdiv_eq_ediv_of_nonneg _ (by omega)]; rfl
theorem n_add (h : Q (I ((a + b : Nat) : Int)) H) : BinOk C .Add (I (a : Int)) (I (b : Int)) H Q := bin_add (by rw [← Int.natCast_add]; exact h)
theorem n_sub (hb : b ≤ a) (h : Q (I ((a - b : Nat) : Int)) H) : BinOk C .Sub (I (a : Int)) (I (b : Int)) H Q := bin_sub (by rw [← Int.ofNat_sub hb]; exact h)
theorem n_mul (ha : Sm (a : Int)) (hb : Sm (b : Int)) (h : Q (I ((a * b : Nat) : Int)) H) : BinOk C .Mult (I (a : Int)) (I (b : Int)) H Q := bin_mul (by rw [← Int.natCast_mul]; exact h) ha hb
theorem n_div (h0 : b ≠ 0) (hb : Sm (b : Int)) (h : Q (I ((a / b : Nat) : Int)) H) : BinOk C .FloorDiv (I (a : Int)) (I (b : Int)) H Q := bin_div (by rw [fdiv_nat]; exact h) (by omega) hb
theorem n_mod (h0 : b ≠ 0) (h : Q (I ((a % b : Nat) : Int)) H) : BinOk C .Mod (I (a : Int)) (I (b : Int)) H Q := bin_mod (by rw [fmod_nat]; exact h) (by omega)
theorem n_shl (hb : b ≤ 100000) (ha : Sm (a : Int)) (h : Q (I ((a * 2 ^ b : Nat) : Int)) H) : BinOk C .LShift (I (a : Int)) (I (b : Int)) H Q :=
  bin_shl (by rw [Int.toNat_natCast]; have e : ((a * 2 ^ b : Nat) : Int) = (a : Int) * 2 ^ b := by push_cast; rfl
              rw [← e]; exact h) (by omega) (by omega) ha
theorem pow_cast (b : Nat) : ((2 ^ b : Nat) : Int) = (2 : Int) ^ b := by push_cast; rfl
theorem n_shr (h : Q (I ((a / 2 ^ b : Nat) : Int)) H) : BinOk C .RShift (I (a : Int)) (I (b : Int)) H Q :=
  bin_shr (by rw [Int.toNat_natCast, ← pow_cast, fdiv_nat]; exact h) (by omega)
theorem n_ashr (h : Q (I ((a / 2 ^ b : Nat) : Int)) H) : AugOk C .RShift (I (a : Int)) (I (b : Int)) H Q :=
  aug_shr (by rw [Int.toNat_natCast, ← pow_cast, fdiv_nat]; exact h) (by omega)
theorem n_aadd (h : Q (I ((a + b : Nat) : Int)) H) : AugOk C .Add (I (a : Int)) (I (b : Int)) H Q := aug_add (by rw [← Int.natCast_add]; exact h)
theorem n_asub (hb : b ≤ a) (h : Q (I ((a - b : Nat) : Int)) H) : AugOk C .Sub (I (a : Int)) (I (b : Int)) H Q := aug_sub (by rw [← Int.ofNat_sub hb]; exact h)
theorem n_amod (h0 : b ≠ 0) (h : Q (I ((a % b : Nat) : Int)) H) : AugOk C .Mod (I (a : Int)) (I (b : Int)) H Q := aug_mod (by rw [fmod_nat]; exact h) (by omega)
theorem n_mask {w : Nat} (h : Q (I ((a % 2 ^ w : Nat) : Int)) H) : BinOk C .BitAnd (I (a : Int)) (I ((2 ^ w - 1 : Nat) : Int)) H Q :=
  bin_and (by
    have e : (((2 ^ w - 1 : Nat) : Int)) = (2 : Int) ^ w - 1 := by rw [Int.ofNat_sub (Nat.one_le_two_pow), pow_cast]; rfl
    rw [e, kbt_mask, ← pow_cast]
    exact h)
theorem n_pow {e : Nat} (he : e ≤ 10000) (ha : Sm (a : Int)) (h : Q (I ((a ^ e : Nat) : Int)) H) : BinOk C .Pow (I (a : Int)) (I (e : Int)) H Q :=
  bin_pow (by rw [Int.toNat_natCast]; have q : ((a ^ e : Nat) : Int) = (a : Int) ^ e := by push_cast; rfl
              rw [← q]; exact h) (by omega) (by omega) ha

/-! tests: the two ways -/
theorem t_lt (h1 : a < b → P true H) (h2 : ¬ a < b → P false H) : CmpOk C .Lt (I (a : Int)) (I (b : Int)) H fun v H => ∃ c, v = .bool c ∧ P c H :=
  cmp_lt (by by_cases h : a < b
             · exact ⟨true, by simp [h], h1 h⟩
             · exact ⟨false, by simp [h], h2 h⟩)
theorem t_gt (h1 : b < a → P true H) (h2 : ¬ b < a → P false H) : CmpOk C .Gt (I (a : Int)) (I (b : Int)) H fun v H => ∃ c, v = .bool c ∧ P c H :=
  cmp_gt (by by_cases h : b < a
             · exact ⟨true, by simp [h], h1 h⟩
             · exact ⟨false, by simp [h], h2 h⟩)
theorem t_le (h1 : a ≤ b → P true H) (h2 : ¬ a ≤ b → P false H) : CmpOk C .LtE (I (a : Int)) (I (b : Int)) H fun v H => ∃ c, v = .bool c ∧ P c H :=
  cmp_le (by by_cases h : a ≤ b
             · exact ⟨true, by simp [h], h1 h⟩
             · exact ⟨false, by simp [h], h2 h⟩)
theorem t_eq (h1 : a = b → P true H) (h2 : ¬ a = b → P false H) : CmpOk C .Eq (I (a : Int)) (I (b : Int)) H fun v H => ∃ c, v = .bool c ∧ P c H :=
  cmp_eq (by by_cases h : a = b
             · exact ⟨true, by simp [h], h1 h⟩
             · exact ⟨false, by simp only [decide_eq_false (show ¬ ((a : Int) = b) by omega)], h2 h⟩)
theorem t_ne (h1 : ¬ a = b → P true H) (h2 : a = b → P false H) : CmpOk C .NotEq (I (a : Int)) (I (b : Int)) H fun v H => ∃ c, v = .bool c ∧ P c H :=
  cmp_ne (by by_cases h : a = b
             · exact ⟨false, by simp [h], h2 h⟩
             · exact ⟨true, by simp only [decide_eq_true (show (a : Int) ≠ b by omega)], h1 h⟩)
theorem i_lt (h1 : x < y → P true H) (h2 : ¬ x < y → P false H) : CmpOk C .Lt (I x) (I y) H fun v H => ∃ c, v = .bool c ∧ P c H :=
  cmp_lt (by by_cases h : x < y
             · exact ⟨true, by simp [h], h1 h⟩
             · exact ⟨false, by simp [h], h2 h⟩)
theorem i_gt (h1 : y < x → P true H) (h2 : ¬ y < x → P false H) : CmpOk C .Gt (I x) (I y) H fun v H => ∃ c, v = .bool c ∧ P c H :=
  cmp_gt (by by_cases h : y < x
             · exact ⟨true, by simp [h], h1 h⟩
             · exact ⟨false, by simp [h], h2 h⟩)
theorem i_eq (h1 : x = y → P true H) (h2 : ¬ x = y → P false H) : CmpOk C .Eq (I x) (I y) H fun v H => ∃ c, v = .bool c ∧ P c H :=
  cmp_eq (by by_cases h : x = y
             · exact ⟨true, by simp [h], h1 h⟩
             · exact ⟨false, by simp [h], h2 h⟩)
theorem b_eq {c d : Bool} (h1 : c = d → P true H) (h2 : ¬ c = d → P false H) : CmpOk C .Eq (.bool c) (.bool d) H fun v H => ∃ c, v = .bool c ∧ P c H :=
  cmp_eqb (by by_cases h : c = d
              · exact ⟨true, by simp [h], h1 h⟩
              · exact ⟨false, by simp [h], h2 h⟩)
theorem is_t {v : Value} (h1 : v = .none → P true H) (h2 : ¬ v = .none → P false H) : CmpOk C .Is v .none H fun v H => ∃ c, v = .bool c ∧ P c H :=
  cmp_is (by by_cases h : v = .none
             · exact ⟨true, by simp [h], h1 h⟩
             · exact ⟨false, by simp [h], h2 h⟩)

/-! items, lengths -/
theorem n_idx {l : Addr} {xs : List Value} {v : Value} (e : H l = some (.lst xs)) (hx : xs[a]? = some v) (h : Q v H) : IdxOk C (.ref l) (I (a : Int)) H Q := idx_lst e (by omega) (by simpa using hx) h
theorem n_idxt {l : Addr} {xs : List Value} {v : Value} (e : H l = some (.tup xs)) (hx : xs[a]? = some v) (h : Q v H) : IdxOk C (.ref l) (I (a : Int)) H Q := idx_tup e (by omega) (by simpa using hx) h
theorem n_set {l : Addr} {xs : List Value} {v : Value} {Q : PH → Prop} (e : H l = some (.lst xs)) (hk : a < xs.length) (h : Q (H.set l (.lst (xs.set a v)))) : SetOk C (.ref l) (I (a : Int)) v H Q :=
  set_lst e (by omega) (by omega) (by simpa using h)

/-! slices -/
theorem slc_ok {l : Addr} {xs : List Value} {lo hi : Value} {p q : Option Nat} (e : H l = some (.lst xs)) (hp : (lo = .none ∧ p = none) ∨ (∃ k : Nat, lo = I (k : Int) ∧ p = some k)) (hq : (hi = .none ∧ q = none) ∨ (∃ k : Nat, hi = I (k : Int) ∧ q = some k))
    (h : ∀ r, H r = none → Q (.ref r) (H.set r (.lst ((xs.drop (min (p.getD 0) xs.length)).take (min (q.getD xs.length) xs.length - min (p.getD 0) xs.length))))) : SlcOk C (.ref l) lo hi H Q :=
  ⟨fun A s o' l' u' bd kp v eo el eu => by
    obtain rfl := er_ref eo
    obtain ⟨vs, m, g1, g2, g3⟩ := v.lst e
    have hlen := len_of g2
    refine ⟨fun ob => ⟨_, Heap.get?_push_of_some _ g1, rfl⟩, ?_⟩
    have pl : ∃ z : Option Int, IsPart l' z ∧ z.elim 0 (clipAt vs.size) = min (p.getD 0) xs.length := by
      rcases hp with ⟨rfl, rfl⟩ | ⟨k, rfl, rfl⟩
      · obtain rfl := er_none el; exact ⟨none, .none, by simp⟩
      · obtain ⟨t, rfl⟩ := er_int el; exact ⟨some k, .int _ _, by show clipAt vs.size (k : Int) = _; rw [clipAt_nat, hlen]; rfl⟩
    have pu : ∃ z : Option Int, IsPart u' z ∧ z.elim vs.size (clipAt vs.size) = min (q.getD xs.length) xs.length := by
      rcases hq with ⟨rfl, rfl⟩ | ⟨k, rfl, rfl⟩
      · obtain rfl := er_none eu; exact ⟨none, .none, by simp [hlen]⟩
      · obtain ⟨t, rfl⟩ := er_int eu; exact ⟨some k, .int _ _, by show clipAt vs.size (k : Int) = _; rw [clipAt_nat, hlen]; rfl⟩
    obtain ⟨z, pl1, pl2⟩ := pl
    obtain ⟨z', pu1, pu2⟩ := pu
    have hL : s.heap.IsList l vs := ⟨_, g1, rfl, m, rfl⟩
    refine wpAny_getItem_list_slice (hL.push _) (Heap.IsSliceOf.new ..) pl1 pu1 .none (by intro q; cases q) ?_ (cap_line g3)
    rw [slicePick_plain, pl2, pu2]
    have k1 : Keep C (s.heap.push { cls := .type "slice", data := .fields #[l', u', .none] }) := kp.push _
    have v1 := v.push { cls := .type "slice", data := .fields #[l', u', .none] }
    have z := finA (s := { s with heap := s.heap.push { cls := .type "slice", data := .fields #[l', u', .none] } }) (Q := Q) (tk := s.toks) k1 v1
      (lst_is (vs := ((vs.toList.drop (min (p.getD 0) xs.length)).take (min (q.getD xs.length) xs.length - min (p.getD 0) xs.length)).toArray) (n := 0) (by rw [← g2]; simp [List.map_take, List.map_drop]) (by simp; omega)) rfl h
    obtain ⟨H', f, qq⟩ := z
    exact ⟨H', (Frm.grow (h' := s.heap.push { cls := .type "slice", data := .fields #[l', u', .none] }) (tk := s.toks) kp v fun b o e => Heap.get?_push_of_some _ e).trans f, qq⟩⟩
theorem slc_to {l : Addr} {xs : List Value} (e : H l = some (.lst xs)) (h : ∀ r, H r = none → Q (.ref r) (H.set r (.lst (xs.take a)))) : SlcOk C (.ref l) .none (I (a : Int)) H Q :=
  slc_ok (p := none) (q := some a) e (.inl ⟨rfl, rfl⟩) (.inr ⟨a, rfl, rfl⟩) fun r hr => by
    have z := h r hr
    simp only [Option.getD_none, Option.getD_some, Nat.zero_min, List.drop_zero, Nat.sub_zero]
    rw [List.take_eq_take_min] at z; exact z
theorem slc_from {l : Addr} {xs : List Value} (e : H l = some (.lst xs)) (ha : a ≤ xs.length) (h : ∀ r, H r = none → Q (.ref r) (H.set r (.lst (xs.drop a)))) : SlcOk C (.ref l) (I (a : Int)) .none H Q :=
  slc_ok (p := some a) (q := none) e (.inr ⟨a, rfl, rfl⟩) (.inl ⟨rfl, rfl⟩) fun r hr => by
    have z := h r hr
    simp only [Option.getD_none, Option.getD_some, Nat.min_self, Nat.min_eq_left ha]
    rw [List.take_of_length_le (by simp)]; exact z
theorem slc_all {l : Addr} {xs : List Value} (e : H l = some (.lst xs)) (h : ∀ r, H r = none → Q (.ref r) (H.set r (.lst xs))) : SlcOk C (.ref l) .none .none H Q :=
  slc_ok (p := none) (q := none) e (.inl ⟨rfl, rfl⟩) (.inl ⟨rfl, rfl⟩) fun r hr => by
    have z := h r hr
    simp only [Option.getD_none, Nat.zero_min, List.drop_zero, Nat.sub_zero, Nat.min_self, List.take_length]; exact z
theorem slc_two {l : Addr} {xs : List Value} (e : H l = some (.lst xs)) (hb : b ≤ xs.length) (hab : a ≤ b) (h : ∀ r, H r = none → Q (.ref r) (H.set r (.lst ((xs.drop a).take (b - a))))) : SlcOk C (.ref l) (I (a : Int)) (I (b : Int)) H Q :=
  slc_ok (p := some a) (q := some b) e (.inr ⟨a, rfl, rfl⟩) (.inr ⟨b, rfl, rfl⟩) fun r hr => by
    have z := h r hr
    simp only [Option.getD_some, Nat.min_eq_left hb, Nat.min_eq_left (Nat.le_trans hab hb)]; exact z

theorem list_append_meth {l : Addr} {xs : List Value} (e : H l = some (.lst xs)) : MethOk C (.ref l) (S "append") (.builtin "list.append") H :=
  ⟨rfl, fun A s o' pl Q' k v eo hq => by
    obtain rfl := er_ref eo
    obtain ⟨vs, m, g1, g2, g3⟩ := v.lst e
    exact Calls.getMethod_list_append g1 rfl rfl hq⟩
theorem bitlen_meth : MethOk C (I x) (S "bit_length") (.builtin "int.bit_length") H :=
  ⟨rfl, fun A s o' pl Q' k v eo hq => by
    obtain ⟨t, rfl⟩ := er_int eo
    exact getMethod_int_bit_length hq⟩
theorem tr_bool {c : Bool} (h : P c H) : TruthOk C (.bool c) H P :=
  ⟨fun A s v' bd k v e => by
    obtain rfl := er_bool e
    exact wpAny_truthy_bool ⟨H, Frm.refl k v, h⟩⟩
end
end

section

/-- a row without the noughts at its end -/
noncomputable def strip : List Nat → List Nat
  | [] => []
  | d :: ds => match strip ds with
    | [] => if d = 0 then [] else [d]
    | e :: r => d :: e :: r

theorem strip_snoc0 : ∀ ds : List Nat, strip (ds ++ [0]) = strip ds
  | [] => rfl
  | d :: ds => by rw [List.cons_append, strip, strip, strip_snoc0 ds]
theorem strip_snoc : ∀ (ds : List Nat) (e : Nat), e ≠ 0 → strip (ds ++ [e]) = ds ++ [e]
  | [], e, h => by simp [strip, h]
  | d :: ds, e, h => by
    rw [List.cons_append, strip, strip_snoc ds e h]
    cases hq : ds ++ [e] with
    | nil => simp at hq
    | cons a r => rfl

/-- the number of a row -/
noncomputable def val (B : Nat) : List Nat → Nat
  | [] => 0
  | d :: ds => d + B * val B ds

noncomputable def Dig (B : Nat) (ds : List Nat) : Prop := ∀ d ∈ ds, d < B

theorem Dig.nil (B : Nat) : Dig B [] := fun _ h => nomatch h
theorem Dig.cons {B d : Nat} {ds : List Nat} (h : d < B) (hs : Dig B ds) : Dig B (d :: ds) := fun e he => by
  rcases List.mem_cons.mp he with rfl | he
  · exact h
  · exact hs e he
theorem Dig.head {B d : Nat} {ds : List Nat} (h : Dig B (d :: ds)) : d < B := h d (.head _)
theorem Dig.tail {B d : Nat} {ds : List Nat} (h : Dig B (d :: ds)) : Dig B ds := fun e he => h e (.tail _ he)
theorem Dig.snoc {B d : Nat} {ds : List Nat} (hs : Dig B ds) (h : d < B) : Dig B (ds ++ [d]) := fun e he => by
  rcases List.mem_append.mp he with he | he
  · exact hs e he
  · rw [List.mem_singleton.mp he]; exact h
theorem Dig.get {B k d : Nat} {ds : List Nat} (h : Dig B ds) (e : ds[k]? = some d) : d < B := h d (List.mem_of_getElem? e)

theorem val_app (B : Nat) : ∀ (xs ys : List Nat), val B (xs ++ ys) = val B xs + B ^ xs.length * val B ys
  | [], ys => by simp [val]
  | x :: xs, ys => by
    rw [List.cons_append, val, val, val_app B xs ys, List.length_cons, Nat.pow_succ, Nat.mul_add, Nat.add_assoc, Nat.mul_comm (B ^ xs.length) B, Nat.mul_assoc]
theorem val_snoc (B : Nat) (xs : List Nat) (d : Nat) : val B (xs ++ [d]) = val B xs + B ^ xs.length * d := by rw [val_app]; simp [val]
theorem val_lt {B : Nat} (hB : 0 < B) : ∀ {xs : List Nat}, Dig B xs → val B xs < B ^ xs.length
  | [], _ => by simp [val]
  | x :: xs, h => by
    have ih := val_lt hB h.tail
    have hx := h.head
    rw [val, List.length_cons, Nat.pow_succ, Nat.mul_comm (B ^ xs.length)]
    have : B * (val B xs + 1) ≤ B * B ^ xs.length := Nat.mul_le_mul_left B ih
    rw [Nat.mul_add] at this
    lia

/-- a row whose top is no nought -/
noncomputable def Top (B : Nat) (xs : List Nat) : Prop := xs = [] ∨ B ^ (xs.length - 1) ≤ val B xs

/-- the row of a number -/
noncomputable def row (B n : Nat) : List Nat := if h : n = 0 ∨ B < 2 then [] else n % B :: row B (n / B)
termination_by n
decreasing_by exact Nat.div_lt_self (by lia) (by lia)

theorem row_zero (B : Nat) : row B 0 = [] := by rw [row]; simp
theorem row_pos {B n : Nat} (hB : 2 ≤ B) (hn : n ≠ 0) : row B n = n % B :: row B (n / B) := by
  rw [row, dif_neg (by lia)]

theorem row_val {B : Nat} (hB : 2 ≤ B) (n : Nat) : val B (row B n) = n := by
  induction n using Nat.strongRecOn with
  | ind n ih =>
    by_cases h : n = 0
    · subst h; rw [row_zero]; rfl
    · rw [row_pos hB h, val, ih _ (Nat.div_lt_self (by lia) (by lia))]
      exact Nat.mod_add_div n B
theorem row_dig {B : Nat} (hB : 2 ≤ B) (n : Nat) : Dig B (row B n) := by
  induction n using Nat.strongRecOn with
  | ind n ih =>
    by_cases h : n = 0
    · subst h; rw [row_zero]; exact Dig.nil B
    · rw [row_pos hB h]
      exact Dig.cons (Nat.mod_lt _ (by lia)) (ih _ (Nat.div_lt_self (by lia) (by lia)))
theorem row_nil {B n : Nat} (hB : 2 ≤ B) : row B n = [] ↔ n = 0 := by
  constructor
  · intro h
    by_cases hn : n = 0
    · exact hn
    · rw [row_pos hB hn] at h; cases h
  · rintro rfl; exact row_zero B

theorem strip_row {B : Nat} (hB : 2 ≤ B) : ∀ {xs : List Nat}, Dig B xs → strip xs = row B (val B xs)
  | [], _ => by rw [strip, val, row_zero]
  | x :: xs, h => by
    have ih := strip_row hB h.tail
    have hx := h.head
    rw [strip, ih, val]
    by_cases h0 : val B xs = 0
    · rw [h0, row_zero, Nat.mul_zero, Nat.add_zero]
      by_cases hx0 : x = 0
      · subst hx0; rw [row_zero]; rfl
      · rw [row_pos hB hx0, Nat.mod_eq_of_lt hx, Nat.div_eq_of_lt hx, row_zero]; simp [hx0]
    · have hne : x + B * val B xs ≠ 0 := by
        have := Nat.mul_pos (show 0 < B by lia) (Nat.pos_of_ne_zero h0)
        lia
      rw [row_pos hB hne, Nat.add_mul_mod_self_left, Nat.mod_eq_of_lt hx, Nat.add_mul_div_left _ _ (show 0 < B by lia), Nat.div_eq_of_lt hx, Nat.zero_add, row_pos hB h0]

theorem strip_top {B : Nat} (hB : 2 ≤ B) {xs : List Nat} (h : Dig B xs) (ht : Top B xs) : strip xs = xs := by
  rcases List.eq_nil_or_concat xs with rfl | ⟨ys, d, rfl⟩
  · rfl
  · rw [List.concat_eq_append] at *
    by_cases hd : d = 0
    · subst hd
      rcases ht with ht | ht
      · simp at ht
      · rw [val_snoc, Nat.mul_zero, Nat.add_zero] at ht
        have hy : Dig B ys := fun e he => h e (List.mem_append_left _ he)
        have := val_lt (show 0 < B by lia) hy
        simp at ht
        lia
    · exact strip_snoc ys d hd
/-- a row is told by its number -/
theorem top_row {B : Nat} (hB : 2 ≤ B) {xs : List Nat} (h : Dig B xs) (ht : Top B xs) : xs = row B (val B xs) := by
  rw [← strip_row hB h, strip_top hB h ht]
theorem row_top {B : Nat} (hB : 2 ≤ B) (n : Nat) : Top B (row B n) := by
  by_cases hn : row B n = []
  · exact .inl hn
  · right
    induction n using Nat.strongRecOn with
    | ind n ih =>
      by_cases h : n = 0
      · subst h; rw [row_zero] at hn; exact absurd rfl hn
      · rw [row_pos hB h]
        by_cases h' : row B (n / B) = []
        · rw [h']; simp only [List.length_cons, List.length_nil, val]
          have : n / B = 0 := (row_nil hB).mp h'
          have hlt : n < B := by
            rcases Nat.div_eq_zero_iff.mp this with q | q
            · lia
            · exact q
          rw [Nat.mod_eq_of_lt hlt]
          simp; lia
        · have := ih _ (Nat.div_lt_self (by lia) (by lia)) h'
          rw [val, List.length_cons, Nat.add_sub_cancel]
          have hl : (row B (n / B)).length ≠ 0 := by simpa using h'
          obtain ⟨m, hm⟩ : ∃ m, (row B (n / B)).length = m + 1 := ⟨_, (Nat.succ_pred_eq_of_ne_zero hl).symm⟩
          rw [hm] at this ⊢
          rw [Nat.add_sub_cancel] at this
          rw [Nat.pow_succ, Nat.mul_comm (B ^ m)]
          have := Nat.mul_le_mul_left B this
          lia
theorem row_lt {B : Nat} (hB : 2 ≤ B) (n : Nat) : n < B ^ (row B n).length := by
  have := val_lt (show 0 < B by lia) (row_dig hB n)
  rwa [row_val hB] at this
theorem row_ge {B : Nat} (hB : 2 ≤ B) {n : Nat} (hn : n ≠ 0) : B ^ ((row B n).length - 1) ≤ n := by
  rcases row_top hB n with h | h
  · exact absurd ((row_nil hB).mp h) hn
  · rwa [row_val hB] at h
theorem row_len_le {B : Nat} (hB : 2 ≤ B) {n k : Nat} (h : n < B ^ k) : (row B n).length ≤ k := by
  by_cases hn : n = 0
  · subst hn; rw [row_zero]; exact Nat.zero_le _
  · have h1 := row_ge hB hn
    have : B ^ ((row B n).length - 1) < B ^ k := Nat.lt_of_le_of_lt h1 h
    have := (Nat.pow_lt_pow_iff_right (by lia)).mp this
    lia
theorem row_len_two {w n k : Nat} (hw : 1 ≤ w) (h : n < 2 ^ k) : (row (2 ^ w) n).length ≤ k := by
  have hB : 2 ≤ 2 ^ w := by
    have := Nat.pow_le_pow_right (show 0 < 2 by decide) hw
    lia
  refine row_len_le hB (Nat.lt_of_lt_of_le h ?_)
  rw [← Nat.pow_mul]
  exact Nat.pow_le_pow_right (by decide) (Nat.le_mul_of_pos_left k hw)
theorem row_inj {B : Nat} (hB : 2 ≤ B) {m n : Nat} (h : row B m = row B n) : m = n := by
  rw [← row_val hB m, ← row_val hB n, h]

theorem take_succ_val {B : Nat} {xs : List Nat} {k d : Nat} (h : xs[k]? = some d) : val B (xs.take (k + 1)) = val B (xs.take k) + B ^ k * d := by
  have hk := (List.getElem?_eq_some_iff.mp h).1
  rw [List.take_add_one, h, Option.toList_some, val_app]
  simp [val, Nat.min_eq_left (Nat.le_of_lt hk)]
theorem take_beyond {B : Nat} {xs : List Nat} {k : Nat} (h : xs.length ≤ k) : val B (xs.take k) = val B xs := by rw [List.take_of_length_le h]

theorem val_drop {B : Nat} {xs : List Nat} {j d : Nat} (h : xs[j]? = some d) : val B xs = val B (xs.take j) + B ^ j * (d + B * val B (xs.drop (j + 1))) := by
  have hj := (List.getElem?_eq_some_iff.mp h).1
  have e : xs = xs.take j ++ d :: xs.drop (j + 1) := by
    rw [(List.getElem?_eq_some_iff.mp h).2.symm, List.getElem_cons_drop, List.take_append_drop]
  calc val B xs = val B (xs.take j ++ d :: xs.drop (j + 1)) := by rw [← e]
    _ = _ := by rw [val_app, val]; simp [Nat.min_eq_left (Nat.le_of_lt hj)]
theorem Dig.take {B : Nat} {xs : List Nat} (h : Dig B xs) (k : Nat) : Dig B (xs.take k) := fun d hd => h d (List.mem_of_mem_take hd)
theorem Dig.drop {B : Nat} {xs : List Nat} (h : Dig B xs) (k : Nat) : Dig B (xs.drop k) := fun d hd => h d (List.mem_of_mem_drop hd)
/-- the first difference from the top decides -/
theorem lt_of_top {B : Nat} (hB : 0 < B) {xs ys : List Nat} (hx : Dig B xs) {j d e : Nat} (h1 : xs[j]? = some d) (h2 : ys[j]? = some e) (hd : d < e) (ht : xs.drop (j + 1) = ys.drop (j + 1)) : val B xs < val B ys := by
  rw [val_drop h1, val_drop h2, ht]
  have hj := (List.getElem?_eq_some_iff.mp h1).1
  have l1 := val_lt hB (hx.take j)
  rw [List.length_take, Nat.min_eq_left (Nat.le_of_lt hj)] at l1
  have l2 : B ^ j * (d + 1) ≤ B ^ j * e := Nat.mul_le_mul_left _ hd
  rw [Nat.mul_add, Nat.mul_add, Nat.mul_one] at *
  lia
theorem len_lt_val {B : Nat} (hB : 2 ≤ B) {x y : Nat} (h : (row B x).length < (row B y).length) : x < y := by
  have h1 := row_lt hB x
  have hy : y ≠ 0 := by rintro rfl; rw [row_zero] at h; simp at h
  have h2 := row_ge hB hy
  have h3 : B ^ (row B x).length ≤ B ^ ((row B y).length - 1) := Nat.pow_le_pow_right (by lia) (by lia)
  lia

theorem drop_of_get {xs : List Nat} {j d : Nat} (h : xs[j]? = some d) : xs.drop j = d :: xs.drop (j + 1) := by
  obtain ⟨hj, rfl⟩ := List.getElem?_eq_some_iff.mp h
  exact (List.getElem_cons_drop hj).symm
theorem take_of_get {xs : List Nat} {j d : Nat} (h : xs[j]? = some d) : xs.take (j + 1) = xs.take j ++ [d] := by
  rw [List.take_add_one, h]; rfl

/-- -1, 0, 1 -/
noncomputable def cmpN (x y : Nat) : Int := if x < y then -1 else if x = y then 0 else 1

theorem add_step {B K X Y c d e : Nat} {ds : List Nat} (hB : 0 < B) (hl : ds.length = K) (h : val B ds + B ^ K * c = X + Y) :
    val B (ds ++ [(c + (d + e)) % B]) + B ^ (K + 1) * ((c + (d + e)) / B) = (X + B ^ K * d) + (Y + B ^ K * e) := by
  rw [val_snoc, hl, Nat.pow_succ, Nat.mul_assoc, Nat.add_assoc, ← Nat.mul_add, Nat.mod_add_div, Nat.mul_add, Nat.mul_add]
  lia
theorem add_carry {B c d e : Nat} (hc : c ≤ 1) (hd : d < B) (he : e < B) : (c + (d + e)) / B ≤ 1 := by
  have : (c + (d + e)) / B < 2 := Nat.div_lt_of_lt_mul (by lia)
  lia
theorem add_fin {B x y c : Nat} {ds : List Nat} (hB : 2 ≤ B) (hl : ds.length = (row B x).length) (hd : Dig B ds) (hc : c ≤ 1) (h : val B ds + B ^ (row B x).length * c = x + y) :
    (if 0 < c then ds ++ [c] else ds) = row B (x + y) := by
  by_cases h0 : 0 < c
  · rw [if_pos h0]
    have hc1 : c = 1 := by lia
    subst hc1
    have hv : val B (ds ++ [1]) = x + y := by rw [val_snoc, hl]; exact h
    rw [← hv]
    refine top_row hB (hd.snoc (by lia)) (.inr ?_)
    rw [val_snoc, List.length_append, List.length_singleton, Nat.add_sub_cancel]
    lia
  · rw [if_neg h0]
    have hc1 : c = 0 := by lia
    subst hc1
    rw [Nat.mul_zero, Nat.add_zero] at h
    rw [← h]
    refine top_row hB hd ?_
    by_cases hx : x = 0
    · subst hx
      rw [row_zero] at hl
      exact .inl (List.length_eq_zero_iff.mp hl)
    · refine .inr ?_
      rw [hl, h]
      have := row_ge hB hx
      lia

theorem sub_fin {B x y c : Nat} {ds : List Nat} (hB : 2 ≤ B) (hd : Dig B ds) (hc : c ≤ 1) (hxy : y ≤ x) (h : val B ds + y = x + B ^ ds.length * c) : strip ds = row B (x - y) := by
  have := val_lt (show 0 < B by lia) hd
  have hc0 : c = 0 := by
    by_cases h1 : c = 1
    · subst h1; lia
    · lia
  subst hc0
  rw [strip_row hB hd]
  congr 1
  lia
theorem len_mono {B : Nat} (hB : 2 ≤ B) {x y : Nat} (h : y ≤ x) : (row B y).length ≤ (row B x).length := by
  by_cases hl : (row B x).length < (row B y).length
  · have := len_lt_val hB hl; lia
  · lia

/-- division by a limb, from the top -/
theorem dl_val {B m r d v : Nat} {qs : List Nat} (h : val B qs * m + r = v) : val B ((r * B + d) / m :: qs) * m + (r * B + d) % m = d + B * v := by
  rw [val, Nat.add_mul, ← h, Nat.mul_add]
  have e := Nat.div_add_mod (r * B + d) m
  have e2 : (r * B + d) / m * m = m * ((r * B + d) / m) := Nat.mul_comm _ _
  have e3 : B * val B qs * m = B * (val B qs * m) := Nat.mul_assoc _ _ _
  have e4 : r * B = B * r := Nat.mul_comm _ _
  lia
theorem dl_dig {B m r d : Nat} (hr : r < m) (hd : d < B) : (r * B + d) / m < B := by
  refine Nat.div_lt_of_lt_mul ?_
  have : (r + 1) * B ≤ m * B := Nat.mul_le_mul_right B hr
  rw [Nat.add_mul] at this
  lia
theorem set_repl {j q : Nat} {qs : List Nat} : (List.replicate (j + 1) 0 ++ qs).set j q = List.replicate j 0 ++ q :: qs := by
  rw [List.replicate_succ', List.append_assoc, List.set_append_right _ _ (by simp)]
  simp

theorem sub_step {B K X Y c d e : Nat} {ds : List Nat} (hB : 0 < B) (hl : ds.length = K) (hd : d < B) (he : e < B) (hc : c ≤ 1) (h : val B ds + Y = X + B ^ K * c) :
    (d < c + e → val B (ds ++ [d + B - (c + e)]) + (Y + B ^ K * e) = (X + B ^ K * d) + B ^ (K + 1) * 1 ∧ d + B - (c + e) < B) ∧
    (c + e ≤ d → val B (ds ++ [d - (c + e)]) + (Y + B ^ K * e) = (X + B ^ K * d) + B ^ (K + 1) * 0 ∧ d - (c + e) < B) := by
  rw [val_snoc, val_snoc, hl, Nat.pow_succ]
  constructor
  · intro hlt
    refine ⟨?_, by lia⟩
    have e1 : B ^ K * (d + B - (c + e)) + B ^ K * (c + e) = B ^ K * (d + B) := by rw [← Nat.mul_add]; congr 1; lia
    rw [Nat.mul_add, Nat.mul_add (B ^ K) d B] at e1
    lia
  · intro hle
    refine ⟨?_, by lia⟩
    have e1 : B ^ K * (d - (c + e)) + B ^ K * (c + e) = B ^ K * d := by rw [← Nat.mul_add]; congr 1; lia
    rw [Nat.mul_add] at e1
    lia

/-- left by a few bits -/
theorem shl_fin {B z c k : Nat} {ds zs : List Nat} (hB : 2 ≤ B) (hz : zs = List.replicate k 0) (hd : Dig B ds) (hc : c < B) (hv : val B ds + B ^ ds.length * c = z) (ht : 0 < c ∨ (ds = [] → False) ∧ B ^ (ds.length - 1) ≤ val B ds) :
    (if 0 < c then (zs ++ ds) ++ [c] else zs ++ ds) = row B (B ^ k * z) := by
  have hzd : Dig B zs := by subst hz; intro d hd; rw [List.eq_of_mem_replicate hd]; lia
  have hzv : val B zs = 0 := by
    subst hz
    clear hzd
    induction k with
    | zero => rfl
    | succ k ih => rw [List.replicate_succ, val, ih]; simp
  have hzl : zs.length = k := by subst hz; simp
  have hall : Dig B (zs ++ ds) := fun d h => (List.mem_append.mp h).elim (hzd d) (hd d)
  by_cases h0 : 0 < c
  · rw [if_pos h0]
    have hval : val B ((zs ++ ds) ++ [c]) = B ^ k * z := by
      rw [val_snoc, val_app, hzv, hzl, List.length_append, hzl, Nat.zero_add, Nat.pow_add, Nat.mul_assoc, ← Nat.mul_add, hv]
    rw [← hval]
    refine top_row hB (hall.snoc hc) (.inr ?_)
    rw [val_snoc, List.length_append, List.length_singleton, Nat.add_sub_cancel]
    have : B ^ (zs ++ ds).length * 1 ≤ B ^ (zs ++ ds).length * c := Nat.mul_le_mul_left _ h0
    lia
  · rw [if_neg h0]
    have hc0 : c = 0 := by lia
    subst hc0
    rw [Nat.mul_zero, Nat.add_zero] at hv
    have hval : val B (zs ++ ds) = B ^ k * z := by rw [val_app, hzv, hzl, Nat.zero_add, hv]
    rw [← hval]
    refine top_row hB hall (.inr ?_)
    rcases ht with ht | ⟨h1, h2⟩
    · lia
    · rw [val_app, hzv, hzl, Nat.zero_add, List.length_append, hzl]
      have hl : ds.length ≠ 0 := fun q => h1 (List.length_eq_zero_iff.mp q)
      have : k + ds.length - 1 = k + (ds.length - 1) := by lia
      rw [this, Nat.pow_add]
      exact Nat.mul_le_mul_left _ h2

theorem val_mod {B k : Nat} (hB : 0 < B) {xs : List Nat} (h : Dig B xs) : val B xs / B ^ k = val B (xs.drop k) := by
  by_cases hk : k ≤ xs.length
  · conv => lhs; rw [← List.take_append_drop k xs]
    have hl : (xs.take k).length = k := by simp [hk]
    have h1 := val_lt hB (h.take k)
    rw [val_app, hl, Nat.add_mul_div_left _ _ (Nat.pow_pos hB)]
    rw [hl] at h1
    rw [Nat.div_eq_of_lt h1, Nat.zero_add]
  · have h1 := val_lt hB h
    rw [List.drop_of_length_le (by lia)]
    have : B ^ xs.length ≤ B ^ k := Nat.pow_le_pow_right hB (by lia)
    exact Nat.div_eq_of_lt (by lia)
/-- the digits of a number, so many of them -/
theorem digs_val {B : Nat} (hB : 2 ≤ B) {y : Nat} : ∀ (ds : List Nat) (j : Nat), (∀ i d, ds[i]? = some d → d = y / B ^ (j + i) % B) → y / B ^ j < B ^ ds.length → val B ds = y / B ^ j
  | [], j, _, h => by rw [List.length_nil, Nat.pow_zero] at h; rw [val]; generalize y / B ^ j = q at h ⊢; lia
  | d :: ds, j, hd, h => by
    have h0 := hd 0 d rfl
    rw [Nat.add_zero] at h0
    have ih := digs_val hB ds (j + 1) (fun i e he => by
      have := hd (i + 1) e (by simpa using he)
      rw [this]; congr 3; lia) (by
      rw [Nat.pow_succ, ← Nat.div_div_eq_div_mul]
      rw [List.length_cons, Nat.pow_succ, Nat.mul_comm] at h
      exact Nat.div_lt_of_lt_mul h)
    rw [val, ih, h0, Nat.pow_succ, ← Nat.div_div_eq_div_mul]
    exact Nat.mod_add_div _ _
end

section

end
local macro_rules | `(tactic| ktr_unf) => `(tactic| repeat (first | with_reducible refine l_cons ?_ | with_reducible refine l_nil ?_ | dsimp only [lk_0, lk_s, w_int, w_bool, w_none, w_absent, w_var, w_glob, w_bin, w_cmp, w_neg, w_and, w_ite, w_idx, w_slc, w_tup, w_lst, w_call, w_meth, w_attr, v_cmp, v_and, v_not, v_call, u_nil, u_cons, set_m, set_n, z_asg, z_asgD, z_asgT, z_seti, z_aug, z_expr, z_ifs, z_whl, z_forR, z_forL, z_forE, z_ret, List.set_cons_zero, List.set_cons_succ] | simp only [Option.some.injEq, exists_eq_left',
  if_true, if_false, Bool.false_eq_true, PH.set_set, nv_len, ite_true, ite_false, Bool.not_true, Bool.not_false]))
section
end
local macro_rules | `(tactic| ktr_units) => `(tactic| try (first | (with_reducible refine l_cons ?_; ktr_unf) | (with_reducible refine l_nil ?_; ktr_units)))
section
end
local macro_rules | `(tactic| ktr_rel) => `(tactic| first | assumption | exact PH.set_same _ _ _ | (refine set_old ?_ (by assumption); ktr_rel) | (refine Ext.e (by assumption) _ _ ?_; ktr_rel) | (refine Ext.e (Ret.ext (by assumption)) _ _ ?_; ktr_rel) | exact Ret.at' (by assumption))
section

section
variable {C : WC} {n : Nat} {H : PH} {Q : Value → PH → Prop}

theorem normal_ok (P : PW C) {a : Addr} {ds : List Nat} (ha : H a = some (.lst (nv ds))) (h : ∀ r, H r = none → Q (.ref r) (H.set r (.lst (nv (strip ds))))) :
    CallOk C (n + 1) (.ref a_normal) [.ref a] H Q := by
  ktr_units
  refine fn_ok P.f_normal P.gl so_normal is_normal rfl ?_
  show pSs C n b_normal [some (.ref a), none] H _ Q
  unfold b_normal
  ktr_unf
  ktr_units
  refine len_lst ha ?_
  ktr_unf
  ktr_units
  refine ⟨fun k σ H' => k ≤ ds.length ∧ H' = H ∧ σ = [some (.ref a), some (I (k : Int))] ∧ strip (ds.take k) = strip ds, ⟨ds.length, Nat.le_refl _, rfl, rfl, by rw [List.take_length]⟩, ?_⟩
  ktr_units
  rintro k σ H' ⟨hk, rfl, rfl, hs⟩
  ktr_unf
  have out : ∀ r, H' r = none → strip (ds.take k) = ds.take k → Q (.ref r) (H'.set r (.lst ((nv ds).take k))) := fun r hr he => by
    have := h r hr
    rw [← hs, he] at this
    rwa [nv, ← List.map_take]
  ktr_units
  refine t_gt (fun hk0 => ?_) fun hk0 => ?_
  · ktr_unf
    ktr_units
    refine n_sub hk0 ?_
    obtain ⟨d, hd⟩ : ∃ d, ds[k - 1]? = some d := ⟨_, List.getElem?_eq_getElem (by lia)⟩
    ktr_units
    refine n_idx ha (nv_get ds hd) ?_
    obtain ⟨m, rfl⟩ : ∃ m, k = m + 1 := ⟨k - 1, by lia⟩
    have htk : ds.take (m + 1) = ds.take m ++ [d] := by rw [List.take_add_one]; simp at hd; rw [hd]; rfl
    ktr_units
    refine t_eq (fun h0 => ?_) fun h0 => ?_
    · ktr_unf
      subst h0
      ktr_units
      refine n_asub (by lia) ?_
      ktr_units
      exact ⟨m, by lia, by lia, rfl, rfl, by rw [← hs, htk, strip_snoc0]⟩
    · ktr_unf
      ktr_units
      refine slc_to ha fun r hr => out r hr ?_
      rw [htk, strip_snoc _ _ h0]
  · ktr_unf
    ktr_units
    refine slc_to ha fun r hr => out r hr ?_
    have : k = 0 := by lia
    subst this; rfl

/-- the row of a number, as values -/
noncomputable abbrev rw' (w x : Nat) : List Value := nv (row (2 ^ w) x)
structure Wd (w : Nat) : Prop where
  lo : 1 ≤ w
  hi : w ≤ 16
theorem Wd.two {w : Nat} (h : Wd w) : 2 ≤ 2 ^ w := by
  have := Nat.pow_le_pow_right (show 0 < 2 by decide) h.lo
  lia
theorem Wd.pos {w : Nat} (h : Wd w) : 0 < 2 ^ w := Nat.two_pow_pos w
noncomputable def fitK : Nat := 30000
/-- numbers whose rows are no longer than 30000 -/
structure Fit (x : Nat) : Prop where
  lt : x < 2 ^ fitK
theorem Fit.of {x k : Nat} (h : x < 2 ^ k) (hk : k ≤ fitK) : Fit x := ⟨Nat.lt_of_lt_of_le h (Nat.pow_le_pow_right (by decide) hk)⟩
theorem Fit.len {w x : Nat} (hw : Wd w) (h : Fit x) : (row (2 ^ w) x).length ≤ 30000 := Nat.le_trans (row_len_two hw.lo h.lt) (Nat.le_refl fitK)
theorem Fit.le {x y : Nat} (h : Fit x) (hy : y ≤ x) : Fit y := ⟨Nat.lt_of_le_of_lt hy h.lt⟩
theorem sm1 : Sm ((1 : Nat) : Int) := Sm.nat (m := 1) (by decide) (by decide)
theorem n_one {b : Nat} (hb : b ≤ 100000) (h : Q (I ((2 ^ b : Nat) : Int)) H) : BinOk C .LShift (I ((1 : Nat) : Int)) (I (b : Int)) H Q := n_shl hb sm1 (by rw [Nat.one_mul]; exact h)

theorem nat_of_ok (P : PW C) {w x : Nat} (hw : Wd w) (hx : Fit x) (h : ∀ r, H r = none → Q (.ref r) (H.set r (.lst (rw' w x)))) : CallOk C (n + 1) (.ref a_nat_of) [I (x : Int), I (w : Int)] H Q := by
  ktr_units
  refine fn_ok P.f_nat_of P.gl so_nat_of is_nat_of rfl ?_
  show pSs C n b_nat_of [some (I (x : Int)), some (I (w : Int)), none, none] H _ Q
  unfold b_nat_of
  ktr_unf
  ktr_units
  refine t_lt (fun h0 => absurd h0 (by lia)) fun _ => ?_
  ktr_unf
  ktr_units
  refine ⟨by decide, fun r hr => ?_⟩
  ktr_units
  refine n_one (by have := hw.hi; lia) ?_
  ktr_units
  refine n_sub (Nat.one_le_two_pow) ?_
  ktr_unf
  ktr_units
  refine ⟨fun k σ H' => ∃ ds, σ = [some (I (k : Int)), some (I (w : Int)), some (.ref r), some (I ((2 ^ w - 1 : Nat) : Int))] ∧ H' = H.set r (.lst (nv ds)) ∧ row (2 ^ w) x = ds ++ row (2 ^ w) k, ⟨x, [], rfl, rfl, rfl⟩, ?_⟩
  ktr_units
  rintro k σ H' ⟨ds, rfl, rfl, hds⟩
  ktr_unf
  ktr_units
  refine t_gt (fun hk0 => ?_) fun hk0 => ?_
  · ktr_unf
    have hlen := congrArg List.length hds
    rw [row_pos hw.two (show k ≠ 0 by lia), List.length_append, List.length_cons] at hlen
    have h30 := hx.len hw
    ktr_units
    refine ⟨_, list_append_meth (PH.set_same _ _ _), ?_⟩
    ktr_units
    refine n_mask ?_
    ktr_units
    refine app_lst (PH.set_same _ _ _) (by rw [nv_len]; unfold cap; lia) ?_
    ktr_unf
    ktr_units
    refine ⟨trivial, ?_⟩
    ktr_units
    refine n_ashr ?_
    ktr_units
    refine ⟨k / 2 ^ w, Nat.div_lt_self hk0 (by have := hw.two; lia), ds ++ [k % 2 ^ w], rfl, by simp, ?_⟩
    rw [hds, row_pos hw.two (show k ≠ 0 by lia), List.append_assoc]; rfl
  · ktr_unf
    have : k = 0 := by lia
    subst this
    rw [row_zero, List.append_nil] at hds
    rw [← hds]
    ktr_units
    exact h r hr

theorem compare_ok (P : PW C) {w x y : Nat} {a b : Addr} (hw : Wd w) (hx : Fit x) (hy : Fit y) (ha : H a = some (.lst (rw' w x))) (hb : H b = some (.lst (rw' w y))) (h : Q (I (cmpN x y)) H) :
    CallOk C (n + 1) (.ref a_compare) [.ref a, .ref b] H Q := by
  ktr_units
  refine fn_ok P.f_compare P.gl so_compare is_compare rfl ?_
  show pSs C n b_compare [some (.ref a), some (.ref b), none] H _ Q
  unfold b_compare
  ktr_unf
  ktr_units
  refine len_lst ha (len_lst hb ?_)
  have lx := hx.len hw
  have ly := hy.len hw
  ktr_units
  refine t_ne (fun hne => ?_) fun heq => ?_
  · ktr_unf
    ktr_units
    refine len_lst ha (len_lst hb ?_)
    ktr_units
    refine t_lt (fun hlt => ?_) fun hlt => ?_
    · ktr_unf
      rw [nv_len, nv_len] at hlt
      have := len_lt_val hw.two hlt
      unfold cmpN at h
      rw [if_pos this] at h
      ktr_units
      exact h
    · ktr_unf
      rw [nv_len, nv_len] at hlt hne
      have := len_lt_val hw.two (show (row (2 ^ w) y).length < (row (2 ^ w) x).length by lia)
      unfold cmpN at h
      rw [if_neg (by lia), if_neg (by lia)] at h
      ktr_units
      exact h
  · ktr_unf
    rw [nv_len, nv_len] at heq
    ktr_units
    refine len_lst ha (bin_sub ?_)
    ktr_unf
    ktr_units
    refine ⟨_, _, _, RangeOf.down _ (by lia) (by lia), fun k σ H' => ∃ v, σ = [some (.ref a), some (.ref b), v] ∧ H' = H ∧ k ≤ (row (2 ^ w) x).length ∧ (row (2 ^ w) x).drop ((row (2 ^ w) x).length - k) = (row (2 ^ w) y).drop ((row (2 ^ w) x).length - k),
      ⟨none, rfl, rfl, by lia, by simp [heq]⟩, ?_, ?_⟩
    · ktr_units
      rintro k σ H' hk ⟨v, rfl, rfl, hk', hd⟩
      have hkl : k < (row (2 ^ w) x).length := by lia
      ktr_unf
      obtain ⟨j, hj⟩ : ∃ j, (row (2 ^ w) x).length = k + 1 + j := ⟨(row (2 ^ w) x).length - k - 1, by lia⟩
      have ej : ((row (2 ^ w) x).length : Int) - ((1 : Nat) : Int) + (k : Int) * -1 = (j : Int) := by lia
      rw [ej]
      obtain ⟨d, hd1⟩ : ∃ d, (row (2 ^ w) x)[j]? = some d := ⟨_, List.getElem?_eq_getElem (by lia)⟩
      obtain ⟨e, he1⟩ : ∃ e, (row (2 ^ w) y)[j]? = some e := ⟨_, List.getElem?_eq_getElem (by lia)⟩
      have hjj : (row (2 ^ w) x).length - k = j + 1 := by lia
      rw [hjj] at hd
      ktr_units
      refine n_idx ha (nv_get _ hd1) (n_idx hb (nv_get _ he1) ?_)
      ktr_units
      refine t_ne (fun hne => ?_) fun heq' => ?_
      · ktr_unf
        ktr_units
        refine n_idx ha (nv_get _ hd1) (n_idx hb (nv_get _ he1) ?_)
        ktr_units
        refine t_lt (fun hlt => ?_) fun hlt => ?_
        · ktr_unf
          have := lt_of_top hw.pos (row_dig hw.two x) hd1 he1 hlt hd
          rw [row_val hw.two, row_val hw.two] at this
          unfold cmpN at h
          rw [if_pos this] at h
          ktr_units
          exact h
        · ktr_unf
          have := lt_of_top hw.pos (row_dig hw.two y) he1 hd1 (by lia) hd.symm
          rw [row_val hw.two, row_val hw.two] at this
          unfold cmpN at h
          rw [if_neg (by lia), if_neg (by lia)] at h
          ktr_units
          exact h
      · ktr_unf
        ktr_units
        refine ⟨_, rfl, trivial, hkl, ?_⟩
        have e1 : (row (2 ^ w) x).length - (k + 1) = j := by lia
        rw [e1, drop_of_get hd1, drop_of_get he1, hd, heq']
    · ktr_units
      rintro σ H' ⟨v, rfl, rfl, hk', hd⟩
      ktr_unf
      have e1 : ((row (2 ^ w) x).length : Int) - ((1 : Nat) : Int) + 1 = (row (2 ^ w) x).length := by lia
      rw [e1, Int.toNat_natCast, Nat.sub_self, List.drop_zero, List.drop_zero] at hd
      have := row_inj hw.two hd
      subst this
      unfold cmpN at h
      rw [if_neg (by lia), if_pos rfl] at h
      ktr_units
      exact h
end
end

section


noncomputable def PSs.tl : PSs → PSs
  | .cons _ r => r
  | .nil => .nil
noncomputable def PSs.hd : PSs → PS
  | .cons s _ => s
  | .nil => .rais

section
variable {C : WC} {n : Nat} {H : PH} {Q : Value → PH → Prop}

theorem add_core (P : PW C) {w x y : Nat} {a b : Addr} {v : Option Value} (hw : Wd w) (hx : Fit x) (hy : Fit y) (ha : H a = some (.lst (rw' w x))) (hb : H b = some (.lst (rw' w y))) (hl : (row (2 ^ w) y).length ≤ (row (2 ^ w) x).length)
    {N : Lo → PH → Prop} (h : ∀ r, H r = none → Q (.ref r) (H.set r (.lst (rw' w (x + y))))) :
    pSs C n (PSs.tl b_add) [some (.ref a), some (.ref b), some (I (w : Int)), none, none, none, v] H N Q := by
  unfold PSs.tl b_add
  ktr_unf
  ktr_units
  refine ⟨by decide, fun r hr => ?_⟩
  ktr_units
  refine n_one (by have := hw.hi; lia) ?_
  ktr_units
  refine n_sub (Nat.one_le_two_pow) ?_
  have lx := hx.len hw
  have ly := hy.len hw
  have hxv := row_val hw.two x
  have hyv := row_val hw.two y
  have hB := hw.pos
  ktr_units
  refine len_lst (set_old hb hr) ?_
  ktr_unf
  ktr_units
  refine ⟨_, _, _, RangeOf.one _ (by lia) (by lia), fun k σ H' => ∃ ds c v, σ = [some (.ref a), some (.ref b), some (I (w : Int)), some (.ref r), some (I ((c : Nat) : Int)), some (I ((2 ^ w - 1 : Nat) : Int)), v] ∧ H' = H.set r (.lst (nv ds)) ∧
      ds.length = k ∧ Dig (2 ^ w) ds ∧ c ≤ 1 ∧ val (2 ^ w) ds + (2 ^ w) ^ k * c = val (2 ^ w) ((row (2 ^ w) x).take k) + val (2 ^ w) ((row (2 ^ w) y).take k), ⟨[], 0, v, rfl, rfl, rfl, Dig.nil _, by decide, by simp [val]⟩, ?_, ?_⟩
  · ktr_units
    rintro k σ H' hk ⟨ds, c, v, rfl, rfl, hlen, hd, hc, he⟩
    rw [Int.toNat_natCast] at hk
    obtain ⟨d, hd1⟩ : ∃ d, (row (2 ^ w) x)[k]? = some d := ⟨_, List.getElem?_eq_getElem (by lia)⟩
    obtain ⟨e, he1⟩ : ∃ e, (row (2 ^ w) y)[k]? = some e := ⟨_, List.getElem?_eq_getElem (by lia)⟩
    have e0 : (0 : Int) + (k : Int) * 1 = (k : Int) := by lia
    rw [e0]
    ktr_unf
    ktr_units
    refine n_idx (set_old ha hr) (nv_get _ hd1) (n_idx (set_old hb hr) (nv_get _ he1) (n_add (n_aadd ?_)))
    ktr_unf
    ktr_units
    refine ⟨_, list_append_meth (PH.set_same _ _ _), n_mask (app_lst (PH.set_same _ _ _) (by rw [nv_len]; unfold cap; lia) ?_)⟩
    ktr_unf
    ktr_units
    refine ⟨trivial, n_ashr ?_⟩
    ktr_units
    refine ⟨ds ++ [(c + (d + e)) % 2 ^ w], _, _, rfl, by simp, by simp [hlen], hd.snoc (Nat.mod_lt _ hB), add_carry hc ((row_dig hw.two x).get hd1) ((row_dig hw.two y).get he1), ?_⟩
    rw [take_succ_val hd1, take_succ_val he1]
    ktr_units
    exact add_step hB hlen he
  · ktr_units
    rintro σ H' ⟨ds, c, v, rfl, rfl, hlen, hd, hc, he⟩
    rw [Int.toNat_natCast] at hlen he
    ktr_unf
    ktr_units
    refine len_lst (set_old hb hr) (len_lst (set_old ha hr) ?_)
    ktr_unf
    ktr_units
    refine ⟨_, _, _, RangeOf.two _ _ (by lia) (by lia) (by lia) (by lia), fun k σ H' => ∃ ds c v, σ = [some (.ref a), some (.ref b), some (I (w : Int)), some (.ref r), some (I ((c : Nat) : Int)), some (I ((2 ^ w - 1 : Nat) : Int)), v] ∧ H' = H.set r (.lst (nv ds)) ∧
      ds.length = (row (2 ^ w) y).length + k ∧ Dig (2 ^ w) ds ∧ c ≤ 1 ∧ val (2 ^ w) ds + (2 ^ w) ^ ((row (2 ^ w) y).length + k) * c = val (2 ^ w) ((row (2 ^ w) x).take ((row (2 ^ w) y).length + k)) + y, ⟨ds, c, v, rfl, rfl, hlen, hd, hc, ?_⟩, ?_, ?_⟩
    · rw [Nat.add_zero, he, List.take_length, hyv]
    · ktr_units
      rintro k σ H' hk ⟨ds, c, v, rfl, rfl, hlen, hd, hc, he⟩
      obtain ⟨d, hd1⟩ : ∃ d, (row (2 ^ w) x)[(row (2 ^ w) y).length + k]? = some d := ⟨_, List.getElem?_eq_getElem (by lia)⟩
      have e0 : ((row (2 ^ w) y).length : Int) + (k : Int) * 1 = (((row (2 ^ w) y).length + k : Nat) : Int) := by lia
      rw [e0]
      ktr_unf
      ktr_units
      refine n_idx (set_old ha hr) (nv_get _ hd1) (n_aadd ?_)
      ktr_unf
      ktr_units
      refine ⟨_, list_append_meth (PH.set_same _ _ _), n_mask (app_lst (PH.set_same _ _ _) (by rw [nv_len]; unfold cap; lia) ?_)⟩
      ktr_unf
      ktr_units
      refine ⟨trivial, n_ashr ?_⟩
      have st := add_step (d := d) (e := 0) hB hlen he
      have cc := add_carry hc ((row_dig hw.two x).get hd1) hB
      rw [Nat.add_zero] at st cc
      ktr_units
      refine ⟨ds ++ [(c + d) % 2 ^ w], _, _, rfl, by simp, by simp [hlen]; lia, hd.snoc (Nat.mod_lt _ hB), cc, ?_⟩
      rw [← Nat.add_assoc, take_succ_val hd1, st]; simp
    · ktr_units
      rintro σ H' ⟨ds, c, v, rfl, rfl, hlen, hd, hc, he⟩
      have e1 : (row (2 ^ w) y).length + (((row (2 ^ w) x).length : Int) - ((row (2 ^ w) y).length : Int)).toNat = (row (2 ^ w) x).length := by lia
      rw [e1] at hlen he
      rw [List.take_length, hxv] at he
      have fin := add_fin hw.two hlen hd hc he
      ktr_unf
      ktr_units
      refine t_gt (fun h0 => ?_) fun h0 => ?_
      · ktr_unf
        ktr_units
        refine ⟨_, list_append_meth (PH.set_same _ _ _), app_lst (PH.set_same _ _ _) (by rw [nv_len]; unfold cap; lia) ?_⟩
        ktr_unf
        ktr_units
        refine ⟨trivial, ?_⟩
        rw [if_pos h0] at fin
        have := h r hr
        unfold rw' at this
        rw [← fin] at this
        ktr_units
        simpa using this
      · ktr_unf
        rw [if_neg h0] at fin
        have := h r hr
        unfold rw' at this
        rw [← fin] at this
        ktr_units
        exact this

theorem add_ok (P : PW C) {w x y : Nat} {a b : Addr} (hw : Wd w) (hx : Fit x) (hy : Fit y) (ha : H a = some (.lst (rw' w x))) (hb : H b = some (.lst (rw' w y)))
    (h : ∀ r, H r = none → Q (.ref r) (H.set r (.lst (rw' w (x + y))))) : CallOk C (n + 1) (.ref a_add) [.ref a, .ref b, I (w : Int)] H Q := by
  ktr_units
  refine fn_ok P.f_add P.gl so_add is_add rfl ?_
  have core := @add_core C n H Q P w
  show pSs C n (.cons (PSs.hd b_add) (PSs.tl b_add)) [some (.ref a), some (.ref b), some (I (w : Int)), none, none, none, none] H _ Q
  generalize PSs.tl b_add = t at core ⊢
  unfold PSs.hd b_add
  rw [z_cons]
  simp only [lk_0, lk_s, w_int, w_bool, w_none, w_absent, w_var, w_glob, w_bin, w_cmp, w_neg, w_and, w_ite, w_idx, w_slc, w_tup, w_lst, w_call, w_meth, w_attr, v_cmp, v_and, v_not, v_call, u_nil, u_cons, set_m, set_n, z_asg, z_asgD, z_asgT, z_seti, z_aug, z_expr, z_ifs, z_whl, z_forR, z_forL, z_forE, z_ret, z_cons, z_nil, List.set_cons_zero, List.set_cons_succ, List.getElem?_cons_zero, List.getElem?_cons_succ, Option.some.injEq, exists_eq_left', nv_len]
  ktr_units
  refine len_lst ha (len_lst hb ?_)
  simp only [nv_len]
  ktr_units
  refine t_lt (fun hlt => ?_) fun hlt => ?_
  · rw [if_pos rfl]
    ktr_units
    exact core hw hy hx hb ha (by lia) (by rw [Nat.add_comm]; exact h)
  · rw [if_neg (by decide)]
    ktr_units
    exact core hw hx hy ha hb (by lia) h
end
end

section


section
variable {C : WC} {n : Nat} {H : PH} {Q : Value → PH → Prop}

theorem Ret.of1 {r r' : Addr} {o o' : HO} (hr : H r = none) (hr' : (H.set r o) r' = none) : Ret H ((H.set r o).set r' o') r' o' :=
  ⟨((Ext.refl H).set hr).set (((Ext.refl H).set hr).none hr'), ((Ext.refl H).set hr).none hr', PH.set_same _ _ _⟩

/-- an item or nought -/
theorem or0 {b : Addr} {ys : List Nat} {k : Nat} {K : Value → PH → Prop} (hb : H b = some (.lst (nv ys))) (hK : ∀ e : Nat, (ys[k]? = some e ∨ (ys.length ≤ k ∧ e = 0)) → K (I (e : Int)) H) :
    CmpOk C .Lt (I (k : Int)) (I (ys.length : Int)) H fun v H => ∃ c, v = .bool c ∧ if c = true then IdxOk C (.ref b) (I (k : Int)) H K else K (I ((0 : Nat) : Int)) H := by
  ktr_units
  refine t_lt (fun hlt => ?_) fun hlt => ?_
  · rw [if_pos rfl]
    ktr_units
    exact n_idx hb (nv_get ys (List.getElem?_eq_getElem hlt)) (hK _ (.inl (List.getElem?_eq_getElem hlt)))
  · rw [if_neg (by decide)]
    ktr_units
    exact hK 0 (.inr ⟨by lia, rfl⟩)

theorem sub_ok (P : PW C) {w x y : Nat} {a b : Addr} (hw : Wd w) (hx : Fit x) (hxy : y ≤ x) (ha : H a = some (.lst (rw' w x))) (hb : H b = some (.lst (rw' w y)))
    (h : ∀ r H', Ret H H' r (.lst (rw' w (x - y))) → Q (.ref r) H') : CallOk C (n + 2) (.ref a_sub) [.ref a, .ref b, I (w : Int)] H Q := by
  ktr_units
  refine fn_ok P.f_sub P.gl so_sub is_sub rfl ?_
  show pSs C (n + 1) b_sub [some (.ref a), some (.ref b), some (I (w : Int)), none, none, none, none, none] H _ Q
  unfold b_sub
  have hy := hx.le hxy
  have lx := hx.len hw
  have hl := len_mono hw.two hxy
  have hB := hw.pos
  ktr_unf
  ktr_units
  refine compare_ok P hw hx hy ha hb ?_
  ktr_units
  refine i_lt (fun hlt => ?_) fun _ => ?_
  · unfold cmpN at hlt
    rw [if_neg (by lia)] at hlt
    split at hlt <;> lia
  ktr_unf
  ktr_units
  refine ⟨by decide, fun r hr => ?_⟩
  ktr_units
  refine n_one (by have := hw.hi; lia) ?_
  ktr_units
  refine len_lst (set_old ha hr) ?_
  ktr_unf
  ktr_units
  refine ⟨_, _, _, RangeOf.one _ (by lia) (by lia), fun k σ H' => ∃ ds c v1 v2, σ = [some (.ref a), some (.ref b), some (I (w : Int)), some (.ref r), some (I ((c : Nat) : Int)), some (I ((2 ^ w : Nat) : Int)), v1, v2] ∧ H' = H.set r (.lst (nv ds)) ∧
      ds.length = k ∧ Dig (2 ^ w) ds ∧ c ≤ 1 ∧ val (2 ^ w) ds + val (2 ^ w) ((row (2 ^ w) y).take k) = val (2 ^ w) ((row (2 ^ w) x).take k) + (2 ^ w) ^ k * c, ⟨[], 0, none, none, rfl, rfl, rfl, Dig.nil _, by decide, by simp [val]⟩, ?_, ?_⟩
  · ktr_units
    rintro k σ H' hk ⟨ds, c, v1, v2, rfl, rfl, hlen, hd, hc, he⟩
    rw [Int.toNat_natCast] at hk
    obtain ⟨d, hd1⟩ : ∃ d, (row (2 ^ w) x)[k]? = some d := ⟨_, List.getElem?_eq_getElem (by lia)⟩
    have e0 : (0 : Int) + (k : Int) * 1 = (k : Int) := by lia
    rw [e0]
    ktr_unf
    ktr_units
    refine n_idx (set_old ha hr) (nv_get _ hd1) (bin_sub ?_)
    ktr_units
    refine len_lst (set_old hb hr) ?_
    rw [nv_len]
    ktr_units
    refine or0 (set_old hb hr) fun e he1 => ?_
    have heB : e < 2 ^ w := by
      rcases he1 with he1 | ⟨_, rfl⟩
      · ktr_units
        exact (row_dig hw.two y).get he1
      · ktr_units
        exact hB
    have hte : val (2 ^ w) ((row (2 ^ w) y).take (k + 1)) = val (2 ^ w) ((row (2 ^ w) y).take k) + (2 ^ w) ^ k * e := by
      rcases he1 with he1 | ⟨h1, rfl⟩
      · ktr_units
        exact take_succ_val he1
      · rw [take_beyond h1, take_beyond (by lia)]; simp
    have st := sub_step hB hlen ((row_dig hw.two x).get hd1) heB hc he
    ktr_units
    refine bin_sub ?_
    ktr_unf
    ktr_units
    refine i_lt (fun hlt => ?_) fun hlt => ?_
    · ktr_unf
      ktr_units
      refine ⟨_, list_append_meth (PH.set_same _ _ _), ?_⟩
      ktr_units
      refine i_lt (fun hlt' => ?_) fun hlt' => absurd hlt hlt'
      ktr_unf
      ktr_units
      refine bin_add ?_
      have e1 : (d : Int) - (c : Int) - (e : Int) + ((2 ^ w : Nat) : Int) = ((d + 2 ^ w - (c + e) : Nat) : Int) := by lia
      rw [e1]
      ktr_units
      refine app_lst (PH.set_same _ _ _) (by rw [nv_len]; unfold cap; lia) ?_
      ktr_unf
      obtain ⟨s1, s2⟩ := st.1 (by lia)
      ktr_units
      refine ⟨trivial, ds ++ [d + 2 ^ w - (c + e)], 1, _, _, rfl, by simp, by simp [hlen], hd.snoc s2, by decide, ?_⟩
      rw [hte, take_succ_val hd1, s1]
    · ktr_unf
      ktr_units
      refine ⟨_, list_append_meth (PH.set_same _ _ _), ?_⟩
      ktr_units
      refine i_lt (fun hlt' => absurd hlt' hlt) fun hlt' => ?_
      ktr_unf
      have e1 : (d : Int) - (c : Int) - (e : Int) = ((d - (c + e) : Nat) : Int) := by lia
      rw [e1]
      ktr_units
      refine app_lst (PH.set_same _ _ _) (by rw [nv_len]; unfold cap; lia) ?_
      ktr_unf
      obtain ⟨s1, s2⟩ := st.2 (by lia)
      ktr_units
      refine ⟨trivial, ds ++ [d - (c + e)], 0, _, _, rfl, by simp, by simp [hlen], hd.snoc s2, by decide, ?_⟩
      rw [hte, take_succ_val hd1, s1]
  · ktr_units
    rintro σ H' ⟨ds, c, v1, v2, rfl, rfl, hlen, hd, hc, he⟩
    rw [Int.toNat_natCast] at hlen he
    rw [take_beyond hl, List.take_length, row_val hw.two, row_val hw.two, ← hlen] at he
    have fin := sub_fin hw.two hd hc hxy he
    ktr_unf
    ktr_units
    refine normal_ok P (PH.set_same _ _ _) fun r' hr' => ?_
    rw [fin]
    ktr_units
    exact h r' _ (Ret.of1 hr hr')

theorem repl_nv (k : Nat) : (List.replicate k [I ((0 : Nat) : Int)]).flatten = nv (List.replicate k 0) := by
  induction k with
  | zero => rfl
  | succ k ih => rw [List.replicate_succ, List.flatten_cons, ih, List.replicate_succ]; rfl
/-- [0] * k -/
theorem zeros {r : Addr} {k : Nat} (hk : k ≤ 200000) (h : ∀ r', (H.set r (.lst [I ((0 : Nat) : Int)])) r' = none → Q (.ref r') ((H.set r (.lst [I ((0 : Nat) : Int)])).set r' (.lst (nv (List.replicate k 0))))) :
    BinOk C .Mult (.ref r) (I (k : Int)) (H.set r (.lst [I ((0 : Nat) : Int)])) Q :=
  bin_rep (PH.set_same _ _ _) (by simp; unfold cap; lia) (by lia) (by lia) fun r' hr' => by
    rw [Int.toNat_natCast, repl_nv]; exact h r' hr'

theorem nv_set (ds : List Nat) (k d : Nat) : (nv ds).set k (I (d : Int)) = nv (ds.set k d) := by simp [nv, List.map_set]

theorem or_disj {B r d w : Nat} (hB : B = 2 ^ w) (hd : d < B) : Builtin.bitOr ((r * B : Nat) : Int) (d : Int) = ((r * B + d : Nat) : Int) := by
  subst hB
  rw [bitOr_and, bitAnd_pp (by lia) (by lia)]
  have e : ((((r * 2 ^ w : Nat) : Int)).toNat &&& ((d : Int)).toNat) = 0 := by
    rw [Int.toNat_natCast, Int.toNat_natCast]
    ktr_units
    apply Nat.eq_of_testBit_eq
    ktr_units
    intro i
    rw [Nat.testBit_and, Nat.zero_testBit, Nat.testBit_mul_two_pow]
    by_cases hi : w ≤ i
    · rw [Nat.testBit_lt_two_pow (Nat.lt_of_lt_of_le hd (Nat.pow_le_pow_right (by decide) hi))]; simp
    · simp [hi]
  rw [e]; lia

theorem divrem_limb_ok (P : PW C) {w x m : Nat} {a : Addr} (hw : Wd w) (hx : Fit x) (hm0 : m ≠ 0) (hm : m < 2 ^ w) (ha : H a = some (.lst (rw' w x)))
    (h : ∀ r t H', Ret H H' t (.tup [.ref r, I ((x % m : Nat) : Int)]) → H r = none → H' r = some (.lst (rw' w (x / m))) → Q (.ref t) H') : CallOk C (n + 2) (.ref a_divrem_limb) [.ref a, I (m : Int), I (w : Int)] H Q := by
  ktr_units
  refine fn_ok P.f_divrem_limb P.gl so_divrem_limb is_divrem_limb rfl ?_
  show pSs C (n + 1) b_divrem_limb [some (.ref a), some (I (m : Int)), some (I (w : Int)), none, none, none] H _ Q
  unfold b_divrem_limb
  have lx := hx.len hw
  have hB := hw.pos
  have hBB := hw.two
  have h16 : (2 : Nat) ^ w ≤ 2 ^ 16 := Nat.pow_le_pow_right (by decide) hw.hi
  ktr_unf
  ktr_units
  refine t_eq (fun h0 => absurd h0 hm0) fun _ => ?_
  ktr_unf
  ktr_units
  refine ⟨by decide, fun r0 hr0 => ?_⟩
  ktr_units
  refine len_lst (set_old ha hr0) ?_
  rw [nv_len]
  ktr_units
  refine zeros (by lia) fun r hr => ?_
  ktr_unf
  have ha1 : ((H.set r0 (HO.lst [I ((0 : Nat) : Int)])).set r (HO.lst (nv (List.replicate (row (2 ^ w) x).length 0)))) a = some (.lst (rw' w x)) := set_old (set_old ha hr0) hr
  have ha2 : (H.set r0 (HO.lst [I ((0 : Nat) : Int)])) a = some (.lst (rw' w x)) := set_old ha hr0
  ktr_units
  refine len_lst ha1 (bin_sub ?_)
  ktr_unf
  generalize hG : H.set r0 (HO.lst [I ((0 : Nat) : Int)]) = G at hr ha1 ha2
  have hGe : Ext H G := by rw [← hG]; exact (Ext.refl H).set hr0
  ktr_units
  refine ⟨_, _, _, RangeOf.down _ (by lia) (by lia), fun k σ H' => ∃ qs rest v, σ = [some (.ref a), some (I (m : Int)), some (I (w : Int)), some (.ref r), some (I ((rest : Nat) : Int)), v] ∧
      H' = G.set r (.lst (nv (List.replicate ((row (2 ^ w) x).length - k) 0 ++ qs))) ∧ k ≤ (row (2 ^ w) x).length ∧ qs.length = k ∧ Dig (2 ^ w) qs ∧ rest < m ∧ val (2 ^ w) qs * m + rest = val (2 ^ w) ((row (2 ^ w) x).drop ((row (2 ^ w) x).length - k)),
    ⟨[], 0, none, rfl, by simp, by lia, rfl, Dig.nil _, by lia, by simp [val]⟩, ?_, ?_⟩
  · ktr_units
    rintro k σ H' hk ⟨qs, rest, v, rfl, rfl, hk', hql, hqd, hrm, hv⟩
    obtain ⟨j, hj⟩ : ∃ j, (row (2 ^ w) x).length = k + 1 + j := ⟨(row (2 ^ w) x).length - k - 1, by lia⟩
    have ej : ((row (2 ^ w) x).length : Int) - ((1 : Nat) : Int) + (k : Int) * -1 = (j : Int) := by lia
    rw [ej]
    have e1 : (row (2 ^ w) x).length - k = j + 1 := by lia
    have e2 : (row (2 ^ w) x).length - (k + 1) = j := by lia
    rw [e1] at hv ⊢
    obtain ⟨d, hd1⟩ : ∃ d, (row (2 ^ w) x)[j]? = some d := ⟨_, List.getElem?_eq_getElem (by lia)⟩
    have hdB := (row_dig hw.two x).get hd1
    ktr_unf
    ktr_units
    refine n_shl (by have := hw.hi; lia) (Sm.nat (m := 16) (by lia) (by decide)) ?_
    ktr_units
    refine n_idx (set_old ha2 hr) (nv_get _ hd1) (bin_or ?_)
    rw [or_disj rfl hdB]
    ktr_unf
    ktr_units
    refine n_div hm0 (Sm.nat (m := 16) (by lia) (by decide)) ?_
    ktr_units
    refine n_set (PH.set_same _ _ _) (by simp; lia) ?_
    rw [nv_set, set_repl, PH.set_set]
    ktr_unf
    ktr_units
    refine n_amod hm0 ?_
    ktr_units
    refine ⟨(rest * 2 ^ w + d) / m :: qs, _, _, rfl, by rw [e2], by lia, by simp [hql], Dig.cons (dl_dig hrm hdB) hqd, Nat.mod_lt _ (by lia), ?_⟩
    rw [e2, dl_val hv, drop_of_get hd1]; rfl
  · ktr_units
    rintro σ H' ⟨qs, rest, v, rfl, rfl, hk', hql, hqd, hrm, hv⟩
    have e1 : (((row (2 ^ w) x).length : Int) - ((1 : Nat) : Int) + 1).toNat = (row (2 ^ w) x).length := by lia
    rw [e1] at hv ⊢
    rw [Nat.sub_self, List.drop_zero, row_val hw.two] at hv
    rw [Nat.sub_self]
    simp only [List.replicate_zero, List.nil_append]
    ktr_unf
    have hq : val (2 ^ w) qs = x / m := by
      rw [← hv, Nat.mul_comm, Nat.mul_add_div (by lia), Nat.div_eq_of_lt hrm, Nat.add_zero]
    have hr' : rest = x % m := by
      rw [← hv, Nat.mul_comm, Nat.mul_add_mod, Nat.mod_eq_of_lt hrm]
    ktr_units
    refine normal_ok P (PH.set_same _ _ _) fun r' hr'' => ?_
    rw [strip_row hw.two hqd, hq]
    ktr_units
    refine ⟨show 2 ≤ cap by decide, fun t ht => ?_⟩
    rw [hr'] at *
    have hG1 := hGe.set (o := .lst (nv qs)) (hGe.none hr)
    have hG2 := hG1.set (o := .lst (nv (row (2 ^ w) (x / m)))) (hG1.none hr'')
    ktr_units
    refine h r' t _ ⟨hG2.set (hG2.none ht), hG2.none ht, PH.set_same _ _ _⟩ (hG1.none hr'') (set_old (PH.set_same _ _ _) ht)

theorem shift_left_ok (P : PW C) {w x k : Nat} {a : Addr} (hw : Wd w) (hx : Fit x) (hk : k ≤ 100000) (ha : H a = some (.lst (rw' w x)))
    (h : ∀ r H', Ret H H' r (.lst (rw' w (x * 2 ^ k))) → Q (.ref r) H') : CallOk C (n + 1) (.ref a_shift_left) [.ref a, I (k : Int), I (w : Int)] H Q := by
  ktr_units
  refine fn_ok P.f_shift_left P.gl so_shift_left is_shift_left rfl ?_
  show pSs C n b_shift_left [some (.ref a), some (I (k : Int)), some (I (w : Int)), none, none, none, none, none, none] H _ Q
  unfold b_shift_left
  have lx := hx.len hw
  have hB := hw.pos
  have hBB := hw.two
  have h16 : (2 : Nat) ^ w ≤ 2 ^ 16 := Nat.pow_le_pow_right (by decide) hw.hi
  have hwl := hw.lo
  have hwh := hw.hi
  ktr_unf
  ktr_units
  refine len_lst ha ?_
  rw [nv_len]
  ktr_units
  refine t_eq (fun h0 => ?_) fun h0 => ?_
  · ktr_unf
    ktr_units
    refine ⟨by decide, fun r hr => ?_⟩
    have hx0 : x = 0 := (row_nil hw.two).mp (List.length_eq_zero_iff.mp h0)
    ktr_units
    refine h r _ ⟨(Ext.refl H).set hr, hr, ?_⟩
    rw [PH.set_same, hx0, Nat.zero_mul]; unfold rw'; rw [row_zero]; rfl
  ktr_unf
  ktr_units
  refine n_div (by lia) (Sm.nat (m := 16) (by lia) (by decide)) (n_mod (by lia) ?_)
  ktr_unf
  ktr_units
  refine ⟨by decide, fun r0 hr0 => ?_⟩
  have hkw : k / w ≤ 100000 := Nat.le_trans (Nat.div_le_self _ _) hk
  ktr_units
  refine zeros (by lia) fun r hr => ?_
  ktr_units
  refine n_one (by lia) (n_sub Nat.one_le_two_pow ?_)
  ktr_unf
  have ha2 : (H.set r0 (HO.lst [I ((0 : Nat) : Int)])) a = some (.lst (rw' w x)) := set_old ha hr0
  have hGe : Ext H (H.set r0 (HO.lst [I ((0 : Nat) : Int)])) := (Ext.refl H).set hr0
  generalize H.set r0 (HO.lst [I ((0 : Nat) : Int)]) = G at hr ha2 hGe ⊢
  have hfew : k % w < w := Nat.mod_lt _ (by lia)
  have hfB : 2 ^ (k % w) ≤ 2 ^ w := Nat.pow_le_pow_right (by decide) (by lia)
  have hf1 : 1 ≤ 2 ^ (k % w) := Nat.one_le_two_pow
  ktr_units
  refine ⟨a, _, _, rfl, set_old ha2 hr, rfl, fun i σ H' => ∃ ds c v, σ = [some (.ref a), some (I (k : Int)), some (I (w : Int)), some (I ((k / w : Nat) : Int)), some (I ((k % w : Nat) : Int)), some (.ref r), some (I ((c : Nat) : Int)), some (I ((2 ^ w - 1 : Nat) : Int)), v] ∧
      H' = G.set r (.lst (nv (List.replicate (k / w) 0 ++ ds))) ∧ ds.length = i ∧ i ≤ (row (2 ^ w) x).length ∧ Dig (2 ^ w) ds ∧ c < 2 ^ (k % w) ∧ val (2 ^ w) ds + (2 ^ w) ^ i * c = val (2 ^ w) ((row (2 ^ w) x).take i) * 2 ^ (k % w),
    ⟨[], 0, none, rfl, by simp, rfl, by lia, Dig.nil _, by lia, by simp [val]⟩, ?_, ?_⟩
  · ktr_units
    rintro i v σ H' hv ⟨ds, c, v', rfl, rfl, hl, hi, hd, hc, he⟩
    obtain ⟨d, hd1, rfl⟩ := nv_get' _ hv
    have hil := (List.getElem?_eq_some_iff.mp hd1).1
    have hdB := (row_dig hw.two x).get hd1
    ktr_units
    refine ⟨set_old ha2 hr, ?_⟩
    ktr_unf
    ktr_units
    refine n_shl (by lia) (Sm.nat (m := 16) (by lia) (by decide)) (aug_or ?_)
    rw [bitOr_comm, or_disj rfl hc]
    ktr_unf
    ktr_units
    refine ⟨_, list_append_meth (PH.set_same _ _ _), n_mask (app_lst (PH.set_same _ _ _) (by rw [nv_len]; simp; unfold cap; lia) ?_)⟩
    ktr_unf
    ktr_units
    refine ⟨trivial, n_ashr ?_⟩
    ktr_units
    refine ⟨ds ++ [(d * 2 ^ (k % w) + c) % 2 ^ w], _, _, rfl, by simp, by simp [hl], by lia, hd.snoc (Nat.mod_lt _ hB), ?_, ?_⟩
    · ktr_units
      refine Nat.div_lt_of_lt_mul ?_
      have : (d + 1) * 2 ^ (k % w) ≤ 2 ^ w * 2 ^ (k % w) := Nat.mul_le_mul_right _ hdB
      rw [Nat.add_mul] at this
      lia
    · rw [take_succ_val hd1, val_snoc, hl, Nat.pow_succ, Nat.mul_assoc, Nat.add_assoc, ← Nat.mul_add, Nat.mod_add_div, Nat.mul_add, Nat.add_mul, ← he, Nat.mul_assoc]
      lia
  · ktr_units
    rintro σ H' ⟨ds, c, v', rfl, rfl, hl, hi, hd, hc, he⟩
    rw [nv_len] at hl he
    rw [List.take_length, row_val hw.two, ← hl] at he
    ktr_units
    refine ⟨set_old ha2 hr, ?_⟩
    have hfin := shl_fin (k := k / w) hw.two rfl hd (show c < 2 ^ w by lia) he ?_
    · have he2 : (2 ^ w) ^ (k / w) * (x * 2 ^ (k % w)) = x * 2 ^ k := by
        rw [← Nat.pow_mul, Nat.mul_left_comm, ← Nat.pow_add, Nat.div_add_mod]
      rw [he2] at hfin
      have hG1 : ∀ o, Ext H (G.set r o) := fun o => hGe.set (hGe.none hr)
      ktr_unf
      ktr_units
      refine t_gt (fun hc0 => ?_) fun hc0 => ?_
      · ktr_unf
        ktr_units
        refine ⟨_, list_append_meth (PH.set_same _ _ _), app_lst (PH.set_same _ _ _) (by rw [nv_len]; simp; unfold cap; lia) ?_⟩
        ktr_unf
        ktr_units
        refine ⟨trivial, h r _ ⟨hG1 _, hGe.none hr, ?_⟩⟩
        rw [if_pos hc0] at hfin
        rw [PH.set_same]; unfold rw'; rw [← hfin]; simp
      · ktr_unf
        ktr_units
        refine h r _ ⟨hG1 _, hGe.none hr, ?_⟩
        rw [if_neg hc0] at hfin
        rw [PH.set_same]; unfold rw'; rw [← hfin]
    · by_cases hc0 : 0 < c
      · ktr_units
        exact .inl hc0
      · right
        have hc1 : c = 0 := by lia
        subst hc1
        rw [Nat.mul_zero, Nat.add_zero] at he
        ktr_units
        refine ⟨fun q => h0 (by rw [← hl, q]; rfl), ?_⟩
        have hx0 : x ≠ 0 := fun q => h0 (by rw [q, row_zero]; rfl)
        have := row_ge hw.two hx0
        rw [hl, he]
        ktr_units
        exact Nat.le_trans this (Nat.le_mul_of_pos_right _ hf1)
end
end

section

theorem Dig.set {B v : Nat} {ds : List Nat} (h : Dig B ds) (hv : v < B) (i : Nat) : Dig B (ds.set i v) := fun e he => by
  rcases List.mem_or_eq_of_mem_set he with he | rfl
  · exact h e he
  · exact hv
theorem Dig.repl0 {B : Nat} (hB : 0 < B) (k : Nat) : Dig B (List.replicate k 0) := fun d hd => by rw [List.eq_of_mem_replicate hd]; exact hB
theorem Dig.app {B : Nat} {xs ys : List Nat} (h : Dig B xs) (h' : Dig B ys) : Dig B (xs ++ ys) := fun d hd => (List.mem_append.mp hd).elim (h d) (h' d)
theorem val_repl0 (B k : Nat) : val B (List.replicate k 0) = 0 := by
  induction k with
  | zero => rfl
  | succ k ih => rw [List.replicate_succ, val, ih]; simp

theorem val_set {B : Nat} : ∀ {ds : List Nat} {i d v : Nat}, ds[i]? = some d → val B (ds.set i v) + B ^ i * d = val B ds + B ^ i * v
  | [], i, d, v, h => by simp at h
  | x :: xs, 0, d, v, h => by
    simp at h; subst h
    simp [val]; lia
  | x :: xs, i + 1, d, v, h => by
    have ih := val_set (B := B) (ds := xs) (i := i) (d := d) (v := v) (by simpa using h)
    rw [List.set_cons_succ, val, val, Nat.pow_succ, Nat.mul_comm (B ^ i) B, Nat.mul_assoc, Nat.mul_assoc]
    have := congrArg (B * ·) ih
    simp only [Nat.mul_add] at this
    lia

theorem val_zeros {B : Nat} : ∀ {ds : List Nat} {m : Nat}, (∀ i d, m ≤ i → ds[i]? = some d → d = 0) → val B ds = val B (ds.take m)
  | [], m, _ => by simp
  | x :: xs, 0, h => by
    have h0 := h 0 x (Nat.le_refl _) rfl
    have ih := val_zeros (B := B) (ds := xs) (m := 0) (fun i d _ e => h (i + 1) d (Nat.zero_le _) (by simpa using e))
    rw [val, ih, h0]; simp [val]
  | x :: xs, m + 1, h => by
    have ih := val_zeros (B := B) (ds := xs) (m := m) (fun i d hi e => h (i + 1) d (by lia) (by simpa using e))
    rw [List.take_succ_cons, val, val, ih]
theorem val_lt_zeros {B m : Nat} {ds : List Nat} (hB : 0 < B) (hd : Dig B ds) (h : ∀ i d, m ≤ i → ds[i]? = some d → d = 0) : val B ds < B ^ m := by
  rw [val_zeros h]
  have := val_lt hB (hd.take m)
  exact Nat.lt_of_lt_of_le this (Nat.pow_le_pow_right hB (by simp; lia))
theorem zeros_of_lt {B m : Nat} {ds : List Nat} (hB : 0 < B) (h : val B ds < B ^ m) : ∀ i d, m ≤ i → ds[i]? = some d → d = 0 := by
  intro i d hi he
  rw [val_drop he] at h
  by_cases h0 : d = 0
  · exact h0
  · have h1 : B ^ m ≤ B ^ i := Nat.pow_le_pow_right hB hi
    have h2 : B ^ i * 1 ≤ B ^ i * (d + B * val B (ds.drop (i + 1))) := Nat.mul_le_mul_left _ (by lia)
    lia

/-- the digit at a place -/
theorem dig_at {B : Nat} (hB : 0 < B) : ∀ {ds : List Nat} {i d : Nat}, Dig B ds → ds[i]? = some d → val B ds / B ^ i % B = d
  | [], i, d, _, h => by simp at h
  | x :: xs, 0, d, hd, h => by
    simp at h; subst h
    rw [val, Nat.pow_zero, Nat.div_one, Nat.add_mul_mod_self_left, Nat.mod_eq_of_lt hd.head]
  | x :: xs, i + 1, d, hd, h => by
    have ih := dig_at hB (ds := xs) (i := i) (d := d) hd.tail (by simpa using h)
    rw [val, Nat.pow_succ, Nat.mul_comm (B ^ i) B, ← Nat.div_div_eq_div_mul, Nat.add_mul_div_left _ _ hB, Nat.div_eq_of_lt hd.head, Nat.zero_add, ih]
theorem row_dig_at {B x i d : Nat} (hB : 2 ≤ B) (h : (row B x)[i]? = some d) : x / B ^ i % B = d := by
  have := dig_at (by lia) (row_dig hB x) h
  rwa [row_val hB] at this
theorem row_beyond {B x i : Nat} (hB : 2 ≤ B) (h : (row B x).length ≤ i) : x / B ^ i = 0 := by
  refine Nat.div_eq_of_lt (Nat.lt_of_lt_of_le (row_lt hB x) (Nat.pow_le_pow_right (by lia) h))

/-- a limb of a number moved right -/
theorem shr_step {w few d e X : Nat} (hf : few < w) (hd : X % 2 ^ w = d) (he : X / 2 ^ w % 2 ^ w = e) :
    d / 2 ^ few < 2 ^ (w - few) ∧ (e * 2 ^ (w - few) + d / 2 ^ few) % 2 ^ w = X / 2 ^ few % 2 ^ w := by
  have hw : 2 ^ w = 2 ^ few * 2 ^ (w - few) := by rw [← Nat.pow_add]; congr 1; lia
  have hw2 : 2 ^ w = 2 ^ (w - few) * 2 ^ few := by rw [hw, Nat.mul_comm]
  have hd2 : d < 2 ^ w := by rw [← hd]; exact Nat.mod_lt _ (Nat.two_pow_pos w)
  constructor
  · refine Nat.div_lt_of_lt_mul ?_
    rw [← hw]; exact hd2
  · have hX : X = d + 2 ^ few * (2 ^ (w - few) * (e + 2 ^ w * (X / 2 ^ w / 2 ^ w))) := by
      rw [← Nat.mul_assoc, ← hw, ← he, Nat.mod_add_div, ← hd, Nat.mod_add_div]
    have : X / 2 ^ few = d / 2 ^ few + 2 ^ (w - few) * (e + 2 ^ w * (X / 2 ^ w / 2 ^ w)) := by
      conv => lhs; rw [hX]
      rw [Nat.add_mul_div_left _ _ (Nat.two_pow_pos few)]
    rw [this, Nat.mul_add, ← Nat.add_assoc]
    have e2 : 2 ^ (w - few) * (2 ^ w * (X / 2 ^ w / 2 ^ w)) = 2 ^ w * (2 ^ (w - few) * (X / 2 ^ w / 2 ^ w)) := by rw [Nat.mul_left_comm]
    rw [e2, Nat.add_mul_mod_self_left, Nat.mul_comm e, Nat.add_comm]

/-! Knuth's guess -/
section
variable {B W T u' v1 v2 v' u v q g : Nat}
/-- too large a guess is seen -/
theorem guess_down (hu : u = T * W + u') (hu' : u' < W) (hv : v = (v1 * B + v2) * W + v') (h : T < g * (v1 * B + v2)) : u < g * v := by
  have h1 : (T + 1) * W ≤ g * (v1 * B + v2) * W := Nat.mul_le_mul_right W h
  have h2 : g * v = g * (v1 * B + v2) * W + g * v' := by rw [hv, Nat.mul_add, Nat.mul_assoc]
  rw [h2]
  rw [Nat.add_mul, Nat.one_mul] at h1
  lia
/-- the guess is not above the next -/
theorem guess_a (hB : 0 < B) (hu : u = T * W + u') (hv : v = (v1 * B + v2) * W + v') (hv' : v' < W) (hv1 : 0 < v1) (hg : g ≤ B) (h : g * (v1 * B + v2) ≤ T) : g * v ≤ u + v := by
  have h2 : g * v = g * (v1 * B + v2) * W + g * v' := by rw [hv, Nat.mul_add, Nat.mul_assoc]
  have h3 : g * (v1 * B + v2) * W ≤ T * W := Nat.mul_le_mul_right W h
  have h4 : g * v' ≤ B * W := Nat.mul_le_mul hg (Nat.le_of_lt hv')
  have h5 : B * W ≤ (v1 * B + v2) * W := Nat.mul_le_mul_right W (by
    have : 1 * B ≤ v1 * B := Nat.mul_le_mul_right B hv1
    lia)
  lia
theorem guess_b {h' u2 : Nat} (hB : 0 < B) (hu : u = T * W + u') (hv : v = (v1 * B + v2) * W + v') (hv' : v' < W) (hv2 : v2 < B) (hg : g ≤ B) (hT : T = h' * B + u2) (h : g * v1 + B ≤ h') : g * v ≤ u := by
  have h2 : v ≤ (v1 * B + B) * W := by
    rw [hv]
    have : (v1 * B + v2 + 1) * W ≤ (v1 * B + B) * W := Nat.mul_le_mul_right W (by lia)
    rw [Nat.add_mul, Nat.one_mul] at this
    lia
  have h3 : g * v ≤ g * ((v1 * B + B) * W) := Nat.mul_le_mul_left g h2
  have h4 : g * ((v1 * B + B) * W) = (g * v1 * B + g * B) * W := by rw [← Nat.mul_assoc, Nat.mul_add, Nat.mul_assoc g v1 B]
  have h5 : (g * v1 + B) * B ≤ h' * B := Nat.mul_le_mul_right B h
  have h6 : g * B ≤ B * B := Nat.mul_le_mul_right B hg
  have h7 : (g * v1 * B + g * B) * W ≤ T * W := Nat.mul_le_mul_right W (by rw [Nat.add_mul] at h5; lia)
  lia
end
end

section


section
variable {C : WC} {n : Nat} {H : PH} {Q : Value → PH → Prop}

theorem shift_right_ok (P : PW C) {w x k : Nat} {a : Addr} (hw : Wd w) (hx : Fit x) (hk : k ≤ 100000) (ha : H a = some (.lst (rw' w x)))
    (h : ∀ r H', Ret H H' r (.lst (rw' w (x / 2 ^ k))) → Q (.ref r) H') : CallOk C (n + 2) (.ref a_shift_right) [.ref a, I (k : Int), I (w : Int)] H Q := by
  ktr_units
  refine fn_ok P.f_shift_right P.gl so_shift_right is_shift_right rfl ?_
  show pSs C (n + 1) b_shift_right [some (.ref a), some (I (k : Int)), some (I (w : Int)), none, none, none, none, none, none] H _ Q
  unfold b_shift_right
  have lx := hx.len hw
  have hB := hw.pos
  have hBB := hw.two
  have h16 : (2 : Nat) ^ w ≤ 2 ^ 16 := Nat.pow_le_pow_right (by decide) hw.hi
  have hwl := hw.lo
  have hwh := hw.hi
  have hkw : k / w ≤ 100000 := Nat.le_trans (Nat.div_le_self _ _) hk
  have hfew : k % w < w := Nat.mod_lt _ (by lia)
  ktr_unf
  ktr_units
  refine n_div (by lia) (Sm.nat (m := 16) (by lia) (by decide)) (n_mod (by lia) ?_)
  generalize hsp : k / w = sp at hkw ⊢
  ktr_unf
  ktr_units
  refine ⟨by decide, fun r hr => ?_⟩
  ktr_units
  refine n_one (by lia) (n_sub Nat.one_le_two_pow ?_)
  ktr_unf
  ktr_units
  refine len_lst (set_old ha hr) ?_
  ktr_unf
  ktr_units
  refine ⟨_, _, _, RangeOf.two _ _ (by lia) (by lia) (by lia) (by lia), fun i σ H' => ∃ ds v1 v2, σ = [some (.ref a), some (I (k : Int)), some (I (w : Int)), some (I ((sp : Nat) : Int)), some (I ((k % w : Nat) : Int)), some (.ref r), some (I ((2 ^ w - 1 : Nat) : Int)), v1, v2] ∧
      H' = H.set r (.lst (nv ds)) ∧ ds.length = i ∧ ∀ j d, ds[j]? = some d → d = x / 2 ^ k / (2 ^ w) ^ j % 2 ^ w, ⟨[], none, none, rfl, rfl, rfl, by simp⟩, ?_, ?_⟩
  · ktr_units
    rintro i σ H' hi ⟨ds, v1, v2, rfl, rfl, hl, hd⟩
    have e0 : ((sp : Nat) : Int) + (i : Int) * 1 = ((sp + i : Nat) : Int) := by lia
    rw [e0]
    generalize hat : sp + i = at'
    have hlt : at' < (row (2 ^ w) x).length := by lia
    obtain ⟨d, hd1⟩ : ∃ d, (row (2 ^ w) x)[at']? = some d := ⟨_, List.getElem?_eq_getElem hlt⟩
    have hdB := (row_dig hw.two x).get hd1
    ktr_unf
    ktr_units
    refine n_add ?_
    ktr_units
    refine len_lst (set_old ha hr) ?_
    ktr_unf
    have key : ∀ e : Nat, x / (2 ^ w) ^ at' / 2 ^ w % 2 ^ w = e → pSs C (n + 1) (PSs.cons (PS.expr (PE.meth (PE.var 5) (S "append") (PEs.cons (PE.bin Operator.BitAnd (PE.bin Operator.BitOr (PE.bin Operator.RShift (PE.idx (PE.var 0) (PE.var 7)) (PE.var 4)) (PE.bin Operator.LShift (PE.var 8) (PE.bin Operator.Sub (PE.var 2) (PE.var 4)))) (PE.var 6)) PEs.nil))) PSs.nil)
        [some (.ref a), some (I (k : Int)), some (I (w : Int)), some (I ((sp : Nat) : Int)), some (I ((k % w : Nat) : Int)), some (.ref r), some (I ((2 ^ w - 1 : Nat) : Int)), some (I (at' : Int)), some (I (e : Int))] (H.set r (.lst (nv ds)))
        (fun σ H' => ∃ ds v1 v2, σ = [some (.ref a), some (I (k : Int)), some (I (w : Int)), some (I ((sp : Nat) : Int)), some (I ((k % w : Nat) : Int)), some (.ref r), some (I ((2 ^ w - 1 : Nat) : Int)), v1, v2] ∧
      H' = H.set r (.lst (nv ds)) ∧ ds.length = i + 1 ∧ ∀ j d, ds[j]? = some d → d = x / 2 ^ k / (2 ^ w) ^ j % 2 ^ w) Q := by
      ktr_units
      intro e he
      ktr_unf
      ktr_units
      refine ⟨_, list_append_meth (PH.set_same _ _ _), ?_⟩
      ktr_units
      refine n_idx (set_old ha hr) (nv_get _ hd1) (n_shr ?_)
      obtain ⟨s1, s2⟩ := shr_step hfew (row_dig_at hw.two hd1) he
      have heB : e < 2 ^ w := by rw [← he]; exact Nat.mod_lt _ hB
      ktr_units
      refine n_sub (by lia) (n_shl (by lia) (Sm.nat (m := 16) (by lia) (by decide)) (bin_or ?_))
      rw [bitOr_comm, or_disj (B := 2 ^ (w - k % w)) rfl s1]
      ktr_units
      refine n_mask ?_
      ktr_units
      refine app_lst (PH.set_same _ _ _) (by rw [nv_len]; unfold cap; lia) ?_
      ktr_unf
      ktr_units
      refine ⟨trivial, ds ++ [(e * 2 ^ (w - k % w) + d / 2 ^ (k % w)) % 2 ^ w], _, _, rfl, by simp, by simp [hl], ?_⟩
      ktr_units
      intro j d' hj
      rcases Nat.lt_or_ge j ds.length with hlt' | hge
      · rw [List.getElem?_append_left hlt'] at hj; exact hd j d' hj
      · rw [List.getElem?_append_right hge] at hj
        obtain ⟨q, rfl⟩ := Nat.exists_eq_add_of_le hge
        have hq : q = 0 := by
          have := (List.getElem?_eq_some_iff.mp hj).1
          simp at this; exact this
        subst hq
        simp at hj
        rw [← hj, s2, Nat.div_div_eq_div_mul, Nat.div_div_eq_div_mul, ← Nat.pow_mul, ← Nat.pow_mul, ← Nat.pow_add, ← Nat.pow_add]
        congr 3
        have h1 := Nat.div_add_mod k w
        rw [hsp] at h1
        rw [Nat.add_zero, hl, ← hat, Nat.mul_add]
        lia
    ktr_units
    refine t_lt (fun hlt' => ?_) fun hlt' => ?_
    · ktr_unf
      ktr_units
      refine n_add ?_
      obtain ⟨e, he1⟩ : ∃ e, (row (2 ^ w) x)[at' + 1]? = some e := ⟨_, List.getElem?_eq_getElem hlt'⟩
      ktr_units
      refine n_idx (set_old ha hr) (nv_get _ he1) ?_
      have := key e (by have := row_dig_at hw.two he1; rwa [Nat.pow_succ, ← Nat.div_div_eq_div_mul] at this)
      simp only [set_m, set_n, z_asg, z_asgD, z_asgT, z_seti, z_aug, z_expr, z_ifs, z_whl, z_forR, z_forL, z_forE, z_ret, z_cons, z_nil] at this
      ktr_unf
      ktr_units
      simpa only [lk_0, lk_s, w_int, w_bool, w_none, w_absent, w_var, w_glob, w_bin, w_cmp, w_neg, w_and, w_ite, w_idx, w_slc, w_tup, w_lst, w_call, w_meth, w_attr, v_cmp, v_and, v_not, v_call, u_nil, u_cons, set_m, set_n, z_asg, z_asgD, z_asgT, z_seti, z_aug, z_expr, z_ifs, z_whl, z_forR, z_forL, z_forE, z_ret, z_cons, z_nil, List.getElem?_cons_zero, List.getElem?_cons_succ, Option.some.injEq, exists_eq_left'] using this
    · ktr_unf
      have hz : x / (2 ^ w) ^ at' / 2 ^ w % 2 ^ w = 0 := by
        have := row_beyond hw.two (x := x) (i := at' + 1) (by lia)
        rw [Nat.pow_succ, ← Nat.div_div_eq_div_mul] at this
        rw [this]; exact Nat.zero_mod _
      have := key 0 hz
      ktr_units
      simpa only [lk_0, lk_s, w_int, w_bool, w_none, w_absent, w_var, w_glob, w_bin, w_cmp, w_neg, w_and, w_ite, w_idx, w_slc, w_tup, w_lst, w_call, w_meth, w_attr, v_cmp, v_and, v_not, v_call, u_nil, u_cons, set_m, set_n, z_asg, z_asgD, z_asgT, z_seti, z_aug, z_expr, z_ifs, z_whl, z_forR, z_forL, z_forE, z_ret, z_cons, z_nil, List.getElem?_cons_zero, List.getElem?_cons_succ, Option.some.injEq, exists_eq_left'] using this
  · ktr_units
    rintro σ H' ⟨ds, v1, v2, rfl, rfl, hl, hd⟩
    ktr_unf
    have hdig : Dig (2 ^ w) ds := fun d hm => by
      obtain ⟨j, hj⟩ := List.getElem?_of_mem hm
      rw [hd j d hj]; exact Nat.mod_lt _ hB
    have hv : val (2 ^ w) ds = x / 2 ^ k := by
      have := digs_val hw.two (y := x / 2 ^ k) ds 0 (fun i d hi => by rw [Nat.zero_add]; exact hd i d hi) ?_
      · rwa [Nat.pow_zero, Nat.div_one] at this
      · rw [Nat.pow_zero, Nat.div_one]
        ktr_units
        refine Nat.div_lt_of_lt_mul ?_
        have h1 := row_lt hw.two x
        ktr_units
        refine Nat.lt_of_lt_of_le h1 ?_
        rw [← Nat.pow_mul, ← Nat.pow_mul, ← Nat.pow_add]
        ktr_units
        refine Nat.pow_le_pow_right (by decide) ?_
        have h2 := Nat.div_add_mod k w
        rw [hsp] at h2
        have h3 : w * (row (2 ^ w) x).length ≤ w * (sp + ds.length) := Nat.mul_le_mul_left w (by lia)
        rw [Nat.mul_add] at h3
        lia
    ktr_units
    refine normal_ok P (PH.set_same _ _ _) fun r' hr' => ?_
    rw [strip_row hw.two hdig, hv]
    ktr_units
    exact h r' _ (Ret.of1 hr hr')

end
end

section


section
variable {C : WC} {n : Nat} {H : PH} {Q : Value → PH → Prop}

theorem mul_carry {B c d l e : Nat} (hB : 0 < B) (hc : c < B) (hd : d < B) (hl : l < B) (he : e < B) : (c + (d + l * e)) / B < B := by
  ktr_units
  refine Nat.div_lt_of_lt_mul ?_
  obtain ⟨m, rfl⟩ : ∃ m, B = m + 1 := ⟨B - 1, by lia⟩
  have h1 : l * e ≤ m * m := Nat.mul_le_mul (by lia) (by lia)
  have h2 : (m + 1) * (m + 1) = m * m + m + m + 1 := by rw [Nat.add_mul, Nat.mul_add]; lia
  lia
theorem mul_step {B i c d l e V : Nat} {ds : List Nat} (hd : ds[i]? = some d) :
    val B (ds.set i ((c + (d + l * e)) % B)) + B ^ (i + 1) * ((c + (d + l * e)) / B) = val B ds + B ^ i * c + B ^ i * (l * e) := by
  have h1 := val_set (B := B) (v := (c + (d + l * e)) % B) hd
  have h2 : B ^ i * ((c + (d + l * e)) % B) + B ^ (i + 1) * ((c + (d + l * e)) / B) = B ^ i * (c + (d + l * e)) := by
    rw [Nat.pow_succ, Nat.mul_assoc, ← Nat.mul_add, Nat.mod_add_div]
  rw [Nat.mul_add, Nat.mul_add] at h2
  lia

theorem mul_school_ok (P : PW C) {w x y : Nat} {a b : Addr} (hw : Wd w) (hx : Fit x) (hy : Fit y) (ha : H a = some (.lst (rw' w x))) (hb : H b = some (.lst (rw' w y)))
    (h : ∀ r H', Ret H H' r (.lst (rw' w (x * y))) → Q (.ref r) H') : CallOk C (n + 2) (.ref a_mul_school) [.ref a, .ref b, I (w : Int)] H Q := by
  ktr_units
  refine fn_ok P.f_mul_school P.gl so_mul_school is_mul_school rfl ?_
  show pSs C (n + 1) b_mul_school [some (.ref a), some (.ref b), some (I (w : Int)), none, none, none, none, none, none, none] H _ Q
  unfold b_mul_school
  have lx := hx.len hw
  have ly := hy.len hw
  have hB := hw.pos
  have hBB := hw.two
  have h16 : (2 : Nat) ^ w ≤ 2 ^ 16 := Nat.pow_le_pow_right (by decide) hw.hi
  have hwl := hw.lo
  have hwh := hw.hi
  ktr_unf
  ktr_units
  refine ⟨by decide, fun r0 hr0 => ?_⟩
  ktr_units
  refine len_lst (set_old ha hr0) (len_lst (set_old hb hr0) (n_add ?_))
  rw [nv_len, nv_len]
  ktr_units
  refine zeros (by lia) fun r hr => ?_
  ktr_units
  refine n_one (by lia) (n_sub Nat.one_le_two_pow ?_)
  ktr_unf
  have ha2 : (H.set r0 (HO.lst [I ((0 : Nat) : Int)])) a = some (.lst (rw' w x)) := set_old ha hr0
  have hb2 : (H.set r0 (HO.lst [I ((0 : Nat) : Int)])) b = some (.lst (rw' w y)) := set_old hb hr0
  have hGe : Ext H (H.set r0 (HO.lst [I ((0 : Nat) : Int)])) := (Ext.refl H).set hr0
  generalize H.set r0 (HO.lst [I ((0 : Nat) : Int)]) = G at hr ha2 hb2 hGe ⊢
  ktr_units
  refine ⟨a, _, rfl, set_old ha2 hr, fun k σ H' => ∃ ds v5 v6 v7 v8 v9, σ = [some (.ref a), some (.ref b), some (I (w : Int)), some (.ref r), some (I ((2 ^ w - 1 : Nat) : Int)), v5, v6, v7, v8, v9] ∧
      H' = G.set r (.lst (nv ds)) ∧ ds.length = (row (2 ^ w) x).length + (row (2 ^ w) y).length ∧ Dig (2 ^ w) ds ∧ val (2 ^ w) ds = val (2 ^ w) ((row (2 ^ w) x).take k) * y ∧
      ∀ i d, k + (row (2 ^ w) y).length ≤ i → ds[i]? = some d → d = 0,
    ⟨_, none, none, none, none, none, rfl, rfl, by simp, Dig.repl0 hB _, by rw [val_repl0]; simp [val], fun i d _ hd => by rw [List.getElem?_replicate] at hd; split at hd <;> simp_all⟩, ?_, ?_⟩
  · ktr_units
    rintro k lv σ H' hlv ⟨ds, v5, v6, v7, v8, v9, rfl, rfl, hlen, hdig, hval, hz⟩
    obtain ⟨l, hl1, rfl⟩ := nv_get' _ hlv
    have hkl := (List.getElem?_eq_some_iff.mp hl1).1
    have hlB := (row_dig hw.two x).get hl1
    ktr_units
    refine ⟨set_old ha2 hr, ?_⟩
    ktr_unf
    ktr_units
    refine ⟨b, _, rfl, set_old hb2 hr, fun j σ H' => ∃ es c v8 v9, σ = [some (.ref a), some (.ref b), some (I (w : Int)), some (.ref r), some (I ((2 ^ w - 1 : Nat) : Int)), some (I (k : Int)), some (I (l : Int)), some (I ((c : Nat) : Int)), v8, v9] ∧
      H' = G.set r (.lst (nv es)) ∧ es.length = (row (2 ^ w) x).length + (row (2 ^ w) y).length ∧ Dig (2 ^ w) es ∧ c < 2 ^ w ∧
      val (2 ^ w) es + (2 ^ w) ^ (k + j) * c = val (2 ^ w) ds + (2 ^ w) ^ k * (l * val (2 ^ w) ((row (2 ^ w) y).take j)) ∧ ∀ i, k + j ≤ i → es[i]? = ds[i]?,
      ⟨ds, 0, _, _, rfl, rfl, hlen, hdig, hB, by simp [val], fun _ _ => rfl⟩, ?_, ?_⟩
    · ktr_units
      rintro j ev σ H' hev ⟨es, c, v8, v9, rfl, rfl, hlen', hdig', hc, hval', hsame⟩
      obtain ⟨e, he1, rfl⟩ := nv_get' _ hev
      have hjl := (List.getElem?_eq_some_iff.mp he1).1
      have heB := (row_dig hw.two y).get he1
      ktr_units
      refine ⟨set_old hb2 hr, ?_⟩
      obtain ⟨d, hd1⟩ : ∃ d, es[k + j]? = some d := ⟨_, List.getElem?_eq_getElem (by lia)⟩
      have hdB := hdig'.get hd1
      ktr_unf
      ktr_units
      refine n_add (n_idx (PH.set_same _ _ _) (nv_get _ hd1) ?_)
      ktr_units
      refine n_mul (Sm.nat (m := 16) (by lia) (by decide)) (Sm.nat (m := 16) (by lia) (by decide)) (n_add (n_aadd ?_))
      ktr_unf
      ktr_units
      refine n_mask (n_add (n_set (PH.set_same _ _ _) (by rw [nv_len]; lia) ?_))
      rw [nv_set, PH.set_set]
      ktr_unf
      ktr_units
      refine n_ashr ?_
      ktr_units
      refine ⟨es.set (k + j) ((c + (d + l * e)) % 2 ^ w), _, _, _, rfl, rfl, by simp [hlen'], hdig'.set (Nat.mod_lt _ hB) _, mul_carry hB hc hdB hlB heB, ?_, ?_⟩
      · have st := mul_step (B := 2 ^ w) (c := c) (l := l) (e := e) (V := 0) hd1
        rw [show k + (j + 1) = k + j + 1 from rfl, st, hval', take_succ_val he1, Nat.mul_add, Nat.mul_add, Nat.pow_add, Nat.mul_assoc, Nat.add_assoc, Nat.mul_left_comm l]
      · ktr_units
        intro i hi
        rw [List.getElem?_set_ne (by lia)]
        ktr_units
        exact hsame i (by lia)
    · ktr_units
      rintro σ H' ⟨es, c, v8, v9, rfl, rfl, hlen', hdig', hc, hval', hsame⟩
      ktr_units
      refine ⟨set_old hb2 hr, ?_⟩
      rw [nv_len] at hval' hsame
      rw [List.take_length, row_val hw.two] at hval'
      ktr_unf
      ktr_units
      refine len_lst (set_old hb2 hr) (n_add ?_)
      rw [nv_len]
      ktr_units
      refine n_set (PH.set_same _ _ _) (by rw [nv_len]; lia) ?_
      rw [nv_set, PH.set_set]
      obtain ⟨d, hd1⟩ : ∃ d, es[k + (row (2 ^ w) y).length]? = some d := ⟨_, List.getElem?_eq_getElem (by lia)⟩
      have hd0 : d = 0 := by
        rw [hsame _ (Nat.le_refl _)] at hd1
        ktr_units
        exact hz _ _ (Nat.le_refl _) hd1
      subst hd0
      ktr_units
      refine ⟨_, _, _, _, _, _, rfl, rfl, by simp [hlen'], hdig'.set hc _, ?_, ?_⟩
      · have := val_set (B := 2 ^ w) (v := c) hd1
        rw [Nat.mul_zero, Nat.add_zero] at this
        rw [this, hval', hval, take_succ_val hl1, Nat.add_mul, Nat.mul_assoc]
      · ktr_units
        intro i d hi hd
        rw [List.getElem?_set_ne (by lia), hsame i (by lia)] at hd
        ktr_units
        exact hz i d (by lia) hd
  · ktr_units
    rintro σ H' ⟨ds, v5, v6, v7, v8, v9, rfl, rfl, hlen, hdig, hval, hz⟩
    ktr_units
    refine ⟨set_old ha2 hr, ?_⟩
    rw [nv_len, List.take_length, row_val hw.two] at hval
    ktr_unf
    ktr_units
    refine normal_ok P (PH.set_same _ _ _) fun r' hr' => ?_
    rw [strip_row hw.two hdig, hval]
    ktr_units
    exact h r' _ ⟨(hGe.set (hGe.none hr)).set (((hGe.set (hGe.none hr))).none hr'), (hGe.set (hGe.none hr)).none hr', PH.set_same _ _ _⟩

/-- the number of bits -/
noncomputable def bl (x : Nat) : Nat := if x = 0 then 0 else Nat.log2 x + 1
theorem intBits_nat (x : Nat) : Builtin.Int.intBits (x : Int) = bl x := by
  unfold Builtin.Int.intBits bl
  by_cases h : x = 0
  · subst h; rfl
  · have : ((x : Int) == 0) = false := by simp; exact h
    rw [this, if_neg h]; simp
theorem bl_lt (x : Nat) : x < 2 ^ bl x := by
  unfold bl
  by_cases h : x = 0
  · subst h; decide
  · rw [if_neg h]; exact (Nat.log2_lt h).mp (Nat.lt_succ_self _)
theorem bl_le {x k : Nat} (h : x < 2 ^ k) : bl x ≤ k := by
  unfold bl
  by_cases h0 : x = 0
  · rw [if_pos h0]; lia
  · rw [if_neg h0]; exact (Nat.log2_lt h0).mpr h
theorem bl_ge {x k : Nat} (h : 2 ^ k ≤ x) : k + 1 ≤ bl x := by
  unfold bl
  have h0 : x ≠ 0 := by have := Nat.two_pow_pos k; lia
  rw [if_neg h0]
  have := (Nat.le_log2 h0).mpr h
  lia
theorem bl_pos {x : Nat} (h : x ≠ 0) : 1 ≤ bl x := by unfold bl; rw [if_neg h]; lia
theorem bl_low {x : Nat} (h : x ≠ 0) : 2 ^ (bl x - 1) ≤ x := by
  unfold bl; rw [if_neg h, Nat.add_sub_cancel]; exact (Nat.le_log2 h).mp (Nat.le_refl _)
theorem bl_top {w m lo t : Nat} (ht : t ≠ 0) (hl : lo < 2 ^ (w * m)) : bl (lo + 2 ^ (w * m) * t) = m * w + bl t := by
  ktr_units
  apply Nat.le_antisymm
  · ktr_units
    apply bl_le
    have h1 := bl_lt t
    have h2 : 2 ^ (w * m) * (t + 1) ≤ 2 ^ (w * m) * 2 ^ bl t := Nat.mul_le_mul_left _ h1
    rw [Nat.pow_add, Nat.mul_comm m w]
    rw [Nat.mul_add] at h2
    lia
  · have h1 := bl_low ht
    have h2 : 2 ^ (w * m) * 2 ^ (bl t - 1) ≤ 2 ^ (w * m) * t := Nat.mul_le_mul_left _ h1
    rw [← Nat.pow_add] at h2
    have := bl_ge (x := lo + 2 ^ (w * m) * t) (k := w * m + (bl t - 1)) (by lia)
    have := bl_pos ht
    rw [Nat.mul_comm m w]; lia
theorem row_last {B x : Nat} (hB : 2 ≤ B) (hx : x ≠ 0) : ∃ t, (row B x)[(row B x).length - 1]? = some t ∧ t ≠ 0 ∧ t < B ∧ x = val B ((row B x).take ((row B x).length - 1)) + B ^ ((row B x).length - 1) * t ∧ val B ((row B x).take ((row B x).length - 1)) < B ^ ((row B x).length - 1) ∧ 0 < (row B x).length := by
  have hl : 0 < (row B x).length := Nat.pos_of_ne_zero fun q => hx ((row_nil hB).mp (List.length_eq_zero_iff.mp q))
  obtain ⟨t, ht⟩ : ∃ t, (row B x)[(row B x).length - 1]? = some t := ⟨_, List.getElem?_eq_getElem (by lia)⟩
  have h1 := take_succ_val (B := B) ht
  have e : (row B x).length - 1 + 1 = (row B x).length := by lia
  rw [e, List.take_length, row_val hB] at h1
  have h2 := val_lt (show 0 < B by lia) ((row_dig hB x).take ((row B x).length - 1))
  rw [List.length_take, Nat.min_eq_left (by lia)] at h2
  ktr_units
  refine ⟨t, ht, fun q => ?_, (row_dig hB x).get ht, h1, h2, hl⟩
  subst q
  have := row_ge hB hx
  lia

theorem bits_ok (P : PW C) {w x : Nat} {a : Addr} (hw : Wd w) (hx : Fit x) (ha : H a = some (.lst (rw' w x))) (h : Q (I ((bl x : Nat) : Int)) H) : CallOk C (n + 1) (.ref a_bits) [.ref a, I (w : Int)] H Q := by
  ktr_units
  refine fn_ok P.f_bits P.gl so_bits is_bits rfl ?_
  show pSs C n b_bits [some (.ref a), some (I (w : Int))] H _ Q
  unfold b_bits
  have lx := hx.len hw
  have hwl := hw.lo
  have hwh := hw.hi
  ktr_unf
  ktr_units
  refine len_lst ha ?_
  rw [nv_len]
  ktr_units
  refine t_gt (fun h0 => ?_) fun h0 => ?_
  · ktr_unf
    have hx0 : x ≠ 0 := by rintro rfl; rw [row_zero] at h0; simp at h0
    obtain ⟨t, ht, ht0, htB, hv, hlo, hl⟩ := row_last hw.two hx0
    ktr_units
    refine len_lst ha ?_
    rw [nv_len]
    ktr_units
    refine n_sub hl ?_
    ktr_units
    refine n_mul (Sm.nat (m := 16) (by lia) (by decide)) (Sm.nat (m := 16) (by lia) (by decide)) ?_
    ktr_units
    refine idx_neg (x := I (t : Int)) ha (by decide) (by rw [nv_len]; lia) ?_ ?_
    · rw [nv_len]
      have : (-((1 : Nat) : Int) + ((row (2 ^ w) x).length : Int)).toNat = (row (2 ^ w) x).length - 1 := by lia
      rw [this]; exact nv_get _ ht
    · ktr_units
      refine ⟨_, bitlen_meth, bitlen_int ?_⟩
      rw [intBits_nat]
      ktr_units
      refine n_add ?_
      have e : ((row (2 ^ w) x).length - 1) * w + bl t = bl x := by
        conv => rhs; rw [hv]
        rw [← Nat.pow_mul] at hlo ⊢
        ktr_units
        exact (bl_top ht0 hlo).symm
      rw [e]; exact h
  · ktr_unf
    have hx0 : x = 0 := (row_nil hw.two).mp (List.length_eq_zero_iff.mp (by lia))
    subst hx0
    ktr_units
    exact h
end
end

section


section
variable {C : WC} {n : Nat} {H : PH} {Q : Value → PH → Prop}

theorem n_min {m a b : Nat} (h : Q (I ((min a b : Nat) : Int)) H) : CallOk C m (.builtin "min") [I (a : Int), I (b : Int)] H Q :=
  min_int (by
    by_cases hba : b < a
    · rw [if_pos (by lia), ]
      rw [Nat.min_eq_right (by lia)] at h; exact h
    · rw [if_neg (by lia)]
      rw [Nat.min_eq_left (by lia)] at h; exact h)

theorem guessed_limb_ok (P : PW C) {w u0 u1 u2 v1 v2 W u u' v v' : Nat} {t : Addr} (hw : Wd w) (h0 : u0 < 2 ^ w) (h1 : u1 < 2 ^ w) (h2 : u2 < 2 ^ w) (hv1 : v1 < 2 ^ w) (hv2 : v2 < 2 ^ w) (hpos : v1 ≠ 0)
    (ht : H t = some (.lst (nv [u2, u1, u0]))) (hu : u = ((u0 * 2 ^ w + u1) * 2 ^ w + u2) * W + u') (hu' : u' < W) (hv : v = (v1 * 2 ^ w + v2) * W + v') (hv' : v' < W) (huv : u < 2 ^ w * v)
    (h : ∀ g, g < 2 ^ w → u < (g + 1) * v → g * v ≤ u + v → Q (I (g : Int)) H) : CallOk C (n + 1) (.ref a_guessed_limb) [.ref t, I (v1 : Int), I (v2 : Int), I (w : Int)] H Q := by
  ktr_units
  refine fn_ok P.f_guessed_limb P.gl so_guessed_limb is_guessed_limb rfl ?_
  show pSs C n b_guessed_limb [some (.ref t), some (I (v1 : Int)), some (I (v2 : Int)), some (I (w : Int)), none, none, none, none] H _ Q
  unfold b_guessed_limb
  have hB := hw.pos
  have hBB := hw.two
  have h16 : (2 : Nat) ^ w ≤ 2 ^ 16 := Nat.pow_le_pow_right (by decide) hw.hi
  have hwl := hw.lo
  have hwh := hw.hi
  have sm : ∀ {x : Nat}, x < 2 ^ w → Sm (x : Int) := fun hx => Sm.nat (m := 16) (by lia) (by decide)
  ktr_unf
  ktr_units
  refine n_idx ht (nv_get (k := 2) (d := u0) _ rfl) (n_shl (by lia) (sm h0) (n_idx ht (nv_get (k := 1) (d := u1) _ rfl) (bin_or ?_)))
  rw [or_disj rfl h1]
  ktr_units
  refine n_one (by lia) ?_
  ktr_unf
  generalize hhi : u0 * 2 ^ w + u1 = high
  rw [hhi] at hu
  have hhB : high < 2 ^ 40 := by
    have a1 : u0 * 2 ^ w ≤ 2 ^ 16 * 2 ^ 16 := Nat.mul_le_mul (by lia) h16
    have a2 : (2 : Nat) ^ 16 * 2 ^ 16 = 2 ^ 32 := by decide
    have a3 : (2 : Nat) ^ 32 + 2 ^ 16 < 2 ^ 40 := by decide
    lia
  ktr_units
  refine n_div hpos (sm hv1) (n_sub Nat.one_le_two_pow (n_min ?_))
  ktr_unf
  generalize hg0 : min (high / v1) (2 ^ w - 1) = g0
  have hg0B : g0 < 2 ^ w := by lia
  have hle : g0 * v1 ≤ high := by
    have := Nat.div_mul_le_self high v1
    have h2 : g0 * v1 ≤ high / v1 * v1 := Nat.mul_le_mul_right _ (by lia)
    lia
  have hT : ∀ g, g * v1 ≤ high → (high * 2 ^ w + u2) = g * v1 * 2 ^ w + ((high - g * v1) * 2 ^ w + u2) := fun g hg => by
    rw [← Nat.add_assoc, ← Nat.add_mul]; congr 2; lia
  have hup : u < (g0 + 1) * v := by
    by_cases hc : g0 = 2 ^ w - 1
    · have : g0 + 1 = 2 ^ w := by lia
      rw [this]; exact huv
    · have hgq : g0 = high / v1 := by lia
      ktr_units
      refine guess_down hu hu' hv ?_
      have h3 : high < (g0 + 1) * v1 := by
        rw [hgq]
        have := Nat.lt_div_mul_add (a := high) (Nat.pos_of_ne_zero hpos)
        rw [Nat.add_mul]; lia
      have h4 : (high + 1) * 2 ^ w ≤ (g0 + 1) * v1 * 2 ^ w := Nat.mul_le_mul_right _ h3
      rw [Nat.add_mul, Nat.one_mul] at h4
      rw [Nat.mul_add, ← Nat.mul_assoc]
      lia
  ktr_units
  refine n_mul (sm hg0B) (sm hv1) (n_sub hle ?_)
  ktr_unf
  ktr_units
  refine ⟨fun k σ H' => ∃ g rest, k = g ∧ σ = [some (.ref t), some (I (v1 : Int)), some (I (v2 : Int)), some (I (w : Int)), some (I (high : Int)), some (I ((2 ^ w : Nat) : Int)), some (I ((g : Nat) : Int)), some (I ((rest : Nat) : Int))] ∧ H' = H ∧
    g < 2 ^ w ∧ rest + g * v1 = high ∧ u < (g + 1) * v, ⟨g0, g0, high - g0 * v1, rfl, rfl, rfl, hg0B, by lia, hup⟩, ?_⟩
  ktr_units
  rintro k σ H' ⟨g, rest, rfl, rfl, rfl, hgB, hrest, hup'⟩
  ktr_unf
  have out : k * v ≤ u + v → pSs C n (PSs.cons (PS.ret (PE.var 6)) PSs.nil) [some (.ref t), some (I (v1 : Int)), some (I (v2 : Int)), some (I (w : Int)), some (I (high : Int)), some (I ((2 ^ w : Nat) : Int)), some (I ((k : Nat) : Int)), some (I ((rest : Nat) : Int))] H' (fun _ H' => Q .none H') Q := by
    ktr_units
    intro hlo
    ktr_unf
    ktr_units
    exact h k hgB hup' hlo
  have hTg := hT k (by lia)
  have hr' : high - k * v1 = rest := by lia
  rw [hr'] at hTg
  ktr_units
  refine t_lt (fun hlt => ?_) fun hge => ?_
  · ktr_unf
    ktr_units
    refine n_mul (sm hgB) (sm hv2) (n_shl (by lia) (sm hlt) (n_idx ht (nv_get (k := 0) (d := u2) _ rfl) (bin_or ?_)))
    rw [or_disj rfl h2]
    ktr_units
    refine t_gt (fun hgt => ?_) fun hgt => ?_
    · ktr_unf
      have hk0 : k ≠ 0 := by rintro rfl; simp at hgt
      ktr_units
      refine n_asub (by lia) ?_
      ktr_unf
      ktr_units
      refine n_aadd ?_
      ktr_units
      refine ⟨k - 1, by lia, k - 1, _, rfl, rfl, rfl, by lia, ?_, ?_⟩
      · obtain ⟨m, rfl⟩ : ∃ m, k = m + 1 := ⟨k - 1, by lia⟩
        rw [Nat.add_mul] at hrest
        simp only [Nat.add_sub_cancel]; lia
      · have e1 : k - 1 + 1 = k := by lia
        rw [e1]
        ktr_units
        refine guess_down hu hu' hv ?_
        rw [hTg, Nat.mul_add, ← Nat.mul_assoc]
        lia
    · ktr_unf
      have := out (guess_a hB hu hv hv' (Nat.pos_of_ne_zero hpos) (Nat.le_of_lt hgB) (by rw [hTg, Nat.mul_add, ← Nat.mul_assoc]; lia))
      ktr_units
      simpa only [lk_0, lk_s, w_int, w_bool, w_none, w_absent, w_var, w_glob, w_bin, w_cmp, w_neg, w_and, w_ite, w_idx, w_slc, w_tup, w_lst, w_call, w_meth, w_attr, v_cmp, v_and, v_not, v_call, u_nil, u_cons, set_m, set_n, z_asg, z_asgD, z_asgT, z_seti, z_aug, z_expr, z_ifs, z_whl, z_forR, z_forL, z_forE, z_ret, z_cons, z_nil, List.getElem?_cons_zero, List.getElem?_cons_succ, Option.some.injEq, exists_eq_left'] using this
  · ktr_unf
    have hb := guess_b hB hu hv hv' hv2 (Nat.le_of_lt hgB) rfl (show k * v1 + 2 ^ w ≤ high by lia)
    have := out (by lia)
    ktr_units
    simpa only [lk_0, lk_s, w_int, w_bool, w_none, w_absent, w_var, w_glob, w_bin, w_cmp, w_neg, w_and, w_ite, w_idx, w_slc, w_tup, w_lst, w_call, w_meth, w_attr, v_cmp, v_and, v_not, v_call, u_nil, u_cons, set_m, set_n, z_asg, z_asgD, z_asgT, z_seti, z_aug, z_expr, z_ifs, z_whl, z_forR, z_forL, z_forE, z_ret, z_cons, z_nil, List.getElem?_cons_zero, List.getElem?_cons_succ, Option.some.injEq, exists_eq_left'] using this

theorem take_neg {B i j at' c d l o V0 Y : Nat} {es : List Nat} (hB : 0 < B) (hi : i = at' + j) (hd : es[i]? = some d) (hdB : d < B) (hv : val B es + B ^ at' * (l * Y) = V0 + B ^ i * c) (hneg : d < (l * o + c) % B) :
    val B (es.set i (d + B - (l * o + c) % B)) + B ^ at' * (l * (Y + B ^ j * o)) = V0 + B ^ (i + 1) * ((l * o + c) / B + 1) := by
  have h1 := val_set (B := B) (v := d + B - (l * o + c) % B) hd
  have hm := Nat.mod_lt (l * o + c) hB
  have h2 : B ^ i * (d + B - (l * o + c) % B) + B ^ i * ((l * o + c) % B) = B ^ i * d + B ^ i * B := by rw [← Nat.mul_add, ← Nat.mul_add]; congr 1; lia
  have h3 : B ^ i * ((l * o + c) % B) + B ^ (i + 1) * ((l * o + c) / B) = B ^ i * (l * o) + B ^ i * c := by
    rw [Nat.pow_succ, Nat.mul_assoc, ← Nat.mul_add, Nat.mod_add_div, Nat.mul_add]
  have h4 : B ^ at' * (l * (Y + B ^ j * o)) = B ^ at' * (l * Y) + B ^ i * (l * o) := by
    rw [Nat.mul_add, Nat.mul_add, hi, Nat.pow_add, Nat.mul_assoc, Nat.mul_left_comm l]
  have h5 : B ^ (i + 1) * ((l * o + c) / B + 1) = B ^ (i + 1) * ((l * o + c) / B) + B ^ i * B := by rw [Nat.mul_add, Nat.mul_one]; rw [Nat.pow_succ]
  lia
theorem take_pos {B i j at' c d l o V0 Y : Nat} {es : List Nat} (hB : 0 < B) (hi : i = at' + j) (hd : es[i]? = some d) (hdB : d < B) (hv : val B es + B ^ at' * (l * Y) = V0 + B ^ i * c) (hneg : ¬ d < (l * o + c) % B) :
    val B (es.set i (d - (l * o + c) % B)) + B ^ at' * (l * (Y + B ^ j * o)) = V0 + B ^ (i + 1) * ((l * o + c) / B) := by
  have h1 := val_set (B := B) (v := d - (l * o + c) % B) hd
  have h2 : B ^ i * (d - (l * o + c) % B) + B ^ i * ((l * o + c) % B) = B ^ i * d := by rw [← Nat.mul_add]; congr 1; lia
  have h3 : B ^ i * ((l * o + c) % B) + B ^ (i + 1) * ((l * o + c) / B) = B ^ i * (l * o) + B ^ i * c := by
    rw [Nat.pow_succ, Nat.mul_assoc, ← Nat.mul_add, Nat.mod_add_div, Nat.mul_add]
  have h4 : B ^ at' * (l * (Y + B ^ j * o)) = B ^ at' * (l * Y) + B ^ i * (l * o) := by
    rw [Nat.mul_add, Nat.mul_add, hi, Nat.pow_add, Nat.mul_assoc, Nat.mul_left_comm l]
  lia
theorem take_carry {B c d l o : Nat} (hB : 0 < B) (hc : c < B) (hl : l < B) (ho : o < B) : (l * o + c) / B < B ∧ (d < (l * o + c) % B → (l * o + c) / B + 1 < B) := by
  have key : l * o + c ≤ (B - 1) * B := by
    obtain ⟨m, rfl⟩ : ∃ m, B = m + 1 := ⟨B - 1, by lia⟩
    have h1 : l * o ≤ m * m := Nat.mul_le_mul (by lia) (by lia)
    simp only [Nat.add_sub_cancel, Nat.mul_add, Nat.mul_one]; lia
  have h2 : (l * o + c) / B ≤ B - 1 := Nat.div_le_of_le_mul (by rw [Nat.mul_comm B]; exact key)
  ktr_units
  refine ⟨by lia, fun hm => ?_⟩
  by_cases he : (l * o + c) / B = B - 1
  · have h3 := Nat.div_add_mod (l * o + c) B
    rw [he, Nat.mul_comm B] at h3
    lia
  · lia

theorem take_away_ok (P : PW C) {w l k y : Nat} {ds bs : List Nat} {r b : Addr} (hw : Wd w) (hl : l < 2 ^ w) (hr : H r = some (.lst (nv ds))) (hb : H b = some (.lst (nv bs))) (hrb : b ≠ r) (hlen : k + bs.length < ds.length) (hl2 : ds.length ≤ 70000) (hd : Dig (2 ^ w) ds) (hbd : Dig (2 ^ w) bs) (hy : val (2 ^ w) bs = y)
    (h : ∀ es c, c ≤ 1 → es.length = ds.length → Dig (2 ^ w) es → val (2 ^ w) es + (2 ^ w) ^ k * (l * y) = val (2 ^ w) ds + (2 ^ w) ^ (k + bs.length + 1) * c → (∀ i, k + bs.length + 1 ≤ i → es[i]? = ds[i]?) → Q (I (c : Int)) (H.set r (.lst (nv es)))) :
    CallOk C (n + 1) (.ref a_take_away) [.ref r, .ref b, I (l : Int), I (k : Int), I (w : Int)] H Q := by
  ktr_units
  refine fn_ok P.f_take_away P.gl so_take_away is_take_away rfl ?_
  show pSs C n b_take_away [some (.ref r), some (.ref b), some (I (l : Int)), some (I (k : Int)), some (I (w : Int)), none, none, none, none, none] H _ Q
  unfold b_take_away
  have hB := hw.pos
  have hBB := hw.two
  have h16 : (2 : Nat) ^ w ≤ 2 ^ 16 := Nat.pow_le_pow_right (by decide) hw.hi
  have hwl := hw.lo
  have hwh := hw.hi
  have sm : ∀ {x : Nat}, x < 2 ^ w → Sm (x : Int) := fun hx => Sm.nat (m := 16) (by lia) (by decide)
  have sm1 : Sm ((2 ^ w : Nat) : Int) := Sm.nat (m := 17) (Nat.lt_of_le_of_lt h16 (by decide)) (by decide)
  have hb' : ∀ o, (H.set r o) b = some (.lst (nv bs)) := fun o => by rw [PH.set_ne _ _ hrb]; exact hb
  ktr_unf
  ktr_units
  refine n_one (by lia) ?_
  ktr_unf
  ktr_units
  refine ⟨b, _, rfl, hb, fun j σ H' => ∃ es c v7 v8 v9, σ = [some (.ref r), some (.ref b), some (I (l : Int)), some (I (k : Int)), some (I (w : Int)), some (I ((c : Nat) : Int)), some (I ((2 ^ w : Nat) : Int)), v7, v8, v9] ∧ (H' = H.set r (.lst (nv es)) ∨ H' = H ∧ es = ds) ∧
    es.length = ds.length ∧ Dig (2 ^ w) es ∧ c < 2 ^ w ∧ val (2 ^ w) es + (2 ^ w) ^ k * (l * val (2 ^ w) (bs.take j)) = val (2 ^ w) ds + (2 ^ w) ^ (k + j) * c ∧ ∀ i, k + j ≤ i → es[i]? = ds[i]?,
    ⟨ds, 0, none, none, none, rfl, .inr ⟨rfl, rfl⟩, rfl, hd, hB, by simp [val], fun _ _ => rfl⟩, ?_, ?_⟩
  · ktr_units
    rintro j ov σ H' hov ⟨es, c, v7, v8, v9, rfl, hH, hlen', hdig, hc, hval, hsame⟩
    obtain ⟨o, ho1, rfl⟩ := nv_get' _ hov
    have hjl := (List.getElem?_eq_some_iff.mp ho1).1
    have hoB := hbd.get ho1
    have hHr : H' r = some (.lst (nv es)) := by
      rcases hH with rfl | ⟨rfl, rfl⟩
      · ktr_units
        exact PH.set_same _ _ _
      · ktr_units
        exact hr
    have hHb : H' b = some (.lst (nv bs)) := by
      rcases hH with rfl | ⟨rfl, rfl⟩
      · ktr_units
        exact hb' _
      · ktr_units
        exact hb
    have hHs : ∀ o, H'.set r o = H.set r o := by
      rcases hH with rfl | ⟨rfl, rfl⟩
      · ktr_units
        intro o; exact PH.set_set _ _ _ _
      · ktr_units
        intro o; rfl
    ktr_units
    refine ⟨hHb, ?_⟩
    obtain ⟨d, hd1⟩ : ∃ d, es[k + j]? = some d := ⟨_, List.getElem?_eq_getElem (by lia)⟩
    have hdB := hdig.get hd1
    have hcr := take_carry (d := d) hB hc hl hoB
    ktr_unf
    ktr_units
    refine n_add (n_idx hHr (nv_get _ hd1) (n_mul (sm hl) (sm hoB) (n_add (n_mod (by lia) (bin_sub ?_)))))
    ktr_unf
    ktr_units
    refine n_mul (sm hl) (sm hoB) (n_add (n_div (by lia) sm1 ?_))
    by_cases hneg : d < (l * o + c) % 2 ^ w
    · ktr_units
      refine i_lt (fun _ => ?_) fun h' => absurd (show (d : Int) - (((l * o + c) % 2 ^ w : Nat) : Int) < ((0 : Nat) : Int) by lia) h'
      ktr_unf
      ktr_units
      refine n_add ?_
      ktr_unf
      ktr_units
      refine i_lt (fun _ => ?_) fun h' => absurd (show (d : Int) - (((l * o + c) % 2 ^ w : Nat) : Int) < ((0 : Nat) : Int) by lia) h'
      ktr_unf
      ktr_units
      refine bin_add (n_add ?_)
      have hm := Nat.mod_lt (l * o + c) hB
      have e1 : (d : Int) - (((l * o + c) % 2 ^ w : Nat) : Int) + ((2 ^ w : Nat) : Int) = ((d + 2 ^ w - (l * o + c) % 2 ^ w : Nat) : Int) := by lia
      rw [e1]
      ktr_units
      refine n_set hHr (by rw [nv_len]; lia) ?_
      rw [nv_set, hHs]
      ktr_units
      refine ⟨_, _, _, _, _, rfl, .inl rfl, by simp [hlen'], hdig.set (by lia) _, hcr.2 hneg, ?_, ?_⟩
      · rw [take_succ_val ho1]
        ktr_units
        exact take_neg hB rfl hd1 hdB hval hneg
      · ktr_units
        intro i hi
        rw [List.getElem?_set_ne (by lia)]; exact hsame i (by lia)
    · ktr_units
      refine i_lt (fun h' => absurd h' (show ¬ (d : Int) - (((l * o + c) % 2 ^ w : Nat) : Int) < ((0 : Nat) : Int) by lia)) fun _ => ?_
      ktr_unf
      ktr_units
      refine n_add ?_
      ktr_unf
      ktr_units
      refine i_lt (fun h' => absurd h' (show ¬ (d : Int) - (((l * o + c) % 2 ^ w : Nat) : Int) < ((0 : Nat) : Int) by lia)) fun _ => ?_
      ktr_unf
      ktr_units
      refine n_add ?_
      have e1 : (d : Int) - (((l * o + c) % 2 ^ w : Nat) : Int) = ((d - (l * o + c) % 2 ^ w : Nat) : Int) := by lia
      rw [e1]
      ktr_units
      refine n_set hHr (by rw [nv_len]; lia) ?_
      rw [nv_set, hHs]
      ktr_units
      refine ⟨_, _, _, _, _, rfl, .inl rfl, by simp [hlen'], hdig.set (by lia) _, by rw [Nat.add_zero]; exact hcr.1, ?_, ?_⟩
      · rw [take_succ_val ho1]
        ktr_units
        exact take_pos hB rfl hd1 hdB hval hneg
      · ktr_units
        intro i hi
        rw [List.getElem?_set_ne (by lia)]; exact hsame i (by lia)
  · ktr_units
    rintro σ H' ⟨es, c, v7, v8, v9, rfl, hH, hlen', hdig, hc, hval, hsame⟩
    rw [nv_len, List.take_length, hy] at hval
    rw [nv_len] at hsame
    have hHr : H' r = some (.lst (nv es)) := by
      rcases hH with rfl | ⟨rfl, rfl⟩
      · ktr_units
        exact PH.set_same _ _ _
      · ktr_units
        exact hr
    have hHb : H' b = some (.lst (nv bs)) := by
      rcases hH with rfl | ⟨rfl, rfl⟩
      · ktr_units
        exact hb' _
      · ktr_units
        exact hb
    have hHs : ∀ o, H'.set r o = H.set r o := by
      rcases hH with rfl | ⟨rfl, rfl⟩
      · ktr_units
        intro o; exact PH.set_set _ _ _ _
      · ktr_units
        intro o; rfl
    ktr_units
    refine ⟨hHb, ?_⟩
    ktr_unf
    obtain ⟨d, hd1⟩ : ∃ d, es[k + bs.length]? = some d := ⟨_, List.getElem?_eq_getElem (by lia)⟩
    have hdB := hdig.get hd1
    ktr_units
    refine len_lst hHb ?_
    rw [nv_len]
    ktr_units
    refine n_add (n_idx hHr (nv_get _ hd1) (bin_sub ?_))
    ktr_unf
    by_cases hneg : d < c
    · ktr_units
      refine i_lt (fun _ => ?_) fun h' => absurd (show (d : Int) - (c : Int) < ((0 : Nat) : Int) by lia) h'
      ktr_unf
      ktr_units
      refine bin_add (len_lst hHb ?_)
      rw [nv_len]
      ktr_units
      refine n_add ?_
      have e1 : (d : Int) - (c : Int) + ((2 ^ w : Nat) : Int) = ((d + 2 ^ w - c : Nat) : Int) := by lia
      rw [e1]
      ktr_units
      refine n_set hHr (by rw [nv_len]; lia) ?_
      rw [nv_set, hHs]
      ktr_unf
      ktr_units
      refine i_lt (fun _ => ?_) fun h' => absurd (show (d : Int) - (c : Int) < ((0 : Nat) : Int) by lia) h'
      ktr_unf
      ktr_units
      refine h _ 1 (Nat.le_refl _) (by simp [hlen']) (hdig.set (by lia) _) ?_ ?_
      · have h1 := val_set (B := 2 ^ w) (v := d + 2 ^ w - c) hd1
        have h2 : (2 ^ w) ^ (k + bs.length) * (d + 2 ^ w - c) + (2 ^ w) ^ (k + bs.length) * c = (2 ^ w) ^ (k + bs.length) * d + (2 ^ w) ^ (k + bs.length) * 2 ^ w := by rw [← Nat.mul_add, ← Nat.mul_add]; congr 1; lia
        rw [Nat.pow_succ, Nat.mul_one]
        lia
      · ktr_units
        intro i hi
        rw [List.getElem?_set_ne (by lia)]; exact hsame i (by lia)
    · ktr_units
      refine i_lt (fun h' => absurd h' (show ¬ (d : Int) - (c : Int) < ((0 : Nat) : Int) by lia)) fun _ => ?_
      ktr_unf
      ktr_units
      refine len_lst hHb ?_
      rw [nv_len]
      ktr_units
      refine n_add ?_
      have e1 : (d : Int) - (c : Int) = ((d - c : Nat) : Int) := by lia
      rw [e1]
      ktr_units
      refine n_set hHr (by rw [nv_len]; lia) ?_
      rw [nv_set, hHs]
      ktr_unf
      ktr_units
      refine i_lt (fun h' => absurd h' (by lia)) fun _ => ?_
      ktr_unf
      ktr_units
      refine h _ 0 (by lia) (by simp [hlen']) (hdig.set (by lia) _) ?_ ?_
      · have h1 := val_set (B := 2 ^ w) (v := d - c) hd1
        have h2 : (2 ^ w) ^ (k + bs.length) * (d - c) + (2 ^ w) ^ (k + bs.length) * c = (2 ^ w) ^ (k + bs.length) * d := by rw [← Nat.mul_add]; congr 1; lia
        rw [Nat.mul_zero]
        lia
      · ktr_units
        intro i hi
        rw [List.getElem?_set_ne (by lia)]; exact hsame i (by lia)

theorem put_back_ok (P : PW C) {w k y : Nat} {ds bs : List Nat} {r b : Addr} (hw : Wd w) (hr : H r = some (.lst (nv ds))) (hb : H b = some (.lst (nv bs))) (hrb : b ≠ r) (hlen : k + bs.length < ds.length) (hl2 : ds.length ≤ 70000) (hd : Dig (2 ^ w) ds) (hbd : Dig (2 ^ w) bs) (hy : val (2 ^ w) bs = y)
    (h : ∀ es c, c ≤ 1 → es.length = ds.length → Dig (2 ^ w) es → val (2 ^ w) es + (2 ^ w) ^ (k + bs.length + 1) * c = val (2 ^ w) ds + (2 ^ w) ^ k * y → (∀ i, k + bs.length + 1 ≤ i → es[i]? = ds[i]?) → Q .none (H.set r (.lst (nv es)))) :
    CallOk C (n + 1) (.ref a_put_back) [.ref r, .ref b, I (k : Int), I (w : Int)] H Q := by
  ktr_units
  refine fn_ok P.f_put_back P.gl so_put_back is_put_back rfl ?_
  show pSs C n b_put_back [some (.ref r), some (.ref b), some (I (k : Int)), some (I (w : Int)), none, none, none, none] H _ Q
  unfold b_put_back
  have hB := hw.pos
  have hBB := hw.two
  have h16 : (2 : Nat) ^ w ≤ 2 ^ 16 := Nat.pow_le_pow_right (by decide) hw.hi
  have hwl := hw.lo
  have hwh := hw.hi
  have hb' : ∀ o, (H.set r o) b = some (.lst (nv bs)) := fun o => by rw [PH.set_ne _ _ hrb]; exact hb
  ktr_unf
  ktr_units
  refine n_one (by lia) (n_sub Nat.one_le_two_pow ?_)
  ktr_unf
  ktr_units
  refine ⟨b, _, rfl, hb, fun j σ H' => ∃ es c v7 v8, σ = [some (.ref r), some (.ref b), some (I (k : Int)), some (I (w : Int)), some (I ((c : Nat) : Int)), some (I ((2 ^ w - 1 : Nat) : Int)), v7, v8] ∧ (H' = H.set r (.lst (nv es)) ∨ H' = H ∧ es = ds) ∧
    es.length = ds.length ∧ Dig (2 ^ w) es ∧ c ≤ 1 ∧ val (2 ^ w) es + (2 ^ w) ^ (k + j) * c = val (2 ^ w) ds + (2 ^ w) ^ k * (val (2 ^ w) (bs.take j)) ∧ ∀ i, k + j ≤ i → es[i]? = ds[i]?,
    ⟨ds, 0, none, none, rfl, .inr ⟨rfl, rfl⟩, rfl, hd, by lia, by simp [val], fun _ _ => rfl⟩, ?_, ?_⟩
  · ktr_units
    rintro j ov σ H' hov ⟨es, c, v7, v8, rfl, hH, hlen', hdig, hc, hval, hsame⟩
    obtain ⟨o, ho1, rfl⟩ := nv_get' _ hov
    have hjl := (List.getElem?_eq_some_iff.mp ho1).1
    have hoB := hbd.get ho1
    have hHr : H' r = some (.lst (nv es)) := by
      rcases hH with rfl | ⟨rfl, rfl⟩
      · ktr_units
        exact PH.set_same _ _ _
      · ktr_units
        exact hr
    have hHb : H' b = some (.lst (nv bs)) := by
      rcases hH with rfl | ⟨rfl, rfl⟩
      · ktr_units
        exact hb' _
      · ktr_units
        exact hb
    have hHs : ∀ o, H'.set r o = H.set r o := by
      rcases hH with rfl | ⟨rfl, rfl⟩
      · ktr_units
        intro o; exact PH.set_set _ _ _ _
      · ktr_units
        intro o; rfl
    ktr_units
    refine ⟨hHb, ?_⟩
    obtain ⟨d, hd1⟩ : ∃ d, es[k + j]? = some d := ⟨_, List.getElem?_eq_getElem (by lia)⟩
    have hdB := hdig.get hd1
    ktr_unf
    ktr_units
    refine n_add (n_idx hHr (nv_get _ hd1) (n_add (n_aadd ?_)))
    ktr_unf
    ktr_units
    refine n_mask (n_add (n_set hHr (by rw [nv_len]; lia) ?_))
    rw [nv_set, hHs]
    ktr_unf
    ktr_units
    refine n_ashr ?_
    ktr_units
    refine ⟨_, _, _, _, rfl, .inl rfl, by simp [hlen'], hdig.set (Nat.mod_lt _ hB) _, add_carry hc hdB hoB, ?_, ?_⟩
    · have h1 := val_set (B := 2 ^ w) (v := (c + (d + o)) % 2 ^ w) hd1
      have h2 : (2 ^ w) ^ (k + j) * ((c + (d + o)) % 2 ^ w) + (2 ^ w) ^ (k + j + 1) * ((c + (d + o)) / 2 ^ w) = (2 ^ w) ^ (k + j) * c + ((2 ^ w) ^ (k + j) * d + (2 ^ w) ^ (k + j) * o) := by
        rw [Nat.pow_succ, Nat.mul_assoc, ← Nat.mul_add, Nat.mod_add_div, Nat.mul_add, Nat.mul_add]
      have h3 : (2 ^ w) ^ k * ((2 ^ w) ^ j * o) = (2 ^ w) ^ (k + j) * o := by rw [← Nat.mul_assoc, ← Nat.pow_add]
      rw [take_succ_val ho1, Nat.mul_add, h3, show k + (j + 1) = k + j + 1 from rfl]
      lia
    · ktr_units
      intro i hi
      rw [List.getElem?_set_ne (by lia)]; exact hsame i (by lia)
  · ktr_units
    rintro σ H' ⟨es, c, v7, v8, rfl, hH, hlen', hdig, hc, hval, hsame⟩
    rw [nv_len, List.take_length, hy] at hval
    rw [nv_len] at hsame
    have hHr : H' r = some (.lst (nv es)) := by
      rcases hH with rfl | ⟨rfl, rfl⟩
      · ktr_units
        exact PH.set_same _ _ _
      · ktr_units
        exact hr
    have hHb : H' b = some (.lst (nv bs)) := by
      rcases hH with rfl | ⟨rfl, rfl⟩
      · ktr_units
        exact hb' _
      · ktr_units
        exact hb
    have hHs : ∀ o, H'.set r o = H.set r o := by
      rcases hH with rfl | ⟨rfl, rfl⟩
      · ktr_units
        intro o; exact PH.set_set _ _ _ _
      · ktr_units
        intro o; rfl
    ktr_units
    refine ⟨hHb, ?_⟩
    ktr_unf
    obtain ⟨d, hd1⟩ : ∃ d, es[k + bs.length]? = some d := ⟨_, List.getElem?_eq_getElem (by lia)⟩
    have hdB := hdig.get hd1
    ktr_units
    refine len_lst hHb ?_
    rw [nv_len]
    ktr_units
    refine n_add (n_idx hHr (nv_get _ hd1) (n_add (n_mask (len_lst hHb ?_))))
    rw [nv_len]
    ktr_units
    refine n_add (n_set hHr (by rw [nv_len]; lia) ?_)
    rw [nv_set, hHs]
    ktr_units
    refine h _ ((d + c) / 2 ^ w) ?_ (by simp [hlen']) (hdig.set (Nat.mod_lt _ hB) _) ?_ ?_
    · have := add_carry (B := 2 ^ w) hc hdB hB
      rw [Nat.add_zero, Nat.add_comm] at this; exact this
    · have h1 := val_set (B := 2 ^ w) (v := (d + c) % 2 ^ w) hd1
      have h2 : (2 ^ w) ^ (k + bs.length) * ((d + c) % 2 ^ w) + (2 ^ w) ^ (k + bs.length + 1) * ((d + c) / 2 ^ w) = (2 ^ w) ^ (k + bs.length) * d + (2 ^ w) ^ (k + bs.length) * c := by
        rw [Nat.pow_succ, Nat.mul_assoc, ← Nat.mul_add, Nat.mod_add_div, Nat.mul_add]
      lia
    · ktr_units
      intro i hi
      rw [List.getElem?_set_ne (by lia)]; exact hsame i (by lia)
end
end

section


section
variable {C : WC} {n : Nat} {H : PH} {Q : Value → PH → Prop}

theorem row_one {B t : Nat} (h : t ≠ 0) (hB : 2 ≤ B) (ht : t < B) : row B t = [t] := by
  rw [row_pos hB h, Nat.mod_eq_of_lt ht, Nat.div_eq_of_lt ht, row_zero]

theorem divrem_small_ok (P : PW C) {w x m : Nat} {a b : Addr} (hw : Wd w) (hx : Fit x) (hm0 : m ≠ 0) (hm : m < 2 ^ w) (ha : H a = some (.lst (rw' w x))) (hb : H b = some (.lst (rw' w m)))
    (h : ∀ q r t H', Ext H H' → H' t = some (.tup [.ref q, .ref r]) → H' q = some (.lst (rw' w (x / m))) → H' r = some (.lst (rw' w (x % m))) → Q (.ref t) H') :
    CallOk C (n + 3) (.ref a_divrem_small) [.ref a, .ref b, I (w : Int)] H Q := by
  ktr_units
  refine fn_ok P.f_divrem_small P.gl so_divrem_small is_divrem_small rfl ?_
  show pSs C (n + 2) b_divrem_small [some (.ref a), some (.ref b), some (I (w : Int)), none, none] H _ Q
  unfold b_divrem_small
  have hBB := hw.two
  ktr_unf
  have hb1 := hb
  unfold rw' at hb1
  rw [row_one hm0 hBB hm] at hb1
  ktr_units
  refine n_idx hb1 (nv_get (k := 0) (d := m) _ rfl) ?_
  ktr_units
  refine divrem_limb_ok P hw hx hm0 hm ha fun q t H1 ht hq0 hq => ?_
  ktr_units
  refine ⟨t, _, rfl, ht.at', rfl, ?_⟩
  ktr_unf
  have hm1 : x % m < m := Nat.mod_lt _ (by lia)
  ktr_units
  refine t_gt (fun h0 => ?_) fun h0 => ?_
  · ktr_unf
    ktr_units
    refine ⟨show _ ≤ 1048576 by simp, fun r hr => ⟨show _ ≤ 1048576 by simp, fun t' ht' => ?_⟩⟩
    have e1 : Ext H1 (H1.set r (.lst [I ((x % m : Nat) : Int)])) := (Ext.refl H1).set hr
    have e2 := e1.set (o := .tup [.ref q, .ref r]) (e1.none ht')
    ktr_units
    refine h q r t' _ (ht.ext.trans e2) (PH.set_same _ _ _) (e2.e _ _ hq) (set_old ?_ ht')
    rw [PH.set_same]; unfold rw'; rw [row_one (by lia) hBB (by lia)]; rfl
  · ktr_unf
    ktr_units
    refine ⟨show _ ≤ 1048576 by simp, fun r hr => ⟨show _ ≤ 1048576 by simp, fun t' ht' => ?_⟩⟩
    have e1 : Ext H1 (H1.set r (.lst [])) := (Ext.refl H1).set hr
    have e2 := e1.set (o := .tup [.ref q, .ref r]) (e1.none ht')
    ktr_units
    refine h q r t' _ (ht.ext.trans e2) (PH.set_same _ _ _) (e2.e _ _ hq) (set_old ?_ ht')
    have : x % m = 0 := by lia
    rw [PH.set_same, this]; unfold rw'; rw [row_zero]; rfl

/-- a store at r aside, all stands -/
structure ExtB (r : Addr) (H H' : PH) : Prop where
  e : ∀ a o, a ≠ r → H a = some o → H' a = some o
theorem ExtB.refl (r : Addr) (H : PH) : ExtB r H H := ⟨fun _ _ _ h => h⟩
theorem ExtB.new {r q : Addr} {H H' : PH} {o : HO} (x : ExtB r H H') (hq : H' q = none) : ExtB r H (H'.set q o) :=
  ⟨fun a p ha h => set_old (x.e a p ha h) hq⟩
theorem ExtB.self {r : Addr} {H H' : PH} {o : HO} (x : ExtB r H H') : ExtB r H (H'.set r o) :=
  ⟨fun a p ha h => by rw [PH.set_ne _ _ ha]; exact x.e a p ha h⟩
theorem ExtB.at {r q : Addr} {H H' : PH} {o : HO} (x : ExtB r H H') (hq : H q = none) : ExtB r H (H'.set q o) :=
  ⟨fun a p ha h => by
    have : a ≠ q := by rintro rfl; rw [hq] at h; cases h
    rw [PH.set_ne _ _ this]; exact x.e a p ha h⟩

/-- the arithmetic of one turn -/
theorem kn_end {B K v g R ve E : Nat} (hE : ve + K * (g * v) = R) (hup : R < (g + 1) * (v * K)) : ve < v * K ∧ R = ve + v * (K * g) := by
  have e1 : K * (g * v) = v * (K * g) := by rw [Nat.mul_comm g v, Nat.mul_left_comm]
  have e2 : (g + 1) * (v * K) = v * (K * g) + v * K := by rw [Nat.add_mul, Nat.one_mul, Nat.mul_comm g, Nat.mul_assoc]
  ktr_units
  constructor <;> lia

theorem digits3 {B m : Nat} {es : List Nat} {d0 d1 d2 : Nat} (h2 : es[m]? = some d2) (h1 : es[m + 1]? = some d1) (h0 : es[m + 2]? = some d0) (hz : ∀ i d, m + 3 ≤ i → es[i]? = some d → d = 0) :
    val B es = ((d0 * B + d1) * B + d2) * B ^ m + val B (es.take m) := by
  rw [val_drop h2, drop_of_get h1, drop_of_get h0]
  have hzd : val B (es.drop (m + 3)) = 0 := by
    rw [val_zeros (m := 0) (fun i d _ he => hz (m + 3 + i) d (by lia) (by rw [List.getElem?_drop] at he; exact he))]; simp [val]
  rw [val, val, show m + 1 + 1 + 1 = m + 3 from rfl, hzd, Nat.mul_zero, Nat.add_zero, Nat.mul_comm (B ^ m), Nat.add_comm]
  have e : d2 + B * (d1 + B * d0) = (d0 * B + d1) * B + d2 := by
    rw [Nat.mul_comm B (d1 + B * d0), Nat.mul_comm B d0, Nat.add_comm d1, Nat.add_comm d2]
  rw [e]
theorem digits2 {B m : Nat} {bs : List Nat} {d1 d2 : Nat} (h2 : bs[m]? = some d2) (h1 : bs[m + 1]? = some d1) (hl : bs.length = m + 2) :
    val B bs = (d1 * B + d2) * B ^ m + val B (bs.take m) := by
  rw [val_drop h2, drop_of_get h1, List.drop_of_length_le (by lia), val, val, Nat.mul_zero, Nat.add_zero, Nat.mul_comm (B ^ m), Nat.add_comm, Nat.add_comm d2, Nat.mul_comm B d1]

theorem divide_rows_ok (P : PW C) {w v k : Nat} {ds : List Nat} {r b : Addr} (hw : Wd w) (hr : H r = some (.lst (nv ds))) (hb : H b = some (.lst (rw' w v))) (hbr : b ≠ r) (hm : 2 ≤ (row (2 ^ w) v).length) (hl : ds.length = (row (2 ^ w) v).length + k) (hl2 : ds.length ≤ 60000)
    (hd : Dig (2 ^ w) ds) (hlt : val (2 ^ w) ds < v * (2 ^ w) ^ k)
    (h : ∀ q qs es H', ExtB r H H' → H' r = some (.lst (nv es)) → H' q = some (.lst (nv qs)) → Dig (2 ^ w) qs → Dig (2 ^ w) es → val (2 ^ w) qs = val (2 ^ w) ds / v → val (2 ^ w) es = val (2 ^ w) ds % v → Q (.ref q) H') :
    CallOk C (n + 2) (.ref a_divide_rows) [.ref r, .ref b, I (w : Int)] H Q := by
  ktr_units
  refine fn_ok P.f_divide_rows P.gl so_divide_rows is_divide_rows rfl ?_
  show pSs C (n + 1) b_divide_rows [some (.ref r), some (.ref b), some (I (w : Int)), none, none, none, none] H _ Q
  unfold b_divide_rows
  have hB := hw.pos
  have hBB := hw.two
  have h16 : (2 : Nat) ^ w ≤ 2 ^ 16 := Nat.pow_le_pow_right (by decide) hw.hi
  have hv0 : v ≠ 0 := by rintro rfl; rw [row_zero] at hm; simp at hm
  have hvv := row_val hw.two v
  have hvd := row_dig hw.two v
  have hvl := row_lt hw.two v
  obtain ⟨m, hm2⟩ : ∃ m, (row (2 ^ w) v).length = m + 2 := ⟨(row (2 ^ w) v).length - 2, by lia⟩
  obtain ⟨v1, hv1⟩ : ∃ v1, (row (2 ^ w) v)[m + 1]? = some v1 := ⟨_, List.getElem?_eq_getElem (by lia)⟩
  obtain ⟨v2, hv2⟩ : ∃ v2, (row (2 ^ w) v)[m]? = some v2 := ⟨_, List.getElem?_eq_getElem (by lia)⟩
  have hv1B := hvd.get hv1
  have hv2B := hvd.get hv2
  have hv10 : v1 ≠ 0 := by
    obtain ⟨t, ht, ht0, _⟩ := row_last hw.two hv0
    rw [hm2, show m + 2 - 1 = m + 1 from rfl, hv1] at ht
    cases ht; exact ht0
  have hdec := digits2 (B := 2 ^ w) hv2 hv1 hm2
  rw [hvv] at hdec
  have hlo := val_lt hB (hvd.take m)
  rw [List.length_take, Nat.min_eq_left (by lia)] at hlo
  generalize hvlo : val (2 ^ w) ((row (2 ^ w) v).take m) = vlo at hdec hlo
  ktr_unf
  ktr_units
  refine len_lst hb ?_
  rw [nv_len]
  ktr_unf
  ktr_units
  refine ⟨by decide, fun r0 hr0 => ?_⟩
  ktr_units
  refine len_lst (set_old hr hr0) ?_
  rw [nv_len]
  ktr_units
  refine n_sub (by lia) ?_
  have ek : ds.length - (row (2 ^ w) v).length = k := by lia
  rw [ek]
  ktr_units
  refine zeros (by lia) fun q hq => ?_
  ktr_unf
  have hr2 : (H.set r0 (HO.lst [I ((0 : Nat) : Int)])) r = some (.lst (nv ds)) := set_old hr hr0
  have hb2 : (H.set r0 (HO.lst [I ((0 : Nat) : Int)])) b = some (.lst (rw' w v)) := set_old hb hr0
  have hGe : ExtB r H (H.set r0 (HO.lst [I ((0 : Nat) : Int)])) := (ExtB.refl r H).new hr0
  have hHq : H q = none := by
    have : Ext H (H.set r0 (HO.lst [I ((0 : Nat) : Int)])) := (Ext.refl H).set hr0
    ktr_units
    exact this.none hq
  generalize H.set r0 (HO.lst [I ((0 : Nat) : Int)]) = G at hq hr2 hb2 hGe ⊢
  ktr_units
  refine len_lst (set_old hr2 hq) ?_
  rw [nv_len]
  ktr_units
  refine n_sub (by lia) (bin_sub ?_)
  rw [ek]
  ktr_unf
  ktr_units
  refine ⟨_, _, _, RangeOf.down _ (by lia) (by lia), fun i σ H' => ∃ j es qt v5 v6, i + j = k ∧ σ = [some (.ref r), some (.ref b), some (I (w : Int)), some (I (((row (2 ^ w) v).length : Nat) : Int)), some (.ref q), v5, v6] ∧ ExtB r H H' ∧
      H' r = some (.lst (nv es)) ∧ H' q = some (.lst (nv (List.replicate j 0 ++ qt))) ∧ es.length = ds.length ∧ Dig (2 ^ w) es ∧ Dig (2 ^ w) qt ∧ val (2 ^ w) es < v * (2 ^ w) ^ j ∧ val (2 ^ w) ds = val (2 ^ w) es + v * ((2 ^ w) ^ j * val (2 ^ w) qt),
    ⟨k, ds, [], none, none, by lia, rfl, hGe.new hq, set_old hr2 hq, by simp [PH.set_same], rfl, hd, Dig.nil _, hlt, by simp [val]⟩, ?_, ?_⟩
  · ktr_units
    rintro i σ H' hi ⟨j', es, qt, v5, v6, hij, rfl, hX, hHr, hHq', hel, hed, hqd, hel2, hsum⟩
    have hHb : H' b = some (.lst (rw' w v)) := hX.e b _ hbr hb
    have hqr : q ≠ r := by rintro rfl; rw [hHq] at hr; cases hr
    have hqb : b ≠ q := by rintro rfl; rw [hHq] at hb; cases hb
    obtain ⟨j, rfl⟩ : ∃ j, j' = j + 1 := ⟨j' - 1, by lia⟩
    have ej : ((k : Nat) : Int) - ((1 : Nat) : Int) + (i : Int) * -1 = (j : Int) := by lia
    rw [ej]
    have hzero : ∀ i d, j + m + 3 ≤ i → es[i]? = some d → d = 0 := by
      ktr_units
      refine zeros_of_lt hB (Nat.lt_of_lt_of_le hel2 ?_)
      have : v * (2 ^ w) ^ (j + 1) ≤ (2 ^ w) ^ (m + 2) * (2 ^ w) ^ (j + 1) := Nat.mul_le_mul_right _ (by rw [← hm2]; exact Nat.le_of_lt hvl)
      rw [← Nat.pow_add] at this
      have e : m + 2 + (j + 1) = j + m + 3 := by lia
      rw [e] at this; exact this
    obtain ⟨d0, hd0⟩ : ∃ d0, es[j + m + 2]? = some d0 := ⟨_, List.getElem?_eq_getElem (by lia)⟩
    obtain ⟨d1, hd1⟩ : ∃ d1, es[j + m + 1]? = some d1 := ⟨_, List.getElem?_eq_getElem (by lia)⟩
    obtain ⟨d2, hd2⟩ : ∃ d2, es[j + m]? = some d2 := ⟨_, List.getElem?_eq_getElem (by lia)⟩
    have hdec3 := digits3 (B := 2 ^ w) hd2 hd1 hd0 hzero
    have hlo3 := val_lt hB (hed.take (j + m))
    rw [List.length_take, Nat.min_eq_left (by lia)] at hlo3
    ktr_unf
    ktr_units
    refine n_add (n_sub (by lia) (n_add (n_add ?_)))
    ktr_units
    refine slc_two hHr (by rw [nv_len]; lia) (by lia) fun t ht => ?_
    have etake : (nv es).drop (j + (row (2 ^ w) v).length - 2) = nv (d2 :: d1 :: d0 :: es.drop (j + m + 3)) := by
      have e1 : j + (row (2 ^ w) v).length - 2 = j + m := by lia
      rw [e1, nv, ← List.map_drop, drop_of_get hd2, drop_of_get hd1, drop_of_get hd0]
    have etake2 : ((nv es).drop (j + (row (2 ^ w) v).length - 2)).take (j + (row (2 ^ w) v).length + 1 - (j + (row (2 ^ w) v).length - 2)) = nv [d2, d1, d0] := by
      have e2 : j + (row (2 ^ w) v).length + 1 - (j + (row (2 ^ w) v).length - 2) = 3 := by lia
      rw [etake, e2]; rfl
    rw [etake2]
    have htr : r ≠ t := by rintro rfl; rw [ht] at hHr; cases hHr
    have htq : q ≠ t := by rintro rfl; rw [ht] at hHq'; cases hHq'
    have htb : b ≠ t := by rintro rfl; rw [ht] at hHb; cases hHb
    ktr_units
    refine n_sub (by lia) ?_
    ktr_units
    refine n_idx (set_old hHb ht) (nv_get _ (d := v1) (by rw [hm2]; exact hv1)) ?_
    ktr_units
    refine n_sub (by lia) ?_
    ktr_units
    refine n_idx (set_old hHb ht) (nv_get _ (d := v2) (by rw [hm2]; exact hv2)) ?_
    have huv : val (2 ^ w) es < 2 ^ w * (v * (2 ^ w) ^ j) := by
      rw [Nat.pow_succ, Nat.mul_comm ((2 ^ w) ^ j), Nat.mul_left_comm] at hel2; exact hel2
    ktr_units
    refine guessed_limb_ok P hw (hed.get hd0) (hed.get hd1) (hed.get hd2) hv1B hv2B hv10 (PH.set_same _ _ _) hdec3 hlo3
      (show v * (2 ^ w) ^ j = (v1 * 2 ^ w + v2) * (2 ^ w) ^ (j + m) + vlo * (2 ^ w) ^ j by rw [hdec, Nat.add_mul, Nat.mul_assoc _ ((2 ^ w) ^ m), ← Nat.pow_add, Nat.add_comm m j])
      (by rw [Nat.add_comm j m, Nat.pow_add]; exact Nat.mul_lt_mul_of_pos_right hlo (Nat.pow_pos hB)) huv fun g hgB hup hlow => ?_
    ktr_unf
    ktr_units
    refine take_away_ok P hw hgB (set_old hHr ht) (set_old hHb ht) hbr (by lia) (by lia) hed hvd hvv fun es' c hc hl' hd' hval' hsame => ?_
    have hz' : val (2 ^ w) es' < (2 ^ w) ^ (j + m + 3) := val_lt_zeros hB hd' fun i d hi he => hzero i d hi (by rw [← hsame i (by lia)]; exact he)
    have eexp : j + (row (2 ^ w) v).length + 1 = j + m + 3 := by lia
    rw [eexp] at hval' hsame
    have eg : (2 ^ w) ^ j * (g * v) = g * (v * (2 ^ w) ^ j) := Nat.mul_left_comm _ _ _ |>.trans (congrArg (g * ·) (Nat.mul_comm _ _))
    have hend : ∀ (g' : Nat) (es2 : List Nat) (H2 : PH), ExtB r H H2 → H2 r = some (.lst (nv es2)) → H2 q = some (.lst (nv (List.replicate (j + 1) 0 ++ qt))) → es2.length = ds.length → Dig (2 ^ w) es2 → g' < 2 ^ w →
        val (2 ^ w) es2 + (2 ^ w) ^ j * (g' * v) = val (2 ^ w) es → val (2 ^ w) es < (g' + 1) * (v * (2 ^ w) ^ j) →
        pSs C (n + 1) (PSs.cons (PS.seti (PE.var 4) (PE.var 5) (PE.var 6)) PSs.nil) [some (.ref r), some (.ref b), some (I (w : Int)), some (I (((row (2 ^ w) v).length : Nat) : Int)), some (.ref q), some (I (j : Int)), some (I (g' : Int))] H2
        (fun σ H' => ∃ j es qt v5 v6, i + 1 + j = k ∧ σ = [some (.ref r), some (.ref b), some (I (w : Int)), some (I (((row (2 ^ w) v).length : Nat) : Int)), some (.ref q), v5, v6] ∧ ExtB r H H' ∧
      H' r = some (.lst (nv es)) ∧ H' q = some (.lst (nv (List.replicate j 0 ++ qt))) ∧ es.length = ds.length ∧ Dig (2 ^ w) es ∧ Dig (2 ^ w) qt ∧ val (2 ^ w) es < v * (2 ^ w) ^ j ∧ val (2 ^ w) ds = val (2 ^ w) es + v * ((2 ^ w) ^ j * val (2 ^ w) qt)) Q := by
      ktr_units
      intro g' es2 H2 hX2 hr2 hq2 hl2' hd2' hg' hv' hup'
      obtain ⟨k1, k2⟩ := kn_end (B := 0) (E := 0) hv' hup'
      ktr_unf
      ktr_units
      refine n_set hq2 (by simp; lia) ?_
      rw [nv_set, set_repl]
      ktr_units
      refine ⟨j, es2, g' :: qt, _, _, by lia, rfl, hX2.at hHq, by rw [PH.set_ne _ _ (Ne.symm hqr)]; exact hr2, PH.set_same _ _ _, hl2', hd2', Dig.cons hg' hqd, k1, ?_⟩
      rw [hsum, k2, val, Nat.pow_succ]
      have e3 : v * ((2 ^ w) ^ j * (g' + 2 ^ w * val (2 ^ w) qt)) = v * ((2 ^ w) ^ j * g') + v * ((2 ^ w) ^ j * 2 ^ w * val (2 ^ w) qt) := by
        rw [Nat.mul_add, Nat.mul_add, Nat.mul_assoc]
      rw [e3, Nat.add_assoc]
    have hXt : ∀ o, ExtB r H ((H'.set t (.lst (nv [d2, d1, d0]))).set r o) := fun o => (hX.new ht).self
    have hrt : ∀ o, ((H'.set t (.lst (nv [d2, d1, d0]))).set r o) r = some o := fun o => PH.set_same _ _ _
    have hqt : ∀ o, ((H'.set t (.lst (nv [d2, d1, d0]))).set r o) q = some (.lst (nv (List.replicate (j + 1) 0 ++ qt))) := fun o => by
      rw [PH.set_ne _ _ hqr]; exact set_old hHq' ht
    have hbt : ∀ o, ((H'.set t (.lst (nv [d2, d1, d0]))).set r o) b = some (.lst (rw' w v)) := fun o => by
      rw [PH.set_ne _ _ hbr]; exact set_old hHb ht
    ktr_units
    refine t_eq (fun hc1 => ?_) fun hc1 => ?_
    · subst hc1
      ktr_unf
      have hglt : val (2 ^ w) es < g * (v * (2 ^ w) ^ j) := by rw [← eg]; lia
      have hg0 : g ≠ 0 := by rintro rfl; simp at hglt
      ktr_units
      refine n_asub (by lia) ?_
      ktr_unf
      ktr_units
      refine put_back_ok P hw (hrt _) (hbt _) hbr (by lia) (by lia) hd' hvd hvv fun es2 c2 hc2 hl2' hd2' hval2 hsame2 => ?_
      rw [PH.set_set]
      ktr_units
      refine ⟨rfl, ?_⟩
      rw [eexp] at hval2 hsame2
      have hz2 : val (2 ^ w) es2 < (2 ^ w) ^ (j + m + 3) := val_lt_zeros hB hd2' fun i d hi he => hzero i d hi (by rw [← hsame i hi, ← hsame2 i hi]; exact he)
      have e5 : (2 ^ w) ^ j * v = v * (2 ^ w) ^ j := Nat.mul_comm _ _
      have hc21 : c2 = 1 := by
        by_cases h0 : c2 = 0
        · subst h0; rw [e5] at hval2; rw [eg] at hval'; lia
        · lia
      subst hc21
      obtain ⟨g', rfl⟩ : ∃ g', g = g' + 1 := ⟨g - 1, by lia⟩
      have e6 : (2 ^ w) ^ j * ((g' + 1) * v) = (2 ^ w) ^ j * (g' * v) + (2 ^ w) ^ j * v := by rw [Nat.add_mul, Nat.one_mul, Nat.mul_add]
      have := hend g' es2 ((H'.set t (.lst (nv [d2, d1, d0]))).set r (.lst (nv es2))) (hXt _) (hrt _) (hqt _) (by lia) hd2' (by lia) (by lia) hglt
      ktr_units
      simpa only [lk_0, lk_s, w_int, w_bool, w_none, w_absent, w_var, w_glob, w_bin, w_cmp, w_neg, w_and, w_ite, w_idx, w_slc, w_tup, w_lst, w_call, w_meth, w_attr, v_cmp, v_and, v_not, v_call, u_nil, u_cons, set_m, set_n, z_asg, z_asgD, z_asgT, z_seti, z_aug, z_expr, z_ifs, z_whl, z_forR, z_forL, z_forE, z_ret, z_cons, z_nil, List.getElem?_cons_zero, List.getElem?_cons_succ, Option.some.injEq, exists_eq_left', Nat.add_sub_cancel] using this
    · have hc0 : c = 0 := by lia
      subst hc0
      ktr_unf
      have := hend g es' ((H'.set t (.lst (nv [d2, d1, d0]))).set r (.lst (nv es'))) (hXt _) (hrt _) (hqt _) (by lia) hd' hgB (by lia) hup
      ktr_units
      simpa only [lk_0, lk_s, w_int, w_bool, w_none, w_absent, w_var, w_glob, w_bin, w_cmp, w_neg, w_and, w_ite, w_idx, w_slc, w_tup, w_lst, w_call, w_meth, w_attr, v_cmp, v_and, v_not, v_call, u_nil, u_cons, set_m, set_n, z_asg, z_asgD, z_asgT, z_seti, z_aug, z_expr, z_ifs, z_whl, z_forR, z_forL, z_forE, z_ret, z_cons, z_nil, List.getElem?_cons_zero, List.getElem?_cons_succ, Option.some.injEq, exists_eq_left'] using this
  · ktr_units
    rintro σ H' ⟨j, es, qt, v5, v6, hij, rfl, hX, hHr, hHq', hel, hed, hqd, hel2, hsum⟩
    have hj0 : j = 0 := by lia
    subst hj0
    rw [Nat.pow_zero, Nat.mul_one] at hel2
    rw [Nat.pow_zero, Nat.one_mul] at hsum
    ktr_unf
    ktr_units
    refine h q qt es H' hX hHr (by simpa using hHq') hqd hed ?_ ?_
    · rw [hsum, Nat.add_mul_div_left _ _ (by lia), Nat.div_eq_of_lt hel2, Nat.zero_add]
    · rw [hsum, Nat.add_mul_mod_self_left, Nat.mod_eq_of_lt hel2]
end
end

section


section
variable {C : WC} {n : Nat} {H : PH} {Q : Value → PH → Prop}

theorem ExtB.ext {r : Addr} {H G G' : PH} (x : Ext H G) (y : ExtB r G G') (hr : H r = none) : Ext H G' :=
  ⟨fun a o h => y.e a o (by rintro rfl; rw [hr] at h; cases h) (x.e a o h)⟩

theorem divrem_school_ok (P : PW C) {w x y kx : Nat} {a b : Addr} (hw : Wd w) (hx : Fit x) (hy : Fit y) (hxf : x < 2 ^ kx) (hkx : kx ≤ 29000) (hy0 : y ≠ 0) (ha : H a = some (.lst (rw' w x))) (hb : H b = some (.lst (rw' w y)))
    (h : ∀ q r t H', Ext H H' → H' t = some (.tup [.ref q, .ref r]) → H' q = some (.lst (rw' w (x / y))) → H' r = some (.lst (rw' w (x % y))) → Q (.ref t) H') :
    CallOk C (n + 4) (.ref a_divrem_school) [.ref a, .ref b, I (w : Int)] H Q := by
  ktr_units
  refine fn_ok P.f_divrem_school P.gl so_divrem_school is_divrem_school rfl ?_
  show pSs C (n + 3) b_divrem_school [some (.ref a), some (.ref b), some (I (w : Int)), none, none, none, none] H _ Q
  unfold b_divrem_school
  have hB := hw.pos
  have hBB := hw.two
  have h16 : (2 : Nat) ^ w ≤ 2 ^ 16 := Nat.pow_le_pow_right (by decide) hw.hi
  have hwl := hw.lo
  have hwh := hw.hi
  have lx := hx.len hw
  have ly := hy.len hw
  obtain ⟨t, ht, ht0, htB, hyv, hlo, hl⟩ := row_last hw.two hy0
  ktr_unf
  ktr_units
  refine len_lst hb ?_
  rw [nv_len]
  ktr_units
  refine t_eq (fun h0 => absurd h0 (by lia)) fun _ => ?_
  ktr_unf
  ktr_units
  refine compare_ok P hw hx hy ha hb ?_
  ktr_units
  refine i_lt (fun hlt => ?_) fun hge => ?_
  · ktr_unf
    have hxy : x < y := by
      unfold cmpN at hlt
      split at hlt
      · assumption
      · split at hlt <;> lia
    ktr_units
    refine ⟨show _ ≤ 1048576 by simp, fun q hq => ?_⟩
    ktr_units
    refine slc_all (set_old ha hq) fun r hr => ?_
    ktr_units
    refine ⟨show _ ≤ 1048576 by simp, fun t' ht' => ?_⟩
    have e1 : Ext H (H.set q (.lst [])) := (Ext.refl H).set hq
    have e2 := e1.set (o := .lst (rw' w x)) (e1.none hr)
    have e3 := e2.set (o := .tup [.ref q, .ref r]) (e2.none ht')
    ktr_units
    refine h q r t' _ e3 (PH.set_same _ _ _) (set_old (set_old ?_ hr) ht') (set_old ?_ ht')
    · rw [PH.set_same, Nat.div_eq_of_lt hxy]; unfold rw'; rw [row_zero]; rfl
    · rw [PH.set_same, Nat.mod_eq_of_lt hxy]
  · have hxy : y ≤ x := by
      unfold cmpN at hge
      by_cases hc : x < y
      · rw [if_pos hc] at hge; exact absurd (by decide) hge
      · lia
    ktr_unf
    ktr_units
    refine len_lst hb ?_
    rw [nv_len]
    ktr_units
    refine t_eq (fun h1 => ?_) fun h1 => ?_
    · ktr_unf
      have hyB : y < 2 ^ w := by
        have := row_lt hw.two y
        rw [h1, Nat.pow_one] at this; exact this
      ktr_units
      exact divrem_small_ok P hw hx hy0 hyB ha hb h
    · ktr_unf
      ktr_units
      refine idx_neg (x := I (t : Int)) hb (by decide) (by rw [nv_len]; lia) ?_ ?_
      · rw [nv_len]
        have : (-((1 : Nat) : Int) + ((row (2 ^ w) y).length : Int)).toNat = (row (2 ^ w) y).length - 1 := by lia
        rw [this]; exact nv_get _ ht
      ktr_units
      refine ⟨show _ ≤ 1048576 by simp, fun t1 ht1 => ?_⟩
      have e1 : Ext H (H.set t1 (.lst [I (t : Int)])) := (Ext.refl H).set ht1
      have hblw : bl t ≤ w := bl_le htB
      have hbl1 := bl_pos ht0
      ktr_units
      refine bits_ok P (x := t) hw (Fit.of (k := w) htB (by unfold fitK; lia)) (by rw [PH.set_same]; unfold rw'; rw [row_one ht0 hBB htB]; rfl) ?_
      ktr_units
      refine n_sub hblw ?_
      generalize hs : w - bl t = s
      have hsw : s < w := by lia
      generalize H.set t1 (.lst [I (t : Int)]) = G at e1 ⊢
      ktr_unf
      ktr_units
      refine shift_left_ok P hw hy (by lia) (e1.e _ _ hb) fun dv H1 hdv => ?_
      ktr_unf
      ktr_units
      refine shift_left_ok P hw hx (by lia) (hdv.ext.e _ _ (e1.e _ _ ha)) fun rs H2 hrs => ?_
      have e2 := (e1.trans hdv.ext).trans hrs.ext
      ktr_unf
      ktr_units
      refine ⟨show _ ≤ 1048576 by simp, fun z hz => ?_⟩
      ktr_units
      refine len_lst (set_old (e2.e _ _ ha) hz) (n_add ?_)
      rw [nv_len]
      ktr_units
      refine len_lst (set_old hrs.at' hz) ?_
      rw [nv_len]
      -- the sizes
      have hs2 : 2 ^ s ≤ 2 ^ w := Nat.pow_le_pow_right (by decide) (by lia)
      have hxl := row_lt hw.two x
      have hxs : x * 2 ^ s < (2 ^ w) ^ ((row (2 ^ w) x).length + 1) := by
        rw [Nat.pow_succ]
        ktr_units
        exact Nat.lt_of_lt_of_le (Nat.mul_lt_mul_of_pos_right hxl (Nat.two_pow_pos s)) (Nat.mul_le_mul_left _ hs2)
      have hrl := row_len_le hw.two hxs
      have hys : y * 2 ^ s < (2 ^ w) ^ (row (2 ^ w) y).length := by
        have h3 : y < (2 ^ w) ^ ((row (2 ^ w) y).length - 1) * (t + 1) := by rw [Nat.mul_add, Nat.mul_one]; lia
        have h4 : (t + 1) ≤ 2 ^ bl t := bl_lt t
        have h5 : y * 2 ^ s < (2 ^ w) ^ ((row (2 ^ w) y).length - 1) * (t + 1) * 2 ^ s := Nat.mul_lt_mul_of_pos_right h3 (Nat.two_pow_pos s)
        have h6 : (2 ^ w) ^ ((row (2 ^ w) y).length - 1) * (t + 1) * 2 ^ s ≤ (2 ^ w) ^ ((row (2 ^ w) y).length - 1) * (2 ^ bl t * 2 ^ s) := by rw [Nat.mul_assoc]; exact Nat.mul_le_mul_left _ (Nat.mul_le_mul_right _ h4)
        rw [← Nat.pow_add, show bl t + s = w by lia, ← Nat.pow_succ, show ((row (2 ^ w) y).length - 1).succ = (row (2 ^ w) y).length by lia] at h6
        lia
      have hdl := row_len_le hw.two hys
      have hyge := row_ge hw.two hy0
      have hvy : y ≤ y * 2 ^ s := Nat.le_mul_of_pos_right _ (Nat.two_pow_pos s)
      have hd2 : (row (2 ^ w) y).length ≤ (row (2 ^ w) (y * 2 ^ s)).length := len_mono hw.two hvy
      have hlxy := len_mono hw.two hxy
      ktr_units
      refine n_sub hrl (zeros (by lia) fun z2 hz2 => ?_)
      ktr_units
      refine bin_cat (set_old (set_old hrs.at' hz) hz2) (PH.set_same _ _ _) (by rw [nv_len, nv_len]; simp; unfold cap; lia) fun rr hrr => ?_
      rw [nv_app]
      have e3 := e2.set (o := .lst [I ((0 : Nat) : Int)]) (e2.none hz)
      have e4 := e3.set (o := .lst (nv (List.replicate ((row (2 ^ w) x).length + 1 - (row (2 ^ w) (x * 2 ^ s)).length) 0))) (e3.none hz2)
      have hdv4 := set_old (o := .lst (nv (List.replicate ((row (2 ^ w) x).length + 1 - (row (2 ^ w) (x * 2 ^ s)).length) 0))) (set_old (o := .lst [I ((0 : Nat) : Int)]) (hrs.ext.e _ _ hdv.at') hz) hz2
      generalize (H2.set z (HO.lst [I ((0 : Nat) : Int)])).set z2 (HO.lst (nv (List.replicate ((row (2 ^ w) x).length + 1 - (row (2 ^ w) (x * 2 ^ s)).length) 0))) = G4 at e4 hrr hdv4 ⊢
      generalize hds : row (2 ^ w) (x * 2 ^ s) ++ List.replicate ((row (2 ^ w) x).length + 1 - (row (2 ^ w) (x * 2 ^ s)).length) 0 = ds
      have hdslen : ds.length = (row (2 ^ w) x).length + 1 := by rw [← hds]; simp; lia
      have hdsd : Dig (2 ^ w) ds := by rw [← hds]; exact (row_dig hw.two _).app (Dig.repl0 hB _)
      have hdsv : val (2 ^ w) ds = x * 2 ^ s := by rw [← hds, val_app, val_repl0, Nat.mul_zero, Nat.add_zero, row_val hw.two]
      ktr_unf
      have hrdv : dv ≠ rr := by rintro rfl; rw [hdv4] at hrr; cases hrr
      ktr_units
      refine divide_rows_ok P (v := y * 2 ^ s) (k := (row (2 ^ w) x).length + 1 - (row (2 ^ w) (y * 2 ^ s)).length) (ds := ds) hw (PH.set_same _ _ _) (set_old hdv4 hrr) hrdv (by lia) (by lia) (by lia) hdsd ?_ fun q qs es H' hX hr' hq' hqd hed hqv hev => ?_
      · rw [hdsv]
        have h7 : x < y * (2 ^ w) ^ ((row (2 ^ w) x).length + 1 - (row (2 ^ w) (y * 2 ^ s)).length) := by
          ktr_units
          refine Nat.lt_of_lt_of_le hxl ?_
          have h8 : (2 ^ w) ^ ((row (2 ^ w) y).length - 1) * (2 ^ w) ^ ((row (2 ^ w) x).length + 1 - (row (2 ^ w) (y * 2 ^ s)).length) ≤ y * (2 ^ w) ^ ((row (2 ^ w) x).length + 1 - (row (2 ^ w) (y * 2 ^ s)).length) := Nat.mul_le_mul_right _ hyge
          rw [← Nat.pow_add] at h8
          ktr_units
          refine Nat.le_trans (Nat.pow_le_pow_right hB ?_) h8
          lia
        have h9 := Nat.mul_lt_mul_of_pos_right h7 (Nat.two_pow_pos s)
        rw [Nat.mul_right_comm] at h9; exact h9
      have eH := ExtB.ext (e4.set (o := .lst (nv ds)) (e4.none hrr)) hX (e4.none hrr)
      ktr_unf
      ktr_units
      refine normal_ok P hq' fun q2 hq2 => ?_
      rw [strip_row hw.two hqd, hqv, hdsv, Nat.mul_div_mul_right _ _ (Nat.two_pow_pos s)]
      ktr_units
      refine normal_ok P (set_old hr' hq2) fun r2 hr2 => ?_
      rw [strip_row hw.two hed, hev, hdsv, Nat.mul_mod_mul_right]
      have hfit : Fit (x % y * 2 ^ s) := by
        ktr_units
        refine Fit.of (k := kx + 16) ?_ (by unfold fitK; lia)
        have h10 : x % y ≤ x := Nat.mod_le _ _
        have h11 : (2 : Nat) ^ s ≤ 2 ^ 16 := Nat.pow_le_pow_right (by decide) (by lia)
        rw [Nat.pow_add]
        ktr_units
        exact Nat.lt_of_le_of_lt (Nat.mul_le_mul_left _ h11) (Nat.mul_lt_mul_of_pos_right (Nat.lt_of_le_of_lt h10 hxf) (by decide))
      have e5 := eH.set (o := .lst (nv (row (2 ^ w) (x / y)))) (eH.none hq2)
      have e6 := e5.set (o := .lst (nv (row (2 ^ w) (x % y * 2 ^ s)))) (e5.none hr2)
      ktr_units
      refine shift_right_ok P hw hfit (by lia) (PH.set_same _ _ _) fun r3 H3 hr3 => ?_
      rw [Nat.mul_div_cancel _ (Nat.two_pow_pos s)] at hr3
      ktr_units
      refine ⟨show _ ≤ 1048576 by simp, fun t' ht' => ?_⟩
      have e7 := e6.trans hr3.ext
      ktr_units
      refine h q2 r3 t' _ (e7.set (e7.none ht')) (PH.set_same _ _ _) (set_old (hr3.ext.e _ _ (set_old (PH.set_same _ _ _) hr2)) ht') (set_old hr3.at' ht')
end
end

section


noncomputable def prod : List Nat → Nat
  | [] => 1
  | c :: cs => c * prod cs
theorem prod_app : ∀ (xs ys : List Nat), prod (xs ++ ys) = prod xs * prod ys
  | [], ys => by simp [prod]
  | x :: xs, ys => by rw [List.cons_append, prod, prod, prod_app xs ys, Nat.mul_assoc]
theorem prod_pos : ∀ {xs : List Nat}, (∀ c ∈ xs, 0 < c) → 0 < prod xs
  | [], _ => Nat.one_pos
  | x :: xs, h => Nat.mul_pos (h x (.head _)) (prod_pos fun c hc => h c (.tail _ hc))

theorem Fit.mul {x y k l : Nat} (hx : x < 2 ^ k) (hy : y < 2 ^ l) (h : k + l ≤ fitK) : Fit (x * y) := Fit.of (k := k + l) (by rw [Nat.pow_add]; exact Nat.mul_lt_mul'' hx hy) h
theorem one_row {w : Nat} (hw : Wd w) : rw' w 1 = [I ((1 : Nat) : Int)] := by
  unfold rw'; rw [row_one (by decide) hw.two (by have := hw.two; lia)]; rfl
theorem nil_row (w : Nat) : rw' w 0 = [] := by unfold rw'; rw [row_zero]; rfl

section
variable {C : WC} {n : Nat} {H : PH} {Q : Value → PH → Prop}

theorem product_of_counts_aux (P : PW C) {w : Nat} (hw : Wd w) : ∀ (m n : Nat) (cs : List Nat) (a : Addr) (H : PH) (Q : Value → PH → Prop), cs.length = m → m ≤ 1000 → (∀ c ∈ cs, 0 < c) → Fit (prod cs) → H a = some (.lst (nv cs)) →
    (∀ r H', Ext H H' → H' r = some (.lst (rw' w (prod cs))) → Q (.ref r) H') → CallOk C (n + m + 4) (.ref a_product_of_counts) [.ref a, I (w : Int), .ref a_mul_school] H Q := by
  ktr_units
  intro m
  induction m using Nat.strongRecOn with
  | ind m ih =>
    ktr_units
    intro n cs a H Q hl hm hpos hf ha h
    ktr_units
    refine fn_ok P.f_product_of_counts P.gl so_product_of_counts is_product_of_counts rfl ?_
    show pSs C (n + m + 3) b_product_of_counts [some (.ref a), some (I (w : Int)), some (.ref a_mul_school), none] H _ Q
    unfold b_product_of_counts
    ktr_unf
    ktr_units
    refine len_lst ha ?_
    rw [nv_len]
    ktr_units
    refine t_eq (fun h0 => ?_) fun h0 => ?_
    · ktr_unf
      ktr_units
      refine ⟨show _ ≤ 1048576 by simp, fun r hr => ?_⟩
      have : cs = [] := List.length_eq_zero_iff.mp h0
      subst this
      ktr_units
      exact h r _ ((Ext.refl H).set hr) (by rw [PH.set_same]; exact congrArg (fun z => some (HO.lst z)) (one_row hw).symm)
    ktr_unf
    ktr_units
    refine len_lst ha ?_
    rw [nv_len]
    ktr_units
    refine t_eq (fun h1 => ?_) fun h1 => ?_
    · ktr_unf
      obtain ⟨c, rfl⟩ : ∃ c, cs = [c] := by
        match cs, h1 with
        | [c], _ => exact ⟨c, rfl⟩
      ktr_units
      refine n_idx ha (nv_get (k := 0) (d := c) _ rfl) ?_
      have e : prod [c] = c := by simp [prod]
      rw [e] at hf h
      ktr_units
      exact nat_of_ok P hw hf fun r hr => h r _ ((Ext.refl H).set hr) (PH.set_same _ _ _)
    · ktr_unf
      ktr_units
      refine len_lst ha ?_
      rw [nv_len]
      ktr_units
      refine n_div (by lia) (Sm.nat (m := 16) (by decide) (by decide)) ?_
      generalize hh : cs.length / 2 = half
      ktr_unf
      have e1 : prod cs = prod (cs.take half) * prod (cs.drop half) := by rw [← prod_app, List.take_append_drop]
      have p1 : 0 < prod (cs.take half) := prod_pos fun c hc => hpos c (List.mem_of_mem_take hc)
      have p2 : 0 < prod (cs.drop half) := prod_pos fun c hc => hpos c (List.mem_of_mem_drop hc)
      have f1 : Fit (prod (cs.take half)) := hf.le (by rw [e1]; exact Nat.le_mul_of_pos_right _ p2)
      have f2 : Fit (prod (cs.drop half)) := hf.le (by rw [e1]; exact Nat.le_mul_of_pos_left _ p1)
      ktr_units
      refine slc_to ha fun r1 hr1 => ?_
      rw [nv, ← List.map_take]
      ktr_units
      refine CallOk.mono (ih half (by lia) n (cs.take half) r1 _ _ (by simp; lia) (by lia) (fun c hc => hpos c (List.mem_of_mem_take hc)) f1 (PH.set_same _ _ _) fun z1 H1 x1 hz1 => ?_) (show n + half + 4 ≤ n + m + 3 by lia) fun _ _ q => q
      have ha1 : H1 a = some (.lst (nv cs)) := x1.e _ _ (set_old ha hr1)
      ktr_units
      refine slc_from ha1 (by rw [nv_len]; lia) fun r2 hr2 => ?_
      rw [nv, ← List.map_drop]
      ktr_units
      refine CallOk.mono (ih (cs.length - half) (by lia) n (cs.drop half) r2 _ _ (by simp) (by lia) (fun c hc => hpos c (List.mem_of_mem_drop hc)) f2 (PH.set_same _ _ _) fun z2 H2 x2 hz2 => ?_) (show n + (cs.length - half) + 4 ≤ n + m + 3 by lia) fun _ _ q => q
      ktr_units
      refine mul_school_ok P hw f1 f2 (x2.e _ _ (set_old hz1 hr2)) hz2 fun r H3 R => ?_
      rw [← e1] at R
      have y1 : Ext H H1 := ((Ext.refl H).set hr1).trans x1
      have y2 : Ext H H2 := (y1.set (y1.none hr2)).trans x2
      ktr_units
      exact h r H3 (y2.trans R.ext) R.at'

theorem product_of_counts_ok (P : PW C) {w : Nat} {cs : List Nat} {a : Addr} (hw : Wd w) (hm : cs.length ≤ 40) (hpos : ∀ c ∈ cs, 0 < c) (hf : Fit (prod cs)) (ha : H a = some (.lst (nv cs)))
    (h : ∀ r H', Ext H H' → H' r = some (.lst (rw' w (prod cs))) → Q (.ref r) H') : CallOk C (n + 44) (.ref a_product_of_counts) [.ref a, I (w : Int), .ref a_mul_school] H Q :=
  CallOk.mono (product_of_counts_aux P hw cs.length n cs a H Q rfl (by lia) hpos hf ha h) (by lia) fun _ _ q => q

/-- a signed number -/
structure SV (w : Nat) (H : PH) (t : Addr) (z : Int) : Prop where
  ex : ∃ r, H t = some (.tup [.bool (decide (z < 0)), .ref r]) ∧ H r = some (.lst (rw' w z.natAbs))
theorem SV.ext {w : Nat} {H H' : PH} {t : Addr} {z : Int} (x : SV w H t z) (e : Ext H H') : SV w H' t z := by
  obtain ⟨r, h1, h2⟩ := x.ex
  ktr_units
  exact ⟨r, e.e _ _ h1, e.e _ _ h2⟩

theorem signed_ok (P : PW C) {w m : Nat} {b : Bool} {r : Addr} (hw : Wd w) (hr : H r = some (.lst (rw' w m))) (h : ∀ t H', Ext H H' → SV w H' t (if b = true then -(m : Int) else m) → Q (.ref t) H') :
    CallOk C (n + 1) (.ref a_signed) [.bool b, .ref r] H Q := by
  ktr_units
  refine fn_ok P.f_signed P.gl so_signed is_signed rfl ?_
  show pSs C n b_signed [some (.bool b), some (.ref r)] H _ Q
  unfold b_signed
  ktr_unf
  ktr_units
  refine tr_bool ?_
  cases b with
  | false =>
    ktr_unf
    ktr_units
    refine ⟨show _ ≤ 1048576 by simp, fun t ht => h t _ ((Ext.refl H).set ht) ⟨r, ?_, ?_⟩⟩
    · rw [PH.set_same, if_neg (by decide)]
      have : decide ((m : Int) < 0) = false := by simp
      rw [this]
    · rw [if_neg (by decide)]; exact set_old hr ht
  | true =>
    ktr_unf
    ktr_units
    refine len_lst hr (cmp_gt ?_)
    rw [nv_len]
    ktr_units
    refine ⟨show _ ≤ 1048576 by simp, fun t ht => h t _ ((Ext.refl H).set ht) ⟨r, ?_, ?_⟩⟩
    · rw [PH.set_same, if_pos rfl]
      have : decide (((0 : Nat) : Int) < ((row (2 ^ w) m).length : Int)) = decide (-(m : Int) < 0) := by
        by_cases hm : m = 0
        · subst hm; rw [row_zero]; rfl
        · have h1 : 0 < (row (2 ^ w) m).length := Nat.pos_of_ne_zero fun q => hm ((row_nil hw.two).mp (List.length_eq_zero_iff.mp q))
          rw [decide_eq_true (by lia), decide_eq_true (by lia)]
      rw [this]
    · rw [if_pos rfl, Int.natAbs_neg]; exact set_old hr ht

theorem s_add_ok (P : PW C) {w : Nat} {x y : Int} {tx ty : Addr} (hw : Wd w) (fx : Fit x.natAbs) (fy : Fit y.natAbs) (hx : SV w H tx x) (hy : SV w H ty y) (h : ∀ t H', Ext H H' → SV w H' t (x + y) → Q (.ref t) H') :
    CallOk C (n + 3) (.ref a_s_add) [.ref tx, .ref ty, I (w : Int)] H Q := by
  ktr_units
  refine fn_ok P.f_s_add P.gl so_s_add is_s_add rfl ?_
  show pSs C (n + 2) b_s_add [some (.ref tx), some (.ref ty), some (I (w : Int))] H _ Q
  unfold b_s_add
  obtain ⟨rx, hx1, hx2⟩ := hx.ex
  obtain ⟨ry, hy1, hy2⟩ := hy.ex
  ktr_unf
  have x0 : ∀ {K : Value → PH → Prop}, K (.bool (decide (x < 0))) H → IdxOk C (.ref tx) (I ((0 : Nat) : Int)) H K := fun k => n_idxt hx1 rfl k
  have x1 : ∀ {K : Value → PH → Prop}, K (.ref rx) H → IdxOk C (.ref tx) (I ((1 : Nat) : Int)) H K := fun k => n_idxt hx1 rfl k
  have y0 : ∀ {K : Value → PH → Prop}, K (.bool (decide (y < 0))) H → IdxOk C (.ref ty) (I ((0 : Nat) : Int)) H K := fun k => n_idxt hy1 rfl k
  have y1 : ∀ {K : Value → PH → Prop}, K (.ref ry) H → IdxOk C (.ref ty) (I ((1 : Nat) : Int)) H K := fun k => n_idxt hy1 rfl k
  ktr_units
  refine x0 (y0 (b_eq (fun he => ?_) fun he => ?_))
  · ktr_unf
    ktr_units
    refine x0 (x1 (y1 (add_ok P hw fx fy hx2 hy2 fun r hr => ?_)))
    ktr_units
    refine signed_ok P hw (PH.set_same _ _ _) fun t H' e s => h t H' (((Ext.refl H).set hr).trans e) ?_
    have : (if decide (x < 0) = true then -((x.natAbs + y.natAbs : Nat) : Int) else ((x.natAbs + y.natAbs : Nat) : Int)) = x + y := by
      by_cases hx0 : x < 0
      · have hy0 : y < 0 := by rw [decide_eq_true hx0] at he; exact of_decide_eq_true he.symm
        rw [if_pos (by simpa using hx0)]; lia
      · have hy0 : ¬ y < 0 := by rw [decide_eq_false hx0] at he; exact of_decide_eq_false he.symm
        rw [if_neg (by simpa using hx0)]; lia
    rw [this] at s; exact s
  · have hne : (x < 0 ∧ ¬ y < 0) ∨ (¬ x < 0 ∧ y < 0) := by
      by_cases hx0 : x < 0 <;> by_cases hy0 : y < 0 <;> simp [hx0, hy0] at he ⊢
    ktr_unf
    ktr_units
    refine x1 (y1 (compare_ok P hw fx fy hx2 hy2 ?_))
    ktr_units
    refine i_lt (fun hlt => ?_) fun hge => ?_
    · have hxy : x.natAbs < y.natAbs := by
        unfold cmpN at hlt
        split at hlt
        · assumption
        · split at hlt <;> lia
      ktr_unf
      ktr_units
      refine y0 (y1 (x1 (sub_ok P hw fy (Nat.le_of_lt hxy) hy2 hx2 fun r H1 R => ?_)))
      ktr_units
      refine signed_ok P hw R.at' fun t H' e s => h t H' (R.ext.trans e) ?_
      have : (if decide (y < 0) = true then -((y.natAbs - x.natAbs : Nat) : Int) else ((y.natAbs - x.natAbs : Nat) : Int)) = x + y := by
        by_cases hy0 : y < 0
        · rw [if_pos (by simpa using hy0)]; lia
        · rw [if_neg (by simpa using hy0)]; lia
      rw [this] at s; exact s
    · have hxy : y.natAbs ≤ x.natAbs := by
        unfold cmpN at hge
        by_cases hc : x.natAbs < y.natAbs
        · rw [if_pos hc] at hge; exact absurd (by decide) hge
        · lia
      ktr_unf
      ktr_units
      refine x0 (x1 (y1 (sub_ok P hw fx hxy hx2 hy2 fun r H1 R => ?_)))
      ktr_units
      refine signed_ok P hw R.at' fun t H' e s => h t H' (R.ext.trans e) ?_
      have : (if decide (x < 0) = true then -((x.natAbs - y.natAbs : Nat) : Int) else ((x.natAbs - y.natAbs : Nat) : Int)) = x + y := by
        by_cases hx0 : x < 0
        · rw [if_pos (by simpa using hx0)]; lia
        · rw [if_neg (by simpa using hx0)]; lia
      rw [this] at s; exact s

theorem s_mul_ok (P : PW C) {w : Nat} {x y : Int} {tx ty : Addr} (hw : Wd w) (fx : Fit x.natAbs) (fy : Fit y.natAbs) (hx : SV w H tx x) (hy : SV w H ty y) (h : ∀ t H', Ext H H' → SV w H' t (x * y) → Q (.ref t) H') :
    CallOk C (n + 3) (.ref a_s_mul) [.ref tx, .ref ty, I (w : Int), .ref a_mul_school] H Q := by
  ktr_units
  refine fn_ok P.f_s_mul P.gl so_s_mul is_s_mul rfl ?_
  show pSs C (n + 2) b_s_mul [some (.ref tx), some (.ref ty), some (I (w : Int)), some (.ref a_mul_school)] H _ Q
  unfold b_s_mul
  obtain ⟨rx, hx1, hx2⟩ := hx.ex
  obtain ⟨ry, hy1, hy2⟩ := hy.ex
  ktr_unf
  ktr_units
  refine n_idxt hx1 (a := 0) rfl (n_idxt hy1 (a := 0) rfl (cmp_neb ?_))
  ktr_units
  refine n_idxt hx1 (a := 1) rfl (n_idxt hy1 (a := 1) rfl (mul_school_ok P hw fx fy hx2 hy2 fun r H1 R => ?_))
  ktr_units
  refine signed_ok P hw R.at' fun t H' e s => h t H' (R.ext.trans e) ?_
  have : (if (decide (x < 0) != decide (y < 0)) = true then -((x.natAbs * y.natAbs : Nat) : Int) else ((x.natAbs * y.natAbs : Nat) : Int)) = x * y := by
    rw [← Int.natAbs_mul]
    by_cases hx0 : x < 0 <;> by_cases hy0 : y < 0
    · have := Int.mul_pos_of_neg_of_neg hx0 hy0
      simp [hx0, hy0]; lia
    · have := Int.mul_nonneg (show 0 ≤ -x by lia) (show 0 ≤ y by lia)
      rw [Int.neg_mul] at this
      simp [hx0, hy0]; lia
    · have := Int.mul_nonneg (show 0 ≤ x by lia) (show 0 ≤ -y by lia)
      rw [Int.mul_neg] at this
      simp [hx0, hy0]; lia
    · have := Int.mul_nonneg (show 0 ≤ x by lia) (show 0 ≤ y by lia)
      simp [hx0, hy0]; lia
  rw [this] at s; exact s

/-- groups of three digits -/
noncomputable def ofg : List Nat → Nat → Nat
  | [], acc => acc
  | g :: gs, acc => ofg gs (acc * 1000 + g)
theorem ofg_take (gs : List Nat) (k g : Nat) (h : gs[k]? = some g) (acc : Nat) : ofg (gs.take (k + 1)) acc = ofg (gs.take k) acc * 1000 + g := by
  induction gs generalizing k acc with
  | nil => simp at h
  | cons x xs ih =>
    cases k with
    | zero => simp at h; subst h; simp [ofg]
    | succ k => simp at h; rw [List.take_succ_cons, List.take_succ_cons, ofg, ofg]; exact ih k h _

theorem of_groups_ok (P : PW C) {w : Nat} {gs : List Nat} {a : Addr} (hw : Wd w) (hl : gs.length ≤ 10) (hg : ∀ g ∈ gs, g < 1000) (ha : H a = some (.tup (nv gs))) (h : ∀ r H', Ext H H' → H' r = some (.lst (rw' w (ofg gs 0))) → Q (.ref r) H') :
    CallOk C (n + 3) (.ref a_of_groups) [.ref a, I (w : Int), .ref a_mul_school] H Q := by
  ktr_units
  refine fn_ok P.f_of_groups P.gl so_of_groups is_of_groups rfl ?_
  show pSs C (n + 2) b_of_groups [some (.ref a), some (I (w : Int)), some (.ref a_mul_school), none, none] H _ Q
  unfold b_of_groups
  ktr_unf
  ktr_units
  refine ⟨show _ ≤ 1048576 by simp, fun r hr => ?_⟩
  ktr_units
  refine ⟨a, _, _, rfl, set_old ha hr, rfl, fun k σ H' => ∃ f v, σ = [some (.ref a), some (I (w : Int)), some (.ref a_mul_school), some (.ref f), v] ∧ Ext H H' ∧ k ≤ gs.length ∧ H' f = some (.lst (rw' w (ofg (gs.take k) 0))) ∧ ofg (gs.take k) 0 < 1000 ^ k * 1000,
    ⟨r, none, rfl, (Ext.refl H).set hr, by lia, by rw [PH.set_same]; exact congrArg (fun z => some (HO.lst z)) (nil_row w).symm, by simp [ofg]⟩, ?_, ?_⟩
  · ktr_units
    rintro k gv σ H' hgv ⟨f, v, rfl, e, hk, hf, hb⟩
    obtain ⟨g, hg1, rfl⟩ := nv_get' _ hgv
    have hk' := (List.getElem?_eq_some_iff.mp hg1).1
    have hg2 := hg g (List.mem_of_getElem? hg1)
    ktr_units
    refine ⟨e.e _ _ ha, ?_⟩
    ktr_unf
    have hp : 1000 ^ k * 1000 ≤ 2 ^ 110 := by
      have h1 : (1000 : Nat) ^ k * 1000 = 1000 ^ (k + 1) := (Nat.pow_succ ..).symm
      rw [h1]
      ktr_units
      exact Nat.le_trans (Nat.pow_le_pow_right (by decide) (show k + 1 ≤ 11 by lia)) (by decide)
    have f1 : ofg (gs.take k) 0 < 2 ^ 110 := by lia
    ktr_units
    refine nat_of_ok P hw (Fit.of (k := 10) (by decide) (by unfold fitK; lia)) fun r1 hr1 => ?_
    ktr_units
    refine mul_school_ok P hw (Fit.of f1 (by unfold fitK; lia)) (Fit.of (k := 10) (by decide) (by unfold fitK; lia)) (set_old hf hr1) (PH.set_same _ _ _) fun r2 H2 R2 => ?_
    ktr_units
    refine nat_of_ok P hw (Fit.of (k := 10) (x := g) (by lia) (by unfold fitK; lia)) fun r3 hr3 => ?_
    ktr_units
    refine add_ok P hw (Fit.mul (l := 10) f1 (by decide) (by unfold fitK; lia)) (Fit.of (k := 10) (x := g) (by lia) (by unfold fitK; lia)) (set_old R2.at' hr3) (PH.set_same _ _ _) fun r4 hr4 => ?_
    rw [← ofg_take gs k g hg1]
    ktr_units
    refine ⟨r4, _, rfl, ?_, hk', PH.set_same _ _ _, ?_⟩
    · have y1 := e.set (o := .lst (rw' w 1000)) (e.none hr1)
      have y2 := y1.trans R2.ext
      have y3 := y2.set (o := .lst (rw' w g)) (y2.none hr3)
      ktr_units
      exact y3.set (y3.none hr4)
    · rw [ofg_take gs k g hg1, Nat.pow_succ]; lia
  · ktr_units
    rintro σ H' ⟨f, v, rfl, e, hk, hf, hb⟩
    ktr_units
    refine ⟨e.e _ _ ha, ?_⟩
    rw [nv_len, List.take_length] at hf
    ktr_unf
    ktr_units
    exact h f H' e hf

theorem repl_nv' (k d : Nat) : (List.replicate k [I ((d : Nat) : Int)]).flatten = nv (List.replicate k d) := by
  induction k with
  | zero => rfl
  | succ k ih => rw [List.replicate_succ, List.flatten_cons, ih, List.replicate_succ]; rfl
theorem prod_repl (k d : Nat) : prod (List.replicate k d) = d ^ k := by
  induction k with
  | zero => rfl
  | succ k ih => rw [List.replicate_succ, prod, ih, Nat.pow_succ, Nat.mul_comm]
theorem ten_lt {k : Nat} (hk : k ≤ 7) : 10 ^ k < 2 ^ 24 := Nat.lt_of_le_of_lt (Nat.pow_le_pow_right (by decide) hk) (by decide)

theorem power_of_ten_ok (P : PW C) {w k : Nat} (hw : Wd w) (hk : k ≤ 7) (h : ∀ r H', Ext H H' → H' r = some (.lst (rw' w (10 ^ k))) → Q (.ref r) H') : CallOk C (n + 45) (.ref a_power_of_ten) [I (k : Int), I (w : Int), .ref a_mul_school] H Q := by
  ktr_units
  refine fn_ok P.f_power_of_ten P.gl so_power_of_ten is_power_of_ten rfl ?_
  show pSs C (n + 44) b_power_of_ten [some (I (k : Int)), some (I (w : Int)), some (.ref a_mul_school)] H _ Q
  unfold b_power_of_ten
  ktr_unf
  ktr_units
  refine ⟨show _ ≤ 1048576 by simp, fun r hr => ?_⟩
  ktr_units
  refine bin_rep (PH.set_same _ _ _) (by simp; unfold cap; lia) (by lia) (by lia) fun r2 hr2 => ?_
  rw [Int.toNat_natCast, repl_nv']
  ktr_units
  refine product_of_counts_ok P hw (by simp; lia) (fun c hc => by rw [List.eq_of_mem_replicate hc]; decide) (by rw [prod_repl]; exact Fit.of (ten_lt hk) (by unfold fitK; lia)) (PH.set_same _ _ _) fun r3 H3 e hr3 => ?_
  rw [prod_repl] at hr3
  have y1 := (Ext.refl H).set (o := .lst [I ((10 : Nat) : Int)]) hr
  ktr_units
  exact h r3 H3 ((y1.set (y1.none hr2)).trans e) hr3
end
end

section

/-- a call of a function of the text, its body told by itself -/
theorem fn_code {C : WC} {n : Nat} {a : Addr} {q : Str} {ps rest : List Str} {body : List Stmt} {sc : Scope} (fa : FnAt C a q ps body sc)
    (hs : ScOk sc (ps ++ rest)) {args : List Value} {H : PH} {Q : Value → PH → Prop} (hl : args.length = ps.length)
    (h : ∀ (env : Env) (A : Around) (s : Shared), EnvOk C env (ps ++ rest) → env.scope = sc → interactive env = false → Bud n A → Inn C env (ps ++ rest) (args.map some ++ List.replicate rest.length none) H s →
      WP C A (execs body env) (PostS C env (ps ++ rest) H s (fun _ H' => Q .none H') Q) s)
    {A : Around} {s : Shared} {args' : List Value} (bd : Bud (n + 1) A) (k : Keep C s.heap) (v : View C H s.heap) (ea : args'.map er = args) :
    codeAny (model C.prog C.w) A (.call (.ref a) ⟨args', []⟩) (fun r s' => match r with | .ok (.ret v) => ∃ H', Frm C NoX H H' s s' ∧ Q (er v) H' | .ok _ => False | .error e => noE e s') s := by
  obtain ⟨o, fd, ho, hd, e1, e2, e3, e4, e5, e6, hcd, hbind⟩ := fa.fn
  have hl' : args'.length = ps.length := by rw [← hl, ← ea]; simp
  refine codeAny_call_function bd.depth0 (k.k _ _ ho) hd (by rw [e3]; exact hs.co) (by rw [e3]; exact hs.gen) e2 (by rw [e1]; exact hcd.keeps k.k) ?_
  rw [hbind _ hl']
  refine wpAny_pure ?_
  have hloc : ∀ x ∈ ps.zip args', sc.names.lookup x.1 = some .local := fun x hx => by
    obtain ⟨i, hi⟩ := List.getElem?_of_mem (List.of_mem_zip hx).1
    exact (hs.loc i x.1 (by rw [List.getElem?_append_left (List.getElem?_eq_some_iff.mp hi).1]; exact hi)).1
  rw [e3]
  refine wpAny_newFunctionEnv hs.cell hloc (fun h₁ hns hsb => ⟨C.lim.keeps k.k |>.fresh _ hsb, ?_⟩) hs.kind
  rw [e4, e5, e6]
  generalize henv : newEnv sc s.heap.objs.size mainGlobals [] _ (some a) fd.code none builtinsNs = env
  have hscope : env.scope = sc := by rw [← henv]; rfl
  have hL : env.locals = s.heap.objs.size := by rw [← henv]; rfl
  have eo : EnvOk C env (ps ++ rest) := ⟨by rw [hscope]; exact hs.kind, by rw [← henv]; rfl, by rw [← henv]; rfl, fun i x hx => by
    refine ⟨?_, (hs.loc i x hx).2⟩
    show env.scope.names.lookup x = _
    rw [hscope]; exact (hs.loc i x hx).1, hs.nd⟩
  have hint : interactive env = false := by unfold interactive; rw [hscope, hs.kind]; rfl
  have hk₁ : ∀ b o, s.heap.get? b = some o → h₁.get? b = some o := fun b o e => hsb.extBut b o (Nat.ne_of_lt (Heap.lt_size e)) (Heap.get?_push_of_some _ e)
  have f₁ : Frm C NoX H H s { s with heap := h₁, toks := s.toks + (ps.zip args').length } := Frm.grow k v hk₁
  have hLn : ∀ o, s.heap.get? env.locals ≠ some o := fun o e => by rw [hL] at e; exact Nat.lt_irrefl _ (Heap.lt_size e)
  have i₁ : Inn C env (ps ++ rest) (args.map some ++ List.replicate rest.length none) H { s with heap := h₁, toks := s.toks + (ps.zip args').length } := by
    refine ⟨f₁.keep, f₁.view, ⟨by simp [hl], _, by rw [hL]; exact hns, fun i x hx => ?_⟩, by rw [hL]; exact v.none_of_size _ (Nat.le_refl _), by rw [hL]; exact k.none_at (Nat.le_refl _)⟩
    have hnd : ((ps.zip args').map (·.1)).Nodup := by
      rw [List.map_fst_zip (by omega)]
      exact (List.nodup_append.mp hs.nd).1
    rw [lookup_rev x _ hnd, lookup_zip ps args' rest hs.nd hl' i x hx, ← ea, List.map_map]
    rfl
  refine codeAny_func ?_
  refine WP.toE (wpAny_mono (h env (A.deeper env) _ eo hscope hint (bd.deeper env) i₁) (fun fl s₂ h₂ => ?_) fun _ _ x => x)
  have close : ∀ {H' : PH}, Frm C (AtX env.locals) H H' { s with heap := h₁, toks := s.toks + (ps.zip args').length } s₂ → Frm C NoX H H' s s₂ := fun f =>
    ⟨f₁.same.trans f.same, fun b o _ e hn => f.old b o (fun q => hLn o (q ▸ e)) (hk₁ b o e) hn, f.keep, f.view⟩
  cases fl with
  | next => obtain ⟨σ', H', f', i', q⟩ := h₂; exact ⟨H', close f', q⟩
  | ret v => obtain ⟨H', f', q⟩ := h₂; exact ⟨H', close f', q⟩
  | brk => exact h₂.elim
  | cont => exact h₂.elim

theorem fn_keep {C : WC} {a : Addr} {q : Str} {ps : List Str} {body : List Stmt} {sc : Scope} (fa : FnAt C a q ps body sc) {A : Around} {s : Shared} (k : Keep C s.heap) (Q' : Keeper → Shared → Prop) (hk : ∀ k, Q' k s) : WP C A (keeperOf (.ref a)) Q' s := by
  obtain ⟨o, fd, ho, hd, -⟩ := fa.fn
  unfold keeperOf
  refine wpAny_bind (wpAny_load (k.k _ _ ho) ?_)
  rw [hd]; exact wpAny_pure (hk _)

/-- the classes, as the top's run left them -/
structure ClsK (K : Frag) (c m : Addr) : Prop where
  make : makesIn K c = true
  keep : keepIn K (.ref c) = true
  get : plainGet K c "at" = true
  at' : findIn K (.ref c) "at" = some (some (.ref m))
  fn : isFn K (.ref m) = true
structure PK (C : WC) where
  K : Frag
  kin : K.In C.hb
  e : ClsK K 172 169
  e0 : findIn K (.ref 172) "__init__" = some (some (.builtin "object.__init__"))
  c : ClsK K 221 218
  c0 : findIn K (.ref 221) "__init__" = some (some (.builtin "object.__init__"))
  a : ClsK K 200 197
  a0 : findIn K (.ref 200) "__init__" = some (some (.ref 190))
  a1 : isFn K (.ref 190) = true
  a2 : findIn K (.ref 200) "__setattr__" = some (some (.builtin "object.__setattr__"))
  a3 : plainOver K 200 = true
  a4 : takerIn K 200 "x" = some none
  a5 : hasDictIn K 200 = true
  a6 : findIn K (.ref 200) "x" = some none
  f_init : FnAt C a_ArctanSeries_init (S "ArctanSeries.__init__") [S "self", S "x"] (fBody (meAt 31 0)) (fSc (meAt 31 0))

theorem PK.at {C : WC} (p : PK C) {h : Heap} (k : Keep C h) : p.K.In h := p.kin.keeps k.k

section
variable {C : WC} {n : Nat} {H : PH} {Q : Value → PH → Prop}

/-- an object without fields of its own -/
structure Inst0 (H : PH) (i c : Addr) : Prop where
  ex : ∃ dx, H i = some (.raw (instObj c dx)) ∧ H dx = some (.raw emptyDict)
theorem Inst0.ext {H H' : PH} {i c : Addr} (x : Inst0 H i c) (e : Ext H H') : Inst0 H' i c := by
  obtain ⟨dx, h1, h2⟩ := x.ex; exact ⟨dx, e.e _ _ h1, e.e _ _ h2⟩

theorem inst_at {h : Heap} {i c dx : Addr} {od : Obj} (v : View C H h) (h1 : H i = some (.raw (instObj c dx))) (h2 : H dx = some (.raw od)) : InstAt h i (instObj c dx) c (some od) := by
  obtain ⟨o1, g1, e1⟩ := v.at' _ _ h1
  obtain ⟨o2, g2, e2⟩ := v.at' _ _ h2
  cases e1; cases e2
  exact ⟨g1, rfl, rfl, g2⟩

theorem alloc2 {s : Shared} {c : Addr} (k : Keep C s.heap) (v : View C H s.heap) :
    Frm C NoX H ((H.set s.heap.objs.size (.raw emptyDict)).set (s.heap.objs.size + 1) (.raw (instObj c s.heap.objs.size))) s { s with heap := (s.heap.push emptyDict).push (instObj c s.heap.objs.size) } := by
  have f1 : Frm C NoX H (H.set s.heap.objs.size (.raw emptyDict)) s { s with heap := s.heap.push emptyDict, toks := s.toks } := Frm.alloc k v rfl rfl
  have f2 := Frm.alloc (s := { s with heap := s.heap.push emptyDict, toks := s.toks }) (H := H.set s.heap.objs.size (.raw emptyDict)) (o := .raw (instObj c s.heap.objs.size)) (ob := instObj c s.heap.objs.size) (tk := s.toks) f1.keep f1.view rfl rfl
  have e : ({ s with heap := s.heap.push emptyDict, toks := s.toks } : Shared).heap.objs.size = s.heap.objs.size + 1 := Heap.size_push _ _
  rw [e] at f2
  exact f1.trans f2

theorem new_plain (p : PK C) {c m : Addr} (hc : ClsK p.K c m) (h0 : findIn p.K (.ref c) "__init__" = some (some (.builtin "object.__init__"))) (h : ∀ i H', Ext H H' → Inst0 H' i c → Q (.ref i) H') : CallOk C n (.ref c) [] H Q :=
  ⟨fun A s f' args' bd kp v ef ea => by
    obtain rfl := er_ref ef
    have ha : args' = [] := by simpa using ea
    subst ha
    have X := p.at kp
    refine ⟨fun Q' hk => ?_, ?_⟩
    · obtain ⟨k, _, L⟩ := looks_keep (M := model C.prog C.w) hc.keep X
      exact L.here (hk k)
    have Y := makes_of (M := model C.prog C.w) X hc.make
    have fr := alloc2 (c := c) kp v
    have hsz : H s.heap.objs.size = none := v.none_of_size _ (Nat.le_refl _)
    have hsz1 : (H.set s.heap.objs.size (.raw emptyDict)) (s.heap.objs.size + 1) = none := by rw [PH.set_ne _ _ (Nat.succ_ne_self _)]; exact v.none_of_size _ (Nat.le_succ _)
    have fin := h (s.heap.objs.size + 1) _ (((Ext.refl H).set hsz).set (((Ext.refl H).set hsz).none hsz1)) ⟨s.heap.objs.size, PH.set_same _ _ _, set_old (PH.set_same _ _ _) hsz1⟩
    obtain ⟨hh, g, d, t, os⟩ := s
    refine wpAny_call (make_core Y (looks_findIn X h0) (fun self => Looks.of_pure (oi_bind self)) (.inr ⟨rfl, rfl⟩) ?_)
    have k2 : ∀ b o, hh.get? b = some o → ((hh.push emptyDict).push (instObj c hh.objs.size)).get? b = some o := fun b o e => Heap.get?_push_of_some _ (Heap.get?_push_of_some _ e)
    have hx : ((hh.push emptyDict).push (instObj c hh.objs.size)).get? (hh.objs.size + 1) = some (instObj c hh.objs.size) := by
      rw [show hh.objs.size + 1 = (hh.push emptyDict).objs.size from (Heap.size_push _ _).symm]; exact Heap.get?_push_size _ rfl
    have t1 : Looks (model C.prog C.w) ((hh.push emptyDict).push (instObj c hh.objs.size)) (typeOf (.ref (hh.objs.size + 1))) (.ref c) := (Looks.ld hx).andThen .now
    have t2 : Looks (model C.prog C.w) ((hh.push emptyDict).push (instObj c hh.objs.size)) (isInstance (.ref (hh.objs.size + 1)) (.type "object")) true := t1.andThen (Y.top.keeps k2)
    refine codeAny_call_builtin oi_plain entry_oi (@check_slot (model C.prog C.w) _ _ _ "object.__init__" "object" "__init__" (.ref (hh.objs.size + 1)) [] [] _ oi_kind oi_split t2 (oi_args (.ref (hh.objs.size + 1))) ?_)
    rw [oi_run]
    exact wpAny_pure (And.intro rfl ⟨_, fr, fin⟩)⟩

/-- an object with the field x -/
structure InstA (H : PH) (i : Addr) (x : Nat) : Prop where
  ex : ∃ dx od v, H i = some (.raw (instObj 200 dx)) ∧ H dx = some (.raw od) ∧ lookIn "x" od = some (some v) ∧ er v = I (x : Int) ∧ lookIn "at" od = some none
theorem InstA.ext {H H' : PH} {i : Addr} {x : Nat} (y : InstA H i x) (e : Ext H H') : InstA H' i x := by
  obtain ⟨dx, od, v, h1, h2, h3⟩ := y.ex; exact ⟨dx, od, v, e.e _ _ h1, e.e _ _ h2, h3⟩

theorem meth_at (p : PK C) {c m i dx : Addr} {od : Obj} (hc : ClsK p.K c m) (h1 : H i = some (.raw (instObj c dx))) (h2 : H dx = some (.raw od)) (h3 : lookIn "at" od = some none) : MethOk C (.ref i) (S "at") (.ref m) H :=
  ⟨rfl, fun A s o' pl Q' k v eo hq => by
    obtain rfl := er_ref eo
    have I := inst_at v h1 h2
    exact method_fn (p.at k) I (plainGet_of hc.get).1 (plainGet_of hc.get).2 hc.at' (beq_iff_eq.mp hc.fn) (by show (lookIn "at" od).map _ = _; rw [h3]; rfl) hq⟩
theorem meth_at0 (p : PK C) {c m i : Addr} (hc : ClsK p.K c m) (h : Inst0 H i c) : MethOk C (.ref i) (S "at") (.ref m) H := by
  obtain ⟨dx, h1, h2⟩ := h.ex; exact meth_at p hc h1 h2 rfl
theorem meth_atA (p : PK C) {i : Addr} {x : Nat} (h : InstA H i x) : MethOk C (.ref i) (S "at") (.ref 197) H := by
  obtain ⟨dx, od, v, h1, h2, h3, h4, h5⟩ := h.ex; exact meth_at p p.a h1 h2 h5
theorem attr_x (p : PK C) {i : Addr} {x : Nat} (h : InstA H i x) (hq : Q (I (x : Int)) H) : AttrOk C (.ref i) (S "x") H Q :=
  ⟨fun A s o' bd k v eo => by
    obtain rfl := er_ref eo
    obtain ⟨dx, od, u, h1, h2, h3, h4, h5⟩ := h.ex
    have Ia := inst_at v h1 h2
    have hu : handedIn u = true := by obtain ⟨t, rfl⟩ := er_int h4; rfl
    refine get_value (p.at k) Ia (plainGet_of p.a.get).1 (findObj_own p.a5 p.a6 rfl h3) hu ?_
    exact fin1 k v (by rw [h4]; exact hq)⟩
end
end

section

section
variable {C : WC} {n : Nat} {H : PH} {Q : Value → PH → Prop}

theorem so_init : ScOk (fSc (meAt 31 0)) ([S "self", S "x"] ++ []) := scOk_ok (by decide +kernel)
theorem body_init : ∃ p1 p2 p3 p4, fBody (meAt 31 0) = [.Assign [.Attribute (.Name (S "self") p1) (S "x") p2] (.Name (S "x") p3) p4] := ⟨_, _, _, _, rfl⟩

/-- the store of a field into an empty dict -/
theorem set_x (p : PK C) {i dx : Addr} {x : Nat} {A : Around} {s : Shared} {v : Value} {Q : Unit → Shared → Prop} (bd : Bud 0 A) (k : Keep C s.heap) (vw : View C H s.heap) (h1 : H i = some (.raw (instObj 200 dx))) (h2 : H dx = some (.raw emptyDict)) (hdx : C.hb.get? dx = none) (hv : er v = I (x : Int))
    (hid : i ≠ dx) (h : ∀ s' H', Frm C NoX H H' s s' → (∀ a o, a ≠ dx → H a = some o → H' a = some o) → InstA H' i x → Q () s') : WP C A (setAttr (.ref i) (S "x") v) Q s := by
  have Ia := inst_at vw h1 h2
  have X := p.at k
  refine set_plain X Ia p.a2 ?_
  obtain ⟨cd, hc, hd'⟩ := any_some p.a5
  refine osa_open (s := { s with toks := s.toks + 1 }) X Ia p.a3 p.a4 fun b => ?_
  obtain ⟨o2, D, e2⟩ := vw.at' _ _ h2
  cases e2
  obtain ⟨o1, hx, e1⟩ := vw.at' _ _ h1
  cases e1
  refine wpAny_bind (wpAny_pure (wpAny_bind (wpAny_bind (wpAny_loadPart hx (wpAny_bind ((looks_clsIn X hc) _ _ _ _ (fun _ _ e => e) ?_))))))
  rw [hd']
  refine wpAny_pure (a := some dx) (wpAny_bind (wpAny_pure (wpAny_bind ?_)))
  unfold nsSet
  refine wpAny_bind (wpAny_bind (wpAny_askSetting (wpAny_pure (wpAny_bind (wpAny_mkText (wpAny_bind (wpAny_loadPart D ?_)))))))
  generalize hod : Obj.putName (S "x") (PyData.keyHash C.w.params (S "x")) (.str (S "x") (s.toks + 1)) v emptyDict = od
  have hod' : od = dictOf [⟨PyData.keyHash C.w.params (S "x"), .str (S "x") (s.toks + 1), v⟩] 1 := by
    rw [← hod]
    exact putName_dict (S "x") (PyData.keyHash C.w.params (S "x")) (.str (S "x") (s.toks + 1)) v [] 0
  have D' : (s.heap.update dx (Obj.putName (S "x") (PyData.keyHash C.w.params (S "x")) (.str (S "x") (s.toks + 1)) v)).get? dx = some od := by
    have := Heap.get?_update_self (Obj.putName (S "x") (PyData.keyHash C.w.params (S "x")) (.str (S "x") (s.toks + 1)) v) D (by rw [hod, hod']; rfl)
    rw [hod] at this; exact this
  show WP C _ _ _ _
  dsimp only
  rw [aRefKeyMayBeTheName_at, if_neg (by simp)]
  refine wpAny_updatePart D ?_
  refine wpAny_bind (wpAny_lookBehind D' (by rw [hod']; exact pastItsLine_dict (by rw [List.size_toArray, sizeLine_eq]; simp)) ?_)
  refine wpAny_pure ?_
  have hsb := Heap.SameBut.update s.heap dx (Obj.putName (S "x") (PyData.keyHash C.w.params (S "x")) (.str (S "x") (s.toks + 1)) v)
  refine h _ (H.set dx (.raw od)) ⟨⟨rfl, rfl, rfl⟩, fun b o _ he hb => ?_, ⟨fun b o he => ?_⟩, ⟨fun b o he => ?_, fun b ys he => ?_⟩⟩ (fun a o ha he => by rw [PH.set_ne _ _ ha]; exact he) ⟨dx, od, v, by rw [PH.set_ne _ _ hid]; exact h1, PH.set_same _ _ _, ?_, hv, ?_⟩
  · have hba : b ≠ dx := fun q => by rw [q, h2] at hb; cases hb
    exact ⟨(hsb.2 b hba).trans he, by rw [PH.set_ne _ _ hba]; exact hb⟩
  · have hba : b ≠ dx := fun q => by rw [q, hdx] at he; cases he
    exact (hsb.2 b hba).trans (k.k b o he)
  · by_cases hba : b = dx
    · subst hba
      rw [PH.set_same] at he; cases he
      exact ⟨_, D', rfl⟩
    · rw [PH.set_ne _ _ hba] at he
      obtain ⟨ob, k1, k2⟩ := vw.at' b o he
      exact ⟨ob, (hsb.2 b hba).trans k1, k2⟩
  · by_cases hba : b = dx
    · subst hba; rw [PH.set_same] at he; cases he
    · rw [PH.set_ne _ _ hba] at he; exact vw.fresh b ys he
  · rw [hod']; rfl
  · rw [hod']; rfl

theorem Bud.under {n : Nat} {A : Around} (x : Bud (n + 1) A) {c : Code} (hw : c.weight ≤ 1) (hu : c.cUnits ≤ 4) : Bud n (A.under c) :=
  ⟨x.hh, by have := x.depth; show A.depth + c.weight + n < 1000; omega, by have := x.units; show A.units + c.cUnits + 4 * n + 70 ≤ 9900; omega⟩

theorem new_arctan (p : PK C) {x : Nat} (h : ∀ i H', Ext H H' → InstA H' i x → Q (.ref i) H') : CallOk C (n + 2) (.ref 200) [I (x : Int)] H Q :=
  ⟨fun A s f' args' bd kp v ef ea => by
    obtain rfl := er_ref ef
    obtain ⟨x', rfl, hx'⟩ := one_arg ea
    have X := p.at kp
    refine ⟨fun Q' hk => ?_, ?_⟩
    · obtain ⟨k, _, L⟩ := looks_keep (M := model C.prog C.w) p.a.keep X
      exact L.here (hk k)
    have Y := makes_of (M := model C.prog C.w) X p.a.make
    have fr := alloc2 (c := 200) kp v
    have hsz : H s.heap.objs.size = none := v.none_of_size _ (Nat.le_refl _)
    have hsz1 : (H.set s.heap.objs.size (.raw emptyDict)) (s.heap.objs.size + 1) = none := by rw [PH.set_ne _ _ (Nat.succ_ne_self _)]; exact v.none_of_size _ (Nat.le_succ _)
    have hex : Ext H ((H.set s.heap.objs.size (.raw emptyDict)).set (s.heap.objs.size + 1) (.raw (instObj 200 s.heap.objs.size))) := ((Ext.refl H).set hsz).set (((Ext.refl H).set hsz).none hsz1)
    have hi : ((H.set s.heap.objs.size (.raw emptyDict)).set (s.heap.objs.size + 1) (.raw (instObj 200 s.heap.objs.size))) (s.heap.objs.size + 1) = some (.raw (instObj 200 s.heap.objs.size)) := PH.set_same _ _ _
    have hdd : ((H.set s.heap.objs.size (.raw emptyDict)).set (s.heap.objs.size + 1) (.raw (instObj 200 s.heap.objs.size))) s.heap.objs.size = some (.raw emptyDict) := set_old (PH.set_same _ _ _) hsz1
    have hnone : C.hb.get? s.heap.objs.size = none := kp.none_at (Nat.le_refl _)
    generalize ((H.set s.heap.objs.size (.raw emptyDict)).set (s.heap.objs.size + 1) (.raw (instObj 200 s.heap.objs.size))) = G at fr hex hi hdd
    obtain ⟨hh, g, d, t, os⟩ := s
    refine wpAny_call (make_core Y (looks_findIn X p.a0) (fun self => bind_fn X self (beq_iff_eq.mp p.a1)) (.inl rfl) ?_)
    refine codeAny_mono (fn_code (n := n) (H := G) (Q := fun v H' => v = .none ∧ Ext H H' ∧ InstA H' (hh.objs.size + 1) x) p.f_init so_init (args := [.ref (hh.objs.size + 1), I (x : Int)]) rfl (fun env A' s' eo hsc hint bd' i0 => ?_) (bd.under ?_ ?_) fr.keep fr.view (by show [er (.ref (hh.objs.size + 1)), er x'] = _; rw [hx']; rfl)) (fun r s' hr => ?_)
    · obtain ⟨p1, p2, p3, p4, hb⟩ := body_init
      rw [hb]
      refine wpAny_execs_cons (plainObj_wpAny_Assign_Attribute ?_)
      obtain ⟨u, hu, hl⟩ := loadLocal (A := A') (i := 1) eo i0 rfl rfl
      refine wpAny_Name (hl ?_) (eo.loc 1 _ rfl).2
      obtain ⟨u0, hu0, hl0⟩ := loadLocal (A := A') (i := 0) eo i0 rfl rfl
      refine wpAny_Name (hl0 ?_) (eo.loc 0 _ rfl).2
      obtain rfl := er_ref hu0
      refine set_x p (x := x) (bd'.mono (Nat.zero_le _)) i0.keep i0.view hi hdd hnone hu (Nat.succ_ne_self _) fun s2 H2 f2 hkeep hI => ?_
      refine wpAny_execs_nil ?_
      refine ⟨_, H2, f2.weak, i0.frm f2, rfl, ⟨fun a o e => hkeep a o ?_ (hex.e a o e)⟩, hI⟩
      rintro rfl
      have hsz : H hh.objs.size = none := v.none_of_size _ (Nat.le_refl _)
      rw [hsz] at e; cases e
    · have e : (Code.builtin "type.__call__" ⟨[.ref 200, x'], []⟩).weight = 1 := by kernel_rfl
      exact Nat.le_of_eq e
    · have e : (Code.builtin "type.__call__" ⟨[.ref 200, x'], []⟩).cUnits ≤ 4 := by
        have e : (Code.builtin "type.__call__" ⟨[.ref 200, x'], []⟩).cUnits = 1 := by kernel_rfl
        omega
      exact e
    · cases r with
      | error e => exact hr.elim
      | ok fl =>
        cases fl with
        | ret v' =>
          obtain ⟨H2, f2, q1, q2, q3⟩ := hr
          exact ⟨er_none q1, H2, fr.trans f2, h _ _ q2 q3⟩
        | next => exact hr
        | brk => exact hr
        | cont => exact hr⟩
end
end

section


/-! the sums, by plain numbers -/
noncomputable def PB (P : Nat → Int) (b : Nat) : Nat → Int
  | 0 => 1
  | m + 1 => PB P b m * P (b + m)
noncomputable def TB (P Q A : Nat → Int) (b : Nat) : Nat → Int
  | 0 => 0
  | m + 1 => TB P Q A b m * Q (b + m) + A (b + m) * PB P b (m + 1)
theorem PB_add (P : Nat → Int) (b m : Nat) : ∀ l, PB P b (m + l) = PB P b m * PB P (b + m) l
  | 0 => by simp [PB]
  | l + 1 => by rw [← Nat.add_assoc, PB, PB, PB_add P b m l, Int.mul_assoc, Nat.add_assoc]
theorem TB_add (P Q A : Nat → Int) (b m : Nat) : ∀ l, TB P Q A b (m + l) = TB P Q A b m * PB Q (b + m) l + PB P b m * TB P Q A (b + m) l
  | 0 => by simp [TB, PB]
  | l + 1 => by
    have e : PB P b (m + l + 1) = PB P b m * PB P (b + m) (l + 1) := PB_add P b m (l + 1)
    show TB P Q A b (m + l) * Q (b + (m + l)) + A (b + (m + l)) * PB P b (m + l + 1) = TB P Q A b m * (PB Q (b + m) l * Q (b + m + l)) + PB P b m * (TB P Q A (b + m) l * Q (b + m + l) + A (b + m + l) * PB P (b + m) (l + 1))
    rw [TB_add P Q A b m l, e, Nat.add_assoc b m l]
    generalize TB P Q A b m = t
    generalize TB P Q A (b + m) l = t'
    generalize PB P b m = p
    generalize PB P (b + m) (l + 1) = p'
    generalize PB Q (b + m) l = q
    generalize Q (b + (m + l)) = q'
    generalize A (b + (m + l)) = a
    grind
theorem PB_nonneg {Q : Nat → Int} {b : Nat} : ∀ {m : Nat}, (∀ k, b ≤ k → k < b + m → 0 ≤ Q k) → 0 ≤ PB Q b m
  | 0, _ => by simp [PB]
  | m + 1, h => by rw [PB]; exact Int.mul_nonneg (PB_nonneg fun k h1 h2 => h k h1 (by lia)) (h _ (by lia) (by lia))
theorem PB_le {P : Nat → Int} {b : Nat} : ∀ {m : Nat}, (∀ k, b ≤ k → k < b + m → (P k).natAbs ≤ 2 ^ 64) → (PB P b m).natAbs ≤ 2 ^ (64 * m)
  | 0, _ => by simp [PB]
  | m + 1, h => by
    rw [PB, Int.natAbs_mul, Nat.mul_add, Nat.pow_add]
    ktr_units
    exact Nat.mul_le_mul (PB_le fun k h1 h2 => h k h1 (by lia)) (h _ (by lia) (by lia))
theorem TB_le {P Q A : Nat → Int} {b : Nat} : ∀ {m : Nat}, (∀ k, b ≤ k → k < b + m → (P k).natAbs ≤ 2 ^ 64 ∧ (Q k).natAbs ≤ 2 ^ 64 ∧ (A k).natAbs ≤ 2 ^ 64) → (TB P Q A b m).natAbs ≤ m * 2 ^ (64 * (m + 1))
  | 0, _ => by simp [TB]
  | m + 1, h => by
    have h1 := TB_le (m := m) (P := P) (Q := Q) (A := A) fun k h1 h2 => h k h1 (by lia)
    have h2 := PB_le (m := m + 1) (P := P) fun k h1 h2 => (h k h1 (by lia)).1
    have h3 := h (b + m) (by lia) (by lia)
    rw [TB]
    ktr_units
    refine Nat.le_trans (Int.natAbs_add_le _ _) ?_
    rw [Int.natAbs_mul, Int.natAbs_mul]
    have h4 := Nat.mul_le_mul h1 h3.2.1
    have h5 := Nat.mul_le_mul h3.2.2 h2
    rw [Nat.mul_assoc, ← Nat.pow_add] at h4
    rw [← Nat.pow_add] at h5
    have e1 : 64 * (m + 1) + 64 = 64 * (m + 1 + 1) := by lia
    have e2 : 64 + 64 * (m + 1) = 64 * (m + 1 + 1) := by lia
    rw [e1] at h4
    rw [e2] at h5
    rw [Nat.add_mul m 1, Nat.one_mul]
    lia

noncomputable def kT : Nat := 6500
theorem fit_PB {P : Nat → Int} {b m : Nat} (hm : m ≤ 100) (h : ∀ k, b ≤ k → k < b + m → (P k).natAbs ≤ 2 ^ 64) : (PB P b m).natAbs < 2 ^ kT :=
  Nat.lt_of_le_of_lt (PB_le h) (Nat.pow_lt_pow_right (by decide) (by unfold kT; lia))
theorem fit_TB {P Q A : Nat → Int} {b m : Nat} (hm : m ≤ 100) (h : ∀ k, b ≤ k → k < b + m → (P k).natAbs ≤ 2 ^ 64 ∧ (Q k).natAbs ≤ 2 ^ 64 ∧ (A k).natAbs ≤ 2 ^ 64) : (TB P Q A b m).natAbs < 2 ^ kT := by
  ktr_units
  refine Nat.lt_of_le_of_lt (TB_le h) ?_
  have h1 : m < 2 ^ 7 := by lia
  have h2 : m * 2 ^ (64 * (m + 1)) < 2 ^ 7 * 2 ^ (64 * (m + 1)) := Nat.mul_lt_mul_of_pos_right h1 (Nat.two_pow_pos _)
  rw [← Nat.pow_add] at h2
  ktr_units
  exact Nat.lt_of_lt_of_le h2 (Nat.pow_le_pow_right (by decide) (by unfold kT; lia))

section
variable {C : WC} {n : Nat} {H : PH} {Q : Value → PH → Prop}

/-- what a series hands back -/
structure SerOk (C : WC) (w : Nat) (ser : Addr) (HP : PH → Prop) (neg : Bool) (p q a : Nat → Nat) (lo hi : Nat) : Prop where
  mono : ∀ H H', Ext H H' → HP H → HP H'
  pos : neg = true → ∀ k, lo ≤ k → k < hi → p k ≠ 0 ∧ a k ≠ 0
  bnd : ∀ k, lo ≤ k → k < hi → p k ≤ 2 ^ 64 ∧ q k ≤ 2 ^ 64 ∧ a k ≤ 2 ^ 64
  ok : ∀ H, HP H → ∃ f, MethOk C (.ref ser) (S "at") f H ∧ ∀ (k n : Nat) (Q : Value → PH → Prop), lo ≤ k → k < hi →
    (∀ t ra rb rf H', Ext H H' → H' t = some (.tup [.bool neg, .ref ra, .ref rb, .ref rf]) → H' ra = some (.lst (rw' w (p k))) → H' rb = some (.lst (rw' w (q k))) → H' rf = some (.lst (rw' w (a k))) → Q (.ref t) H') →
    CallOk C (n + 60) f [.ref ser, I (k : Int), I (w : Int), .ref a_mul_school] H Q

noncomputable def sg (neg : Bool) (x : Nat) : Int := if neg = true then -(x : Int) else x
theorem sg_abs (neg : Bool) (x : Nat) : (sg neg x).natAbs = x := by unfold sg; split <;> lia
theorem sg_neg {neg : Bool} {x : Nat} (h : neg = true → x ≠ 0) : decide (sg neg x < 0) = neg := by
  unfold sg
  cases neg with
  | true => have := h rfl; simp; lia
  | false => simp

theorem SV.of {w : Nat} {t r : Addr} {z : Int} {b : Bool} {m : Nat} (h1 : H t = some (.tup [.bool b, .ref r])) (h2 : H r = some (.lst (rw' w m))) (hb : decide (z < 0) = b) (hm : z.natAbs = m) : SV w H t z := ⟨r, by rw [hb]; exact h1, by rw [hm]; exact h2⟩

theorem split_sum_ok (P : PW C) {w : Nat} {ser : Addr} {HP : PH → Prop} {neg : Bool} {p q a : Nat → Nat} {lo hi : Nat} (hw : Wd w) (so : SerOk C w ser HP neg p q a lo hi) :
    ∀ (L n b : Nat) (H : PH) (Q : Value → PH → Prop), HP H → 1 ≤ L → L ≤ 100 → lo ≤ b → b + L ≤ hi → b + L ≤ 1000 →
    (∀ t tp rb tt H', Ext H H' → H' t = some (.tup [.ref tp, .ref rb, .ref tt]) → SV w H' tp (PB (fun k => sg neg (p k)) b L) → H' rb = some (.lst (rw' w (PB (fun k => (q k : Int)) b L).natAbs)) →
      SV w H' tt (TB (fun k => sg neg (p k)) (fun k => (q k : Int)) (fun k => (a k : Int)) b L) → Q (.ref t) H') →
    CallOk C (n + L + 70) (.ref a_split_sum) [.ref ser, I (b : Int), I ((b + L : Nat) : Int), I (w : Int), .ref a_mul_school] H Q := by
  ktr_units
  intro L
  induction L using Nat.strongRecOn with
  | ind L ih =>
    ktr_units
    intro n b H Q hH hL hL2 hb hhi hb1 h
    ktr_units
    refine fn_ok P.f_split_sum P.gl so_split_sum is_split_sum rfl ?_
    show pSs C (n + L + 69) b_split_sum [some (.ref ser), some (I (b : Int)), some (I ((b + L : Nat) : Int)), some (I (w : Int)), some (.ref a_mul_school), none, none, none, none, none, none, none, none] H _ Q
    have bnd : ∀ b' m, b ≤ b' → b' + m ≤ b + L → ∀ k, b' ≤ k → k < b' + m → (sg neg (p k)).natAbs ≤ 2 ^ 64 ∧ ((q k : Nat) : Int).natAbs ≤ 2 ^ 64 ∧ ((a k : Nat) : Int).natAbs ≤ 2 ^ 64 := by
      ktr_units
      intro b' m h1 h2 k h3 h4
      have := so.bnd k (by lia) (by lia)
      rw [sg_abs]; exact ⟨this.1, by simpa using this.2.1, by simpa using this.2.2⟩
    unfold b_split_sum
    ktr_unf
    ktr_units
    refine n_sub (by lia) ?_
    ktr_units
    refine t_eq (fun h1 => ?_) fun h1 => ?_
    · have hL1 : L = 1 := by lia
      subst hL1
      ktr_unf
      obtain ⟨f, hm, hc⟩ := so.ok H hH
      ktr_units
      refine ⟨f, hm, ?_⟩
      ktr_units
      refine CallOk.mono (hc b n _ hb (by lia) fun t ra rb rf H1 x1 ht hra hrb hrf => ?_) (show n + 60 ≤ n + 1 + 69 by lia) fun _ _ q => q
      ktr_units
      refine ⟨t, _, rfl, ht, rfl, ?_⟩
      ktr_unf
      have hbb := so.bnd b hb (by lia)
      have fp : Fit (p b) := Fit.of (k := 65) (Nat.lt_of_le_of_lt hbb.1 (by decide)) (by unfold fitK; lia)
      have fa : Fit (a b) := Fit.of (k := 65) (Nat.lt_of_le_of_lt hbb.2.2 (by decide)) (by unfold fitK; lia)
      ktr_units
      refine ⟨show _ ≤ 1048576 by simp, fun t1 ht1 => ?_⟩
      ktr_units
      refine mul_school_ok P hw fa fp (set_old hrf ht1) (set_old hra ht1) fun r2 H2 R2 => ?_
      ktr_units
      refine ⟨show _ ≤ 1048576 by simp, fun t3 ht3 => ⟨show _ ≤ 1048576 by simp, fun t4 ht4 => ?_⟩⟩
      have y1 := x1.set (o := .tup [.bool neg, .ref ra]) (x1.none ht1)
      have y2 := y1.trans R2.ext
      have y3 := y2.set (o := .tup [.bool neg, .ref r2]) (y2.none ht3)
      have z1 := ((Ext.refl H2).set (o := .tup [.bool neg, .ref r2]) ht3)
      have z2 := z1.set (o := .tup [.ref t1, .ref rb, .ref t3]) (z1.none ht4)
      have hsp : neg = true → p b ≠ 0 := fun hn => (so.pos hn b hb (by lia)).1
      have e1 : PB (fun k => sg neg (p k)) b 1 = sg neg (p b) := by simp [PB]
      have e2 : PB (fun k => (q k : Int)) b 1 = (q b : Int) := by simp [PB]
      have e3 : TB (fun k => sg neg (p k)) (fun k => (q k : Int)) (fun k => (a k : Int)) b 1 = a b * sg neg (p b) := by simp [TB, PB]
      rw [e1, e2, e3] at h
      ktr_units
      refine h t4 t1 rb t3 _ (y3.set (y3.none ht4)) (PH.set_same _ _ _) ?_ ?_ ?_
      · ktr_units
        exact SV.of (z2.e _ _ (R2.ext.e _ _ (PH.set_same _ _ _))) (z2.e _ _ (R2.ext.e _ _ (set_old hra ht1))) (sg_neg hsp) (sg_abs _ _)
      · ktr_units
        exact z2.e _ _ (R2.ext.e _ _ (set_old hrb ht1))
      · ktr_units
        refine SV.of (m := a b * p b) (set_old (PH.set_same _ _ _) ht4) (z2.e _ _ R2.at') ?_ (by rw [Int.natAbs_mul, sg_abs]; simp)
        unfold sg
        cases neg with
        | true =>
          have h1 := so.pos rfl b hb (by lia)
          have : 0 < (a b : Int) * (p b : Int) := Int.mul_pos (by lia) (by lia)
          rw [if_pos rfl, Int.mul_neg]; exact decide_eq_true (by lia)
        | false =>
          have : 0 ≤ (a b : Int) * (p b : Int) := Int.mul_nonneg (by lia) (by lia)
          rw [if_neg (by decide)]; exact decide_eq_false (by lia)
    · ktr_unf
      ktr_units
      refine n_add (n_div (by decide) (Sm.nat (m := 16) (by decide) (by decide)) ?_)
      have ehalf : (b + (b + L)) / 2 = b + L / 2 := by lia
      rw [ehalf]
      ktr_unf
      have eend : b + L = (b + L / 2) + (L - L / 2) := by lia
      ktr_units
      refine CallOk.mono (ih (L / 2) (by lia) n b H _ hH (by lia) (by lia) hb (by lia) (by lia) fun t1 tp1 rb1 tt1 H1 x1 ht1 hp1 hb1' hs1 => ?_) (show n + L / 2 + 70 ≤ n + L + 69 by lia) fun _ _ q => q
      rw [eend]
      ktr_units
      refine CallOk.mono (ih (L - L / 2) (by lia) n (b + L / 2) H1 _ (so.mono _ _ x1 hH) (by lia) (by lia) (by lia) (by lia) (by lia) fun t2 tp2 rb2 tt2 H2 x2 ht2 hp2 hb2' hs2 => ?_) (show n + (L - L / 2) + 70 ≤ n + L + 69 by lia) fun _ _ q => q
      ktr_unf
      -- the sizes
      have kF : kT + kT ≤ fitK := by decide
      have kF1 : kT ≤ fitK := by decide
      have bp1 := fit_PB (P := fun k => sg neg (p k)) (b := b) (m := L / 2) (by lia) fun k h1 h2 => (bnd b (L / 2) (by lia) (by lia) k h1 h2).1
      have bp2 := fit_PB (P := fun k => sg neg (p k)) (b := b + L / 2) (m := L - L / 2) (by lia) fun k h1 h2 => (bnd (b + L / 2) (L - L / 2) (by lia) (by lia) k h1 h2).1
      have bq1 := fit_PB (P := fun k => (q k : Int)) (b := b) (m := L / 2) (by lia) fun k h1 h2 => (bnd b (L / 2) (by lia) (by lia) k h1 h2).2.1
      have bq2 := fit_PB (P := fun k => (q k : Int)) (b := b + L / 2) (m := L - L / 2) (by lia) fun k h1 h2 => (bnd (b + L / 2) (L - L / 2) (by lia) (by lia) k h1 h2).2.1
      have bt1 := fit_TB (b := b) (m := L / 2) (by lia) (bnd b (L / 2) (by lia) (by lia))
      have bt2 := fit_TB (b := b + L / 2) (m := L - L / 2) (by lia) (bnd (b + L / 2) (L - L / 2) (by lia) (by lia))
      have eP := PB_add (fun k => sg neg (p k)) b (L / 2) (L - L / 2)
      have eQ := PB_add (fun k => (q k : Int)) b (L / 2) (L - L / 2)
      have eT := TB_add (fun k => sg neg (p k)) (fun k => (q k : Int)) (fun k => (a k : Int)) b (L / 2) (L - L / 2)
      have eL : L / 2 + (L - L / 2) = L := by lia
      rw [eL] at eP eQ eT
      have nq2 : 0 ≤ PB (fun k => (q k : Int)) (b + L / 2) (L - L / 2) := PB_nonneg fun k _ _ => Int.natCast_nonneg _
      rw [eP, eQ, eT] at h
      clear eP eQ eT
      generalize PB (fun k => sg neg (p k)) b (L / 2) = P1 at *
      generalize PB (fun k => sg neg (p k)) (b + L / 2) (L - L / 2) = P2 at *
      generalize PB (fun k => (q k : Int)) b (L / 2) = Q1 at *
      generalize PB (fun k => (q k : Int)) (b + L / 2) (L - L / 2) = Q2 at *
      generalize TB (fun k => sg neg (p k)) (fun k => (q k : Int)) (fun k => (a k : Int)) b (L / 2) = T1 at *
      generalize TB (fun k => sg neg (p k)) (fun k => (q k : Int)) (fun k => (a k : Int)) (b + L / 2) (L - L / 2) = T2 at *
      have ff : ∀ {z : Int}, z.natAbs < 2 ^ kT → Fit z.natAbs := fun hz => Fit.of hz kF1
      have ff2 : ∀ {y z : Int}, y.natAbs < 2 ^ kT → z.natAbs < 2 ^ kT → Fit (y * z).natAbs := fun hy hz => by rw [Int.natAbs_mul]; exact Fit.mul hy hz kF
      ktr_units
      refine n_idxt (x2.e _ _ ht1) (a := 2) rfl ?_
      ktr_units
      refine n_idxt ht2 (a := 1) rfl ?_
      ktr_units
      refine ⟨show _ ≤ 1048576 by simp, fun t3 ht3 => ?_⟩
      have y3 : Ext H2 (H2.set t3 (.tup [.bool false, .ref rb2])) := (Ext.refl H2).set ht3
      ktr_units
      refine s_mul_ok P hw (ff bt1) (ff bq2) ((hs1.ext x2).ext y3) (SV.of (PH.set_same _ _ _) (y3.e _ _ hb2') (decide_eq_false (by lia)) rfl) fun m1 H3 x3 s3 => ?_
      have z3 := y3.trans x3
      ktr_units
      refine n_idxt (z3.e _ _ (x2.e _ _ ht1)) (a := 0) rfl (n_idxt (z3.e _ _ ht2) (a := 2) rfl ?_)
      ktr_units
      refine s_mul_ok P hw (ff bp1) (ff bt2) ((hp1.ext x2).ext z3) (hs2.ext z3) fun m2 H4 x4 s4 => ?_
      ktr_units
      refine s_add_ok P hw (ff2 bt1 bq2) (ff2 bp1 bt2) (s3.ext x4) s4 fun m3 H5 x5 s5 => ?_
      ktr_unf
      have z5 := (z3.trans x4).trans x5
      ktr_units
      refine n_idxt (z5.e _ _ (x2.e _ _ ht1)) (a := 0) rfl (n_idxt (z5.e _ _ ht2) (a := 0) rfl ?_)
      ktr_units
      refine s_mul_ok P hw (ff bp1) (ff bp2) ((hp1.ext x2).ext z5) (hp2.ext z5) fun m4 H6 x6 s6 => ?_
      have z6 := z5.trans x6
      ktr_units
      refine n_idxt (z6.e _ _ (x2.e _ _ ht1)) (a := 1) rfl (n_idxt (z6.e _ _ ht2) (a := 1) rfl ?_)
      ktr_units
      refine mul_school_ok P hw (ff bq1) (ff bq2) (z6.e _ _ (x2.e _ _ hb1')) (z6.e _ _ hb2') fun r7 H7 R7 => ?_
      ktr_units
      refine ⟨show _ ≤ 1048576 by simp, fun t8 ht8 => ?_⟩
      have y8 : Ext H7 (H7.set t8 (.tup [.ref m4, .ref r7, .ref m3])) := (Ext.refl H7).set ht8
      ktr_units
      refine h t8 m4 r7 m3 _ ((((x1.trans x2).trans z6).trans R7.ext).trans y8) (PH.set_same _ _ _) ((s6.ext R7.ext).ext y8) (y8.e _ _ ?_) (((s5.ext x6).ext R7.ext).ext y8)
      rw [Int.natAbs_mul]; exact R7.at'
end
end

section


/-- the tables at the top -/
noncomputable def cubes : List Nat := [32, 32, 32, 9, 125, 23, 23, 23, 29, 29, 29]
structure Base (H : PH) : Prop where
  machin : H 143 = some (.tup (nv [5, 239]))
  first : H 144 = some (.tup (nv [13, 591, 409]))
  step : H 145 = some (.tup (nv [545, 140, 134]))
  cube : H 146 = some (.tup (nv cubes))
  root : H 147 = some (.tup (nv [10, 5]))
  front : H 148 = some (.tup (nv [426, 880]))
theorem Base.ext {H H' : PH} (x : Base H) (e : Ext H H') : Base H' := ⟨e.e _ _ x.1, e.e _ _ x.2, e.e _ _ x.3, e.e _ _ x.4, e.e _ _ x.5, e.e _ _ x.6⟩

section
variable {C : WC} {n : Nat} {H : PH} {Q : Value → PH → Prop}

theorem lit_one {w : Nat} (hw : Wd w) : some (HO.lst [I ((1 : Nat) : Int)]) = some (HO.lst (rw' w 1)) := congrArg (fun z => some (HO.lst z)) (one_row hw).symm

theorem euler_ser (P : PW C) (p : PK C) {w ser : Nat} (hw : Wd w) : SerOk C w ser (fun H => Inst0 H ser 172) false (fun _ => 1) (fun k => k) (fun _ => 1) 1 1000 where
  mono := fun H H' e h => h.ext e
  pos := fun h => by cases h
  bnd := fun k h1 h2 => ⟨by decide, Nat.le_trans (Nat.le_of_lt h2) (by decide), by decide⟩
  ok := fun H hH => ⟨_, meth_at0 p p.e hH, fun k n Q h1 h2 h => by
    ktr_units
    refine fn_ok P.f_EulerSeries_at P.gl so_EulerSeries_at is_EulerSeries_at rfl ?_
    show pSs C (n + 59) b_EulerSeries_at [some (.ref ser), some (I (k : Int)), some (I (w : Int)), some (.ref a_mul_school)] H _ Q
    unfold b_EulerSeries_at
    ktr_unf
    ktr_units
    refine ⟨show _ ≤ 1048576 by simp, fun r1 hr1 => ?_⟩
    ktr_units
    refine nat_of_ok P hw (Fit.of (k := 10) (x := k) (by lia) (by unfold fitK; lia)) fun r2 hr2 => ?_
    ktr_units
    refine ⟨show _ ≤ 1048576 by simp, fun r3 hr3 => ⟨show _ ≤ 1048576 by simp, fun t ht => ?_⟩⟩
    have y1 : Ext H (H.set r1 (.lst [I ((1 : Nat) : Int)])) := (Ext.refl H).set hr1
    have y2 := y1.set (o := .lst (rw' w k)) (y1.none hr2)
    have y3 := y2.set (o := .lst [I ((1 : Nat) : Int)]) (y2.none hr3)
    ktr_units
    refine h t r1 r2 r3 _ (y3.set (y3.none ht)) (PH.set_same _ _ _) ?_ ?_ ?_
    · rw [← lit_one hw]; exact set_old (set_old (set_old (PH.set_same _ _ _) hr2) hr3) ht
    · ktr_units
      exact set_old (set_old (PH.set_same _ _ _) hr3) ht
    · rw [← lit_one hw]; exact set_old (PH.set_same _ _ _) ht⟩

theorem arctan_ser (P : PW C) (p : PK C) {w ser x : Nat} (hw : Wd w) (hx0 : 0 < x) (hx : x < 1000) : SerOk C w ser (fun H => InstA H ser x) true (fun k => 2 * k - 1) (fun k => (2 * k + 1) * x * x) (fun _ => 1) 1 1000 where
  mono := fun H H' e h => h.ext e
  pos := fun _ k h1 h2 => ⟨by lia, by decide⟩
  bnd := fun k h1 h2 => ⟨Nat.le_trans (show 2 * k - 1 ≤ 2000 by lia) (by decide), by
    have a1 : (2 * k + 1) * x ≤ 2001 * 1000 := Nat.mul_le_mul (by lia) (by lia)
    ktr_units
    exact Nat.le_trans (Nat.mul_le_mul a1 (Nat.le_of_lt hx)) (by decide), by decide⟩
  ok := fun H hH => ⟨_, meth_atA p hH, fun k n Q h1 h2 h => by
    ktr_units
    refine fn_ok P.f_ArctanSeries_at P.gl so_ArctanSeries_at is_ArctanSeries_at rfl ?_
    show pSs C (n + 59) b_ArctanSeries_at [some (.ref ser), some (I (k : Int)), some (I (w : Int)), some (.ref a_mul_school)] H _ Q
    unfold b_ArctanSeries_at
    have smk : Sm (k : Int) := Sm.nat (m := 16) (by lia) (by decide)
    have sm2 : Sm ((2 : Nat) : Int) := Sm.nat (m := 16) (by decide) (by decide)
    have a1 : (2 * k + 1) * x ≤ 2001 * 1000 := Nat.mul_le_mul (by lia) (by lia)
    have a2 : (2 * k + 1) * x * x < 2 ^ 40 := Nat.lt_of_le_of_lt (Nat.mul_le_mul a1 (Nat.le_of_lt hx)) (by decide)
    ktr_unf
    ktr_units
    refine n_mul sm2 smk (n_sub (by lia) ?_)
    ktr_units
    refine nat_of_ok P hw (Fit.of (k := 11) (x := 2 * k - 1) (by lia) (by unfold fitK; lia)) fun r1 hr1 => ?_
    have y1 : Ext H (H.set r1 (.lst (rw' w (2 * k - 1)))) := (Ext.refl H).set hr1
    ktr_units
    refine n_mul sm2 smk (n_add ?_)
    ktr_units
    refine attr_x p (hH.ext y1) (attr_x p (hH.ext y1) ?_)
    ktr_units
    refine ⟨show _ ≤ 1048576 by simp, fun r2 hr2 => ?_⟩
    have eprod : prod [2 * k + 1, x, x] = (2 * k + 1) * x * x := by simp [prod, Nat.mul_assoc]
    ktr_units
    refine CallOk.mono (product_of_counts_ok P (n := n) (cs := [2 * k + 1, x, x]) hw (by simp) (by simp; lia) (by rw [eprod]; exact Fit.of a2 (by unfold fitK; lia)) (PH.set_same _ _ _) fun r3 H3 x3 hr3 => ?_) (by lia) fun _ _ q => q
    rw [eprod] at hr3
    ktr_units
    refine ⟨show _ ≤ 1048576 by simp, fun r4 hr4 => ⟨show _ ≤ 1048576 by simp, fun t ht => ?_⟩⟩
    have y2 := (y1.set (o := .lst (nv [2 * k + 1, x, x])) (y1.none hr2)).trans x3
    have y3 := y2.set (o := .lst [I ((1 : Nat) : Int)]) (y2.none hr4)
    ktr_units
    refine h t r1 r3 r4 _ (y3.set (y3.none ht)) (PH.set_same _ _ _) ?_ ?_ ?_
    · ktr_units
      exact set_old (set_old (x3.e _ _ (set_old (PH.set_same _ _ _) hr2)) hr4) ht
    · ktr_units
      exact set_old (set_old hr3 hr4) ht
    · rw [← lit_one hw]; exact set_old (PH.set_same _ _ _) ht⟩

noncomputable def cF : Nat := 13591409
noncomputable def cS : Nat := 545140134
noncomputable def cQ : Nat := 10939058860032000
theorem cubes_prod : prod cubes = cQ := by decide

theorem chud_ser (P : PW C) (p : PK C) {w ser : Nat} (hw : Wd w) : SerOk C w ser (fun H => Inst0 H ser 221 ∧ Base H) true (fun k => (6 * k - 5) * ((2 * k - 1) * (6 * k - 1))) (fun k => k * (k * k) * cQ) (fun k => cF + cS * k) 1 11 where
  mono := fun H H' e h => ⟨h.1.ext e, h.2.ext e⟩
  pos := fun _ k h1 h2 => ⟨Nat.ne_of_gt (Nat.mul_pos (by lia) (Nat.mul_pos (by lia) (by lia))), by unfold cF; lia⟩
  bnd := fun k h1 h2 => ⟨Nat.le_trans (Nat.mul_le_mul (show 6 * k - 5 ≤ 100 by lia) (Nat.mul_le_mul (show 2 * k - 1 ≤ 100 by lia) (show 6 * k - 1 ≤ 100 by lia))) (by decide),
    Nat.le_trans (Nat.mul_le_mul_right cQ (Nat.mul_le_mul (show k ≤ 10 by lia) (Nat.mul_le_mul (show k ≤ 10 by lia) (show k ≤ 10 by lia)))) (by decide),
    Nat.le_trans (Nat.add_le_add_left (Nat.mul_le_mul_left cS (show k ≤ 10 by lia)) cF) (by decide)⟩
  ok := fun H hH => ⟨_, meth_at0 p p.c hH.1, fun k n Q h1 h2 h => by
    ktr_units
    refine fn_ok P.f_ChudnovskySeries_at P.gl so_ChudnovskySeries_at is_ChudnovskySeries_at rfl ?_
    show pSs C (n + 59) b_ChudnovskySeries_at [some (.ref ser), some (I (k : Int)), some (I (w : Int)), some (.ref a_mul_school), none, none, none] H _ Q
    unfold b_ChudnovskySeries_at
    have smk : Sm (k : Int) := Sm.nat (m := 16) (by lia) (by decide)
    have sm2 : Sm ((2 : Nat) : Int) := Sm.nat (m := 16) (by decide) (by decide)
    have sm6 : Sm ((6 : Nat) : Int) := Sm.nat (m := 16) (by decide) (by decide)
    ktr_unf
    ktr_units
    refine n_mul sm6 smk (n_sub (by lia) (n_mul sm2 smk (n_sub (by lia) (n_mul sm6 smk (n_sub (by lia) ?_)))))
    ktr_units
    refine ⟨show _ ≤ 1048576 by simp, fun r1 hr1 => ?_⟩
    have y1 : Ext H (H.set r1 (.lst (nv [6 * k - 5, 2 * k - 1, 6 * k - 1]))) := (Ext.refl H).set hr1
    have ep : prod [6 * k - 5, 2 * k - 1, 6 * k - 1] = (6 * k - 5) * ((2 * k - 1) * (6 * k - 1)) := by simp [prod]
    have fp : Fit ((6 * k - 5) * ((2 * k - 1) * (6 * k - 1))) := Fit.of (k := 40) (Nat.lt_of_le_of_lt (Nat.mul_le_mul (show 6 * k - 5 ≤ 100 by lia) (Nat.mul_le_mul (show 2 * k - 1 ≤ 100 by lia) (show 6 * k - 1 ≤ 100 by lia))) (by decide)) (by unfold fitK; lia)
    ktr_units
    refine CallOk.mono (product_of_counts_ok P (n := n) (cs := [6 * k - 5, 2 * k - 1, 6 * k - 1]) hw (by simp) (by simp; lia) (by rw [ep]; exact fp) (PH.set_same _ _ _) fun r2 H2 x2 hr2 => ?_) (by lia) fun _ _ q => q
    rw [ep] at hr2
    have y2 := y1.trans x2
    ktr_unf
    ktr_units
    refine ⟨show _ ≤ 1048576 by simp, fun r3 hr3 => ?_⟩
    ktr_units
    refine list_tup (set_old (y2.e _ _ hH.2.cube) hr3) fun r4 hr4 => ?_
    ktr_units
    refine bin_cat (set_old (PH.set_same _ _ _) hr4) (PH.set_same _ _ _) (by simp [cubes]; unfold cap; lia) fun r5 hr5 => ?_
    have z3 := y2.set (o := .lst [I (k : Int), I (k : Int), I (k : Int)]) (y2.none hr3)
    have z4 := z3.set (o := .lst (nv cubes)) (z3.none hr4)
    have z5 := z4.set (o := .lst ([I (k : Int), I (k : Int), I (k : Int)] ++ nv cubes)) (z4.none hr5)
    have hr2' := set_old (o := .lst ([I (k : Int), I (k : Int), I (k : Int)] ++ nv cubes)) (set_old (o := .lst (nv cubes)) (set_old (o := .lst [I (k : Int), I (k : Int), I (k : Int)]) hr2 hr3) hr4) hr5
    have eq : prod ([k, k, k] ++ cubes) = k * (k * k) * cQ := by rw [prod_app, cubes_prod]; simp [prod]
    have fq : Fit (k * (k * k) * cQ) := Fit.of (k := 65) (Nat.lt_of_le_of_lt (Nat.mul_le_mul_right cQ (Nat.mul_le_mul (show k ≤ 10 by lia) (Nat.mul_le_mul (show k ≤ 10 by lia) (show k ≤ 10 by lia)))) (by decide)) (by unfold fitK; lia)
    ktr_units
    refine CallOk.mono (product_of_counts_ok P (n := n) (cs := [k, k, k] ++ cubes) hw (by simp [cubes]) (by simp [cubes]; lia) (by rw [eq]; exact fq) (PH.set_same _ _ _) fun r6 H6 x6 hr6 => ?_) (by lia) fun _ _ q => q
    rw [eq] at hr6
    have z6 := z5.trans x6
    ktr_unf
    have es : ofg [545, 140, 134] 0 = cS := by decide
    have ef : ofg [13, 591, 409] 0 = cF := by decide
    ktr_units
    refine of_groups_ok P (gs := [545, 140, 134]) hw (by simp) (by simp) (z6.e _ _ hH.2.step) fun r7 H7 x7 hr7 => ?_
    rw [es] at hr7
    ktr_units
    refine nat_of_ok P hw (Fit.of (k := 10) (x := k) (by lia) (by unfold fitK; lia)) fun r8 hr8 => ?_
    have fs : Fit cS := Fit.of (k := 40) (by decide) (by unfold fitK; lia)
    have fk : Fit k := Fit.of (k := 10) (by lia) (by unfold fitK; lia)
    ktr_units
    refine mul_school_ok P hw fs fk (set_old hr7 hr8) (PH.set_same _ _ _) fun r9 H9 R9 => ?_
    have z7 := z6.trans x7
    have z9 := (z7.set (o := .lst (rw' w k)) (z7.none hr8)).trans R9.ext
    ktr_unf
    ktr_units
    refine of_groups_ok P (gs := [13, 591, 409]) hw (by simp) (by simp) (z9.e _ _ hH.2.first) fun ra Ha xa hra => ?_
    rw [ef] at hra
    have fsk : Fit (cS * k) := Fit.of (k := 50) (Nat.lt_of_le_of_lt (Nat.mul_le_mul_left cS (show k ≤ 10 by lia)) (by decide)) (by unfold fitK; lia)
    ktr_units
    refine add_ok P hw (Fit.of (k := 40) (by decide) (by unfold fitK; lia)) fsk hra (xa.e _ _ R9.at') fun rb hrb => ?_
    ktr_units
    refine ⟨show _ ≤ 1048576 by simp, fun t ht => ?_⟩
    have za := z9.trans xa
    have zb := za.set (o := .lst (rw' w (cF + cS * k))) (za.none hrb)
    have q9 : ∀ a o, H6 a = some o → Ha a = some o := fun a o e => xa.e _ _ (R9.ext.e _ _ (set_old (x7.e _ _ e) hr8))
    ktr_units
    refine h t r2 r6 rb _ (zb.set (zb.none ht)) (PH.set_same _ _ _) ?_ ?_ ?_
    · ktr_units
      exact set_old (set_old (q9 _ _ (x6.e _ _ hr2')) hrb) ht
    · ktr_units
      exact set_old (set_old (q9 _ _ hr6) hrb) ht
    · ktr_units
      exact set_old (PH.set_same _ _ _) ht⟩
end
end

section


/-! what a series gives, as plain numbers -/
noncomputable def sBelow (q : Nat → Nat) (m : Nat) : Nat := (PB (fun k => (q k : Int)) 1 m).natAbs
noncomputable def sTold (neg : Bool) (p q a : Nat → Nat) (m : Nat) : Int := TB (fun k => sg neg (p k)) (fun k => (q k : Int)) (fun k => (a k : Int)) 1 m
noncomputable def sAbove (neg : Bool) (p q a : Nat → Nat) (m : Nat) : Nat := ((sBelow q m : Int) + sTold neg p q a m).natAbs

theorem kT_le : kT ≤ fitK := by decide
theorem sBelow_lt {q : Nat → Nat} {m : Nat} (hm : m ≤ 100) (h : ∀ k, 1 ≤ k → k < 1 + m → q k ≤ 2 ^ 64) : sBelow q m < 2 ^ kT :=
  fit_PB hm fun k h1 h2 => by have := h k h1 h2; simpa using this
theorem sAbove_lt {neg : Bool} {p q a : Nat → Nat} {m : Nat} (hm : m ≤ 100) (h : ∀ k, 1 ≤ k → k < 1 + m → p k ≤ 2 ^ 64 ∧ q k ≤ 2 ^ 64 ∧ a k ≤ 2 ^ 64) : sAbove neg p q a m < 2 ^ (kT + 1) := by
  have h1 := sBelow_lt hm fun k h1 h2 => (h k h1 h2).2.1
  have h2 : (sTold neg p q a m).natAbs < 2 ^ kT := fit_TB hm fun k h1 h2 => by
    have := h k h1 h2
    rw [sg_abs]; exact ⟨this.1, by simpa using this.2.1, by simpa using this.2.2⟩
  unfold sAbove
  have h3 := Int.natAbs_add_le (sBelow q m : Int) (sTold neg p q a m)
  rw [Int.natAbs_natCast] at h3
  rw [Nat.pow_succ]; lia
theorem sBelow_pos {q : Nat → Nat} {m : Nat} (h : ∀ k, 1 ≤ k → k < 1 + m → q k ≠ 0) : sBelow q m ≠ 0 := by
  unfold sBelow
  induction m with
  | zero => simp [PB]
  | succ m ih =>
    rw [PB, Int.natAbs_mul]
    have h1 := ih fun k h1 h2 => h k h1 (by lia)
    have h2 := h (1 + m) (by lia) (by lia)
    ktr_units
    exact Nat.mul_ne_zero h1 (by simpa using h2)

section
variable {C : WC} {n : Nat} {H : PH} {Q : Value → PH → Prop}

theorem series_fraction_ok (P : PW C) {w m : Nat} {ser : Addr} {HP : PH → Prop} {neg : Bool} {p q a : Nat → Nat} {hi : Nat} (hw : Wd w) (so : SerOk C w ser HP neg p q a 1 hi) (hH : HP H) (h1 : 1 ≤ m) (hm : m ≤ 100) (hhi : 1 + m ≤ hi)
    (h : ∀ t ra rb H', Ext H H' → H' t = some (.tup [.ref ra, .ref rb]) → H' ra = some (.lst (rw' w (sAbove neg p q a m))) → H' rb = some (.lst (rw' w (sBelow q m))) → Q (.ref t) H') :
    CallOk C (n + 180) (.ref a_series_fraction) [.ref ser, I (m : Int), I (w : Int), .ref a_mul_school] H Q := by
  ktr_units
  refine fn_ok P.f_series_fraction P.gl so_series_fraction is_series_fraction rfl ?_
  show pSs C (n + 179) b_series_fraction [some (.ref ser), some (I (m : Int)), some (I (w : Int)), some (.ref a_mul_school), none, none, none] H _ Q
  unfold b_series_fraction
  ktr_unf
  ktr_units
  refine t_eq (fun h0 => absurd h0 (by lia)) fun _ => ?_
  ktr_unf
  ktr_units
  refine n_add ?_
  rw [Nat.add_comm m 1]
  ktr_units
  refine CallOk.mono (split_sum_ok P hw so m n 1 H _ hH h1 hm (Nat.le_refl _) hhi (by lia) fun t tp rb tt H1 x1 ht hp hb hs => ?_) (show n + m + 70 ≤ n + 179 by lia) fun _ _ q => q
  ktr_units
  refine ⟨t, _, rfl, ht, rfl, ?_⟩
  have bnd : ∀ k, 1 ≤ k → k < 1 + m → p k ≤ 2 ^ 64 ∧ q k ≤ 2 ^ 64 ∧ a k ≤ 2 ^ 64 := fun k h1 h2 => so.bnd k h1 (by lia)
  have lb := sBelow_lt hm fun k h1 h2 => (bnd k h1 h2).2.1
  have lt : (sTold neg p q a m).natAbs < 2 ^ kT := fit_TB hm fun k h1 h2 => by
    have := bnd k h1 h2
    rw [sg_abs]; exact ⟨this.1, by simpa using this.2.1, by simpa using this.2.2⟩
  change H1 rb = some (.lst (rw' w (sBelow q m))) at hb
  change SV w H1 tt (sTold neg p q a m) at hs
  ktr_unf
  ktr_units
  refine ⟨show _ ≤ 1048576 by simp, fun t3 ht3 => ?_⟩
  have y3 : Ext H1 (H1.set t3 (.tup [.bool false, .ref rb])) := (Ext.refl H1).set ht3
  ktr_units
  refine s_add_ok P hw (x := (sBelow q m : Int)) (y := sTold neg p q a m) (by rw [Int.natAbs_natCast]; exact Fit.of lb kT_le) (Fit.of lt kT_le) (SV.of (PH.set_same _ _ _) (y3.e _ _ hb) (decide_eq_false (by lia)) (Int.natAbs_natCast _)) (hs.ext y3) fun t4 H4 x4 s4 => ?_
  obtain ⟨r4, h41, h42⟩ := s4.ex
  ktr_units
  refine n_idxt h41 (a := 1) rfl ?_
  ktr_units
  refine ⟨show _ ≤ 1048576 by simp, fun t5 ht5 => ?_⟩
  have z4 := y3.trans x4
  have z5 := (Ext.refl H4).set (o := .tup [.ref r4, .ref rb]) ht5
  ktr_units
  exact h t5 r4 rb _ ((x1.trans z4).trans z5) (PH.set_same _ _ _) (z5.e _ _ h42) (z5.e _ _ (z4.e _ _ hb))

theorem whole_bits_ok (P : PW C) {w x y k l : Nat} {a b : Addr} (hw : Wd w) (hx : x < 2 ^ l) (hl : l + k ≤ 29000) (hy : Fit y) (hy0 : y ≠ 0) (ha : H a = some (.lst (rw' w x))) (hb : H b = some (.lst (rw' w y)))
    (h : ∀ r H', Ext H H' → H' r = some (.lst (rw' w (x * 2 ^ k / y))) → Q (.ref r) H') : CallOk C (n + 5) (.ref a_whole_bits) [.ref a, .ref b, I (k : Int), I (w : Int), .ref a_divrem_school] H Q := by
  ktr_units
  refine fn_ok P.f_whole_bits P.gl so_whole_bits is_whole_bits rfl ?_
  show pSs C (n + 4) b_whole_bits [some (.ref a), some (.ref b), some (I (k : Int)), some (I (w : Int)), some (.ref a_divrem_school)] H _ Q
  unfold b_whole_bits
  ktr_unf
  have hxk : x * 2 ^ k < 2 ^ (l + k) := by rw [Nat.pow_add]; exact Nat.mul_lt_mul_of_pos_right hx (Nat.two_pow_pos k)
  ktr_units
  refine shift_left_ok P hw (Fit.of hx (by unfold fitK; lia)) (by lia) ha fun r1 H1 R1 => ?_
  ktr_units
  refine divrem_school_ok P hw (Fit.of hxk (by unfold fitK; lia)) hy hxk hl hy0 R1.at' (R1.ext.e _ _ hb) fun q r t H2 x2 ht hq hr => ?_
  ktr_units
  refine n_idxt ht (a := 0) rfl ?_
  ktr_units
  exact h q H2 (R1.ext.trans x2) hq

/-! the terms of e -/
noncomputable def tEl : Nat → Nat → Nat → Nat → Nat
  | 0, m, _, _ => m
  | f + 1, m, h, n => if h ≤ n then tEl f (m + 1) (h + (bl (m + 1) - 1)) n else m
noncomputable def tE (n : Nat) : Nat := tEl (n + 1) 1 0 n

theorem terms_of_e_ok (P : PW C) {k : Nat} (hk : k ≤ 10000) (h : Q (I (tE k : Int)) H) : CallOk C (n + 1) (.ref a_terms_of_e) [I (k : Int)] H Q := by
  ktr_units
  refine fn_ok P.f_terms_of_e P.gl so_terms_of_e is_terms_of_e rfl ?_
  show pSs C n b_terms_of_e [some (I (k : Int)), none, none] H _ Q
  unfold b_terms_of_e
  ktr_unf
  ktr_units
  refine ⟨fun f σ H' => ∃ m hv : Nat, σ = [some (I (k : Int)), some (I (m : Int)), some (I (hv : Int))] ∧ H' = H ∧ 1 ≤ m ∧ k < hv + f ∧ tEl f m hv k = tE k, ⟨k + 1, 1, 0, rfl, rfl, by lia, by lia, rfl⟩, ?_⟩
  ktr_units
  rintro f σ H' ⟨m, hv, rfl, rfl, hm, hf, he⟩
  ktr_unf
  ktr_units
  refine t_le (fun hle => ?_) fun hle => ?_
  · ktr_unf
    obtain ⟨g, rfl⟩ : ∃ g, f = g + 1 := ⟨f - 1, by lia⟩
    ktr_units
    refine n_aadd ?_
    ktr_unf
    ktr_units
    refine ⟨_, bitlen_meth, bitlen_int ?_⟩
    rw [intBits_nat]
    have hb : 2 ≤ bl (m + 1) := bl_ge (k := 1) (by lia)
    ktr_units
    refine n_sub (by lia) (n_aadd ?_)
    ktr_units
    refine ⟨g, Nat.lt_succ_self _, m + 1, _, rfl, rfl, by lia, by lia, ?_⟩
    rw [tEl, if_pos hle] at he
    ktr_units
    exact he
  · ktr_unf
    have : m = tE k := by
      cases f with
      | zero => exact he
      | succ g => rw [tEl, if_neg hle] at he; exact he
    rw [this]; exact h

/-! e -/
noncomputable def eA (m : Nat) : Nat := sAbove false (fun _ => 1) (fun k => k) (fun _ => 1) m
noncomputable def eB (m : Nat) : Nat := sBelow (fun k => k) m
noncomputable def eV (n : Nat) : Nat := eA (tE n) * 2 ^ n / eB (tE n)

theorem e_bits_ok (P : PW C) (p : PK C) {w k : Nat} (hw : Wd w) (hk : k ≤ 10000) (ht1 : 1 ≤ tE k) (ht2 : tE k ≤ 100) (h : ∀ r H', Ext H H' → H' r = some (.lst (rw' w (eV k))) → Q (.ref r) H') :
    CallOk C (n + 181) (.ref a_e_bits) [I (k : Int), I (w : Int), .ref a_mul_school, .ref a_divrem_school] H Q := by
  ktr_units
  refine fn_ok P.f_e_bits P.gl so_e_bits is_e_bits rfl ?_
  show pSs C (n + 180) b_e_bits [some (I (k : Int)), some (I (w : Int)), some (.ref a_mul_school), some (.ref a_divrem_school), none, none] H _ Q
  unfold b_e_bits
  ktr_unf
  ktr_units
  refine new_plain p p.e p.e0 fun i H1 x1 hi => ?_
  ktr_units
  refine CallOk.mono (terms_of_e_ok P (n := n) hk ?_) (by lia) fun _ _ q => q
  ktr_units
  refine series_fraction_ok P hw (euler_ser P p hw) hi ht1 ht2 (by lia) fun t ra rb H2 x2 ht ha hb => ?_
  ktr_units
  refine ⟨t, _, rfl, ht, rfl, ?_⟩
  ktr_unf
  have bnd : ∀ j, 1 ≤ j → j < 1 + tE k → (1 : Nat) ≤ 2 ^ 64 ∧ j ≤ 2 ^ 64 ∧ (1 : Nat) ≤ 2 ^ 64 := fun j h1 h2 => ⟨by decide, Nat.le_trans (show j ≤ 1000 by lia) (by decide), by decide⟩
  ktr_units
  refine CallOk.mono (whole_bits_ok P (n := n) (x := eA (tE k)) (y := eB (tE k)) hw (sAbove_lt ht2 bnd) (show kT + 1 + k ≤ 29000 by unfold kT; lia) (Fit.of (sBelow_lt ht2 fun j h1 h2 => (bnd j h1 h2).2.1) kT_le) (sBelow_pos fun j h1 h2 => by lia) ha hb fun r H3 x3 hr => ?_) (by lia) fun _ _ q => q
  ktr_units
  exact h r H3 ((x1.trans x2).trans x3) hr

/-! the arc tangent -/
noncomputable def tA (x n : Nat) : Nat := n / (2 * (bl x - 1)) / 2 * 2 + 1
theorem terms_of_arctan_ok (P : PW C) {x k : Nat} (hx : 2 ≤ x) (hx2 : x < 1000) (hk : k ≤ 10000) (h : Q (I (tA x k : Int)) H) : CallOk C (n + 1) (.ref a_terms_of_arctan) [I (x : Int), I (k : Int)] H Q := by
  ktr_units
  refine fn_ok P.f_terms_of_arctan P.gl so_terms_of_arctan is_terms_of_arctan rfl ?_
  show pSs C n b_terms_of_arctan [some (I (x : Int)), some (I (k : Int))] H _ Q
  unfold b_terms_of_arctan
  have hb : 2 ≤ bl x := bl_ge (k := 1) (by lia)
  have hb2 : bl x ≤ 10 := bl_le (by lia)
  have sm : ∀ {y : Nat}, y ≤ 100000 → Sm (y : Int) := fun hy => Sm.nat (m := 17) (by lia) (by decide)
  ktr_unf
  ktr_units
  refine ⟨_, bitlen_meth, bitlen_int ?_⟩
  rw [intBits_nat]
  ktr_units
  refine n_sub (by lia) (n_mul (sm (by decide)) (sm (by lia)) (n_div (by lia) (sm (by lia)) (n_div (by decide) (sm (by decide)) ?_)))
  have hd : k / (2 * (bl x - 1)) / 2 ≤ 100000 := Nat.le_trans (Nat.div_le_self _ _) (Nat.le_trans (Nat.div_le_self _ _) (by lia))
  ktr_units
  refine n_mul (sm hd) (sm (by decide)) (n_add ?_)
  ktr_units
  exact h

noncomputable def aA (x m : Nat) : Nat := sAbove true (fun k => 2 * k - 1) (fun k => (2 * k + 1) * x * x) (fun _ => 1) m
noncomputable def aB (x m : Nat) : Nat := sBelow (fun k => (2 * k + 1) * x * x) m
noncomputable def aV (x n : Nat) : Nat := aA x (tA x n) * 2 ^ n / (aB x (tA x n) * x)

theorem arctan_bits_ok (P : PW C) (p : PK C) {w x k : Nat} (hw : Wd w) (hx : 2 ≤ x) (hx2 : x < 1000) (hk : k ≤ 10000) (ht2 : tA x k ≤ 100) (h : ∀ r H', Ext H H' → H' r = some (.lst (rw' w (aV x k))) → Q (.ref r) H') :
    CallOk C (n + 181) (.ref a_arctan_bits) [I (x : Int), I (k : Int), I (w : Int), .ref a_mul_school, .ref a_divrem_school] H Q := by
  ktr_units
  refine fn_ok P.f_arctan_bits P.gl so_arctan_bits is_arctan_bits rfl ?_
  show pSs C (n + 180) b_arctan_bits [some (I (x : Int)), some (I (k : Int)), some (I (w : Int)), some (.ref a_mul_school), some (.ref a_divrem_school), none, none] H _ Q
  unfold b_arctan_bits
  ktr_unf
  ktr_units
  refine CallOk.mono (new_arctan p (n := n) (x := x) fun i H1 x1 hi => ?_) (by lia) fun _ _ q => q
  ktr_units
  refine CallOk.mono (terms_of_arctan_ok P (n := n) hx hx2 hk ?_) (by lia) fun _ _ q => q
  have ht1 : 1 ≤ tA x k := by unfold tA; lia
  have se := arctan_ser P p (ser := i) (x := x) hw (by lia) hx2
  ktr_units
  refine series_fraction_ok P hw se hi ht1 ht2 (by lia) fun t ra rb H2 x2 ht ha hb => ?_
  ktr_units
  refine ⟨t, _, rfl, ht, rfl, ?_⟩
  ktr_unf
  have bnd := fun j h1 (h2 : j < 1 + tA x k) => se.bnd j h1 (by lia)
  have lb : aB x (tA x k) < 2 ^ kT := sBelow_lt ht2 fun j h1 h2 => (bnd j h1 h2).2.1
  have hb0 : aB x (tA x k) ≠ 0 := sBelow_pos fun j h1 h2 => Nat.mul_ne_zero (Nat.mul_ne_zero (by lia) (by lia)) (by lia)
  ktr_units
  refine nat_of_ok P hw (Fit.of (k := 10) (x := x) (by lia) (by unfold fitK; lia)) fun r1 hr1 => ?_
  ktr_units
  refine CallOk.mono (mul_school_ok P (n := n) (x := aB x (tA x k)) (y := x) hw (Fit.of lb kT_le) (Fit.of (k := 10) (x := x) (by lia) (by unfold fitK; lia)) (set_old hb hr1) (PH.set_same _ _ _) fun r2 H3 R3 => ?_) (by lia) fun _ _ q => q
  ktr_units
  refine CallOk.mono (whole_bits_ok P (n := n) (x := aA x (tA x k)) (y := aB x (tA x k) * x) hw (sAbove_lt ht2 bnd) (show kT + 1 + k ≤ 29000 by unfold kT; lia) (Fit.mul (l := 10) lb (show x < 2 ^ 10 by lia) (by decide)) (Nat.mul_ne_zero hb0 (by lia)) (R3.ext.e _ _ (set_old ha hr1)) R3.at' fun r H4 x4 hr => ?_) (by lia) fun _ _ q => q
  have y2 := x1.trans x2
  ktr_units
  exact h r H4 (((y2.set (y2.none hr1)).trans R3.ext).trans x4) hr
end
end

section


theorem frac_lt {x k l y : Nat} (hx : x < 2 ^ l) : x * 2 ^ k / y < 2 ^ (l + k) := by
  ktr_units
  refine Nat.lt_of_le_of_lt (Nat.div_le_self _ _) ?_
  rw [Nat.pow_add]; exact Nat.mul_lt_mul_of_pos_right hx (Nat.two_pow_pos k)
theorem aV_lt {x k : Nat} (hx : 0 < x) (hx2 : x < 1000) (ht : tA x k ≤ 100) : aV x k < 2 ^ (kT + 1 + k) := by
  ktr_units
  refine frac_lt (sAbove_lt ht fun j h1 h2 => ⟨Nat.le_trans (show 2 * j - 1 ≤ 2000 by lia) (by decide), ?_, by decide⟩)
  have a1 : (2 * j + 1) * x ≤ 2001 * 1000 := Nat.mul_le_mul (by lia) (by lia)
  ktr_units
  exact Nat.le_trans (Nat.mul_le_mul a1 (Nat.le_of_lt hx2)) (by decide)
theorem eV_lt {k : Nat} (ht : tE k ≤ 100) : eV k < 2 ^ (kT + 1 + k) :=
  frac_lt (sAbove_lt ht fun j h1 h2 => ⟨by decide, Nat.le_trans (show j ≤ 1000 by lia) (by decide), by decide⟩)

section
variable {C : WC} {n : Nat} {H : PH} {Q : Value → PH → Prop}

noncomputable def mV (k : Nat) : Nat := (aV 5 (k + 8) * 2 ^ 4 - (aV 239 (k + 8) + 2) * 2 ^ 2) / 2 ^ 8
theorem pi_machin_ok (P : PW C) (p : PK C) {w k : Nat} (hw : Wd w) (hk : k ≤ 1000) (h5 : tA 5 (k + 8) ≤ 100) (h239 : tA 239 (k + 8) ≤ 100) (hle : (aV 239 (k + 8) + 2) * 2 ^ 2 ≤ aV 5 (k + 8) * 2 ^ 4) (hH : Base H)
    (h : ∀ r H', Ext H H' → H' r = some (.lst (rw' w (mV k))) → Q (.ref r) H') : CallOk C (n + 182) (.ref a_pi_machin) [I (k : Int), I (w : Int), .ref a_mul_school, .ref a_divrem_school] H Q := by
  ktr_units
  refine fn_ok P.f_pi_machin P.gl so_pi_machin is_pi_machin rfl ?_
  show pSs C (n + 181) b_pi_machin [some (I (k : Int)), some (I (w : Int)), some (.ref a_mul_school), some (.ref a_divrem_school), none, none, none] H _ Q
  unfold b_pi_machin
  have l5 := aV_lt (x := 5) (k := k + 8) (by decide) (by decide) h5
  have l239 := aV_lt (x := 239) (k := k + 8) (by decide) (by decide) h239
  have hkT : kT = 6500 := rfl
  have hfK : fitK = 30000 := rfl
  ktr_unf
  ktr_units
  refine n_add ?_
  ktr_unf
  ktr_units
  refine n_idxt hH.machin (a := 0) (v := I ((5 : Nat) : Int)) rfl ?_
  ktr_units
  refine arctan_bits_ok P p hw (by decide) (by decide) (by lia) h5 fun r1 H1 x1 hr1 => ?_
  ktr_units
  refine CallOk.mono (shift_left_ok P (n := n) (k := 4) hw (Fit.of l5 (by lia)) (by decide) hr1 fun r2 H2 R2 => ?_) (by lia) fun _ _ q => q
  ktr_unf
  have x2 := x1.trans R2.ext
  ktr_units
  refine n_idxt (x2.e _ _ hH.machin) (a := 1) (v := I ((239 : Nat) : Int)) rfl ?_
  ktr_units
  refine arctan_bits_ok P p hw (by decide) (by decide) (by lia) h239 fun r3 H3 x3 hr3 => ?_
  ktr_units
  refine CallOk.mono (nat_of_ok P (n := n) (x := 2) hw (Fit.of (k := 2) (by decide) (by lia)) fun r4 hr4 => ?_) (by lia) fun _ _ q => q
  ktr_units
  refine CallOk.mono (add_ok P (n := n) (x := aV 239 (k + 8)) (y := 2) hw (Fit.of l239 (by lia)) (Fit.of (k := 2) (by decide) (by lia)) (set_old hr3 hr4) (PH.set_same _ _ _) fun r5 hr5 => ?_) (by lia) fun _ _ q => q
  have y4 : Ext H3 (H3.set r4 (.lst (rw' w 2))) := (Ext.refl H3).set hr4
  have y5 := y4.set (o := .lst (rw' w (aV 239 (k + 8) + 2))) (y4.none hr5)
  have hr2' := y5.e _ _ (x3.e _ _ R2.at')
  have e5 := (x2.trans x3).trans y5
  have h5' := PH.set_same (H3.set r4 (.lst (rw' w 2))) r5 (.lst (rw' w (aV 239 (k + 8) + 2)))
  generalize (H3.set r4 (.lst (rw' w 2))).set r5 (.lst (rw' w (aV 239 (k + 8) + 2))) = G at *
  ktr_unf
  have l239' : aV 239 (k + 8) + 2 < 2 ^ (kT + 1 + (k + 8) + 2) := by
    have : 2 ^ (kT + 1 + (k + 8) + 2) = 2 ^ (kT + 1 + (k + 8)) * 4 := Nat.pow_add 2 _ 2
    have := Nat.two_pow_pos (kT + 1 + (k + 8))
    lia
  have l5' : aV 5 (k + 8) * 2 ^ 4 < 2 ^ (kT + 1 + (k + 8) + 4) := by rw [Nat.pow_add 2 (kT + 1 + (k + 8)) 4]; exact Nat.mul_lt_mul_of_pos_right l5 (by decide)
  ktr_units
  refine CallOk.mono (shift_left_ok P (n := n) (k := 2) hw (Fit.of l239' (by lia)) (by decide) h5' fun r6 H6 R6 => ?_) (by lia) fun _ _ q => q
  ktr_units
  refine CallOk.mono (sub_ok P (n := n) hw (Fit.of l5' (by lia)) hle (R6.ext.e _ _ hr2') R6.at' fun r7 H7 R7 => ?_) (by lia) fun _ _ q => q
  ktr_units
  refine CallOk.mono (shift_right_ok P (n := n) (k := 8) hw (Fit.of (Nat.lt_of_le_of_lt (Nat.sub_le _ _) l5') (by lia)) (by decide) R7.at' fun r8 H8 R8 => ?_) (by lia) fun _ _ q => q
  ktr_units
  exact h r8 H8 (((e5.trans R6.ext).trans R7.ext).trans R8.ext) R8.at'

/-- the digits that stand still -/
theorem settled_digits_ok (P : PW C) {w x k d l : Nat} {a : Addr} (hw : Wd w) (hx : x < 2 ^ l) (hl : l ≤ 10000) (hk : k ≤ 10000) (hd : d ≤ 7) (ha : H a = some (.lst (rw' w x)))
    (h1 : x * 10 ^ d / 2 ^ k = (x + 2) * 10 ^ d / 2 ^ k → ∀ r H', Ext H H' → H' r = some (.lst (rw' w (x * 10 ^ d / 2 ^ k))) → Q (.ref r) H')
    (h2 : x * 10 ^ d / 2 ^ k ≠ (x + 2) * 10 ^ d / 2 ^ k → ∀ H', Ext H H' → Q .none H') :
    CallOk C (n + 46) (.ref a_settled_digits) [.ref a, I (k : Int), I (d : Int), I (w : Int), .ref a_mul_school] H Q := by
  ktr_units
  refine fn_ok P.f_settled_digits P.gl so_settled_digits is_settled_digits rfl ?_
  show pSs C (n + 45) b_settled_digits [some (.ref a), some (I (k : Int)), some (I (d : Int)), some (I (w : Int)), some (.ref a_mul_school), none, none, none] H _ Q
  unfold b_settled_digits
  have hfK : fitK = 30000 := rfl
  have ht := ten_lt hd
  have l1 : x * 10 ^ d < 2 ^ (l + 24) := by rw [Nat.pow_add]; exact Nat.mul_lt_mul'' hx ht
  have lx2 : x + 2 < 2 ^ (l + 2) := by
    have : 2 ^ (l + 2) = 2 ^ l * 4 := Nat.pow_add 2 _ 2
    have := Nat.two_pow_pos l
    lia
  have l2 : (x + 2) * 10 ^ d < 2 ^ (l + 2 + 24) := by rw [Nat.pow_add 2 (l + 2)]; exact Nat.mul_lt_mul'' lx2 ht
  ktr_unf
  ktr_units
  refine power_of_ten_ok P hw hd fun r1 H1 x1 hr1 => ?_
  ktr_unf
  ktr_units
  refine CallOk.mono (mul_school_ok P (n := n) hw (Fit.of hx (by lia)) (Fit.of ht (by lia)) (x1.e _ _ ha) hr1 fun r2 H2 R2 => ?_) (by lia) fun _ _ q => q
  ktr_units
  refine CallOk.mono (shift_right_ok P (n := n) hw (Fit.of l1 (by lia)) (by lia) R2.at' fun r3 H3 R3 => ?_) (by lia) fun _ _ q => q
  ktr_unf
  have x3 := (x1.trans R2.ext).trans R3.ext
  ktr_units
  refine CallOk.mono (nat_of_ok P (n := n) (x := 2) hw (Fit.of (k := 2) (by decide) (by lia)) fun r4 hr4 => ?_) (by lia) fun _ _ q => q
  ktr_units
  refine CallOk.mono (add_ok P (n := n) (x := x) (y := 2) hw (Fit.of hx (by lia)) (Fit.of (k := 2) (by decide) (by lia)) (set_old (x3.e _ _ ha) hr4) (PH.set_same _ _ _) fun r5 hr5 => ?_) (by lia) fun _ _ q => q
  have y4 : Ext H3 (H3.set r4 (.lst (rw' w 2))) := (Ext.refl H3).set hr4
  have y5 := y4.set (o := .lst (rw' w (x + 2))) (y4.none hr5)
  have h5' := PH.set_same (H3.set r4 (.lst (rw' w 2))) r5 (.lst (rw' w (x + 2)))
  generalize (H3.set r4 (.lst (rw' w 2))).set r5 (.lst (rw' w (x + 2))) = G at *
  ktr_units
  refine CallOk.mono (mul_school_ok P (n := n) hw (Fit.of lx2 (by lia)) (Fit.of ht (by lia)) h5' (y5.e _ _ (R3.ext.e _ _ (R2.ext.e _ _ hr1))) fun r6 H6 R6 => ?_) (by lia) fun _ _ q => q
  ktr_units
  refine CallOk.mono (shift_right_ok P (n := n) hw (Fit.of l2 (by lia)) (by lia) R6.at' fun r7 H7 R7 => ?_) (by lia) fun _ _ q => q
  ktr_unf
  have x7 := ((x3.trans y5).trans R6.ext).trans R7.ext
  have hleast := R7.ext.e _ _ (R6.ext.e _ _ (y5.e _ _ R3.at'))
  ktr_units
  refine CallOk.mono (compare_ok P (n := n) hw (Fit.of (Nat.lt_of_le_of_lt (Nat.div_le_self _ _) l1) (by lia)) (Fit.of (Nat.lt_of_le_of_lt (Nat.div_le_self _ _) l2) (by lia)) hleast R7.at' ?_) (by lia) fun _ _ q => q
  ktr_units
  refine i_eq (fun he => ?_) fun hne => ?_
  · ktr_unf
    have heq : x * 10 ^ d / 2 ^ k = (x + 2) * 10 ^ d / 2 ^ k := by
      unfold cmpN at he
      split at he
      · lia
      · split at he
        · assumption
        · lia
    ktr_units
    exact h1 heq r3 H7 x7 hleast
  · ktr_unf
    have heq : x * 10 ^ d / 2 ^ k ≠ (x + 2) * 10 ^ d / 2 ^ k := fun q => hne (by unfold cmpN; rw [if_neg (by lia), if_pos q]; rfl)
    ktr_units
    exact h2 heq H7 x7

theorem digits_of_ok (P : PW C) {w d : Nat} {tv : Value} (hw : Wd w) (hd : d ≤ 7)
    (T : ∀ (n k : Nat) (H' : PH) (Q : Value → PH → Prop), Ext H H' → k ≤ 100 → (∀ r H'', Ext H' H'' → H'' r = some (.lst (rw' w (eV k))) → Q (.ref r) H'') → CallOk C (n + 190) tv [I (k : Int)] H' Q)
    (hS : eV (bl (10 ^ d) + 8) * 10 ^ d / 2 ^ (bl (10 ^ d) + 8) = (eV (bl (10 ^ d) + 8) + 2) * 10 ^ d / 2 ^ (bl (10 ^ d) + 8)) (hb : tE (bl (10 ^ d) + 8) ≤ 100)
    (h : ∀ r H', Ext H H' → H' r = some (.lst (rw' w (eV (bl (10 ^ d) + 8) * 10 ^ d / 2 ^ (bl (10 ^ d) + 8)))) → Q (.ref r) H') :
    CallOk C (n + 191) (.ref a_digits_of) [tv, I (d : Int), I (w : Int), .ref a_mul_school] H Q := by
  ktr_units
  refine fn_ok P.f_digits_of P.gl so_digits_of is_digits_of rfl ?_
  show pSs C (n + 190) b_digits_of [some tv, some (I (d : Int)), some (I (w : Int)), some (.ref a_mul_school), none, none] H _ Q
  unfold b_digits_of
  have ht := ten_lt hd
  have hbl : bl (10 ^ d) ≤ 24 := bl_le ht
  have hfK : fitK = 30000 := rfl
  have hkT : kT = 6500 := rfl
  ktr_unf
  ktr_units
  refine CallOk.mono (power_of_ten_ok P (n := n) hw hd fun r1 H1 x1 hr1 => ?_) (by lia) fun _ _ q => q
  ktr_units
  refine CallOk.mono (bits_ok P (n := n) hw (Fit.of ht (by lia)) hr1 ?_) (by lia) fun _ _ q => q
  ktr_units
  refine n_add ?_
  generalize hN : bl (10 ^ d) + 8 = N at *
  ktr_unf
  ktr_units
  refine T n N H1 _ x1 (by lia) fun r2 H2 x2 hr2 => ?_
  ktr_units
  refine CallOk.mono (settled_digits_ok P (n := n) hw (eV_lt hb) (by lia) (by lia) hd hr2 (fun _ r3 H3 x3 hr3 => ?_) fun hne => absurd hS hne) (by lia) fun _ _ q => q
  ktr_unf
  ktr_units
  refine ⟨fun k σ H' => σ = [some tv, some (I (d : Int)), some (I (w : Int)), some (.ref a_mul_school), some (I (N : Int)), some (.ref r3)] ∧ H' = H3, ⟨0, rfl, rfl⟩, ?_⟩
  ktr_units
  rintro k σ H' ⟨rfl, rfl⟩
  ktr_unf
  ktr_units
  refine is_t (fun q => by cases q) fun _ => ?_
  ktr_unf
  ktr_units
  exact h r3 H' ((x1.trans x2).trans x3) hr3

theorem law_row_ok (P : PW C) {w x : Nat} (hw : Wd w) (hx : Fit x) (h : ∀ r H', Ext H H' → H' r = some (.lst (rw' w x)) → Q (.ref r) H') : CallOk C (n + 1) (.ref a_law_row) [I (x : Int), I (w : Int)] H Q := by
  ktr_units
  refine fn_ok P.f_law_row P.gl so_law_row is_law_row rfl ?_
  show pSs C n b_law_row [some (I (x : Int)), some (I (w : Int)), none] H _ Q
  unfold b_law_row
  have hwh := hw.hi
  have h16 : (2 : Nat) ^ w ≤ 2 ^ 16 := Nat.pow_le_pow_right (by decide) hw.hi
  have sm2 : Sm ((2 : Nat) : Int) := Sm.nat (m := 16) (by decide) (by decide)
  have smB : Sm ((2 ^ w : Nat) : Int) := Sm.nat (m := 17) (Nat.lt_of_le_of_lt h16 (by decide)) (by decide)
  have hB := hw.pos
  ktr_unf
  ktr_units
  refine ⟨show _ ≤ 1048576 by simp, fun r hr => ?_⟩
  ktr_units
  refine ⟨fun k σ H' => ∃ ds, σ = [some (I (k : Int)), some (I (w : Int)), some (.ref r)] ∧ H' = H.set r (.lst (nv ds)) ∧ row (2 ^ w) x = ds ++ row (2 ^ w) k, ⟨x, [], rfl, rfl, rfl⟩, ?_⟩
  ktr_units
  rintro k σ H' ⟨ds, rfl, rfl, hds⟩
  ktr_unf
  ktr_units
  refine t_gt (fun hk0 => ?_) fun hk0 => ?_
  · ktr_unf
    have hlen := congrArg List.length hds
    rw [row_pos hw.two (show k ≠ 0 by lia), List.length_append, List.length_cons] at hlen
    have h30 := hx.len hw
    ktr_units
    refine ⟨_, list_append_meth (PH.set_same _ _ _), ?_⟩
    ktr_units
    refine n_pow (by lia) sm2 (n_mod (by lia) ?_)
    ktr_units
    refine app_lst (PH.set_same _ _ _) (by rw [nv_len]; unfold cap; lia) ?_
    ktr_unf
    ktr_units
    refine ⟨trivial, ?_⟩
    ktr_units
    refine n_pow (by lia) sm2 (n_div (by lia) smB ?_)
    ktr_units
    refine ⟨k / 2 ^ w, Nat.div_lt_self hk0 (by have := hw.two; lia), ds ++ [k % 2 ^ w], rfl, by simp, ?_⟩
    rw [hds, row_pos hw.two (show k ≠ 0 by lia), List.append_assoc]; rfl
  · ktr_unf
    have : k = 0 := by lia
    subst this
    rw [row_zero, List.append_nil] at hds
    rw [← hds]
    ktr_units
    exact h r _ ((Ext.refl H).set hr) (PH.set_same _ _ _)

/-- the drawing pool -/
structure Pool (H : PH) (p : Addr) : Prop where
  ex : ∃ g gs i s, H p = some (.lst [.ref g, I ((i : Nat) : Int), I ((s : Nat) : Int)]) ∧ H g = some (.lst (nv gs)) ∧ g ≠ p ∧ s < 2 ^ 64
theorem Pool.ext {H H' : PH} {p : Addr} (x : Pool H p) (e : Ext H H') : Pool H' p := by
  obtain ⟨g, gs, i, s, h1, h2, h3⟩ := x.ex; exact ⟨g, gs, i, s, e.e _ _ h1, e.e _ _ h2, h3⟩
theorem Ext.toB {H H' : PH} (e : Ext H H') (r : Addr) : ExtB r H H' := ⟨fun a o _ h => e.e a o h⟩
theorem ExtB.trans {r : Addr} {H H' H'' : PH} (x : ExtB r H H') (y : ExtB r H' H'') : ExtB r H H'' := ⟨fun a o ha h => y.e a o ha (x.e a o ha h)⟩
theorem Base.extB {H H' : PH} {p : Addr} (x : Base H) (hp : Pool H p) (e : ExtB p H H') : Base H' := by
  obtain ⟨g, gs, i, s, h1, h2, h3⟩ := hp.ex
  have ne : ∀ {a xs}, H a = some (.tup xs) → H' a = some (.tup xs) := fun {a xs} h => e.e a _ (by rintro rfl; rw [h1] at h; cases h) h
  ktr_units
  exact ⟨ne x.1, ne x.2, ne x.3, ne x.4, ne x.5, ne x.6⟩

theorem law_draw_ok (P : PW C) {m : Nat} {p : Addr} (hm : 0 < m) (hp : Pool H p) (h : ∀ d H', d < m → Pool H' p → ExtB p H H' → Q (I (d : Int)) H') : CallOk C (n + 1) (.ref a_law_draw) [.ref p, I (m : Int)] H Q := by
  ktr_units
  refine fn_ok P.f_law_draw P.gl so_law_draw is_law_draw rfl ?_
  show pSs C n b_law_draw [some (.ref p), some (I (m : Int))] H _ Q
  unfold b_law_draw
  obtain ⟨g, gs, i, s, h1, h2, h3, h4⟩ := hp.ex
  ktr_unf
  ktr_units
  refine n_idx h1 (a := 1) rfl (n_idx h1 (a := 0) rfl (len_lst h2 ?_))
  rw [nv_len]
  ktr_units
  refine t_lt (fun hlt => ?_) fun hlt => ?_
  · ktr_unf
    ktr_units
    refine n_idx h1 (a := 1) rfl (n_add (n_set h1 (a := 1) (by simp) ?_))
    have e1 : ([.ref g, I ((i : Nat) : Int), I ((s : Nat) : Int)] : List Value).set 1 (I ((i + 1 : Nat) : Int)) = [.ref g, I ((i + 1 : Nat) : Int), I ((s : Nat) : Int)] := rfl
    rw [e1]
    ktr_unf
    have g2 : (H.set p (.lst [.ref g, I ((i + 1 : Nat) : Int), I ((s : Nat) : Int)])) g = some (.lst (nv gs)) := by rw [PH.set_ne _ _ h3]; exact h2
    ktr_units
    refine n_idx (PH.set_same _ _ _) (a := 0) rfl (n_idx (PH.set_same _ _ _) (a := 1) rfl (n_sub (by lia) ?_))
    rw [Nat.add_sub_cancel]
    ktr_units
    refine n_idx g2 (nv_get gs (List.getElem?_eq_getElem hlt)) (n_mod (by lia) ?_)
    ktr_units
    exact h _ _ (Nat.mod_lt _ hm) ⟨g, gs, i + 1, s, PH.set_same _ _ _, g2, h3, h4⟩ (ExtB.refl p H).self
  · ktr_unf
    have hs : s * 4021 + 577 < 2 ^ 80 := by lia
    ktr_units
    refine n_idx h1 (a := 2) rfl (n_mul (Sm.nat (m := 64) h4 (by decide)) (Sm.nat (m := 64) (by decide) (by decide)) (n_add (n_mod (by decide) ?_)))
    generalize hs' : (s * 4021 + 577) % 1000003 = s'
    have hs2 : s' < 1000003 := by rw [← hs']; exact Nat.mod_lt _ (by decide)
    ktr_units
    refine n_set h1 (a := 2) (by simp) ?_
    have e1 : ([.ref g, I ((i : Nat) : Int), I ((s : Nat) : Int)] : List Value).set 2 (I ((s' : Nat) : Int)) = [.ref g, I ((i : Nat) : Int), I ((s' : Nat) : Int)] := rfl
    rw [e1]
    ktr_unf
    have g2 : (H.set p (.lst [.ref g, I ((i : Nat) : Int), I ((s' : Nat) : Int)])) g = some (.lst (nv gs)) := by rw [PH.set_ne _ _ h3]; exact h2
    ktr_units
    refine n_idx (PH.set_same _ _ _) (a := 2) rfl (n_div (by decide) (Sm.nat (m := 64) (by decide) (by decide)) (n_mod (by lia) ?_))
    ktr_units
    exact h _ _ (Nat.mod_lt _ hm) ⟨g, gs, i, s', PH.set_same _ _ _, g2, h3, by lia⟩ (ExtB.refl p H).self
end
end

section


/-! the law's own sums -/
noncomputable def lEl : Nat → Nat → Nat → Nat → Nat
  | 0, f, _, _ => f
  | u + 1, f, part, k => if 0 < part then lEl u (f + part) (part / k) (k + 1) else f
noncomputable def lE (n : Nat) : Nat := lEl (n + 3) 0 (2 ^ n) 1
noncomputable def lAl (x : Nat) : Nat → Int → Nat → Nat → Int
  | 0, f, _, _ => f
  | u + 1, f, k, part => if 0 < part then lAl x u (f + (if k % 2 = 0 then ((part / (2 * k + 1) : Nat) : Int) else 0 - ((part / (2 * k + 1) : Nat) : Int))) (k + 1) (part / (x * x)) else f
noncomputable def lA (x n : Nat) : Int := lAl x (n + 1) 0 0 (2 ^ n / x)

section
variable {C : WC} {n : Nat} {H : PH} {Q : Value → PH → Prop}

theorem law_euler_ok (P : PW C) {k : Nat} (hk : k ≤ 3000) (h : Q (I ((lE k : Nat) : Int)) H) : CallOk C (n + 1) (.ref a_law_euler) [I (k : Int)] H Q := by
  ktr_units
  refine fn_ok P.f_law_euler P.gl so_law_euler is_law_euler rfl ?_
  show pSs C n b_law_euler [some (I (k : Int)), none, none, none] H _ Q
  unfold b_law_euler
  have sm2 : Sm ((2 : Nat) : Int) := Sm.nat (m := 16) (by decide) (by decide)
  ktr_unf
  ktr_units
  refine n_pow (by omega) sm2 ?_
  ktr_unf
  ktr_units
  refine ⟨fun u σ H' => ∃ f part j, σ = [some (I (k : Int)), some (I ((f : Nat) : Int)), some (I ((part : Nat) : Int)), some (I ((j : Nat) : Int))] ∧ H' = H ∧ lEl u f part j = lE k ∧ j + u = k + 4 ∧ part ≤ 2 ^ k ∧ ((j = 1 ∧ u = k + 3 ∧ part = 2 ^ k) ∨ (2 ≤ j ∧ part < 2 ^ u)),
    ⟨k + 3, 0, 2 ^ k, 1, rfl, rfl, rfl, by omega, Nat.le_refl _, .inl ⟨rfl, rfl, rfl⟩⟩, ?_⟩
  ktr_units
  rintro u σ H' ⟨f, part, j, rfl, rfl, he, hju, hpk, hc⟩
  ktr_unf
  ktr_units
  refine t_gt (fun hp => ?_) fun hp => ?_
  · ktr_unf
    obtain ⟨v, rfl⟩ : ∃ v, u = v + 1 := by
      rcases hc with ⟨_, rfl, _⟩ | ⟨_, hlt⟩
      · ktr_units
        exact ⟨k + 2, rfl⟩
      · cases u with
        | zero => rw [Nat.pow_zero] at hlt; omega
        | succ v => exact ⟨v, rfl⟩
    have hj : j ≠ 0 := by omega
    ktr_units
    refine n_add (n_div hj (Sm.nat (m := 16) (by omega) (by decide)) (n_add ?_))
    ktr_unf
    rw [lEl, if_pos hp] at he
    ktr_units
    refine ⟨v, Nat.lt_succ_self _, f + part, part / j, j + 1, by trivial, by trivial, he, by omega, Nat.le_trans (Nat.div_le_self _ _) hpk, .inr ⟨by omega, ?_⟩⟩
    rcases hc with ⟨rfl, hv, rfl⟩ | ⟨h2, hlt⟩
    · rw [Nat.div_one]
      ktr_units
      exact Nat.pow_lt_pow_right (by decide) (by omega)
    · rw [Nat.pow_succ] at hlt
      ktr_units
      refine Nat.lt_of_le_of_lt (Nat.div_le_div_left h2 (by decide)) ?_
      omega
  · ktr_unf
    have : f = lE k := by
      cases u with
      | zero => exact he
      | succ v => rw [lEl, if_neg hp] at he; exact he
    rw [this]; exact h

theorem law_arctan_ok (P : PW C) {x k : Nat} (hx : 2 ≤ x) (hx2 : x < 1000) (hk : k ≤ 3000) (h : Q (I (lA x k)) H) : CallOk C (n + 1) (.ref a_law_arctan) [I (x : Int), I (k : Int)] H Q := by
  ktr_units
  refine fn_ok P.f_law_arctan P.gl so_law_arctan is_law_arctan rfl ?_
  show pSs C n b_law_arctan [some (I (x : Int)), some (I (k : Int)), none, none, none] H _ Q
  unfold b_law_arctan
  have sm2 : Sm ((2 : Nat) : Int) := Sm.nat (m := 16) (by decide) (by decide)
  have smx : Sm ((x : Nat) : Int) := Sm.nat (m := 16) (by omega) (by decide)
  have hxx4 : 2 * 2 ≤ x * x := Nat.mul_le_mul hx hx
  have hxx : x * x < 2 ^ 20 := Nat.lt_of_le_of_lt (Nat.mul_le_mul (Nat.le_of_lt hx2) (Nat.le_of_lt hx2)) (by decide)
  ktr_unf
  ktr_units
  refine n_pow (by omega) sm2 (n_div (by omega) smx ?_)
  ktr_unf
  ktr_units
  refine ⟨fun u σ H' => ∃ (f : Int) (j part : Nat), σ = [some (I (x : Int)), some (I (k : Int)), some (I f), some (I ((j : Nat) : Int)), some (I ((part : Nat) : Int))] ∧ H' = H ∧ lAl x u f j part = lA x k ∧ j + u = k + 1 ∧ part < 2 ^ u,
    ⟨k + 1, 0, 0, 2 ^ k / x, rfl, rfl, rfl, by omega, ?_⟩, ?_⟩
  · rw [Nat.pow_succ]
    have := Nat.div_le_self (2 ^ k) x
    have := Nat.two_pow_pos k
    omega
  ktr_units
  rintro u σ H' ⟨f, j, part, rfl, rfl, he, hju, hc⟩
  ktr_unf
  ktr_units
  refine t_gt (fun hp => ?_) fun hp => ?_
  · ktr_unf
    obtain ⟨v, rfl⟩ : ∃ v, u = v + 1 := by
      cases u with
      | zero => rw [Nat.pow_zero] at hc; omega
      | succ v => exact ⟨v, rfl⟩
    have smj : Sm ((j : Nat) : Int) := Sm.nat (m := 16) (by omega) (by decide)
    have smd : Sm ((2 * j + 1 : Nat) : Int) := Sm.nat (m := 16) (by omega) (by decide)
    rw [lAl, if_pos hp] at he
    have hnext : part / (x * x) < 2 ^ v := by
      rw [Nat.pow_succ] at hc
      ktr_units
      refine Nat.lt_of_le_of_lt (Nat.div_le_div_left hxx4 (by decide)) ?_
      omega
    ktr_units
    refine n_mod (by decide) ?_
    ktr_units
    refine t_eq (fun h0 => ?_) fun h0 => ?_
    · ktr_unf
      ktr_units
      refine n_mul sm2 smj (n_add (n_div (by omega) smd (bin_add ?_)))
      ktr_unf
      ktr_units
      refine n_mul smx smx (n_div (by omega) (Sm.nat (m := 20) hxx (by decide)) (n_add ?_))
      ktr_unf
      rw [if_pos h0] at he
      ktr_units
      exact ⟨v, Nat.lt_succ_self _, _, _, _, rfl, by trivial, he, by omega, hnext⟩
    · ktr_unf
      ktr_units
      refine n_mul sm2 smj (n_add (n_div (by omega) smd (bin_sub (bin_add ?_))))
      ktr_unf
      ktr_units
      refine n_mul smx smx (n_div (by omega) (Sm.nat (m := 20) hxx (by decide)) (n_add ?_))
      ktr_unf
      rw [if_neg h0] at he
      ktr_units
      exact ⟨v, Nat.lt_succ_self _, _, _, _, rfl, by trivial, he, by omega, hnext⟩
  · ktr_unf
    have : f = lA x k := by
      cases u with
      | zero => exact he
      | succ v => rw [lAl, if_neg hp] at he; exact he
    rw [this]; exact h

/-- the number of a row, by the law's own sum -/
noncomputable def WholeOk (C : WC) : Prop := ∀ (n w x : Nat) (a : Addr) (H : PH) (Q : Value → PH → Prop), Wd w → x < 2 ^ 200 → H a = some (.lst (rw' w x)) → (∀ H', Ext H H' → Q (I (x : Int)) H') → CallOk C (n + 3) (.ref a_law_whole) [.ref a, I (w : Int)] H Q

theorem law_between_ok (P : PW C) (WO : WholeOk C) {w x k : Nat} {near : Int} {a : Addr} (hw : Wd w) (hx : x < 2 ^ 200) (ha : H a = some (.lst (rw' w x)))
    (h1 : (x : Int) * 2 ^ 40 ≤ near + 4096) (h2 : near - 4096 < ((x : Int) + 2) * 2 ^ 40) (h : ∀ H', Ext H H' → Q (.bool true) H') : CallOk C (n + 4) (.ref a_law_between) [.ref a, I (w : Int), I (k : Int), I near] H Q := by
  ktr_units
  refine fn_ok P.f_law_between P.gl so_law_between is_law_between rfl ?_
  show pSs C (n + 3) b_law_between [some (.ref a), some (I (w : Int)), some (I (k : Int)), some (I near), none] H _ Q
  unfold b_law_between
  have sm2 : Sm ((2 : Nat) : Int) := Sm.nat (m := 16) (by decide) (by decide)
  have smP : Sm (((2 ^ 40 : Nat)) : Int) := Sm.nat (m := 41) (by decide) (by decide)
  have smx : Sm ((x : Nat) : Int) := Sm.nat (m := 200) hx (by decide)
  have smx2 : Sm ((x + 2 : Nat) : Int) := Sm.nat (m := 201) (by
    have : (2 : Nat) ^ 201 = 2 ^ 200 * 2 := Nat.pow_succ 2 200
    have : 2 < (2 : Nat) ^ 200 := by decide
    omega) (by decide)
  have ep : ((2 ^ 40 : Nat) : Int) = (2 : Int) ^ 40 := by decide
  ktr_unf
  ktr_units
  refine WO n w x a H _ hw hx ha fun H1 x1 => ?_
  ktr_unf
  ktr_units
  refine n_pow (by decide) sm2 (n_mul smx smP (bin_add (cmp_le ?_)))
  have c1 : decide (((x * 2 ^ 40 : Nat) : Int) ≤ near + ((4096 : Nat) : Int)) = true := decide_eq_true (by rw [Int.natCast_mul, ep]; exact h1)
  rw [c1]
  ktr_units
  refine tr_bool ?_
  ktr_unf
  ktr_units
  refine bin_sub (n_add (n_pow (by decide) sm2 (n_mul smx2 smP (cmp_lt ?_))))
  have c2 : decide (near - ((4096 : Nat) : Int) < (((x + 2) * 2 ^ 40 : Nat) : Int)) = true := decide_eq_true (by rw [Int.natCast_mul, Int.natCast_add, ep]; exact h2)
  rw [c2]
  ktr_units
  exact h H1 x1

/-! the root -/
theorem root_step {N x : Nat} (hx : 0 < x) : N < ((x + N / x) / 2 + 1) * ((x + N / x) / 2 + 1) := by
  have h1 := Nat.lt_div_mul_add (a := N) hx
  generalize N / x = q at h1
  generalize hy : (x + q) / 2 = y
  have h2 : x + q + 1 ≤ 2 * (y + 1) := by omega
  have h3 : (x + q + 1) * (x + q + 1) ≤ (2 * (y + 1)) * (2 * (y + 1)) := Nat.mul_le_mul h2 h2
  have h4 : (2 * (y + 1)) * (2 * (y + 1)) = 4 * ((y + 1) * (y + 1)) := by rw [Nat.mul_mul_mul_comm]
  have h5 : 4 * (x * (q + 1)) ≤ (x + q + 1) * (x + q + 1) := by
    rcases Nat.le_total x (q + 1) with hle | hle
    · obtain ⟨d, hd⟩ := Nat.exists_eq_add_of_le hle
      rw [Nat.add_assoc, hd]
      have : (x + (x + d)) * (x + (x + d)) = 4 * (x * (x + d)) + d * d := by grind
      omega
    · obtain ⟨d, hd⟩ := Nat.exists_eq_add_of_le hle
      rw [Nat.add_assoc, hd]
      generalize q + 1 = z
      have : (z + d + z) * (z + d + z) = 4 * ((z + d) * z) + d * d := by grind
      omega
  have h6 : x * (q + 1) = q * x + x := by rw [Nat.mul_add, Nat.mul_one, Nat.mul_comm]
  omega

theorem law_root_ok (P : PW C) (WO : WholeOk C) {w N : Nat} {a : Addr} (hw : Wd w) (hN : N < 2 ^ 100) (ha : H a = some (.lst (rw' w N)))
    (h : ∀ s r H', s * s ≤ N → N < (s + 1) * (s + 1) → Ext H H' → H' r = some (.lst (rw' w s)) → Q (.ref r) H') : CallOk C (n + 4) (.ref a_law_root) [.ref a, I (w : Int)] H Q := by
  ktr_units
  refine fn_ok P.f_law_root P.gl so_law_root is_law_root rfl ?_
  show pSs C (n + 3) b_law_root [some (.ref a), some (I (w : Int)), none, none] H _ Q
  unfold b_law_root
  have hwh := hw.hi
  have hwl := hw.lo
  have sm : ∀ {y : Nat}, y ≤ 100000 → Sm (y : Int) := fun hy => Sm.nat (m := 17) (by omega) (by decide)
  have hlen := row_len_two hw.lo hN
  have hlw : (row (2 ^ w) N).length * w ≤ 100 * 16 := Nat.mul_le_mul hlen hwh
  ktr_unf
  ktr_units
  refine WO n w N a H _ hw (Nat.lt_trans hN (by decide)) ha fun H1 x1 => ?_
  ktr_unf
  ktr_units
  refine len_lst (x1.e _ _ ha) ?_
  rw [nv_len]
  ktr_units
  refine n_mul (sm (by omega)) (sm (by omega)) (n_div (by decide) (sm (by decide)) (n_add (n_pow (by omega) (sm (by decide)) ?_)))
  have hNl := row_lt hw.two N
  rw [← Nat.pow_mul, Nat.mul_comm w] at hNl
  generalize hE : (row (2 ^ w) N).length * w = E at *
  ktr_unf
  have hst : N < 2 ^ (E / 2 + 1) * 2 ^ (E / 2 + 1) := by
    rw [← Nat.pow_add]
    ktr_units
    exact Nat.lt_of_lt_of_le hNl (Nat.pow_le_pow_right (by decide) (by omega))
  ktr_units
  refine ⟨fun s σ H' => σ = [some (.ref a), some (I (w : Int)), some (I (N : Int)), some (I ((s : Nat) : Int))] ∧ H' = H1 ∧ N < (s + 1) * (s + 1) ∧ s ≤ 2 ^ (E / 2 + 1), ⟨2 ^ (E / 2 + 1), rfl, rfl, ?_, Nat.le_refl _⟩, ?_⟩
  · ktr_units
    exact Nat.lt_of_lt_of_le hst (Nat.mul_le_mul (Nat.le_succ _) (Nat.le_succ _))
  ktr_units
  rintro s σ H' ⟨rfl, rfl, hN2, hsE⟩
  have hsb : s < 2 ^ 900 := Nat.lt_of_le_of_lt hsE (Nat.pow_lt_pow_right (by decide) (by omega))
  have sms : Sm ((s : Nat) : Int) := Sm.nat hsb (by decide)
  ktr_unf
  ktr_units
  refine n_mul sms sms (t_gt (fun hgt => ?_) fun hgt => ?_)
  · ktr_unf
    have hs0 : s ≠ 0 := by rintro rfl; simp at hgt
    ktr_units
    refine n_div hs0 sms (n_add (n_div (by decide) (sm (by decide)) ?_))
    have hq : N / s < s := Nat.div_lt_of_lt_mul hgt
    ktr_units
    exact ⟨(s + N / s) / 2, by omega, rfl, rfl, root_step (by omega), by omega⟩
  · ktr_unf
    ktr_units
    refine CallOk.mono (law_row_ok P (n := n) hw (Fit.of hsb (by unfold fitK; omega)) fun r H2 x2 hr => ?_) (by omega) fun _ _ q => q
    ktr_units
    exact h s r H2 (by omega) hN2 (x1.trans x2) hr

/-! pi, by the third series -/
noncomputable def cP (k : Nat) : Nat := (6 * k - 5) * ((2 * k - 1) * (6 * k - 1))
noncomputable def cQq (k : Nat) : Nat := k * (k * k) * cQ
noncomputable def cA (k : Nat) : Nat := cF + cS * k
noncomputable def cB (m : Nat) : Nat := sBelow cQq m
noncomputable def cSum (m : Nat) : Nat := ((cF * cB m : Nat) + sTold true cP cQq cA m : Int).natAbs
noncomputable def cL (k : Nat) : Nat := (k + 8) / 45 + 2
noncomputable def cN (k : Nat) : Nat := 10005 * 2 ^ (2 * (k + 8))
noncomputable def cV (k s : Nat) : Nat := (426880 * s * cB (cL k) / cSum (cL k) - 1) / 2 ^ 8

theorem pi_chudnovsky_ok (P : PW C) (p : PK C) (WO : WholeOk C) {w k : Nat} (hw : Wd w) (hk : k ≤ 30) (hS : cSum (cL k) ≠ 0) (hq : ∀ s, s * s ≤ cN k → cN k < (s + 1) * (s + 1) → 1 ≤ 426880 * s * cB (cL k) / cSum (cL k)) (hH : Base H)
    (h : ∀ s r H', s * s ≤ cN k → cN k < (s + 1) * (s + 1) → Ext H H' → H' r = some (.lst (rw' w (cV k s))) → Q (.ref r) H') : CallOk C (n + 182) (.ref a_pi_chudnovsky) [I (k : Int), I (w : Int), .ref a_mul_school, .ref a_divrem_school, .ref a_law_root] H Q := by
  ktr_units
  refine fn_ok P.f_pi_chudnovsky P.gl so_pi_chudnovsky is_pi_chudnovsky rfl ?_
  show pSs C (n + 181) b_pi_chudnovsky [some (I (k : Int)), some (I (w : Int)), some (.ref a_mul_school), some (.ref a_divrem_school), some (.ref a_law_root), none, none, none, none, none, none, none, none, none] H _ Q
  unfold b_pi_chudnovsky
  have hkT : kT = 6500 := rfl
  have hfK : fitK = 30000 := rfl
  have sm : ∀ {y : Nat}, y ≤ 100000 → Sm (y : Int) := fun hy => Sm.nat (m := 17) (by omega) (by decide)
  ktr_unf
  ktr_units
  refine n_add ?_
  ktr_unf
  ktr_units
  refine CallOk.mono (new_plain p (n := n) p.c p.c0 fun i H1 x1 hi => ?_) (by omega) fun _ _ q => q
  ktr_units
  refine n_div (by decide) (sm (by decide)) (n_add ?_)
  have hL2 : cL k ≤ 3 := by unfold cL; omega
  have e3 : (k + 8) / 45 + 3 = 1 + cL k := by unfold cL; omega
  rw [e3]
  have se := chud_ser P p (ser := i) hw
  have hH1 := hH.ext x1
  ktr_units
  refine CallOk.mono (split_sum_ok P hw se (cL k) n 1 H1 _ ⟨hi, hH1⟩ (by unfold cL; omega) (by omega) (Nat.le_refl _) (by omega) (by omega) fun t tp rb tt H2 x2 ht hp hb hs => ?_) (show n + cL k + 70 ≤ n + 181 by omega) fun _ _ q => q
  ktr_units
  refine ⟨t, _, rfl, ht, rfl, ?_⟩
  change H2 rb = some (.lst (rw' w (cB (cL k)))) at hb
  change SV w H2 tt (sTold true cP cQq cA (cL k)) at hs
  have bnd : ∀ j, 1 ≤ j → j < 1 + cL k → cP j ≤ 2 ^ 64 ∧ cQq j ≤ 2 ^ 64 ∧ cA j ≤ 2 ^ 64 := fun j h1 h2 => se.bnd j h1 (by omega)
  have lb : cB (cL k) < 2 ^ kT := sBelow_lt (by omega) fun j h1 h2 => (bnd j h1 h2).2.1
  have ltt : (sTold true cP cQq cA (cL k)).natAbs < 2 ^ kT := fit_TB (by omega) fun j h1 h2 => by
    have := bnd j h1 h2
    rw [sg_abs]; exact ⟨this.1, by simpa using this.2.1, by simpa using this.2.2⟩
  have lF : cF < 2 ^ 24 := by decide
  have lfirst : cF * cB (cL k) < 2 ^ (24 + kT) := by rw [Nat.pow_add]; exact Nat.mul_lt_mul'' lF lb
  have lsum : cSum (cL k) < 2 ^ (25 + kT) := by
    unfold cSum
    have h1 := Int.natAbs_add_le ((cF * cB (cL k) : Nat) : Int) (sTold true cP cQq cA (cL k))
    rw [Int.natAbs_natCast] at h1
    have h2 : 2 ^ kT ≤ 2 ^ (24 + kT) := Nat.pow_le_pow_right (by decide) (by omega)
    have h3 : 2 ^ (25 + kT) = 2 * 2 ^ (24 + kT) := by rw [Nat.mul_comm, ← Nat.pow_succ]; exact congrArg (2 ^ ·) (by omega)
    omega
  have lN : cN k < 2 ^ 100 := by
    unfold cN
    ktr_units
    exact Nat.lt_of_le_of_lt (Nat.mul_le_mul_left _ (Nat.pow_le_pow_right (by decide) (show 2 * (k + 8) ≤ 76 by omega))) (by decide)
  ktr_unf
  have hH2 := hH1.ext x2
  have ef : ofg [13, 591, 409] 0 = cF := by decide
  have er : ofg [10, 5] 0 = 10005 := by decide
  have efr : ofg [426, 880] 0 = 426880 := by decide
  ktr_units
  refine CallOk.mono (of_groups_ok P (n := n) (gs := [13, 591, 409]) hw (by simp) (by simp) hH2.first fun r3 H3 x3 hr3 => ?_) (by omega) fun _ _ q => q
  rw [ef] at hr3
  ktr_units
  refine CallOk.mono (mul_school_ok P (n := n) hw (Fit.of lF (by omega)) (Fit.of lb (by omega)) hr3 (x3.e _ _ hb) fun r4 H4 R4 => ?_) (by omega) fun _ _ q => q
  ktr_unf
  have z4 := x3.trans R4.ext
  ktr_units
  refine ⟨show _ ≤ 1048576 by simp, fun t5 ht5 => ?_⟩
  have y5 : Ext H4 (H4.set t5 (.tup [.bool false, .ref r4])) := (Ext.refl H4).set ht5
  ktr_units
  refine CallOk.mono (s_add_ok P (n := n) hw (x := ((cF * cB (cL k) : Nat) : Int)) (y := sTold true cP cQq cA (cL k)) (by rw [Int.natAbs_natCast]; exact Fit.of lfirst (by omega)) (Fit.of ltt (by omega)) (SV.of (PH.set_same _ _ _) (y5.e _ _ R4.at') (decide_eq_false (by omega)) (Int.natAbs_natCast _)) ((hs.ext z4).ext y5) fun t6 H6 x6 s6 => ?_) (by omega) fun _ _ q => q
  obtain ⟨r6, h61, h62⟩ := s6.ex
  change H6 r6 = some (.lst (rw' w (cSum (cL k)))) at h62
  ktr_units
  refine n_idxt h61 (a := 1) rfl ?_
  ktr_unf
  have z6 := (z4.trans y5).trans x6
  have hH6 := hH2.ext z6
  ktr_units
  refine CallOk.mono (of_groups_ok P (n := n) (gs := [10, 5]) hw (by simp) (by simp) hH6.root fun r7 H7 x7 hr7 => ?_) (by omega) fun _ _ q => q
  rw [er] at hr7
  ktr_units
  refine n_mul (sm (by decide)) (sm (by omega)) ?_
  ktr_units
  refine CallOk.mono (shift_left_ok P (n := n) (x := 10005) hw (Fit.of (k := 20) (by decide) (by omega)) (by omega) hr7 fun r8 H8 R8 => ?_) (by omega) fun _ _ q => q
  have hr8 : H8 r8 = some (.lst (rw' w (cN k))) := R8.at'
  ktr_units
  refine CallOk.mono (law_root_ok P WO (n := n) hw lN hr8 fun s r9 H9 hs1 hs2 x9 hr9 => ?_) (by omega) fun _ _ q => q
  ktr_unf
  have z9 := (x7.trans R8.ext).trans x9
  have ls : s < 2 ^ 100 := by
    have : s ≤ s * s := Nat.le_mul_self s
    omega
  ktr_units
  refine CallOk.mono (of_groups_ok P (n := n) (gs := [426, 880]) hw (by simp) (by simp) (hH6.ext z9).front fun ra Ha xa hra => ?_) (by omega) fun _ _ q => q
  rw [efr] at hra
  have l42 : 426880 < 2 ^ 20 := by decide
  ktr_units
  refine CallOk.mono (mul_school_ok P (n := n) hw (Fit.of l42 (by omega)) (Fit.of ls (by omega)) hra (xa.e _ _ hr9) fun rc Hc Rc => ?_) (by omega) fun _ _ q => q
  have l1 : 426880 * s < 2 ^ (20 + 100) := by rw [Nat.pow_add]; exact Nat.mul_lt_mul'' l42 ls
  have zc := (z9.trans xa).trans Rc.ext
  ktr_units
  refine CallOk.mono (mul_school_ok P (n := n) hw (Fit.of l1 (by omega)) (Fit.of lb (by omega)) Rc.at' (zc.e _ _ (z6.e _ _ hb)) fun rd Hd Rd => ?_) (by omega) fun _ _ q => q
  have l2 : 426880 * s * cB (cL k) < 2 ^ (20 + 100 + kT) := by rw [Nat.pow_add 2 (20 + 100)]; exact Nat.mul_lt_mul'' l1 lb
  ktr_unf
  ktr_units
  refine CallOk.mono (divrem_school_ok P (n := n) hw (Fit.of l2 (by omega)) (Fit.of lsum (by omega)) l2 (by omega) hS Rd.at' (Rd.ext.e _ _ (zc.e _ _ h62)) fun q r te He xe hte hqe hre => ?_) (by omega) fun _ _ q => q
  ktr_units
  refine n_idxt hte (a := 0) rfl ?_
  ktr_unf
  ktr_units
  refine ⟨show _ ≤ 1048576 by simp, fun rf hrf => ?_⟩
  have l3 : 426880 * s * cB (cL k) / cSum (cL k) < 2 ^ (20 + 100 + kT) := Nat.lt_of_le_of_lt (Nat.div_le_self _ _) l2
  ktr_units
  refine CallOk.mono (sub_ok P (n := n) (x := 426880 * s * cB (cL k) / cSum (cL k)) (y := 1) hw (Fit.of l3 (by omega)) (hq s hs1 hs2) (set_old hqe hrf) (by rw [← lit_one hw]; exact PH.set_same _ _ _) fun rg Hg Rg => ?_) (by omega) fun _ _ q => q
  ktr_units
  refine CallOk.mono (shift_right_ok P (n := n) (k := 8) hw (Fit.of (Nat.lt_of_le_of_lt (Nat.sub_le _ _) l3) (by omega)) (by decide) Rg.at' fun rh Hh Rh => ?_) (by omega) fun _ _ q => q
  have ze := (((x1.trans x2).trans z6).trans zc).trans (Rd.ext.trans xe)
  ktr_units
  exact h s rh Hh hs1 hs2 (((ze.set (ze.none hrf)).trans Rg.ext).trans Rh.ext) Rh.at'
end
end

section


theorem View.none_of {C : WC} {H : PH} {h : Heap} (v : View C H h) {a : Addr} (ha : h.get? a = none) : H a = none := by
  cases e : H a with
  | none => rfl
  | some o => obtain ⟨ob, h1, _⟩ := v.at' a o e; rw [ha] at h1; cases h1
theorem Keep.none_of {C : WC} {h : Heap} (k : Keep C h) {a : Addr} (ha : h.get? a = none) : C.hb.get? a = none := by
  cases e : C.hb.get? a with
  | none => rfl
  | some o => have := k.k a o e; rw [ha] at this; cases this
theorem Frm.new' {C : WC} {X : Addr → Prop} {H : PH} {s : Shared} {h' : Heap} {tk : Nat} {r : Addr} {o : HO} {ob : Obj} (k : Keep C s.heap) (v : View C H s.heap) (hk : ∀ b o, s.heap.get? b = some o → h'.get? b = some o)
    (hr : h'.get? r = some ob) (his : o.Is ob) (hs : s.heap.get? r = none) : Frm C X H (H.set r o) s { s with heap := h', toks := tk } :=
  ⟨⟨rfl, rfl, rfl⟩, fun b o _ e hn => ⟨hk _ _ e, by rw [PH.set_ne _ _ (fun q => by rw [q, hs] at e; cases e)]; exact hn⟩, k.mono hk, v.set_new hk hr his fun _ _ => k.none_of hs⟩

theorem relabel_id {scope : Scope} {env : Env} (h : ∀ y ∈ scope.names, y.2 ≠ .free) : relabel scope env = scope := by
  unfold relabel
  have : (scope.names.map fun (n, k) => if (k == .free && env.scope.kind == .function && env.kindOf n == some .cell) then (n, .cell) else (n, k)) = scope.names := map_eq_self fun x hx => by
    obtain ⟨n, k⟩ := x
    have : (k == NameKind.free) = false := by simpa using h _ hx
    simp [this]
  rw [this]

noncomputable def noH : PH := fun _ => none
theorem view0 {C : WC} {h : Heap} : View C noH h := ⟨fun a o e => (by unfold noH at e; cases e), fun a xs e => (by unfold noH at e; cases e)⟩
theorem keeps_of {C : WC} {X : Addr → Prop} {H' : PH} {s s' : Shared} (f : Frm C NoX noH H' s s') : Keeps s s' :=
  ⟨s'.heap, s'.toks, by
    obtain ⟨h, g, d, t, o⟩ := s'
    obtain ⟨e1, e2, e3⟩ := f.same
    dsimp only at e1 e2 e3
    subst e1; subst e2; subst e3; rfl, fun b o e => (f.old b o (fun q => q) e rfl).1⟩

section
variable {C : WC} {env : Env} {ns : List Str} {GT : List (Str × Value)} {n : Nat} {σ : List (Option Value)}

/-- an expression that writes nothing, in any heap -/
theorem pure_elt (eo : EnvOk C env ns) (gl : GlobsE C env GT) {q : PE} {x : Expr} (hx : isE env.scope ns GT q x = true) {P : Value → Prop} (h : pE C n σ q noH fun v _ => P v) {A : Around} {s : Shared} (bd : Bud n A) (k : Keep C s.heap)
    (loc : Loc env.locals ns σ s.heap) (hl : C.hb.get? env.locals = none) : WP C A (eval x env) (fun y s' => P (er y) ∧ Keeps s s') s :=
  wpAny_mono (sE eo gl q x noH _ hx h A s bd ⟨k, view0, loc, rfl, hl⟩) (fun v s' ⟨H', f, g⟩ => ⟨g, keeps_of (X := NoX) f⟩) fun _ _ x => x

theorem envC_ok {scope : Scope} {cl : List (Str × Addr)} {Cc : Addr} {xs : List Str} (eo : EnvOk C env ns) (hk : scope.kind = .function) (hx : ∀ (i : Nat) (x : Str), xs[i]? = some x → scope.names.lookup x = some .local ∧ (x == ("__debug__" : Str)) = false) (nd : xs.Nodup) :
    EnvOk C (compEnvC scope cl Cc env) xs :=
  ⟨hk, eo.glob, eo.blt, fun i x h => ⟨lookup_relabel_local (hx i x h).1, (hx i x h).2⟩, nd⟩

theorem vs_all {vs : List Value} {items : Array Value} (hl : vs.length = items.size) (h : ∀ (j : Nat) (v : Value), vs[j]? = some v → items[j]? = some v) : vs = items.toList := by
  ktr_units
  apply List.ext_getElem?
  ktr_units
  intro j
  by_cases hj : j < vs.length
  · have e := List.getElem?_eq_getElem hj
    rw [e]
    have := h j _ e
    rw [← this]; simp
  · rw [List.getElem?_eq_none (by lia), List.getElem?_eq_none (by simp; lia)]
theorem paired_map {f : Value → Value} : ∀ {vs ys : List Value}, Paired (fun v y => er y = f (er v)) vs ys → ys.map er = (vs.map er).map f
  | [], [], _ => rfl
  | v :: vs, y :: ys, .cons h t => by rw [List.map_cons, List.map_cons, List.map_cons, h, paired_map t]

theorem size_paired {F : Value → Value → Prop} : ∀ {vs ys : List Value}, Paired F vs ys → ys.length = vs.length
  | [], [], _ => rfl
  | v :: vs, y :: ys, .cons h t => by rw [List.length_cons, List.length_cons, size_paired t]

section
variable {elt iter : Expr} {x : Str} {px : Pos} {scope : Scope} {pos : Pos} {it el : PE} {f : Value → Value} {H : PH} {A : Around} {s : Shared}

/-- the plain facts of a comprehension's scope -/
structure CSc (scope : Scope) (x : Str) : Prop where
  free : ∀ y ∈ scope.names, y.2 ≠ .free
  cell : ∀ y ∈ scope.names, y.2 ≠ .cell
  kind : scope.kind = .function
  names : ∀ y ∈ scope.names, y.2 = .local → scope.names.lookup y.1 = some .local
  lk : scope.names.lookup x = some .local
  dbg : (x == ("__debug__" : Str)) = false

theorem quiet (eo : EnvOk C env ns) (gl : Globs C GT) (sc : CSc scope x) (hel : isE (relabel scope env) [x] GT el elt = true) {items : Array Value} {xs : List Value} (hitems : items.toList.map er = xs)
    (pel : ∀ v ∈ xs, pE C n [some v] el noH fun y _ => y = f v) (bd : Bud n A) {I : Addr} {s₂ : Shared} (k : Keep C s₂.heap) (hI : C.hb.get? I = none) :
    QuietOnC C.prog C.w A env scope [] x [] elt [I] (fun i v => items[i]? = some v) (fun _ => true) (fun v y => er y = f (er v)) s₂ where
  tests := fun Cc i v s₃ m₃ E' hC hv hns hm hk ht => wpAny_tests_nil ⟨rfl, ⟨s₃.heap, s₃.toks, rfl, fun _ _ e => e⟩⟩
  elt := fun Cc i v s₃ m₃ E' hC hv _ hns hm hk ht => by
    have eo' := envC_ok (scope := scope) (cl := []) (Cc := Cc) (xs := [x]) eo sc.kind (fun i y hy => by
      cases i with
      | zero => simp at hy; subst hy; exact ⟨sc.lk, sc.dbg⟩
      | succ i => simp at hy) (by simp)
    have k₃ : Keep C s₃.heap := ⟨fun b o e => hk b o (by rw [List.mem_singleton]; rintro rfl; rw [hI] at e; cases e) (k.k b o e)⟩
    have hmem : er v ∈ xs := by
      rw [← hitems]
      ktr_units
      exact List.mem_map_of_mem (Array.mem_toList_iff.mpr (Array.mem_of_getElem? hv))
    have gle : GlobsE C (compEnvC scope [] Cc env) GT := gl.toE fun y w _ hk' => by
      have hk2 : (relabel scope env).names.lookup y = some .cell := hk'
      rw [relabel_id sc.free] at hk2
      ktr_units
      exact sc.cell _ (mem_of_lookup hk2) rfl
    ktr_units
    refine WP.toE (pure_elt (σ := [some (er v)]) (P := fun y => y = f (er v)) eo' gle hel (pel _ hmem) bd k₃ ⟨rfl, m₃, hns, fun i y hy => ?_⟩ (k.none_at hC))
    cases i with
    | zero => simp at hy; subst hy; rw [hm]; rfl
    | succ i => simp at hy

theorem comp_lst (eo : EnvOk C env ns) (gl : Globs C GT) (gle : GlobsE C env GT) (sc : CSc scope x) (hit : isE env.scope ns GT it iter = true) (hel : isE (relabel scope env) [x] GT el elt = true) (hfold : ∀ v, foldedSetIterable iter env v = pure v) {Q : Value → PH → Prop}
    (h : pE C n σ it H fun v H' => ∃ a xs, v = .ref a ∧ H' a = some (.lst xs) ∧ (∀ v ∈ xs, pE C n [some v] el noH fun y _ => y = f v) ∧ ∀ r, H' r = none → Q (.ref r) (H'.set r (.lst (xs.map f))))
    (bd : Bud n A) (i0 : Inn C env ns σ H s) : WP C A (eval (.ListComp elt [⟨.Name x px, iter, [], 0⟩] scope pos) env) (Post C H s Q) s := by
  ktr_units
  refine wpAny_ListComp_free (cl := []) (fun _ => true) (fun v y => er y = f (er v)) (closureFor_none sc.free) sc.cell sc.kind sc.names sc.lk ?_ hfold
  ktr_units
  refine wpAny_mono (sE eo gle it _ H _ hit h A s bd i0) (fun v s₁ ⟨H₁, f₁, a, xs, e1, e2, pel, hQ⟩ => ?_) fun _ _ x => x
  obtain rfl := er_ref e1
  obtain ⟨items, m, k1, k2, k3⟩ := f₁.view.lst e2
  have hl : s₁.heap.IsList a items := ⟨_, k1, rfl, m, rfl⟩
  have hlt : a < s₁.heap.objs.size := Heap.lt_size k1
  ktr_units
  refine wpAny_pyIter_list hl ?_
  have up : ∀ b o, s₁.heap.get? b = some o → (s₁.heap.push { cls := .type "list_iterator", data := .fields #[.ref a, .int 0 0] }).get? b = some o := fun b o e => Heap.get?_push_of_some _ e
  ktr_units
  refine ⟨_, _, _, _, _, _, rfl, Walks.list bd.hh s₁.heap.objs.size a (Nat.ne_of_lt hlt) items, cap_line k3, ⟨⟨_, Heap.get?_push_size _ rfl, rfl, rfl⟩, hl.push _⟩, fun b hb => ?_,
    quiet eo gl sc hel k2 pel bd (f₁.keep.mono up) (f₁.keep.none_at (Nat.le_refl _)), fun D h' tk ys vs hD hlD hpl hlen hvs hP hk => ?_⟩
  · show b < (s₁.heap.push _).objs.size
    rw [Heap.size_push]
    rcases List.mem_cons.mp hb with rfl | hb
    · ktr_units
      exact Nat.lt_succ_self _
    · rw [List.mem_singleton.mp hb]; exact Nat.lt_succ_of_lt hlt
  · have hvs' := vs_all hlen hvs
    rw [List.filter_eq_self.mpr (fun _ _ => rfl), hvs'] at hP
    have hys := paired_map hP
    rw [k2] at hys
    have hlys := size_paired hP
    obtain ⟨m', hm'⟩ := hpl
    have hk1 : ∀ b o, s₁.heap.get? b = some o → h'.get? b = some o := fun b o e => hk b o (by rw [List.mem_singleton]; exact Nat.ne_of_lt (Heap.lt_size e)) (up b o e)
    have hDs : s₁.heap.get? D = none := by
      cases q : s₁.heap.get? D with
      | none => rfl
      | some o => rw [up _ _ q] at hD; cases hD
    ktr_units
    refine ⟨H₁.set D (.lst (xs.map f)), f₁.trans (Frm.new' f₁.keep f₁.view hk1 hm' (lst_is hys ?_) hDs), hQ D (f₁.view.none_of hDs)⟩
    · have : ys.size = items.size := by simpa using hlys
      lia

theorem comp_asg (eo : EnvOk C env ns) (gl : Globs C GT) (gle : GlobsE C env GT) (sc : CSc scope x) (hit : isE env.scope ns GT it iter = true) (hel : isE (relabel scope env) [x] GT el elt = true) (hfold : ∀ v, foldedSetIterable iter env v = pure v)
    {y : Str} {py spos : Pos} {j : Nat} (hy : ns[j]? = some y) (hsw : swapsWith (.ListComp elt [⟨.Name x px, iter, [], 0⟩] scope pos) (some (.Name y py)) spos.line env = pure true) {N : Lo → PH → Prop} {R : Value → PH → Prop}
    (h : pE C n σ it H fun v H' => ∃ a xs, v = .ref a ∧ H' a = some (.lst xs) ∧ (∀ v ∈ xs, pE C n [some v] el noH fun y _ => y = f v) ∧ ∀ r, H' r = none → N (σ.set j (some (.ref r))) (H'.set r (.lst (xs.map f))))
    (bd : Bud n A) (i0 : Inn C env ns σ H s) : WP C A (exec (.Assign [.Name y py] (.ListComp elt [⟨.Name x px, iter, [], 0⟩] scope pos) spos) env) (PostS C env ns H s N R) s := by
  ktr_units
  refine wpAny_Assign_ListComp_free (cl := []) (fun _ => true) (fun v y => er y = f (er v)) hsw (closureFor_none sc.free) sc.cell sc.kind sc.names sc.lk (eo.loc j y hy).1 (by rw [eo.kind]; rfl) ?_ hfold
  ktr_units
  refine wpAny_mono (sE eo gle it _ H _ hit h A s bd i0) (fun v s₁ ⟨H₁, f₁, a, xs, e1, e2, pel, hQ⟩ => ?_) fun _ _ x => x
  obtain rfl := er_ref e1
  have i₁ := i0.frm f₁
  obtain ⟨items, m, k1, k2, k3⟩ := f₁.view.lst e2
  have hl : s₁.heap.IsList a items := ⟨_, k1, rfl, m, rfl⟩
  have hlt : a < s₁.heap.objs.size := Heap.lt_size k1
  ktr_units
  refine wpAny_pyIter_list hl ?_
  have up : ∀ b o, s₁.heap.get? b = some o → (s₁.heap.push { cls := .type "list_iterator", data := .fields #[.ref a, .int 0 0] }).get? b = some o := fun b o e => Heap.get?_push_of_some _ e
  obtain ⟨l1, mm, hN, hm⟩ := id i₁.loc
  have hLlt : env.locals < s₁.heap.objs.size := by obtain ⟨o, _, _, ho, _⟩ := hN; exact Heap.lt_size ho
  ktr_units
  refine ⟨_, _, _, _, _, _, mm, rfl, Walks.list bd.hh s₁.heap.objs.size a (Nat.ne_of_lt hlt) items, cap_line k3, ⟨⟨_, Heap.get?_push_size _ rfl, rfl, rfl⟩, hl.push _⟩, fun b hb => ?_,
    by rw [List.mem_singleton]; exact Nat.ne_of_lt hLlt, hN.keeps up, quiet eo gl sc hel k2 pel bd (f₁.keep.mono up) (f₁.keep.none_at (Nat.le_refl _)), fun D h' tk ys vs hD hlD hpl hlen hvs hP hns' hk => ?_⟩
  · show b < (s₁.heap.push _).objs.size
    rw [Heap.size_push]
    rcases List.mem_cons.mp hb with rfl | hb
    · ktr_units
      exact Nat.lt_succ_self _
    · rw [List.mem_singleton.mp hb]; exact Nat.lt_succ_of_lt hlt
  · have hvs' := vs_all hlen hvs
    rw [List.filter_eq_self.mpr (fun _ _ => rfl), hvs'] at hP
    have hys := paired_map hP
    rw [k2] at hys
    have hlys := size_paired hP
    obtain ⟨m', hm'⟩ := hpl
    have hk1 : ∀ b o, b ≠ env.locals → s₁.heap.get? b = some o → h'.get? b = some o := fun b o hb e => hk b o hb (by rw [List.mem_singleton]; exact Nat.ne_of_lt (Heap.lt_size e)) (up b o e)
    have hDs : s₁.heap.get? D = none := by
      cases q : s₁.heap.get? D with
      | none => rfl
      | some o => rw [up _ _ q] at hD; cases hD
    have hDL : D ≠ env.locals := by rintro rfl; obtain ⟨o, _, _, ho, _⟩ := hN; rw [hDs] at ho; cases ho
    have hHD := f₁.view.none_of hDs
    have hsz : ys.size ≤ cap := by
      have : ys.size = items.size := by simpa using hlys
      lia
    have keep' : Keep C h' := ⟨fun b o e => hk1 b o (by rintro rfl; rw [i₁.lL] at e; cases e) (f₁.keep.k b o e)⟩
    have view' : View C (H₁.set D (.lst (xs.map f))) h' := ⟨fun b o e => by
      by_cases hb : b = D
      · subst hb; rw [PH.set_same] at e; cases e; exact ⟨_, hm', lst_is hys hsz⟩
      · rw [PH.set_ne _ _ hb] at e
        obtain ⟨ob, q1, q2⟩ := f₁.view.at' b o e
        ktr_units
        exact ⟨ob, hk1 b ob (by rintro rfl; rw [i₁.hL] at e; cases e) q1, q2⟩,
      fun b zs e => by
        by_cases hb : b = D
        · subst hb; exact f₁.keep.none_of hDs
        · rw [PH.set_ne _ _ hb] at e; exact f₁.view.fresh b zs e⟩
    ktr_units
    refine ⟨_, H₁.set D (.lst (xs.map f)), f₁.weak.trans ⟨⟨rfl, rfl, rfl⟩, fun b o hb e hn => ⟨hk1 b o hb e, by rw [PH.set_ne _ _ (by rintro rfl; rw [hDs] at e; cases e)]; exact hn⟩, keep', view'⟩,
      ⟨keep', view', ⟨by rw [List.length_set]; exact l1, _, hns', fun i z hz => ?_⟩, by rw [PH.set_ne _ _ (Ne.symm hDL)]; exact i₁.hL, i₁.lL⟩, hQ D hHD⟩
    by_cases hij : i = j
    · subst hij
      rw [hy] at hz; cases hz
      have hlt' : i < σ.length := by rw [l1]; exact (List.getElem?_eq_some_iff.mp hy).1
      rw [if_pos rfl, List.getElem?_set_self hlt']; rfl
    · have hne : z ≠ y := fun q => by
        subst q
        ktr_units
        exact hij ((List.getElem?_inj (List.getElem?_eq_some_iff.mp hz).1 eo.nd).mp (hz.trans hy.symm))
      rw [if_neg hne, List.getElem?_set_ne (Ne.symm hij)]
      ktr_units
      exact hm i z hz
end

/-- a sum of whole numbers -/
theorem sum_lst {H : PH} {Q : Value → PH → Prop} {a : Addr} {is : List Int} (e : H a = some (.lst (is.map I))) (h : Q (I is.sum) H) : CallOk C n (.builtin "sum") [.ref a] H Q :=
  ⟨fun A s f' args' bd kp v ef ea => by
    obtain rfl := er_builtin ef
    obtain ⟨x', rfl, e1⟩ := one_arg ea
    obtain rfl := er_ref e1
    ktr_units
    refine ⟨fun Q' hk => wpAny_pure (hk _), ?_⟩
    obtain ⟨vs, m, g1, g2, g3⟩ := v.lst e
    have hall : AllInts vs := fun z hz => by
      have : er z ∈ is.map I := by rw [← g2]; exact List.mem_map_of_mem (Array.mem_toList_iff.mpr hz)
      obtain ⟨i, _, hi⟩ := List.mem_map.mp this
      obtain ⟨t, rfl⟩ := er_int hi.symm
      ktr_units
      exact ⟨i, t, rfl⟩
    obtain ⟨xs, rfl⟩ := hall.items
    ktr_units
    refine sum_intListG bd.hh ⟨_, g1, rfl, m, rfl⟩ fun h' tk t' hk => ?_
    ktr_units
    refine ⟨H, Frm.grow kp v hk, ?_⟩
    have hx : xs.toList.map (·.1) = is := by
      have : (xs.toList.map fun p => I p.1) = is.map I := by rw [← g2]; simp [intItems, er]
      have := congrArg (List.map fun v => match v with | .int i _ => i | _ => 0) this
      ktr_units
      simpa [List.map_map, Function.comp_def] using this
    have key : ∀ j, j ≤ xs.size → preSum (numAt xs) j = (is.take j).sum := by
      ktr_units
      intro j
      induction j with
      | zero => intro _; simp [preSum]
      | succ j ih =>
        ktr_units
        intro hj
        rw [preSum, ih (by lia)]
        have hjs : is[j]? = some (numAt xs j) := by
          rw [← hx, List.getElem?_map]
          have : xs.toList[j]? = some xs[j] := by rw [Array.getElem?_toList, Array.getElem?_eq_getElem (by lia)]
          rw [this]; simp [numAt, show j < xs.size by lia]
        rw [List.take_add_one, hjs]; simp
    show Q (I (preSum (numAt xs) xs.size)) H
    rw [key _ (Nat.le_refl _), List.take_of_length_le (by rw [← hx]; simp)]
    ktr_units
    exact h⟩
end
end

section

theorem isE_var {sc : Scope} {ns : List Str} {GT : List (Str × Value)} {i : Nat} {y : Str} {p : Pos} (h : decide (ns[i]? = some y) = true) : isE sc ns GT (.var i) (.Name y p) = true := h
theorem isE_int {sc : Scope} {ns : List Str} {GT : List (Str × Value)} {i : Nat} {k : Nat} {p : Pos} : isE sc ns GT (.int i) (.Constant (.int (i : Int)) k p) = true := decide_eq_true rfl
theorem lk_mk : ∀ {l : List (Option Value)} {i : Nat} {v : Value} {k : Value → Prop}, l[i]? = some (some v) → k v → lk l i k
  | [], _, _, _, h, _ => by simp at h
  | none :: _, 0, _, _, h, _ => by simp at h
  | some u :: _, 0, v, k, h, hk => by simp only [List.getElem?_cons_zero, Option.some.injEq] at h; subst h; exact hk
  | _ :: l, i + 1, v, k, h, hk => lk_mk (l := l) (i := i) (by simpa using h) hk

/-- the check of a comprehension's scope -/
noncomputable def cscB (scope : Scope) (x : Str) : Bool :=
  scope.names.all (fun y => y.2 != .free) && scope.names.all (fun y => y.2 != .cell) && (scope.kind == .function) && scope.names.all (fun y => y.2 != .local || scope.names.lookup y.1 == some .local) && (scope.names.lookup x == some .local) && !(x == ("__debug__" : Str))
theorem csc_of {scope : Scope} {x : Str} (h : cscB scope x = true) : CSc scope x := by
  unfold cscB at h
  simp only [Bool.and_eq_true, List.all_eq_true, bne_iff_ne, ne_eq, beq_iff_eq, Bool.not_eq_true', Bool.or_eq_true] at h
  obtain ⟨⟨⟨⟨⟨h1, h2⟩, h3⟩, h4⟩, h5⟩, h6⟩ := h
  ktr_units
  exact ⟨h1, h2, h3, fun y hy hl => (h4 y hy).resolve_left (fun q => q hl), h5, h6⟩

structure PX (C : WC) : Prop where
  pool : FnAt C a_law_pool (S "_law_pool") [S "script"] (fBody (stAt 55)) (fSc (stAt 55))
  whole : FnAt C a_law_whole (S "_law_whole") [S "row", S "w"] (fBody (stAt 57)) (fSc (stAt 57))

noncomputable def it1 : PE := .slc (.var 0) .absent (.int 20)
noncomputable def el1 : PE := .call (.glob (S "abs") (.builtin "abs")) (.cons (.call (.glob (S "int") (.type "int")) (.cons (.var 0) .nil)) .nil)
noncomputable def it2 : PE := .var 1
noncomputable def el2 : PE := .bin .Mod (.var 0) (.int 9973)

theorem pool_body : ∃ (e1 i1 e2 i2 : PySem.Expr) (sc1 sc2 : Scope) (p1 p2 p3 p4 p5 p6 p7 p8 p9 p10 p11 p12 p13 p14 : Pos),
    fBody (stAt 55) = [.Assign [.Name (S "given") p1] (.ListComp e1 [⟨.Name (S "one") p2, i1, [], 0⟩] sc1 p3) p4,
      .Return (some (.List [.Name (S "given") p5, .Constant (.int 0) 0 p6, .BinOp (.Constant (.int 11) 0 p7) .Add (.Call (.Name (S "sum") p8) [.ListComp e2 [⟨.Name (S "one") p9, i2, [], 0⟩] sc2 p10] [] p11) p12] p13)) p14] ∧
    cscB sc1 (S "one") = true ∧ cscB sc2 (S "one") = true ∧ isE (fSc (stAt 55)) [S "script", S "given"] GT it1 i1 = true ∧ isE sc1 [S "one"] GT el1 e1 = true ∧ isE (fSc (stAt 55)) [S "script", S "given"] GT it2 i2 = true ∧ isE sc2 [S "one"] GT el2 e2 = true ∧
    (p1.line == p3.line) = true ∧ (sc1.names.any fun y => y.1 == S "given" && (y.2 == .local || y.2 == .cell)) = false ∧ (∀ env v, foldedSetIterable i1 env v = pure v) ∧ (∀ env v, foldedSetIterable i2 env v = pure v) := by
  ktr_units
  refine ⟨_, _, _, _, _, _, _, _, _, _, _, _, _, _, _, _, _, _, _, _, rfl, ?_, ?_, ?_, ?_, ?_, ?_, ?_, ?_, fun _ _ => rfl, fun _ _ => rfl⟩ <;> decide +kernel
theorem pool_so : ScOk (fSc (stAt 55)) ([S "script"] ++ [S "given"]) := scOk_ok (by decide +kernel)

section
variable {C : WC} {n : Nat} {H : PH} {Q : Value → PH → Prop}

noncomputable def absV : Value → Value
  | .int i _ => I (if i < 0 then -i else i)
  | v => v
noncomputable def modV : Value → Value
  | .int i _ => I (i.fmod 9973)
  | v => v

theorem sum_le {k : Nat} : ∀ {gs : List Nat}, (∀ g ∈ gs, g ≤ k) → gs.sum ≤ k * gs.length
  | [], _ => by simp
  | g :: gs, h => by
    rw [List.sum_cons, List.length_cons, Nat.mul_add, Nat.mul_one]
    have := sum_le fun g hg => h g (.tail _ hg)
    have := h g (.head _)
    lia
theorem sum_cast : ∀ (gs : List Nat), (gs.map fun g : Nat => (g : Int)).sum = ((gs.sum : Nat) : Int)
  | [] => rfl
  | g :: gs => by rw [List.map_cons, List.sum_cons, List.sum_cons, sum_cast gs]; rfl

theorem law_pool_ok (P : PW C) (X : PX C) {xs : List Int} {a : Addr} (ha : H a = some (.lst (xs.map I))) (h : ∀ p H', Ext H H' → Pool H' p → Q (.ref p) H') : CallOk C (n + 1) (.ref a_law_pool) [.ref a] H Q :=
  ⟨fun A s f' args' bd kp v ef ea => by
    obtain rfl := er_ref ef
    ktr_units
    refine ⟨fun Q' hk => fn_keep X.pool kp Q' hk, ?_⟩
    ktr_units
    refine wpAny_call (fn_code (n := n) (rest := [S "given"]) X.pool pool_so (args := [.ref a]) (Q := Q) rfl (fun env A s eo hsc hint bd i0 => ?_) bd kp v ea)
    obtain ⟨e1, i1, e2, i2, sc1, sc2, p1, p2, p3, p4, p5, p6, p7, p8, p9, p10, p11, p12, p13, p14, hb, c1, c2, h1, h2, h3, h4, h5, h6, h7, h8⟩ := pool_body
    have cs1 := csc_of c1
    have cs2 := csc_of c2
    have gl := P.gl
    have gle : GlobsE C env GT := gl.toE fun x v _ hk => by
      have hk' : env.scope.names.lookup x = some .cell := hk
      rw [hsc] at hk'
      ktr_units
      exact pool_so.cell _ (mem_of_lookup hk') rfl
    rw [hb]
    have hgl : ([S "script"] ++ [S "given"])[1]? = some (S "given") := rfl
    ktr_units
    refine wpAny_execs_cons ?_
    have first := comp_asg (C := C) (GT := GT) (n := n) (σ := [some (.ref a), none]) (it := it1) (el := el1) (f := absV) (x := S "one") (elt := e1) (iter := i1) (scope := sc1) (px := p2) (pos := p3) (py := p1) (spos := p4) (H := H) (A := A) (s := s)
      (N := fun σ H' => ∃ g gs, σ = [some (.ref a), some (.ref g)] ∧ Ext H H' ∧ H' g = some (.lst (nv gs)) ∧ gs.length ≤ 20) (R := Q) eo gl gle cs1 (by rw [hsc]; exact h1) (by rw [relabel_id cs1.free]; exact h2) (h7 env) hgl ?_ ?_ bd i0
    · ktr_units
      refine wpAny_mono first (fun fl s₁ hf => ?_) fun _ _ x => x
      cases fl with
      | ret v => exact hf
      | brk => exact hf.elim
      | cont => exact hf.elim
      | next =>
        obtain ⟨σ₁, H₁, f₁, in1, g, gs, rfl, hext, hg, hlen⟩ := hf
        ktr_units
        refine postS f₁ ?_
        ktr_units
        refine wpAny_execs_cons (wpAny_Return_some (wpAny_List ?_))
        -- given
        ktr_units
        refine wpAny_items_cons ?_ (star_no rfl _ _)
        ktr_units
        refine wpAny_mono (sE eo gle (.var 1) _ H₁ (fun v H' => v = .ref g ∧ H' = H₁) (isE_var (decide_eq_true hgl)) (by exact lk_mk (v := .ref g) rfl ⟨rfl, rfl⟩) A s₁ bd in1) (fun v1 s₂ ⟨H₂, f₂, q2, q2'⟩ => ?_) fun _ _ x => x
        subst q2'
        obtain rfl := er_ref q2
        -- 0
        ktr_units
        refine wpAny_items_cons ?_ (star_no rfl _ _)
        ktr_units
        refine wpAny_mono (sE eo gle (.int 0) _ H₂ (fun v H' => v = I ((0 : Nat) : Int) ∧ H' = H₂) isE_int ⟨rfl, rfl⟩ A s₂ bd (in1.frm f₂)) (fun v2 s₃ ⟨H₃, f₃, q3, q3'⟩ => ?_) fun _ _ x => x
        subst q3'
        -- the sum
        ktr_units
        refine wpAny_items_cons ?_ (star_no rfl _ _)
        ktr_units
        refine wpAny_BinOp ?_
        have in3 := (in1.frm f₂).frm f₃
        ktr_units
        refine wpAny_mono (sE eo gle (.int 11) _ H₃ (fun v H' => v = I ((11 : Nat) : Int) ∧ H' = H₃) isE_int ⟨rfl, rfl⟩ A s₃ bd in3) (fun v3 s₄ ⟨H₄, f₄, q4, q4'⟩ => ?_) fun _ _ x => x
        subst q4'
        have in4 := in3.frm f₄
        ktr_units
        refine Call_ ?_
        obtain ⟨u, hu, hl⟩ := loadGlob (A := A) eo gle in4.keep (x := S "sum") (v := .builtin "sum") (by show env.scope.names.lookup _ = _; rw [hsc]; decide +kernel) (by decide +kernel)
        obtain rfl := er_builtin hu
        ktr_units
        refine hl ?_
        ktr_units
        refine callWith_ok (by rw [star_no rfl]; rfl) ?_
        ktr_units
        refine wpAny_items_cons ?_ (star_no rfl _ _)
        ktr_units
        refine wpAny_mono (comp_lst (C := C) (GT := GT) (n := n) (it := it2) (el := el2) (f := modV) (x := S "one") (elt := e2) (iter := i2) (scope := sc2) (px := p9) (pos := p10) (H := H₄) (A := A) (s := s₄) (Q := fun v H' => ∃ r, v = .ref r ∧ Ext H₄ H' ∧ H' r = some (.lst ((nv gs).map modV)))
          eo gl gle cs2 (by rw [hsc]; exact h3) (by rw [relabel_id cs2.free]; exact h4) (h8 env) ?_ bd in4) (fun vl s₅ ⟨H₅, f₅, r, qr, x5, hr⟩ => ?_) fun _ _ x => x
        · unfold it2 el2
          simp only [lk_0, lk_s, w_int, w_bool, w_none, w_absent, w_var, w_glob, w_bin, w_cmp, w_neg, w_and, w_ite, w_idx, w_slc, w_tup, w_lst, w_call, w_meth, w_attr, v_cmp, v_and, v_not, v_call, u_nil, u_cons]
          ktr_units
          refine ⟨g, nv gs, rfl, hg, fun v hv => ?_, fun r hr => ⟨r, rfl, (Ext.refl H₄).set hr, PH.set_same _ _ _⟩⟩
          obtain ⟨k, hk, rfl⟩ := List.mem_map.mp hv
          ktr_units
          refine bin_mod ?_ (by decide)
          rfl
        obtain rfl := er_ref qr
        ktr_units
        refine wpAny_items_nil ?_
        have in5 := in4.frm f₅
        have er1 : (nv gs).map modV = ((gs.map (· % 9973)).map fun g : Nat => (g : Int)).map I := by
          rw [List.map_map, List.map_map, List.map_map]
          ktr_units
          refine List.map_congr_left fun k _ => ?_
          show I ((k : Int).fmod 9973) = I ((k % 9973 : Nat) : Int)
          ktr_units
          exact congrArg I (fmod_nat (a := k) (b := 9973))
        rw [er1] at hr
        have z := (sum_lst (C := C) (n := n) (Q := fun v H' => v = I (((gs.map (· % 9973)).sum : Nat) : Int) ∧ H' = H₅) hr (by rw [sum_cast]; exact ⟨rfl, rfl⟩)).ok A s₅ (.builtin "sum") [.ref r] bd in5.keep in5.view rfl rfl
        ktr_units
        refine ⟨z.1, wpAny_mono z.2 (fun v5 s₆ ⟨H₆, f₆, q6, q6'⟩ => ?_) fun _ _ x => x⟩
        subst q6'
        have in6 := in5.frm f₆
        ktr_units
        refine wpAny_mono ((n_add (C := C) (a := 11) (b := (gs.map (· % 9973)).sum) (Q := fun v H' => v = I (((11 + (gs.map (· % 9973)).sum) : Nat) : Int) ∧ H' = H₆) ⟨rfl, rfl⟩).ok A s₆ v3 v5 (bd.mono (Nat.zero_le _)) in6.keep in6.view q4 q6) (fun v6 s₇ ⟨H₇, f₇, q7, q7'⟩ => ?_) fun _ _ x => x
        subst q7'
        have in7 := in6.frm f₇
        ktr_units
        refine wpAny_items_nil ?_
        ktr_units
        refine ⟨by simp [sizeLine_eq], ?_⟩
        have fin := finA (Q := fun v H' => Q v H') (tk := s₇.toks) (ob := ⟨.type "list", none, .seq [.ref g, v2, v6].toArray 0, #[]⟩) (o := .lst [.ref g, I ((0 : Nat) : Int), I (((11 + (gs.map (· % 9973)).sum) : Nat) : Int)]) in7.keep in7.view
          (lst_is (by show [er (.ref g), er v2, er v6] = _; rw [q3, q7]; rfl) (by show 3 ≤ 1048576; lia)) rfl (fun p hp => ?_)
        · obtain ⟨H₈, f₈, q8⟩ := fin
          ktr_units
          exact ⟨H₈, (((((f₂.trans f₃).trans f₄).trans f₅).trans f₆).trans f₇ |>.trans f₈).weak, q8⟩
        · have hg7 := x5.e _ _ hg
          ktr_units
          refine h p _ ((hext.trans x5).set ((hext.trans x5).none hp)) ⟨g, gs, 0, _, PH.set_same _ _ _, set_old hg7 hp, (by rintro rfl; rw [hg7] at hp; cases hp), ?_⟩
          have := sum_le (k := 9973) (gs := gs.map (· % 9973)) fun z hz => by
            obtain ⟨y, _, rfl⟩ := List.mem_map.mp hz
            ktr_units
            exact Nat.le_of_lt (Nat.mod_lt _ (by decide))
          rw [List.length_map] at this
          lia
    · obtain ⟨scope, d1, d2, d3, d4, d5, d6, d7⟩ := env
      dsimp only at hsc
      subst hsc
      show pure (_ && _ && (p1.line == p3.line) && !(sc1.names.any fun (n, k) => n == S "given" && (k == .local || k == .cell))) = pure true
      have e : (sc1.names.any fun (n, k) => n == S "given" && (k == .local || k == .cell)) = false := h6
      rw [e, h5]
      rfl
    · unfold it1 el1
      simp only [lk_0, lk_s, w_int, w_bool, w_none, w_absent, w_var, w_glob, w_bin, w_cmp, w_neg, w_and, w_ite, w_idx, w_slc, w_tup, w_lst, w_call, w_meth, w_attr, v_cmp, v_and, v_not, v_call, u_nil, u_cons]
      ktr_units
      refine slc_to ha fun r hr => ?_
      ktr_units
      refine ⟨r, _, rfl, PH.set_same _ _ _, fun v hv => ?_, fun r2 hr2 => ?_⟩
      · obtain ⟨i, hi, rfl⟩ := List.mem_map.mp (List.mem_of_mem_take hv)
        ktr_units
        exact int_int (abs_int rfl)
      · have e1 : ((xs.map I).take 20).map absV = nv ((xs.take 20).map Int.natAbs) := by
          rw [← List.map_take, nv, List.map_map, List.map_map]
          ktr_units
          refine List.map_congr_left fun i _ => ?_
          show I (if i < 0 then -i else i) = I ((i.natAbs : Nat) : Int)
          congr 1
          split <;> lia
        rw [e1]
        ktr_units
        refine ⟨r2, (xs.take 20).map Int.natAbs, rfl, ?_, PH.set_same _ _ _, by simp; lia⟩
        have y1 : Ext H (H.set r (.lst ((xs.map I).take 20))) := (Ext.refl H).set hr
        ktr_units
        exact y1.set (y1.none hr2)⟩
end
end

section

/-! the law's own sum of a row -/
noncomputable def tms (w : Nat) : Nat → List Nat → List Nat
  | _, [] => []
  | k, d :: ds => d * 2 ^ (w * k) :: tms w (k + 1) ds
theorem tms_len (w : Nat) : ∀ (k : Nat) (ds : List Nat), (tms w k ds).length = ds.length
  | _, [] => rfl
  | k, d :: ds => by rw [tms, List.length_cons, List.length_cons, tms_len w (k + 1) ds]
theorem tms_get (w : Nat) : ∀ (k : Nat) (ds : List Nat) (j d : Nat), ds[j]? = some d → (tms w k ds)[j]? = some (d * 2 ^ (w * (k + j)))
  | _, [], j, d, h => by simp at h
  | k, x :: xs, 0, d, h => by simp at h; subst h; rfl
  | k, x :: xs, j + 1, d, h => by
    rw [tms, List.getElem?_cons_succ, tms_get w (k + 1) xs j d (by simpa using h)]
    congr 4; lia
theorem tms_sum (w : Nat) : ∀ (k : Nat) (ds : List Nat), (tms w k ds).sum = 2 ^ (w * k) * val (2 ^ w) ds
  | _, [] => by simp [tms, val]
  | k, d :: ds => by
    rw [tms, List.sum_cons, tms_sum w (k + 1) ds, val, Nat.mul_add w k 1, Nat.mul_one, Nat.pow_add, Nat.mul_add, Nat.mul_comm d, Nat.mul_assoc]

noncomputable def wSc : Scope := fSc (stAt 57)
theorem whole_body : ∃ (sc : Scope) (p1 p2 p3 p4 p5 p6 p7 p8 p9 p10 p11 p12 p13 p14 p15 p16 p17 p18 : Pos),
    fBody (stAt 57) = [.Return (some (.Call (.Name (S "sum") p1) [.ListComp (.BinOp (.Name (S "limb") p2) .Mult (.BinOp (.Constant (.int 2) 0 p3) .Pow (.BinOp (.Name (S "w") p4) .Mult (.Name (S "at") p5) p6) p7) p8)
      [⟨.Tuple [.Name (S "at") p9, .Name (S "limb") p10] 0 p11, .Call (.Name (S "enumerate") p12) [.Name (S "row") p13] [] p14, [], 0⟩] sc p15] [] p16)) p17] ∧
    sc = { kind := .function, names := [(S ".0", .local), (S "at", .local), (S "limb", .local), (S "w", .free)], isGenerator := false, isCoroutine := false, more := [] } := by
  refine ⟨_, _, _, _, _, _, _, _, _, _, _, _, _, _, _, _, _, _, default, rfl, rfl⟩
theorem wSc_is : wSc.kind = .function ∧ wSc.isCoroutine = false ∧ wSc.isGenerator = false ∧ wSc.names = [(S "row", .local), (S "w", .cell), (S "sum", .globalImplicit), (S "enumerate", .globalImplicit)] := ⟨rfl, rfl, rfl, rfl⟩

section
variable {C : WC} {n : Nat}

theorem wenv_kinds {env : Env} {cl : List (Str × Addr)} {Cc : Addr} {sc : Scope} (hk : env.scope.kind = .function) (hw : env.kindOf (S "w") = some .cell)
    (hsc : sc = { kind := .function, names := [(S ".0", .local), (S "at", .local), (S "limb", .local), (S "w", .free)], isGenerator := false, isCoroutine := false, more := [] }) :
    (compEnvC sc cl Cc env).kindOf (S "w") = some .cell ∧ sc.names.lookup (S "at") = some .local ∧ sc.names.lookup (S "limb") = some .local := by
  subst hsc
  refine ⟨?_, by decide +kernel, by decide +kernel⟩
  have e : (relabel { kind := .function, names := [(S ".0", .local), (S "at", .local), (S "limb", .local), (S "w", .free)], isGenerator := false, isCoroutine := false, more := [] } env).names = [(S ".0", .local), (S "at", .local), (S "limb", .local), (S "w", .cell)] := by
    unfold relabel
    simp only [List.map_cons, List.map_nil]
    rw [hk, hw]; rfl
  show (relabel _ env).names.lookup (S "w") = _
  rw [e]; decide +kernel


noncomputable def wElt (p2 p3 p4 p5 p6 p7 p8 : Pos) : PySem.Expr := .BinOp (.Name (S "limb") p2) .Mult (.BinOp (.Constant (.int 2) 0 p3) .Pow (.BinOp (.Name (S "w") p4) .Mult (.Name (S "at") p5) p6) p7) p8

theorem whole_elt {env : Env} {A : Around} {s : Shared} {c D : Addr} {ys : List Value} {wt : Tok} {w k d : Nat} {p2 p3 p4 p5 p6 p7 p8 : Pos} (eo : EnvOk C env [S "at", S "limb"]) (kW : env.kindOf (S "w") = some .cell) (hcl : env.cells.lookup (S "w") = some c) (hc : s.heap.IsCell c (some (.int w wt)))
    (bd : Bud n A) (i0 : Inn C env [S "at", S "limb"] [some (I (k : Int)), some (I (d : Int))] (noH.set D (.lst ys)) s) (hw : w ≤ 16) (hk : k ≤ 200) (hd : d < 2 ^ 16) :
    WP C A (eval (wElt p2 p3 p4 p5 p6 p7 p8) env) (fun y s' => er y = I ((d * 2 ^ (w * k) : Nat) : Int) ∧ Frm C NoX (noH.set D (.lst ys)) (noH.set D (.lst ys)) s s') s := by
  have hwk : w * k ≤ 16 * 200 := Nat.mul_le_mul hw hk
  have sm : ∀ {y : Nat}, y ≤ 100000 → Sm (y : Int) := fun hy => Sm.nat (m := 17) (by lia) (by decide)
  have b0 : Bud 0 A := bd.mono (Nat.zero_le _)
  unfold wElt
  refine wpAny_BinOp ?_
  obtain ⟨u1, hu1, hl1⟩ := loadLocal (A := A) (i := 1) eo i0 rfl rfl
  refine wpAny_Name (hl1 ?_) (eo.loc 1 _ rfl).2
  refine wpAny_BinOp ?_
  refine wpAny_Constant_int ?_
  generalize hs1 : ({ s with toks := s.toks + 1 } : Shared) = s1
  have f1 : Frm C NoX (noH.set D (.lst ys)) (noH.set D (.lst ys)) s s1 := by rw [← hs1]; exact Frm.grow (h' := s.heap) i0.keep i0.view fun _ _ e => e
  have i1 := i0.frm f1
  have hc1 : s1.heap.IsCell c (some (.int w wt)) := by rw [← hs1]; exact hc
  refine wpAny_BinOp ?_
  refine wpAny_Name (wpAny_loadName_cell eo.kind kW hcl hc1 ?_) (by decide +kernel)
  obtain ⟨u2, hu2, hl2⟩ := loadLocal (A := A) (i := 0) eo i1 rfl rfl
  refine wpAny_Name (hl2 ?_) (eo.loc 0 _ rfl).2
  refine wpAny_mono ((n_mul (C := C) (a := w) (b := k) (Q := fun v H' => v = I ((w * k : Nat) : Int) ∧ H' = noH.set D (.lst ys)) (sm (by lia)) (sm (by lia)) ⟨rfl, rfl⟩).ok A s1 _ u2 b0 i1.keep i1.view rfl hu2) (fun v2 s2 ⟨H2, f2, q2, q2'⟩ => ?_) fun _ _ x => x
  subst q2'
  refine wpAny_mono ((n_pow (C := C) (a := 2) (e := w * k) (Q := fun v H' => v = I ((2 ^ (w * k) : Nat) : Int) ∧ H' = noH.set D (.lst ys)) (by lia) (sm (by decide)) ⟨rfl, rfl⟩).ok A s2 _ v2 b0 f2.keep f2.view rfl q2) (fun v3 s3 ⟨H3, f3, q3, q3'⟩ => ?_) fun _ _ x => x
  subst q3'
  have smp : Sm ((2 ^ (w * k) : Nat) : Int) := Sm.nat (m := 3201) (Nat.pow_lt_pow_right (by decide) (by lia)) (by decide)
  refine wpAny_mono ((n_mul (C := C) (a := d) (b := 2 ^ (w * k)) (Q := fun v H' => v = I ((d * 2 ^ (w * k) : Nat) : Int) ∧ H' = noH.set D (.lst ys)) (Sm.nat (m := 16) hd (by decide)) smp ⟨rfl, rfl⟩).ok A s3 u1 v3 b0 f3.keep f3.view hu1 q3) (fun v4 s4 ⟨H4, f4, q4, q4'⟩ => ?_) fun _ _ x => x
  subst q4'
  exact ⟨q4, ((f1.trans f2).trans f3).trans f4⟩

theorem whole_comp {env : Env} {A : Around} {s : Shared} {H : PH} {a c : Addr} {wt : Tok} {w x : Nat} {sc : Scope} {p2 p3 p4 p5 p6 p7 p8 p9 p10 p11 p12 p13 p14 p15 : Pos} (hw : Wd w) (hx : x < 2 ^ 200) (ha : H a = some (.lst (rw' w x)))
    (hsc : sc = { kind := .function, names := [(S ".0", .local), (S "at", .local), (S "limb", .local), (S "w", .free)], isGenerator := false, isCoroutine := false, more := [] })
    (eo : EnvOk C env [S "row"]) (gle : GlobsE C env GT) (hen : env.scope.names.lookup (S "enumerate") = some .globalImplicit) (kW : env.kindOf (S "w") = some .cell) (hcl : env.cells = [(S "w", c)]) (hc : s.heap.IsCell c (some (.int w wt))) (bd : Bud n A) (i0 : Inn C env [S "row"] [some (.ref a)] H s) :
    WP C A (eval (.ListComp (wElt p2 p3 p4 p5 p6 p7 p8) [⟨.Tuple [.Name (S "at") p9, .Name (S "limb") p10] 0 p11, .Call (.Name (S "enumerate") p12) [.Name (S "row") p13] [] p14, [], 0⟩] sc p15) env)
      (fun v s' => ∃ r, v = .ref r ∧ H r = none ∧ Frm C NoX H (H.set r (.lst (nv (tms w 0 (row (2 ^ w) x))))) s s') s := by
  have hlenr := row_len_two hw.lo hx
  have hscN : sc.names = [(S ".0", .local), (S "at", .local), (S "limb", .local), (S "w", .free)] := by rw [hsc]
  have hclos : closureFor sc env = pure [(S "w", c)] := by
    subst hsc
    have hco : cellOf env (S "w") = pure c := by unfold cellOf; rw [hcl]; rfl
    unfold closureFor
    simp only [List.forIn_cons, List.forIn_nil, show (NameKind.local == NameKind.free) = false from rfl, show (NameKind.free == NameKind.free) = true from rfl, if_true, Bool.false_eq_true, if_false]
    rw [hco]; rfl
  obtain ⟨kWc, kAt, kLi⟩ := wenv_kinds (cl := [(S "w", c)]) (Cc := 0) eo.kind kW hsc
  rw [eval_ListComp]
  refine wpAny_comprehension_free (use := none) rfl (fun _ => rfl) hclos (by rw [hsc]) (fun y hy hl => ?_) ?_
  · rw [hscN] at hy ⊢
    simp only [List.mem_cons, List.not_mem_nil, or_false] at hy
    rcases hy with rfl | rfl | rfl | rfl <;> first | decide +kernel | cases hl
  -- enumerate(row)
  refine Call_ ?_
  obtain ⟨u, hu, hl⟩ := loadGlob (A := A) eo gle i0.keep (x := S "enumerate") (v := .type "enumerate") hen (by decide +kernel)
  obtain rfl := er_type hu
  refine hl ?_
  refine callWith_ok (by rw [star_no rfl]; rfl) ?_
  refine wpAny_items_cons ?_ (star_no rfl _ _)
  obtain ⟨ur, hur, hlr⟩ := loadLocal (A := A) (i := 0) eo i0 rfl rfl
  obtain rfl := er_ref hur
  refine wpAny_Name (hlr ?_) (eo.loc 0 _ rfl).2
  refine wpAny_items_nil ?_
  refine ⟨fun Q' hk => wpAny_pure (hk _), ?_⟩
  obtain ⟨items, m, k1, k2, k3⟩ := i0.view.lst ha
  have hl0 : s.heap.IsList a items := ⟨_, k1, rfl, m, rfl⟩
  refine call_enumerate_1 k1 fun h₁ he hit hz hk₁ => ?_
  refine wpAny_pyIter_enum he ?_
  generalize heE : s.heap.objs.size + 1 = e at *
  generalize hitE : s.heap.objs.size = it at *
  have hei : e ≠ it := by lia
  refine wpAny_newObj_type (hd := by size_fits) ?_
  dsimp only
  generalize hDE : h₁.objs.size = D at *
  have hpush : ∀ b o, h₁.get? b = some o → (h₁.push { cls := .type "list", dict := none, data := .seq ([] : List Value).toArray }).get? b = some o := fun b o e => Heap.get?_push_of_some _ e
  have hD0 : (h₁.push { cls := .type "list", dict := none, data := .seq ([] : List Value).toArray }).get? D = some { cls := .type "list", dict := none, data := .seq ([] : List Value).toArray } := by rw [← hDE]; exact Heap.get?_push_size _ rfl
  have hpsz : (h₁.push { cls := .type "list", dict := none, data := .seq ([] : List Value).toArray }).objs.size = D + 1 := by rw [Heap.size_push, hDE]
  generalize h₁.push { cls := .type "list", dict := none, data := .seq ([] : List Value).toArray } = h₂ at hpush hD0 hpsz ⊢
  refine wpAny_newFunctionEnv (by rw [hscN]; simp) (by intro y hy; simp at hy) (fun h₃ hns₃ hsb₃ => ?_) (by rw [hsc])
  dsimp only at hns₃ hsb₃ ⊢
  rw [hpsz] at hns₃ hsb₃ ⊢
  generalize hCc : D + 1 = Cc at *
  have hDz : D = it + 2 := by lia
  have hup : ∀ b o, b < it → s.heap.get? b = some o → h₃.get? b = some o := fun b o hb e' => hsb₃.extBut b o (show @Ne Nat b Cc by lia) (Heap.get?_push_of_some _ (hpush b o (hk₁ b o e')))
  have hup' : ∀ b o, s.heap.get? b = some o → h₃.get? b = some o := fun b o e' => hup b o (by rw [← hitE]; exact Heap.lt_size e') e'
  have he₃ : IsEnum h₃ e it 0 .none := hsb₃.extBut _ _ (show @Ne Nat e Cc by lia) (Heap.get?_push_of_some _ (hpush _ _ he))
  have hit₃ : h₃.IsListIter it a 0 := hit.at fun o' eo' => hsb₃.extBut _ _ (show @Ne Nat it Cc by lia) (Heap.get?_push_of_some _ (hpush _ _ eo'))
  have hD₃ : h₃.get? D = some { cls := .type "list", dict := none, data := .seq ([] : List Value).toArray } := hsb₃.extBut _ _ (show @Ne Nat D Cc by lia) (Heap.get?_push_of_some _ hD0)
  show codeAny _ _ (.compStart _ 0 (.ref e) (.ref D) (compEnvC sc [(S "w", c)] Cc env)) _ _
  have eoC : EnvOk C (compEnvC sc [(S "w", c)] Cc env) [S "at", S "limb"] := envC_ok eo (by rw [hsc]) (fun i y hy => by
    match i with
    | 0 => simp at hy; subst hy; exact ⟨kAt, by decide +kernel⟩
    | 1 => simp at hy; subst hy; exact ⟨kLi, by decide +kernel⟩
    | i + 2 => simp at hy) (by decide +kernel)
  have kWC : (compEnvC sc [(S "w", c)] Cc env).kindOf (S "w") = some .cell := (wenv_kinds (Cc := Cc) eo.kind kW hsc).1
  have hltc : c < it := by rw [← hitE]; exact hc.lt
  have hlta : a < it := by rw [← hitE]; exact Heap.lt_size k1
  have hbn : ∀ b, it ≤ b → C.hb.get? b = none := fun b hb => i0.keep.none_at (by rw [hitE]; exact hb)
  have hkeep₃ : Keep C h₃ := i0.keep.mono hup'
  generalize htms : tms w 0 (row (2 ^ w) x) = ts
  have hstart : codeAny (model C.prog C.w) A (.compLoop (.ListComp (wElt p2 p3 p4 p5 p6 p7 p8) [⟨.Tuple [.Name (S "at") p9, .Name (S "limb") p10] 0 p11, .Call (.Name (S "enumerate") p12) [.Name (S "row") p13] [] p14, [], 0⟩] sc p15) 0 (.ref e) (.ref D) (compEnvC sc [(S "w", c)] Cc env))
      (compPost (model C.prog C.w) A noE none (fun v s' => ∃ r, v = .ref r ∧ H r = none ∧ Frm C NoX H (H.set r (.lst (nv ts))) s s') (.ref D) Cc) { s with heap := h₃, toks := s.toks + ([] : List (Str × Value)).length } := by
    refine LCp.codeAny_compLoop_pair (fun r s' => ∃ j old v1 v2, r = items.size - j ∧ j ≤ items.size ∧ Same s s' ∧ (∀ b o, b < it → s.heap.get? b = some o → s'.heap.get? b = some o) ∧ IsEnum s'.heap e it ((j : Nat) : Int) old ∧ s'.heap.IsListIter it a j ∧
      Inn C (compEnvC sc [(S "w", c)] Cc env) [S "at", S "limb"] [v1, v2] (noH.set D (.lst (nv (ts.take j)))) s') ?_ items.size
      ⟨0, .none, none, none, rfl, Nat.zero_le _, ⟨rfl, rfl, rfl⟩, hup, he₃, hit₃, ⟨hkeep₃, ⟨fun b o eb => ?_, fun b zs eb => ?_⟩, ⟨rfl, _, hns₃, fun i y hy => ?_⟩, ?_, hbn _ (by show it ≤ Cc; lia)⟩⟩
    rotate_left
    · by_cases hb : b = D
      · subst hb; rw [PH.set_same] at eb; cases eb
        exact ⟨_, hD₃, _, _, rfl, by simp, by simp⟩
      · rw [PH.set_ne _ _ hb] at eb; unfold noH at eb; cases eb
    · by_cases hb : b = D
      · subst hb; exact hbn _ (by lia)
      · rw [PH.set_ne _ _ hb] at eb; unfold noH at eb; cases eb
    · match i with
      | 0 => rfl
      | 1 => rfl
      | i + 2 => simp at hy
    · show (noH.set D _) Cc = none
      rw [PH.set_ne _ _ (show @Ne Nat Cc D by lia)]; rfl
    rintro r s' ⟨j, old, v1, v2, rfl, hj, hsame, hold, he', hit', in'⟩
    have hrow : items.size = (row (2 ^ w) x).length := by rw [len_of k2, nv_len]
    have hl' : s'.heap.IsList a items := by
      obtain ⟨ob, q1, q2⟩ := hl0
      exact ⟨ob, hold _ _ hlta q1, q2⟩
    have hc' : s'.heap.IsCell c (some (.int w wt)) := by
      obtain ⟨ob, q1, q2⟩ := hc
      exact ⟨ob, hold _ _ hltc q1, q2⟩
    have hX : ∀ b, (b = e ∨ b = it) → (noH.set D (.lst (nv (ts.take j)))) b = none ∧ C.hb.get? b = none ∧ b ≠ (compEnvC sc [(S "w", c)] Cc env).locals := fun b hb => by
      rcases hb with rfl | rfl
      · exact ⟨by rw [PH.set_ne _ _ (show @Ne Nat b D by lia)]; rfl, hbn _ (by lia), show @Ne Nat b Cc by lia⟩
      · exact ⟨by rw [PH.set_ne _ _ (show @Ne Nat b D by lia)]; rfl, hbn _ (Nat.le_refl _), show @Ne Nat b Cc by lia⟩
    by_cases hlt : j < items.size
    · obtain ⟨d, hd⟩ : ∃ d, (row (2 ^ w) x)[j]? = some d := ⟨_, List.getElem?_eq_getElem (by lia)⟩
      have hdB := (row_dig hw.two x).get hd
      have h16 : (2 : Nat) ^ w ≤ 2 ^ 16 := Nat.pow_le_pow_right (by decide) hw.hi
      obtain ⟨y, hy, hy'⟩ := get_of k2 (nv_get _ hd)
      refine wpAny_pyNext_enum_item he' hit' hl' hy hei fun h₁ heo hit₁ ht₁ hz₁ hk₁ => ?_
      refine wpAny_letOwnedTupleGo_enum heo fun h₂ he₂ hs₂ => ?_
      replace hs₂ : Heap.SameBut e h₁ h₂ := hs₂
      have heH : e < s'.heap.objs.size := Heap.lt_size he'
      have hne₁ : s'.heap.objs.size ≠ e := Nat.ne_of_gt heH
      have ht₂ : h₂.IsTuple s'.heap.objs.size #[.int j s'.toks, y] := ⟨_, (hs₂.2 _ hne₁).trans ht₁, rfl, _, rfl⟩
      refine wpAny_assign_Tuple bd.hh ht₂ rfl rfl fun h₃ hx₃ => ?_
      replace hx₃ : Heap.ExtBut h₂.objs.size h₂ h₃ := hx₃
      have up : ∀ b o, h₂.get? b = some o → h₃.get? b = some o := fun b o ho => hx₃ b o (Nat.ne_of_lt (Heap.lt_size ho)) ho
      have all : ∀ b o, ¬ (b = e ∨ b = it) → s'.heap.get? b = some o → h₃.get? b = some o := fun b o hb ho =>
        up b o (hs₂.extBut b o (fun q => hb (.inl q)) (hk₁ b o (fun q => hb (.inl q)) (fun q => hb (.inr q)) ho))
      have he₃ : IsEnum h₃ e it ((j : Int) + 1) y := up _ _ he₂
      have hit₃ : h₃.IsListIter it a (j + 1) := (hit₁.extBut hs₂.extBut (Ne.symm hei)).at fun o ho => up _ _ ho
      have i₃ : Inn C (compEnvC sc [(S "w", c)] Cc env) [S "at", S "limb"] [v1, v2] (noH.set D (.lst (nv (ts.take j)))) { s' with heap := h₃, toks := s'.toks + 1 } := in'.sameX hX all
      refine WP.toE (assignOrder eoC [0, 1] [.Name (S "at") p9, .Name (S "limb") p10] [.int j s'.toks, y] [v1, v2] _ _ _ (names2 rfl rfl) rfl i₃ fun s₄ f₄ i₄ => ?_)
      rw [show setMany [v1, v2] [0, 1] (List.map er [.int j s'.toks, y]) = [some (I (j : Int)), some (er y)] from rfl, hy'] at i₄
      obtain ⟨oi, hoi, ri⟩ := id hit₃
      have e₄ := f₄.old e _ (hX e (.inl rfl)).2.2 he₃ (hX e (.inl rfl)).1
      have t₄ := f₄.old it _ (hX it (.inr rfl)).2.2 hoi (hX it (.inr rfl)).1
      have hold4 : ∀ b o, b < it → s.heap.get? b = some o → s₄.heap.get? b = some o := fun b o hb eb =>
        (f₄.old b o (show @Ne Nat b Cc by lia) (all b o (fun q => by rcases q with rfl | rfl <;> lia) (hold b o hb eb)) (by rw [PH.set_ne _ _ (show @Ne Nat b D by lia)]; rfl)).1
      have hc4 : s₄.heap.IsCell c (some (.int w wt)) := by
        obtain ⟨ob, q1, q2⟩ := hc
        exact ⟨ob, hold4 _ _ hltc q1, q2⟩
      refine WP.toE (wpAny_mono (whole_elt (wt := wt) (w := w) (k := j) (d := d) eoC kWC rfl hc4 bd i₄ hw.hi (by lia) (by lia)) (fun z s₅ ⟨q5, f5⟩ => ?_) fun _ _ x => x)
      have i₅ := i₄.frm f5
      have hts : ts[j]? = some (d * 2 ^ (w * j)) := by rw [← htms, tms_get w 0 _ j d hd, Nat.zero_add]
      have hlts : ts.length = items.size := by rw [← htms, tms_len, hrow]
      refine WP.toE (wpAny_mono ((app_lst (C := C) (n := n) (H := noH.set D (.lst (nv (ts.take j)))) (a := D) (x := I ((d * 2 ^ (w * j) : Nat) : Int)) (Q := fun v H' => H' = noH.set D (.lst (nv (ts.take (j + 1))))) (PH.set_same _ _ _) (by rw [nv_len, List.length_take]; unfold cap; lia)
        (by rw [PH.set_set, take_of_get hts]; simp)).ok A s₅ (.builtin "list.append") [.ref D, z] bd i₅.keep i₅.view rfl (by show [er (.ref D), er z] = _; rw [q5]; rfl)).2 (fun u s₆ ⟨H₆, f₆, q6⟩ => ?_) fun _ _ x => x)
      subst q6
      have i₆ := i₅.frm f₆
      have hn : ∀ b, b ≠ D → (noH.set D (.lst (nv (ts.take j)))) b = none := fun b hb => by rw [PH.set_ne _ _ hb]; rfl
      have f46 := f5.trans f₆
      refine ⟨items.size - (j + 1), by lia, j + 1, y, _, _, rfl, hlt, (hsame.trans (⟨f₄.same.gens, f₄.same.drawn, f₄.same.os⟩ : Same s' s₄)).trans f46.same, fun b o hb eb => (f46.old b o (fun q => q) (hold4 b o hb eb) (hn b (show @Ne Nat b D by lia))).1, ?_, ⟨oi, (f46.old it _ (fun q => q) t₄.1 t₄.2).1, ri⟩, i₆⟩
      have : ((j + 1 : Nat) : Int) = (j : Int) + 1 := by push_cast; rfl
      rw [this]; exact (f46.old e _ (fun q => q) e₄.1 e₄.2).1
    · have hjn : j = items.size := by lia
      subst hjn
      refine wpAny_pyNext_enum_end bd.hh he' hit' hl' (by rw [Array.getElem?_eq_none_iff]; exact Nat.le_refl _) fun h' hs => ?_
      obtain ⟨l1, mm, hN, hm⟩ := in'.loc
      have hDD := in'.view.at' D _ (PH.set_same _ _ _)
      obtain ⟨ob, q1, vs, m', rfl, q3, q4⟩ := hDD
      have hlts : ts.length = items.size := by rw [← htms, tms_len, hrow]
      rw [List.take_of_length_le (by lia)] at q3
      refine ⟨mm, hN.at' fun o' ho' => hs _ _ (show @Ne Nat Cc it by lia) ho', fun h'' hs'' => ⟨D, rfl, ?_, ?_⟩⟩
      · exact i0.view.none_of_size _ (by rw [hitE]; lia)
      · have e1 : h''.get? D = some ⟨.type "list", none, .seq vs m', #[]⟩ := hs''.extBut _ _ (show @Ne Nat D Cc by lia) (hs _ _ (show @Ne Nat D it by lia) q1)
        have z := Frm.new' (C := C) (X := NoX) (H := H) (s := s) (h' := h'') (tk := s'.toks) (r := D) (o := .lst (nv ts)) (ob := ⟨.type "list", none, .seq vs m', #[]⟩) i0.keep i0.view (fun b o eb => ?_) e1 (lst_is q3 q4) ?_
        · obtain ⟨hh, g, d, t, os⟩ := s'
          obtain ⟨s1, s2, s3⟩ := hsame
          dsimp only at s1 s2 s3
          subst s1; subst s2; subst s3
          exact z
        · have hb : @LT.lt Nat _ b it := by rw [← hitE]; exact Heap.lt_size eb
          exact hs''.extBut _ _ (show @Ne Nat b Cc by lia) (hs _ _ (show @Ne Nat b it by lia) (hold _ _ hb eb))
        · cases q : s.heap.get? D with
          | none => rfl
          | some o =>
            have hq : @LT.lt Nat _ D it := by rw [← hitE]; exact Heap.lt_size q
            lia
  refine codeAny_compStart_list hstart (wpAny_pyIter_enum he₃ hstart)

theorem law_whole_ok (P : PW C) (X : PX C) : WholeOk C := fun n w x a H Q hw hx ha h =>
  ⟨fun A s f' args' bd kp v ef ea => by
    obtain rfl := er_ref ef
    refine ⟨fun Q' hk => fn_keep X.whole kp Q' hk, ?_⟩
    obtain ⟨a', w', rfl, q1, q2⟩ := two_args ea
    obtain rfl := er_ref q1
    obtain ⟨wt, rfl⟩ := er_int q2
    obtain ⟨o, fd, ho, hd, e1, e2, e3, e4, e5, e6, hcd, hbind⟩ := X.whole.fn
    obtain ⟨w1, w2, w3, w4⟩ := wSc_is
    have e3 : fd.scope = wSc := e3
    have hlim := C.lim.keeps kp.k
    have hcells : ∀ k, cellsFrom k fd.scope.names [] = [(S "w", k)] := fun k => by rw [e3, w4]; rfl
    have kRow : fd.scope.names.lookup (S "row") = some .local := by rw [e3]; decide +kernel
    have kW : fd.scope.names.lookup (S "w") = some .cell := by rw [e3]; decide +kernel
    refine wpAny_call (codeAny_call_cells (binds := [(S "row", .ref a), (S "w", .int w wt)]) bd.depth0 (kp.k _ _ ho) hd hlim (by rw [e1]; exact hcd.keeps kp.k) e2 (hbind _ rfl) e5 (fun y hy => ?_) (fun s₁ IC => ?_) (by rw [e3]; exact w2) (by rw [e3]; exact w3) (by rw [e3]; exact w1))
    · rcases List.mem_cons.mp hy with rfl | hy
      · exact .inl kRow
      · rcases List.mem_cons.mp hy with rfl | hy
        · exact .inr ⟨kW, by rw [hcells]; rfl⟩
        · cases hy
    have hscope : (callEnvC fd s.heap.objs.size a_law_whole).scope = wSc := e3
    have hglob : (callEnvC fd s.heap.objs.size a_law_whole).globals = mainGlobals := e4
    have hblt : (callEnvC fd s.heap.objs.size a_law_whole).builtins = builtinsNs := e6
    have hloc : (callEnvC fd s.heap.objs.size a_law_whole).locals = s.heap.objs.size := rfl
    have hcl : (callEnvC fd s.heap.objs.size a_law_whole).cells = [(S "w", s.heap.objs.size + 1)] := hcells _
    generalize callEnvC fd s.heap.objs.size a_law_whole = env at *
    have kRow' : env.kindOf (S "row") = some .local := by show env.scope.names.lookup _ = _; rw [hscope, ← e3]; exact kRow
    have kW' : env.kindOf (S "w") = some .cell := by show env.scope.names.lookup _ = _; rw [hscope, ← e3]; exact kW
    have eo : EnvOk C env [S "row"] := ⟨by rw [hscope]; exact w1, hglob, hblt, fun i y hy => by
      cases i with
      | zero => simp at hy; subst hy; exact ⟨kRow', by decide +kernel⟩
      | succ i => simp at hy, by simp⟩
    obtain ⟨IC1, IC2, IC3, IC4⟩ := IC
    obtain ⟨⟨g₁, tk₁, rfl⟩, hns, hkeep, _⟩ := IC1
    have f0 : Frm C NoX H H s { s with heap := g₁, toks := tk₁ } := Frm.grow kp v hkeep
    have hcell : g₁.IsCell (s.heap.objs.size + 1) (some (.int w wt)) := by
      have z := IC2 (S "w") (s.heap.objs.size + 1) (by rw [hcl]; rfl)
      have hb : bindC env.kindOf [(S "row", .ref a), (S "w", .int w wt)] (fun _ => none) (S "w") = some (.int w wt) := by
        unfold bindC; rw [if_pos kRow']
        unfold bindC; rw [if_neg (by rw [kW']; decide)]
        unfold bindC; exact if_pos rfl
      rw [hb] at z; exact z
    have hrow : bindL env.kindOf [(S "row", .ref a), (S "w", .int w wt)] (fun _ => none) (S "row") = some (.ref a) := by
      unfold bindL; rw [if_pos kRow']
      unfold bindL; rw [if_neg (by rw [kW']; decide)]
      unfold bindL; exact if_pos rfl
    have in0 : Inn C env [S "row"] [some (.ref a)] H { s with heap := g₁, toks := tk₁ } := ⟨f0.keep, f0.view, ⟨rfl, _, hns, fun i y hy => by
      cases i with
      | zero => simp at hy; subst hy; rw [hrow]; rfl
      | succ i => simp at hy⟩, by rw [hloc]; exact v.none_of_size _ (Nat.le_refl _), by rw [hloc]; exact kp.none_at (Nat.le_refl _)⟩
    have bd' : Bud (n + 2) (A.deeper env) := bd.deeper env
    obtain ⟨sc, p1, p2, p3, p4, p5, p6, p7, p8, p9, p10, p11, p12, p13, p14, p15, p16, p17, p18, hbody, hsc⟩ := whole_body
    rw [hbody]
    generalize hs1 : ({ s with heap := g₁, toks := tk₁ } : Shared) = s₁ at *
    have hcell1 : s₁.heap.IsCell (s.heap.objs.size + 1) (some (.int w wt)) := by rw [← hs1]; exact hcell
    generalize A.deeper env = A' at *
    have gle : GlobsE C env GT := P.gl.toE fun x v hx hk => by
      have hk' : env.scope.names.lookup x = some .cell := hk
      rw [hscope, w4] at hk'
      have hm := mem_of_lookup hk'
      simp only [List.mem_cons, Prod.mk.injEq, List.not_mem_nil, or_false, reduceCtorEq, and_false, false_or, and_true] at hm
      subst hm
      have : GT.lookup (S "w") = none := by decide +kernel
      rw [this] at hx; cases hx
    have main : WP C A' (execs [.Return (some (.Call (.Name (S "sum") p1) [.ListComp (.BinOp (.Name (S "limb") p2) .Mult (.BinOp (.Constant (.int 2) 0 p3) .Pow (.BinOp (.Name (S "w") p4) .Mult (.Name (S "at") p5) p6) p7) p8)
      [⟨.Tuple [.Name (S "at") p9, .Name (S "limb") p10] 0 p11, .Call (.Name (S "enumerate") p12) [.Name (S "row") p13] [] p14, [], 0⟩] sc p15] [] p16)) p17] env) (fun fl s' => ∃ v, fl = Flow.ret v ∧ ∃ H', Frm C NoX H H' s₁ s' ∧ Q (er v) H') s₁ := by
      refine wpAny_execs_cons (wpAny_Return_some ?_)
      refine Call_ ?_
      obtain ⟨u, hu, hl⟩ := loadGlob (A := A') eo gle in0.keep (x := S "sum") (v := .builtin "sum") (by show env.scope.names.lookup _ = _; rw [hscope]; decide +kernel) (by decide +kernel)
      obtain rfl := er_builtin hu
      refine hl ?_
      refine callWith_ok (by rw [star_no rfl]; rfl) ?_
      refine wpAny_items_cons ?_ (star_no rfl _ _)
      refine wpAny_mono (whole_comp hw hx ha hsc eo gle (by rw [hscope]; decide +kernel) kW' hcl hcell1 bd' in0) (fun vl s₂ ⟨r, q2, hr, f₂⟩ => ?_) fun _ _ x => x
      subst q2
      refine wpAny_items_nil ?_
      have hsum : (tms w 0 (row (2 ^ w) x)).sum = x := by rw [tms_sum, Nat.mul_zero, Nat.pow_zero, Nat.one_mul, row_val hw.two]
      have er1 : nv (tms w 0 (row (2 ^ w) x)) = ((tms w 0 (row (2 ^ w) x)).map fun g : Nat => (g : Int)).map I := by rw [List.map_map]; rfl
      have z := (sum_lst (C := C) (n := n) (a := r) (is := (tms w 0 (row (2 ^ w) x)).map fun g : Nat => (g : Int)) (H := H.set r (.lst (nv (tms w 0 (row (2 ^ w) x))))) (Q := Q) (by rw [PH.set_same, er1]) (by rw [sum_cast, hsum]; exact h _ ((Ext.refl H).set hr))).ok A' s₂ (.builtin "sum") [.ref r] (bd'.mono (by lia)) f₂.keep f₂.view rfl rfl
      refine ⟨z.1, wpAny_mono z.2 (fun v5 s₃ ⟨H₃, f₃, q3⟩ => ?_) fun _ _ x => x⟩
      exact ⟨v5, rfl, H₃, f₂.trans f₃, q3⟩
    refine WP.toE (wpAny_mono main (fun fl s' hz => ?_) fun _ _ x => x)
    obtain ⟨v, rfl, H', f', q'⟩ := hz
    exact ⟨H', f0.trans f', q'⟩⟩
end
end

section


section
variable {C : WC} {n : Nat} {H : PH} {Q : Value → PH → Prop}

/-! what is read of a heap -/
noncomputable def dRow (ds : List Nat) : PyData := .list ((ds.map fun d : Nat => (d : Int)).map PyData.int)
theorem ints_reads (h : Heap) : ∀ (vs : List Value) (ds : List Nat), vs.map er = nv ds → ∃ as, ReadsAll h vs ((ds.map fun d : Nat => (d : Int)).map PyData.int) as
  | [], [], _ => ⟨_, .nil⟩
  | [], _ :: _, e => by cases e
  | _ :: _, [], e => by cases e
  | v :: vs, d :: ds, e => by
    rw [List.map_cons, nv, List.map_cons, List.cons.injEq] at e
    obtain ⟨t, rfl⟩ := er_int e.1
    obtain ⟨as, r⟩ := ints_reads h vs ds e.2
    ktr_units
    exact ⟨_, .cons (.int _ t) r⟩
theorem rd_row {h : Heap} (v : View C H h) {a : Addr} {ds : List Nat} (e : H a = some (.lst (nv ds))) : ∃ as, Reads h (.ref a) (dRow ds) as := by
  obtain ⟨ob, h1, vs, m, rfl, h2, h3⟩ := v.at' a _ e
  obtain ⟨as, r⟩ := ints_reads h _ _ h2
  ktr_units
  exact ⟨_, .list h1 rfl rfl r⟩
noncomputable def dSV (w : Nat) (z : Int) : PyData := .tuple [.bool (decide (z < 0)), dRow (row (2 ^ w) z.natAbs)]
theorem rd_sv {h : Heap} {w : Nat} (v : View C H h) {t : Addr} {z : Int} (s : SV w H t z) : ∃ as, Reads h (.ref t) (dSV w z) as := by
  obtain ⟨r, e1, e2⟩ := s.ex
  obtain ⟨as, ra⟩ := rd_row v e2
  obtain ⟨ob, h1, vs, m, rfl, h2, h3⟩ := v.at' t _ e1
  obtain ⟨x, y, hvs, q1, q2⟩ := two_args h2
  obtain rfl := er_bool q1
  obtain rfl := er_ref q2
  ktr_units
  exact ⟨_, .tuple h1 rfl rfl (by rw [hvs]; exact .cons (.bool _) (.cons ra .nil))⟩
noncomputable def dAll (w : Nat) (P Qq T : Int) : PyData := .tuple [dSV w P, dRow (row (2 ^ w) Qq.natAbs), dSV w T]
theorem rd_all {h : Heap} {w : Nat} (v : View C H h) {t tp rb tt : Addr} {P Qq T : Int} (e : H t = some (.tup [.ref tp, .ref rb, .ref tt])) (s1 : SV w H tp P) (s2 : H rb = some (.lst (rw' w Qq.natAbs))) (s3 : SV w H tt T) : ∃ as, Reads h (.ref t) (dAll w P Qq T) as := by
  obtain ⟨as1, r1⟩ := rd_sv v s1
  obtain ⟨as2, r2⟩ := rd_row v s2
  obtain ⟨as3, r3⟩ := rd_sv v s3
  obtain ⟨ob, h1, vs, m, rfl, h2, h3⟩ := v.at' t _ e
  obtain ⟨p, l, hvs, e1, e2⟩ := List.map_eq_cons_iff.mp h2
  obtain ⟨x, y, rfl, q1, q2⟩ := two_args e2
  obtain rfl := er_ref e1
  obtain rfl := er_ref q1
  obtain rfl := er_ref q2
  ktr_units
  exact ⟨_, .tuple h1 rfl rfl (by rw [hvs]; exact .cons r1 (.cons r2 (.cons r3 .nil)))⟩
theorem dRow_shaped (ds : List Nat) : SeqAt.shaped (dRow ds) = true := ke_shaped_ints _
theorem dRow_can (ds : List Nat) : (dRow ds).canLay0 = true := SeqAt.canLay_of_shaped (dRow_shaped ds)
theorem dRow_depth (ds : List Nat) : (dRow ds).depth = 1 := by unfold dRow; rw [PyData.depth, ke_depthAll]
theorem dAll_shaped (w : Nat) (P Qq T : Int) : SeqAt.shaped (dAll w P Qq T) = true := by
  simp [dAll, dSV, SeqAt.shaped, PyData.canLay0, PyData.canLayAll0, PyData.depth, PyData.depthAll, dRow_can, dRow_depth]
noncomputable def sRow : Spec.Shape := .list .int
noncomputable def sSV : Spec.Shape := .tuple [.bool, sRow]
noncomputable def sAll : Spec.Shape := .tuple [sSV, sRow, sSV]
theorem dRow_has (ds : List Nat) : sRow.has (dRow ds) = true := list_map_has fun _ => rfl
theorem dSV_has (w : Nat) (z : Int) : sSV.has (dSV w z) = true := by
  have := dRow_has (row (2 ^ w) z.natAbs)
  unfold sSV dSV
  simp [Spec.Shape.hasAll, Spec.Shape.has, this]
theorem dAll_has (w : Nat) (P Qq T : Int) : sAll.has (dAll w P Qq T) = true := by
  have h1 := dRow_has (row (2 ^ w) Qq.natAbs)
  have h2 := dSV_has w P
  have h3 := dSV_has w T
  unfold sAll dAll
  simp only [Spec.Shape.hasAll, Spec.Shape.has, h1, h2, h3]
  rfl

theorem Bud.room {A : Around} (b : Bud 0 A) : A.units + 64 < cLine := by have := b.units; show A.units + 64 < 9900; lia

theorem cmp_all {w : Nat} {t tp rb tt t' tp' rb' tt' : Addr} {P Qq T : Int} (e : H t = some (.tup [.ref tp, .ref rb, .ref tt])) (s1 : SV w H tp P) (s2 : H rb = some (.lst (rw' w Qq.natAbs))) (s3 : SV w H tt T)
    (e' : H t' = some (.tup [.ref tp', .ref rb', .ref tt'])) (s1' : SV w H tp' P) (s2' : H rb' = some (.lst (rw' w Qq.natAbs))) (s3' : SV w H tt' T) (h : Q (.bool true) H) : CmpOk C .Eq (.ref t) (.ref t') H Q :=
  ⟨fun A s a' b' bd k v ea eb => by
    obtain rfl := er_ref ea
    obtain rfl := er_ref eb
    obtain ⟨as, r⟩ := rd_all v e s1 s2 s3
    obtain ⟨bs, r'⟩ := rd_all v e' s1' s2' s3'
    ktr_units
    exact eq_dataH_same r r' (dAll_shaped ..) (dAll_shaped ..) bd.room (SeqAt.noMix_of_shape sAll rfl _ _ (dAll_has ..) (dAll_has ..)) (by rw [Spec.same_self]; exact ⟨H, Frm.refl k v, h⟩)⟩
theorem cmp_row {a b : Addr} {ds : List Nat} (e : H a = some (.lst (nv ds))) (e' : H b = some (.lst (nv ds))) (h : Q (.bool true) H) : CmpOk C .Eq (.ref a) (.ref b) H Q :=
  ⟨fun A s a' b' bd k v ea eb => by
    obtain rfl := er_ref ea
    obtain rfl := er_ref eb
    obtain ⟨as, r⟩ := rd_row v e
    obtain ⟨bs, r'⟩ := rd_row v e'
    ktr_units
    exact eq_dataH_same r r' (dRow_shaped _) (dRow_shaped _) bd.room (SeqAt.noMix_of_shape sRow rfl _ _ (dRow_has _) (dRow_has _)) (by rw [Spec.same_self]; exact ⟨H, Frm.refl k v, h⟩)⟩
theorem cmp_row_ne {a b : Addr} {ds : List Nat} (e : H a = some (.lst (nv ds))) (e' : H b = some (.lst (nv ds))) (h : Q (.bool false) H) : CmpOk C .NotEq (.ref a) (.ref b) H Q :=
  ⟨fun A s a' b' bd k v ea eb => by
    obtain rfl := er_ref ea
    obtain rfl := er_ref eb
    obtain ⟨as, r⟩ := rd_row v e
    obtain ⟨bs, r'⟩ := rd_row v e'
    ktr_units
    exact ne_dataH_same r r' (dRow_shaped _) (dRow_shaped _) bd.room (SeqAt.noMix_of_shape sRow rfl _ _ (dRow_has _) (dRow_has _)) (by rw [Spec.same_self]; exact ⟨H, Frm.refl k v, h⟩)⟩
theorem cmp_none (h : Q (.bool true) H) : CmpOk C .Eq .none .none H Q :=
  ⟨fun A s a' b' bd k v ea eb => by
    obtain rfl := er_none ea
    obtain rfl := er_none eb
    ktr_units
    exact EqNone.eq_none_none ⟨H, Frm.refl k v, h⟩⟩

/-! the terms, as the law has them -/
noncomputable def sNg (form : Nat) : Bool := match form with | 0 => false | _ => true
noncomputable def sP (form k : Nat) : Nat := match form with | 0 => 1 | 1 => 2 * k - 1 | _ => cP k
noncomputable def sQ (form x k : Nat) : Nat := match form with | 0 => k | 1 => (2 * k + 1) * x * x | _ => cQq k
noncomputable def sA (form k : Nat) : Nat := match form with | 0 => 1 | 1 => 1 | _ => cA k

theorem law_term_ok (P : PW C) {form x k : Nat} (hf : form < 3) (hx : x < 20) (hk : 1 ≤ k) (hk2 : k ≤ 30) (h : ∀ t H', Ext H H' → H' t = some (.tup [I (sg (sNg form) (sP form k)), I ((sQ form x k : Nat) : Int), I ((sA form k : Nat) : Int)]) → Q (.ref t) H') :
    CallOk C (n + 1) (.ref a_law_term) [I (form : Int), I (x : Int), I (k : Int)] H Q := by
  ktr_units
  refine fn_ok P.f_law_term P.gl so_law_term is_law_term rfl ?_
  show pSs C n b_law_term [some (I (form : Int)), some (I (x : Int)), some (I (k : Int))] H _ Q
  unfold b_law_term
  have sm : ∀ {y : Nat}, y < 2 ^ 100 → Sm (y : Int) := fun hy => Sm.nat (m := 100) hy (by decide)
  have sms : ∀ {y : Nat}, y ≤ 10000000 → Sm (y : Int) := fun hy => sm (by lia)
  ktr_unf
  match form, hf with
  | 0, _ =>
    ktr_units
    refine t_eq (fun _ => ?_) fun h0 => absurd rfl h0
    ktr_unf
    ktr_units
    refine ⟨show _ ≤ 1048576 by simp, fun t ht => h t _ ((Ext.refl H).set ht) ?_⟩
    rw [PH.set_same]; rfl
  | 1, _ =>
    ktr_units
    refine t_eq (fun h0 => by cases h0) fun _ => ?_
    ktr_unf
    ktr_units
    refine t_eq (fun _ => ?_) fun h0 => absurd rfl h0
    ktr_unf
    have a1 : (2 * k + 1) * x ≤ 61 * 20 := Nat.mul_le_mul (by lia) (by lia)
    ktr_units
    refine n_mul (sms (by lia)) (sms (by lia)) (bin_sub (n_mul (sms (by lia)) (sms (by lia)) (n_add (n_mul (sms (by lia)) (sms (by lia)) (n_mul (sms (by lia)) (sms (by lia)) ?_)))))
    ktr_units
    refine ⟨show _ ≤ 1048576 by simp, fun t ht => h t _ ((Ext.refl H).set ht) ?_⟩
    rw [PH.set_same]
    have e1 : ((1 : Nat) : Int) - ((2 * k : Nat) : Int) = sg (sNg 1) (sP 1 k) := by
      show _ = (if true = true then -((2 * k - 1 : Nat) : Int) else _)
      rw [if_pos rfl]; lia
    rw [e1]; rfl
  | 2, _ =>
    ktr_units
    refine t_eq (fun h0 => by cases h0) fun _ => ?_
    ktr_unf
    ktr_units
    refine t_eq (fun h0 => by cases h0) fun _ => ?_
    ktr_unf
    have a1 : (6 * k - 5) * (2 * k - 1) ≤ 180 * 60 := Nat.mul_le_mul (by lia) (by lia)
    have a2 : k ^ 3 ≤ 30 ^ 3 := Nat.pow_le_pow_left hk2 3
    ktr_units
    refine n_mul (sms (by lia)) (sms (by lia)) (n_sub (by lia) (n_mul (sms (by lia)) (sms (by lia)) (n_sub (by lia) (n_mul (sms (by lia)) (sms (by lia)) (n_mul (sms (by lia)) (sms (by lia)) (n_sub (by lia) (n_mul (sms (by lia)) (sms (by lia)) (bin_sub ?_))))))))
    ktr_units
    refine n_pow (by decide) (sms (by decide)) (n_div (by decide) (sms (by decide)) (n_pow (by decide) (sms (by lia)) (n_mul (sm (by decide)) (sms (by lia)) ?_)))
    ktr_units
    refine n_mul (sm (by decide)) (sms (by lia)) (n_add ?_)
    ktr_units
    refine ⟨show _ ≤ 1048576 by simp, fun t ht => h t _ ((Ext.refl H).set ht) ?_⟩
    rw [PH.set_same]
    have e1 : ((0 : Nat) : Int) - (((6 * k - 5) * (2 * k - 1) * (6 * k - 1) : Nat) : Int) = sg (sNg 2) (sP 2 k) := by
      show _ = (if true = true then -((cP k : Nat) : Int) else _)
      rw [if_pos rfl, cP, Nat.mul_assoc]; lia
    have e2 : 640320 ^ 3 / 24 * k ^ 3 = sQ 2 x k := by
      show _ = cQq k
      unfold cQq
      have : 640320 ^ 3 / 24 = cQ := by decide
      rw [this, Nat.pow_succ, Nat.pow_succ, Nat.pow_one, Nat.mul_comm cQ, Nat.mul_assoc k k k]
    rw [e1, e2]; rfl
end
end

section


section
variable {C : WC} {n : Nat} {H : PH}

theorem abs_nat {z : Int} : (if z < 0 then -z else z) = ((z.natAbs : Nat) : Int) := by split <;> lia

theorem pieces_tail (P : PW C) {w form x b L hi : Nat} {pool ser : Addr} {HP : PH → Prop} (hw : Wd w) (so : SerOk C w ser HP (sNg form) (sP form) (sQ form x) (sA form) 1 hi) (hH : HP H) (hf : form < 3) (hx : x < 20) (hb : 1 ≤ b) (hL : 1 ≤ L) (hL2 : L ≤ 10) (hhi : b + L ≤ hi) (hbL : b + L ≤ 30)
    {N : Lo → PH → Prop} {R : Value → PH → Prop} (h : ∀ H', Ext H H' → R (.bool true) H') :
    pSs C (n + 180) (PSs.tl (PSs.tl (PSs.tl (PSs.tl b_law_pieces_right)))) [some (.ref pool), some (I (w : Int)), some (I (form : Int)), some (I (x : Int)), some (I (b : Int)), some (I ((b + L : Nat) : Int)), some (.ref ser), none, none, none, none, none, none, none, none, none] H N R := by
  unfold PSs.tl b_law_pieces_right
  dsimp only
  have bnd : ∀ m, m ≤ L → ∀ k, b ≤ k → k < b + m → (sg (sNg form) (sP form k)).natAbs ≤ 2 ^ 64 ∧ ((sQ form x k : Nat) : Int).natAbs ≤ 2 ^ 64 ∧ ((sA form k : Nat) : Int).natAbs ≤ 2 ^ 64 := by
    ktr_units
    intro m hm k h1 h2
    have := so.bnd k (by lia) (by lia)
    rw [sg_abs]; exact ⟨this.1, by simpa using this.2.1, by simpa using this.2.2⟩
  generalize hPf : (fun k => sg (sNg form) (sP form k)) = Pf
  generalize hQf : (fun k => ((sQ form x k : Nat) : Int)) = Qf
  generalize hAf : (fun k => ((sA form k : Nat) : Int)) = Af
  have eP : ∀ k, sg (sNg form) (sP form k) = Pf k := fun k => by rw [← hPf]
  have eQ : ∀ k, ((sQ form x k : Nat) : Int) = Qf k := fun k => by rw [← hQf]
  have eA : ∀ k, ((sA form k : Nat) : Int) = Af k := fun k => by rw [← hAf]
  have bnd' : ∀ m, m ≤ L → ∀ k, b ≤ k → k < b + m → (Pf k).natAbs ≤ 2 ^ 64 ∧ (Qf k).natAbs ≤ 2 ^ 64 ∧ (Af k).natAbs ≤ 2 ^ 64 := by
    ktr_units
    intro m hm k h1 h2
    have := bnd m hm k h1 h2
    rw [eP, eQ, eA] at this; exact this
  have sm64 : ∀ {z : Int}, z.natAbs ≤ 2 ^ 64 → Sm z := fun hz => Sm.of (m := 65) (Nat.lt_of_le_of_lt hz (by decide)) (by decide)
  have pw : ∀ {z : Int} {j : Nat}, z.natAbs ≤ 2 ^ j → j ≤ 800 → Sm z := fun {z j} hz hj => Sm.of (m := j + 1) (Nat.lt_of_le_of_lt hz (Nat.pow_lt_pow_right (by decide) (by lia))) (by lia)
  have smP : ∀ {F : Nat → Int} {m}, m ≤ L → (∀ k, b ≤ k → k < b + m → (F k).natAbs ≤ 2 ^ 64) → Sm (PB F b m) := fun {F m} hm hF => pw (PB_le hF) (by lia)
  have smT : ∀ {m}, m ≤ L → Sm (TB Pf Qf Af b m) := fun {m} hm => by
    have h1 := TB_le (bnd' m hm)
    ktr_units
    refine pw (j := 64 * (m + 1) + 4) ?_ (by lia)
    rw [Nat.pow_add, Nat.mul_comm (2 ^ (64 * (m + 1)))]
    ktr_units
    exact Nat.le_trans h1 (Nat.mul_le_mul_right _ (by lia))
  ktr_unf
  ktr_units
  refine ⟨_, _, _, RangeOf.two _ _ (by lia) (by lia) (by lia) (by lia), fun m σ H' => ∃ v10 v11 v12 v13, σ = [some (.ref pool), some (I (w : Int)), some (I (form : Int)), some (I (x : Int)), some (I (b : Int)), some (I ((b + L : Nat) : Int)), some (.ref ser), some (I (PB Pf b m)), some (I (PB Qf b m)), some (I (TB Pf Qf Af b m)), v10, v11, v12, v13, none, none] ∧ Ext H H' ∧ m ≤ L,
    ⟨none, none, none, none, rfl, Ext.refl H, by lia⟩, ?_, ?_⟩
  · ktr_units
    rintro m σ H' hm ⟨v10, v11, v12, v13, rfl, x1, hmL⟩
    have hm' : m < L := by lia
    have e0 : (b : Int) + (m : Int) * 1 = ((b + m : Nat) : Int) := by lia
    rw [e0]
    ktr_unf
    ktr_units
    refine CallOk.mono (law_term_ok P (n := n) hf hx (k := b + m) (by lia) (by lia) fun t H2 x2 ht => ?_) (by lia) fun _ _ q => q
    rw [eP, eQ, eA] at ht
    ktr_units
    refine ⟨t, _, rfl, ht, rfl, ?_⟩
    ktr_unf
    have hb1 := bnd' (m + 1) hm' (b + m) (by lia) (by lia)
    ktr_units
    refine bin_mul ?_ (smP hmL fun k h1 h2 => (bnd' m hmL k h1 h2).1) (sm64 hb1.1)
    ktr_units
    refine bin_mul ?_ (smP hmL fun k h1 h2 => (bnd' m hmL k h1 h2).2.1) (sm64 hb1.2.1)
    ktr_unf
    ktr_units
    refine bin_mul ?_ (smT hmL) (sm64 hb1.2.1)
    ktr_units
    refine bin_mul ?_ (sm64 hb1.2.2) (smP (m := m + 1) hm' fun k h1 h2 => (bnd' (m + 1) hm' k h1 h2).1)
    ktr_units
    refine bin_add ?_
    ktr_units
    exact ⟨_, _, _, _, rfl, x1.trans x2, hm'⟩
  · ktr_units
    rintro σ H' ⟨v10, v11, v12, v13, rfl, x1, hmL⟩
    have ecnt : (((b + L : Nat) : Int) - (b : Int)).toNat = L := by lia
    rw [ecnt]
    ktr_unf
    ktr_units
    refine CallOk.mono (split_sum_ok P hw so L n b H' _ (so.mono _ _ x1 hH) hL (by lia) hb hhi (by lia) fun t tp rb tt H2 x2 ht hp hrb hs => ?_) (show n + L + 70 ≤ n + 180 by lia) fun _ _ q => q
    rw [hPf] at hp
    rw [hQf] at hrb
    rw [hPf, hQf, hAf] at hs
    ktr_unf
    have fP : (PB Pf b L).natAbs < 2 ^ kT := fit_PB (by lia) fun k h1 h2 => (bnd' L (Nat.le_refl _) k h1 h2).1
    have fQ : (PB Qf b L).natAbs < 2 ^ kT := fit_PB (by lia) fun k h1 h2 => (bnd' L (Nat.le_refl _) k h1 h2).2.1
    have fT : (TB Pf Qf Af b L).natAbs < 2 ^ kT := fit_TB (by lia) (bnd' L (Nat.le_refl _))
    have q0 : 0 ≤ PB Qf b L := PB_nonneg fun k h1 h2 => by rw [← eQ]; exact Int.natCast_nonneg _
    generalize PB Pf b L = zP at *
    generalize PB Qf b L = zQ at *
    generalize TB Pf Qf Af b L = zT at *
    ktr_units
    refine cmp_lt (abs_int ?_)
    rw [abs_nat]
    ktr_units
    refine CallOk.mono (law_row_ok P (n := n) hw (Fit.of fP kT_le) fun r1 H3 x3 hr1 => ?_) (by lia) fun _ _ q => q
    ktr_units
    refine ⟨show _ ≤ 1048576 by simp, fun t1 ht1 => ?_⟩
    have y1 : Ext H3 (H3.set t1 (.tup [.bool (decide (zP < ((0 : Nat) : Int))), .ref r1])) := (Ext.refl H3).set ht1
    have eq : (zQ : Int) = ((zQ.natAbs : Nat) : Int) := by lia
    rw [eq]
    ktr_units
    refine CallOk.mono (law_row_ok P (n := n) hw (Fit.of fQ kT_le) fun r2 H4 x4 hr2 => ?_) (by lia) fun _ _ q => q
    ktr_units
    refine cmp_lt (abs_int ?_)
    rw [abs_nat]
    ktr_units
    refine CallOk.mono (law_row_ok P (n := n) hw (Fit.of fT kT_le) fun r3 H5 x5 hr3 => ?_) (by lia) fun _ _ q => q
    ktr_units
    refine ⟨show _ ≤ 1048576 by simp, fun t3 ht3 => ⟨show _ ≤ 1048576 by simp, fun t4 ht4 => ?_⟩⟩
    have y3 : Ext H5 (H5.set t3 (.tup [.bool (decide (zT < ((0 : Nat) : Int))), .ref r3])) := (Ext.refl H5).set ht3
    have y4 := y3.set (o := .tup [.ref t1, .ref r2, .ref t3]) (y3.none ht4)
    have z4 := ((y1.trans x4).trans x5).trans y4
    have z3 := x3.trans z4
    ktr_unf
    have b1 : ∀ z : Int, decide (z < ((0 : Nat) : Int)) = decide (z < 0) := fun z => rfl
    ktr_units
    exact cmp_all (P := zP) (Qq := zQ) (T := zT) (z3.e _ _ ht) (hp.ext z3) (z3.e _ _ hrb) (hs.ext z3) (PH.set_same _ _ _) (SV.of (r := r1) (((x4.trans x5).trans y4).e _ _ (PH.set_same _ _ _)) (z4.e _ _ hr1) (b1 zP).symm rfl) ((x5.trans y4).e _ _ hr2)
      (SV.of (r := r3) (set_old (PH.set_same _ _ _) ht4) (y4.e _ _ hr3) (b1 zT).symm rfl) (h _ (((x1.trans x2).trans x3).trans z4))

theorem pieces_ok (P : PW C) (p : PK C) {w : Nat} {pool : Addr} {Q : Value → PH → Prop} (hw : Wd w) (hp : Pool H pool) (hB : Base H) (h : ∀ H', ExtB pool H H' → Pool H' pool → Base H' → Q (.bool true) H') : CallOk C (n + 181) (.ref a_law_pieces_right) [.ref pool, I (w : Int)] H Q := by
  ktr_units
  refine fn_ok P.f_law_pieces_right P.gl so_law_pieces_right is_law_pieces_right rfl ?_
  show pSs C (n + 180) (.cons (PSs.hd b_law_pieces_right) (.cons (PSs.hd (PSs.tl b_law_pieces_right)) (.cons (PSs.hd (PSs.tl (PSs.tl b_law_pieces_right))) (.cons (PSs.hd (PSs.tl (PSs.tl (PSs.tl b_law_pieces_right)))) (PSs.tl (PSs.tl (PSs.tl (PSs.tl b_law_pieces_right)))))))) [some (.ref pool), some (I (w : Int)), none, none, none, none, none, none, none, none, none, none, none, none, none, none] H _ Q
  have tail := @pieces_tail C n
  generalize PSs.tl (PSs.tl (PSs.tl (PSs.tl b_law_pieces_right))) = tl at tail ⊢
  unfold PSs.hd PSs.tl b_law_pieces_right
  ktr_unf
  ktr_units
  refine CallOk.mono (law_draw_ok P (n := n) (m := 3) (by decide) hp fun form H1 hf p1 e1 => ?_) (by lia) fun _ _ q => q
  ktr_units
  refine CallOk.mono (law_draw_ok P (n := n) (m := 6) (by decide) p1 fun x0 H2 hx p2 e2 => ?_) (by lia) fun _ _ q => q
  ktr_units
  refine n_add ?_
  ktr_unf
  ktr_units
  refine CallOk.mono (law_draw_ok P (n := n) (m := 4) (by decide) p2 fun b0 H3 hb p3 e3 => ?_) (by lia) fun _ _ q => q
  ktr_units
  refine n_add ?_
  ktr_unf
  ktr_units
  refine n_add ?_
  have e13 := (e1.trans e2).trans e3
  have hB3 : Base H3 := hB.extB hp e13
  have rest : ∀ (m : Nat), m ≤ 9 → (2 ≤ form → m ≤ 3) → 0 < m → CallOk C (n + 180) (.ref 365) [.ref pool, I (m : Int)] H3 fun b H4 => BinOk C .Add (I ((1 + b0 + 1 : Nat) : Int)) b H4 fun v H5 =>
      CallOk C (n + 180) (.ref 172) [] H5 fun v0 H6 => CallOk C (n + 180) (.ref 200) [I ((2 + x0 : Nat) : Int)] H6 fun v1 H7 => CallOk C (n + 180) (.ref 221) [] H7 fun v2 H8 =>
        [v0, v1, v2].length ≤ cap ∧ ∀ r, H8 r = none → IdxOk C (.ref r) (I (form : Int)) (H8.set r (.lst [v0, v1, v2])) fun s H9 =>
          pSs C (n + 180) tl [some (.ref pool), some (I (w : Int)), some (I (form : Int)), some (I ((2 + x0 : Nat) : Int)), some (I ((1 + b0 : Nat) : Int)), some v, some s, none, none, none, none, none, none, none, none, none] H9 (fun _ H' => Q .none H') Q := by
    ktr_units
    intro m hm9 hm3 hm0
    ktr_units
    refine CallOk.mono (law_draw_ok P (n := n) hm0 p3 fun d H4 hd p4 e4 => ?_) (by lia) fun _ _ q => q
    ktr_units
    refine n_add ?_
    ktr_units
    refine CallOk.mono (new_plain p (n := n) p.e p.e0 fun i0 H5 x5 hi0 => ?_) (by lia) fun _ _ q => q
    ktr_units
    refine CallOk.mono (new_arctan p (n := n) (x := 2 + x0) fun i1 H6 x6 hi1 => ?_) (by lia) fun _ _ q => q
    ktr_units
    refine CallOk.mono (new_plain p (n := n) p.c p.c0 fun i2 H7 x7 hi2 => ?_) (by lia) fun _ _ q => q
    ktr_units
    refine ⟨show _ ≤ 1048576 by simp, fun r hr => ?_⟩
    have y8 : Ext H7 (H7.set r (.lst [.ref i0, .ref i1, .ref i2])) := (Ext.refl H7).set hr
    have z8 := ((x5.trans x6).trans x7).trans y8
    have p8 := p4.ext z8
    have e14 := e13.trans e4
    have hB4 : Base H4 := hB.extB hp e14
    have fin : ∀ H', Ext (H7.set r (.lst [.ref i0, .ref i1, .ref i2])) H' → Q (.bool true) H' := fun H' x9 => by
      have e19 := e14.trans ((z8.trans x9).toB pool)
      ktr_units
      exact h H' e19 (p8.ext x9) (hB.extB hp e19)
    have eL : 1 + b0 + 1 + d = (1 + b0) + (1 + d) := by lia
    rw [eL]
    match form, hf, hm3 with
    | 0, _, _ =>
      ktr_units
      refine n_idx (PH.set_same _ _ _) (v := .ref i0) rfl ?_
      ktr_units
      exact tail P hw (euler_ser P p hw) (hi0.ext ((x6.trans x7).trans y8)) (by decide) (by lia) (by lia) (by lia) (by lia) (by lia) (by lia) fin
    | 1, _, _ =>
      ktr_units
      refine n_idx (PH.set_same _ _ _) (v := .ref i1) rfl ?_
      ktr_units
      exact tail P hw (arctan_ser P p (x := 2 + x0) hw (by lia) (by lia)) (hi1.ext (x7.trans y8)) (by decide) (by lia) (by lia) (by lia) (by lia) (by lia) (by lia) fin
    | 2, _, hm3 =>
      ktr_units
      refine n_idx (PH.set_same _ _ _) (v := .ref i2) rfl ?_
      have := hm3 (Nat.le_refl _)
      ktr_units
      exact tail P hw (chud_ser P p hw) ⟨hi2.ext y8, hB4.ext z8⟩ (by decide) (by lia) (by lia) (by lia) (by lia) (by lia) (by lia) fin
  ktr_units
  refine t_lt (fun hlt => ?_) fun hge => ?_
  · rw [if_pos rfl]
    ktr_units
    exact rest 9 (by decide) (fun q => by lia) (by decide)
  · rw [if_neg (by decide)]
    ktr_units
    exact rest 3 (by decide) (fun _ => by decide) (by decide)
end
end

section

/-- the square root, for the check -/
noncomputable def rtl : Nat → Nat → Nat → Nat
  | 0, x, _ => x
  | f + 1, x, N => if N < x * x then rtl f ((x + N / x) / 2) N else x
noncomputable def rt (N : Nat) : Nat := rtl 100 (2 ^ 50) N
theorem rt_only {N s t : Nat} (h1 : s * s ≤ N) (h2 : N < (s + 1) * (s + 1)) (h3 : t * t ≤ N) (h4 : N < (t + 1) * (t + 1)) : s = t := by
  rcases Nat.lt_trichotomy s t with h | h | h
  · have := Nat.mul_le_mul (show s + 1 ≤ t from h) (show s + 1 ≤ t from h); omega
  · exact h
  · have := Nat.mul_le_mul (show t + 1 ≤ s from h) (show t + 1 ≤ s from h); omega

/-- the law's two bounds -/
noncomputable abbrev Btw (x : Nat) (near : Int) : Prop := x < 2 ^ 200 ∧ (x : Int) * 2 ^ 40 ≤ near + 4096 ∧ near - 4096 < ((x : Int) + 2) * 2 ^ 40
noncomputable def lPi (n : Nat) : Int := 24 * lA 8 (n + 40) + 8 * lA 57 (n + 40) + 4 * lA 239 (n + 40)

set_option maxHeartbeats 4000000
theorem chk_tE : ∀ k, k < 101 → 1 ≤ tE k ∧ tE k ≤ 100 := by decide +kernel
theorem chk_e : ∀ n, n < 25 → Btw (eV n) (lE (n + 40) : Int) := by decide +kernel
theorem chk_a : ∀ n, n < 25 → ∀ x, x < 14 → tA (2 + x) n ≤ 100 ∧ Btw (aV (2 + x) n) (lA (2 + x) (n + 40)) := by decide +kernel
theorem chk_m : ∀ n, n < 25 → tA 5 (n + 8) ≤ 100 ∧ tA 239 (n + 8) ≤ 100 ∧ (aV 239 (n + 8) + 2) * 2 ^ 2 ≤ aV 5 (n + 8) * 2 ^ 4 ∧ Btw (mV n) (lPi n) := by decide +kernel
theorem chk_c : ∀ n, n < 25 → cSum (cL n) ≠ 0 ∧ rt (cN n) * rt (cN n) ≤ cN n ∧ cN n < (rt (cN n) + 1) * (rt (cN n) + 1) ∧ 1 ≤ 426880 * rt (cN n) * cB (cL n) / cSum (cL n) ∧ Btw (cV n (rt (cN n))) (lPi n) := by decide +kernel
theorem chk_d : ∀ d, d < 8 → tE (bl (10 ^ d) + 8) ≤ 100 ∧ eV (bl (10 ^ d) + 8) * 10 ^ d / 2 ^ (bl (10 ^ d) + 8) = (eV (bl (10 ^ d) + 8) + 2) * 10 ^ d / 2 ^ (bl (10 ^ d) + 8) ∧ eV (bl (10 ^ d) + 8) * 10 ^ d / 2 ^ (bl (10 ^ d) + 8) = 10 ^ d * lE 100 / 2 ^ 100 := by decide +kernel
theorem chk_l : lE 100 < 2 ^ 200 ∧ ∀ d, d < 8 → 10 ^ d * lE 100 / 2 ^ 100 < 2 ^ 200 := by decide +kernel
theorem chk_ll : ∀ n, n < 25 → (lA 8 (n + 40)).natAbs < 2 ^ 100 ∧ (lA 57 (n + 40)).natAbs < 2 ^ 100 ∧ (lA 239 (n + 40)).natAbs < 2 ^ 100 := by decide +kernel
end

section


noncomputable def lNs : List Str := [S "script", S "pool", S "n", S "x", S "near", S "told", S "digits", S "due", S "found", S "value", S "size", S "least", S "most"]
noncomputable def lw1 : PSs := (.cons (.asg 1 (.call (.glob (S "_law_pool") (.ref 370)) (.cons (.call (.glob (S "list") (.type "list")) (.cons (.var 0) .nil)) .nil))) .nil)
noncomputable def lwE : PE := (.bin .Add (.int 6) (.call (.glob (S "_law_draw") (.ref 365)) (.cons (.var 1) (.cons (.int 4) .nil))))
noncomputable def lwA (w : Nat) : PSs := (.cons (.ifs (.not (.call (.glob (S "_law_pieces_right") (.ref 403)) (.cons (.var 1) (.cons (.glob (S "w") (I ((w : Nat) : Int))) .nil)))) (.cons (.ret (.bool false)) .nil) .nil) (.cons (.asgD [2, 3] (.cons (.call (.glob (S "_law_draw") (.ref 365)) (.cons (.var 1) (.cons (.int 25) .nil))) (.cons (.bin .Add (.int 2) (.call (.glob (S "_law_draw") (.ref 365)) (.cons (.var 1) (.cons (.int 14) .nil)))) .nil))) (.cons (.ifs (.not (.call (.glob (S "_law_between") (.ref 431)) (.cons (.call (.glob (S "e_bits") (.ref 260)) (.cons (.var 2) (.cons (.glob (S "w") (I ((w : Nat) : Int))) (.cons (.glob (S "mul_school") (.ref 316)) (.cons (.glob (S "divrem_school") (.ref 358)) .nil))))) (.cons (.glob (S "w") (I ((w : Nat) : Int))) (.cons (.var 2) (.cons (.call (.glob (S "_law_euler") (.ref 417)) (.cons (.bin .Add (.var 2) (.int 40)) .nil)) .nil)))))) (.cons (.ret (.bool false)) .nil) .nil) (.cons (.ifs (.not (.call (.glob (S "_law_between") (.ref 431)) (.cons (.call (.glob (S "arctan_bits") (.ref 274)) (.cons (.var 3) (.cons (.var 2) (.cons (.glob (S "w") (I ((w : Nat) : Int))) (.cons (.glob (S "mul_school") (.ref 316)) (.cons (.glob (S "divrem_school") (.ref 358)) .nil)))))) (.cons (.glob (S "w") (I ((w : Nat) : Int))) (.cons (.var 2) (.cons (.call (.glob (S "_law_arctan") (.ref 410)) (.cons (.var 3) (.cons (.bin .Add (.var 2) (.int 40)) .nil))) .nil)))))) (.cons (.ret (.bool false)) .nil) .nil) (.cons (.asg 4 (.bin .Add (.bin .Add (.bin .Mult (.int 24) (.call (.glob (S "_law_arctan") (.ref 410)) (.cons (.int 8) (.cons (.bin .Add (.var 2) (.int 40)) .nil)))) (.bin .Mult (.int 8) (.call (.glob (S "_law_arctan") (.ref 410)) (.cons (.int 57) (.cons (.bin .Add (.var 2) (.int 40)) .nil))))) (.bin .Mult (.int 4) (.call (.glob (S "_law_arctan") (.ref 410)) (.cons (.int 239) (.cons (.bin .Add (.var 2) (.int 40)) .nil)))))) (.cons (.ifs (.cmp .Eq (.call (.glob (S "_law_draw") (.ref 365)) (.cons (.var 1) (.cons (.int 2) .nil))) (.int 0)) (.cons (.asg 5 (.call (.glob (S "pi_machin") (.ref 281)) (.cons (.var 2) (.cons (.glob (S "w") (I ((w : Nat) : Int))) (.cons (.glob (S "mul_school") (.ref 316)) (.cons (.glob (S "divrem_school") (.ref 358)) .nil)))))) .nil) (.cons (.asg 5 (.call (.glob (S "pi_chudnovsky") (.ref 288)) (.cons (.var 2) (.cons (.glob (S "w") (I ((w : Nat) : Int))) (.cons (.glob (S "mul_school") (.ref 316)) (.cons (.glob (S "divrem_school") (.ref 358)) (.cons (.glob (S "_law_root") (.ref 424)) .nil))))))) .nil)) (.cons (.ifs (.not (.call (.glob (S "_law_between") (.ref 431)) (.cons (.var 5) (.cons (.glob (S "w") (I ((w : Nat) : Int))) (.cons (.var 2) (.cons (.var 4) .nil)))))) (.cons (.ret (.bool false)) .nil) .nil) (.cons (.asg 6 (.call (.glob (S "_law_draw") (.ref 365)) (.cons (.var 1) (.cons (.int 8) .nil)))) (.cons (.asg 7 (.bin .FloorDiv (.bin .Mult (.bin .Pow (.int 10) (.var 6)) (.call (.glob (S "_law_euler") (.ref 417)) (.cons (.int 100) .nil))) (.bin .Pow (.int 2) (.int 100)))) .nil)))))))))
noncomputable def lwB (w : Nat) : PSs := (.cons (.ifs (.cmp .NotEq (.var 8) (.call (.glob (S "_law_row") (.ref 377)) (.cons (.var 7) (.cons (.glob (S "w") (I ((w : Nat) : Int))) .nil)))) (.cons (.ret (.bool false)) .nil) .nil) (.cons (.asgD [9, 10] (.cons (.call (.glob (S "_law_draw") (.ref 365)) (.cons (.var 1) (.cons (.bin .Pow (.int 10) (.int 6)) .nil))) (.cons (.bin .Add (.int 8) (.call (.glob (S "_law_draw") (.ref 365)) (.cons (.var 1) (.cons (.int 8) .nil)))) .nil))) (.cons (.asgD [11, 12] (.cons (.bin .FloorDiv (.bin .Mult (.var 9) (.bin .Pow (.int 10) (.var 6))) (.bin .Pow (.int 2) (.var 10))) (.cons (.bin .FloorDiv (.bin .Mult (.bin .Add (.var 9) (.int 2)) (.bin .Pow (.int 10) (.var 6))) (.bin .Pow (.int 2) (.var 10))) .nil))) (.cons (.asg 5 (.call (.glob (S "settled_digits") (.ref 302)) (.cons (.call (.glob (S "_law_row") (.ref 377)) (.cons (.var 9) (.cons (.glob (S "w") (I ((w : Nat) : Int))) .nil))) (.cons (.var 10) (.cons (.var 6) (.cons (.glob (S "w") (I ((w : Nat) : Int))) (.cons (.glob (S "mul_school") (.ref 316)) .nil))))))) (.cons (.ret (.cmp .Eq (.var 5) (.ite (.cmp .Eq (.var 11) (.var 12)) (.call (.glob (S "_law_row") (.ref 377)) (.cons (.var 11) (.cons (.glob (S "w") (I ((w : Nat) : Int))) .nil))) .none))) .nil)))))
-- 0 pool = _law_pool(list(script))
-- 1 w = 6 + _law_draw(pool, 4)
-- 2 if not _law_pieces_right(pool, w):
-- 3 n, x = (_law_draw(pool, 25), 2 + _law_draw(pool, 14))
-- 4 if not _law_between(e_bits(n, w, mul_school, divrem_school), w, n, _law_euler(n + 40)):
-- 5 if not _law_between(arctan_bits(x, n, w, mul_school, divrem_school), w, n, _law_arctan(x, n + 40)):
-- 6 near = 24 * _law_arctan(8, n + 40) + 8 * _law_arctan(57, n + 40) + 4 * _law_arctan(239, n + 40)
-- 7 if _law_draw(pool, 2) == 0:
-- 8 if not _law_between(told, w, n, near):
-- 9 digits = _law_draw(pool, 8)
-- 10 due = 10 ** digits * _law_euler(100) // 2 ** 100
-- 11 found = digits_of(lambda size: e_bits(size, w, mul_school, divrem_school), digits, w, mul_school)
-- 12 if found != _law_row(due, w):
-- 13 value, size = (_law_draw(pool, 10 ** 6), 8 + _law_draw(pool, 8))
-- 14 least, most = (value * 10 ** digits // 2 ** size, (value + 2) * 10 ** digits // 2 ** size)
-- 15 told = settled_digits(_law_row(value, w), size, digits, w, mul_school)
-- 16 return told == (_law_row(least, w) if least == most else None)
noncomputable def lSc : Scope := fSc (stAt 65)
noncomputable def lBody : List Stmt := fBody (stAt 65)
/-- the globals, and the cell -/
noncomputable def GTw (w : Nat) : List (Str × Value) := (S "w", I ((w : Nat) : Int)) :: GT
theorem is_lw1 : isSs lSc lNs GT lw1 (lBody.take 1) = true := by decide +kernel
theorem is_lwE : ∃ x p1 p2, lBody[1]? = some (.Assign [.Name (S "w") p1] x p2) ∧ isE lSc lNs GT lwE x = true ∧ noComp x = true := ⟨_, _, _, rfl, by decide +kernel, by decide +kernel⟩
theorem is_lwA : ∀ d, d < 4 → isSs lSc lNs (GTw (6 + d)) (lwA (6 + d)) ((lBody.drop 2).take 9) = true := by decide +kernel
theorem is_lwB : ∀ d, d < 4 → isSs lSc lNs (GTw (6 + d)) (lwB (6 + d)) (lBody.drop 12) = true := by decide +kernel
theorem is_ll : lBody.length = 17 := by decide +kernel

/-- what the law keeps -/
structure LI (H : PH) (pool : Addr) : Prop where
  pool : Pool H pool
  base : Base H
  tab : H 433 = some (.raw (tabObj #[]))
theorem LI.ext {H H' : PH} {p : Addr} (x : LI H p) (e : Ext H H') : LI H' p := ⟨x.pool.ext e, x.base.ext e, e.e _ _ x.tab⟩
theorem LI.step {H H' : PH} {p : Addr} (x : LI H p) (hp : Pool H' p) (e : ExtB p H H') : LI H' p := by
  obtain ⟨g, gs, i, s, h1, h2, h3⟩ := x.pool.ex
  ktr_units
  exact ⟨hp, x.base.extB x.pool e, e.e _ _ (by rintro rfl; rw [x.tab] at h1; cases h1) x.tab⟩

section
variable {C : WC} {n : Nat} {H : PH}

theorem wd6 {d : Nat} (h : d < 4) : Wd (6 + d) := ⟨by lia, by lia⟩

theorem lawA_ok (P : PW C) (p : PK C) (WO : WholeOk C) {w : Nat} {pool : Addr} {sv : Value} {N : Lo → PH → Prop} {R : Value → PH → Prop} (hw : Wd w) (hI : LI H pool)
    (h : ∀ (nn x near d : Option Value) (told : Option Value) (dd : Nat) H', dd < 8 → LI H' pool → N [some sv, some (.ref pool), nn, x, near, told, some (I (dd : Int)), some (I ((10 ^ dd * lE 100 / 2 ^ 100 : Nat) : Int)), none, none, none, none, none] H') :
    pSs C (n + 185) (lwA w) [some sv, some (.ref pool), none, none, none, none, none, none, none, none, none, none, none] H N R := by
  unfold lwA
  have sm : ∀ {y : Nat}, y ≤ 100000 → Sm (y : Int) := fun hy => Sm.nat (m := 17) (by lia) (by decide)
  ktr_unf
  ktr_units
  refine CallOk.mono (pieces_ok P p (n := n) hw hI.pool hI.base fun H1 e1 p1 b1 => ?_) (by lia) fun _ _ q => q
  have I1 := hI.step p1 e1
  ktr_units
  refine ⟨true, rfl, ?_⟩
  ktr_unf
  -- n, x
  ktr_units
  refine CallOk.mono (law_draw_ok P (n := n) (m := 25) (by decide) I1.pool fun nn H2 hn p2 e2 => ?_) (by lia) fun _ _ q => q
  have I2 := I1.step p2 e2
  ktr_units
  refine CallOk.mono (law_draw_ok P (n := n) (m := 14) (by decide) I2.pool fun x H3 hx p3 e3 => ?_) (by lia) fun _ _ q => q
  have I3 := I2.step p3 e3
  ktr_units
  refine n_add ?_
  ktr_unf
  -- e
  have ce := chk_e nn hn
  have cte := chk_tE nn (by lia)
  ktr_units
  refine CallOk.mono (e_bits_ok P p (n := n) hw (by lia) cte.1 cte.2 fun r4 H4 x4 hr4 => ?_) (by lia) fun _ _ q => q
  ktr_units
  refine n_add ?_
  ktr_units
  refine CallOk.mono (law_euler_ok P (n := n) (k := nn + 40) (by lia) ?_) (by lia) fun _ _ q => q
  ktr_units
  refine CallOk.mono (law_between_ok P WO (n := n) hw ce.1 hr4 ce.2.1 ce.2.2 fun H5 x5 => ?_) (by lia) fun _ _ q => q
  ktr_units
  refine ⟨true, rfl, ?_⟩
  have I5 := (I3.ext x4).ext x5
  ktr_unf
  -- the arc tangent
  have ca := chk_a nn hn x hx
  ktr_units
  refine CallOk.mono (arctan_bits_ok P p (n := n) (x := 2 + x) hw (by lia) (by lia) (by lia) ca.1 fun r6 H6 x6 hr6 => ?_) (by lia) fun _ _ q => q
  ktr_units
  refine n_add ?_
  ktr_units
  refine CallOk.mono (law_arctan_ok P (n := n) (x := 2 + x) (k := nn + 40) (by lia) (by lia) (by lia) ?_) (by lia) fun _ _ q => q
  ktr_units
  refine CallOk.mono (law_between_ok P WO (n := n) hw ca.2.1 hr6 ca.2.2.1 ca.2.2.2 fun H7 x7 => ?_) (by lia) fun _ _ q => q
  ktr_units
  refine ⟨true, rfl, ?_⟩
  have I7 := (I5.ext x6).ext x7
  ktr_unf
  -- near
  have cl := chk_ll nn hn
  have smA : ∀ {z : Int}, z.natAbs < 2 ^ 100 → Sm z := fun hz => Sm.of (m := 100) hz (by decide)
  ktr_units
  refine n_add (CallOk.mono (law_arctan_ok P (n := n) (x := 8) (k := nn + 40) (by decide) (by decide) (by lia) ?_) (by lia) fun _ _ q => q)
  ktr_units
  refine bin_mul ?_ (sm (by decide)) (smA cl.1)
  ktr_units
  refine n_add (CallOk.mono (law_arctan_ok P (n := n) (x := 57) (k := nn + 40) (by decide) (by decide) (by lia) ?_) (by lia) fun _ _ q => q)
  ktr_units
  refine bin_mul ?_ (sm (by decide)) (smA cl.2.1)
  ktr_units
  refine bin_add ?_
  ktr_units
  refine n_add (CallOk.mono (law_arctan_ok P (n := n) (x := 239) (k := nn + 40) (by decide) (by decide) (by lia) ?_) (by lia) fun _ _ q => q)
  ktr_units
  refine bin_mul ?_ (sm (by decide)) (smA cl.2.2)
  ktr_units
  refine bin_add ?_
  have enear : ((24 : Nat) : Int) * lA 8 (nn + 40) + ((8 : Nat) : Int) * lA 57 (nn + 40) + ((4 : Nat) : Int) * lA 239 (nn + 40) = lPi nn := rfl
  rw [enear]
  ktr_unf
  -- the rest, behind told
  have rest : ∀ (r : Addr) (v : Nat) (H8 : PH), LI H8 pool → H8 r = some (.lst (rw' w v)) → Btw v (lPi nn) →
      CallOk C (n + 185) (.ref 431) [.ref r, I (w : Int), I (nn : Int), I (lPi nn)] H8 fun v H =>
        ∃ c, v = .bool c ∧ if (!c) = true then R (.bool false) H else
          CallOk C (n + 185) (.ref 365) [.ref pool, I ((8 : Nat) : Int)] H fun d H => BinOk C .Pow (I ((10 : Nat) : Int)) d H fun a H =>
            CallOk C (n + 185) (.ref 417) [I ((100 : Nat) : Int)] H fun b H => BinOk C .Mult a b H fun a H => BinOk C .Pow (I ((2 : Nat) : Int)) (I ((100 : Nat) : Int)) H fun b H => BinOk C .FloorDiv a b H fun u H =>
              N [some sv, some (.ref pool), some (I (nn : Int)), some (I ((2 + x : Nat) : Int)), some (I (lPi nn)), some (.ref r), some d, some u, none, none, none, none, none] H := by
    ktr_units
    intro r v H8 I8 hr hbt
    ktr_units
    refine CallOk.mono (law_between_ok P WO (n := n) hw hbt.1 hr hbt.2.1 hbt.2.2 fun H9 x9 => ?_) (by lia) fun _ _ q => q
    ktr_units
    refine ⟨true, rfl, ?_⟩
    rw [if_neg (by decide)]
    have I9 := I8.ext x9
    ktr_units
    refine CallOk.mono (law_draw_ok P (n := n) (m := 8) (by decide) I9.pool fun dd Ha hd pa ea => ?_) (by lia) fun _ _ q => q
    have Ia := I9.step pa ea
    have h10 : 10 ^ dd < 2 ^ 24 := ten_lt (by lia)
    have hl := chk_l.1
    ktr_units
    refine n_pow (by lia) (sm (by decide)) (CallOk.mono (law_euler_ok P (n := n) (k := 100) (by decide) ?_) (by lia) fun _ _ q => q)
    ktr_units
    refine n_mul (Sm.nat (m := 24) h10 (by decide)) (Sm.nat (m := 200) hl (by decide)) (n_pow (by decide) (sm (by decide)) (n_div (by decide) (Sm.nat (m := 101) (by decide) (by decide)) ?_))
    ktr_units
    exact h _ _ _ none _ dd Ha hd Ia
  ktr_units
  refine CallOk.mono (law_draw_ok P (n := n) (m := 2) (by decide) I7.pool fun b H8 hb p8 e8 => ?_) (by lia) fun _ _ q => q
  have I8 := I7.step p8 e8
  ktr_units
  refine t_eq (fun h0 => ?_) fun h0 => ?_
  · ktr_unf
    have cm := chk_m nn hn
    ktr_units
    refine CallOk.mono (pi_machin_ok P p (n := n) (k := nn) hw (by lia) cm.1 cm.2.1 cm.2.2.1 I8.base fun r9 H9 x9 hr9 => ?_) (by lia) fun _ _ q => q
    ktr_units
    exact rest r9 (mV nn) H9 (I8.ext x9) hr9 cm.2.2.2
  · ktr_unf
    have cc := chk_c nn hn
    ktr_units
    refine CallOk.mono (pi_chudnovsky_ok P p WO (n := n) (k := nn) hw (by lia) cc.1 (fun s h1 h2 => by rw [rt_only h1 h2 cc.2.1 cc.2.2.1]; exact cc.2.2.2.1) I8.base fun s r9 H9 h1 h2 x9 hr9 => ?_) (by lia) fun _ _ q => q
    have es : s = rt (cN nn) := rt_only h1 h2 cc.2.1 cc.2.2.1
    rw [es] at hr9
    ktr_units
    exact rest r9 (cV nn (rt (cN nn))) H9 (I8.ext x9) hr9 cc.2.2.2.2

theorem lawB_ok (P : PW C) {w dd : Nat} {pool r : Addr} {sv : Value} {v2 v3 v4 v5 : Option Value} {N : Lo → PH → Prop} {R : Value → PH → Prop} (hw : Wd w) (hp : Pool H pool) (hd : dd < 8) (hr : H r = some (.lst (rw' w (10 ^ dd * lE 100 / 2 ^ 100)))) (hnp : r ≠ pool)
    (h : ∀ H', ExtB pool H H' → R (.bool true) H') :
    pSs C (n + 185) (lwB w) [some sv, some (.ref pool), v2, v3, v4, v5, some (I (dd : Int)), some (I ((10 ^ dd * lE 100 / 2 ^ 100 : Nat) : Int)), some (.ref r), none, none, none, none] H N R := by
  unfold lwB
  have sm : ∀ {y : Nat}, y ≤ 100000 → Sm (y : Int) := fun hy => Sm.nat (m := 17) (by lia) (by decide)
  have hdue := chk_l.2 dd hd
  have h10 : 10 ^ dd < 2 ^ 24 := ten_lt (by lia)
  ktr_unf
  ktr_units
  refine CallOk.mono (law_row_ok P (n := n) hw (Fit.of hdue (by unfold fitK; lia)) fun r1 H1 x1 hr1 => ?_) (by lia) fun _ _ q => q
  ktr_units
  refine cmp_row_ne (x1.e _ _ hr) hr1 ⟨false, rfl, ?_⟩
  ktr_unf
  ktr_units
  refine n_pow (by decide) (sm (by decide)) ?_
  ktr_units
  refine CallOk.mono (law_draw_ok P (n := n) (m := 10 ^ 6) (by decide) (hp.ext x1) fun value H2 hv p2 e2 => ?_) (by lia) fun _ _ q => q
  ktr_units
  refine CallOk.mono (law_draw_ok P (n := n) (m := 8) (by decide) p2 fun sz H3 hs p3 e3 => ?_) (by lia) fun _ _ q => q
  ktr_units
  refine n_add ?_
  ktr_unf
  have hv20 : value < 2 ^ 20 := Nat.lt_of_lt_of_le hv (by decide)
  have smv : Sm ((value : Nat) : Int) := Sm.nat (m := 20) hv20 (by decide)
  have smv2 : Sm ((value + 2 : Nat) : Int) := Sm.nat (m := 21) (by lia) (by decide)
  have sm10 : Sm ((10 ^ dd : Nat) : Int) := Sm.nat (m := 24) h10 (by decide)
  have h2s : 2 ^ (8 + sz) ≠ 0 := Nat.ne_of_gt (Nat.two_pow_pos _)
  have sm2s : Sm ((2 ^ (8 + sz) : Nat) : Int) := Sm.nat (m := 17) (Nat.pow_lt_pow_right (by decide) (by lia)) (by decide)
  ktr_units
  refine n_pow (by lia) (sm (by decide)) (n_mul smv sm10 (n_pow (by lia) (sm (by decide)) (n_div h2s sm2s ?_)))
  ktr_units
  refine n_add (n_pow (by lia) (sm (by decide)) (n_mul smv2 sm10 (n_pow (by lia) (sm (by decide)) (n_div h2s sm2s ?_))))
  ktr_unf
  have e13 := (x1.toB pool).trans (e2.trans e3)
  ktr_units
  refine CallOk.mono (law_row_ok P (n := n) hw (Fit.of hv20 (by unfold fitK; lia)) fun r4 H4 x4 hr4 => ?_) (by lia) fun _ _ q => q
  have hlt : value * 10 ^ dd < 2 ^ 44 := Nat.lt_of_lt_of_le (Nat.mul_lt_mul'' hv20 h10) (by decide)
  ktr_units
  refine CallOk.mono (settled_digits_ok P (n := n) (k := 8 + sz) (d := dd) hw hv20 (by decide) (by lia) (by lia) hr4 (fun heq r5 H5 x5 hr5 => ?_) fun hne H5 x5 => ?_) (by lia) fun _ _ q => q
  · ktr_unf
    ktr_units
    refine t_eq (fun _ => ?_) fun hne => absurd heq hne
    ktr_unf
    ktr_units
    refine CallOk.mono (law_row_ok P (n := n) hw (Fit.of (k := 44) (Nat.lt_of_le_of_lt (Nat.div_le_self _ _) hlt) (by unfold fitK; lia)) fun r6 H6 x6 hr6 => ?_) (by lia) fun _ _ q => q
    ktr_units
    refine cmp_row (x6.e _ _ hr5) hr6 ?_
    ktr_units
    exact h H6 (e13.trans (((x4.trans x5).trans x6).toB pool))
  · ktr_unf
    ktr_units
    refine t_eq (fun heq => absurd heq hne) fun _ => ?_
    ktr_unf
    ktr_units
    refine cmp_none ?_
    ktr_units
    exact h H5 (e13.trans ((x4.trans x5).toB pool))
end
end

section

section
variable {C : WC} {env : Env} {ns : List Str} {GT : List (Str × Value)} {n : Nat}

/-- a segment, and what comes behind it -/
theorem sApp (eo : EnvOk C env ns) (gl : GlobsE C env GT) (hint : interactive env = false) : ∀ (p : PSs) (xs ys : List Stmt) (σ : Lo) (H : PH) (N : Lo → PH → Prop) (R : Value → PH → Prop), isSs env.scope ns GT p xs = true → pSs C n p σ H N R →
    ∀ (A : Around) (s : Shared), Bud n A → Inn C env ns σ H s → ∀ (Qf : Flow → Shared → Prop),
      (∀ σ' H' s', Frm C (AtX env.locals) H H' s s' → Inn C env ns σ' H' s' → N σ' H' → WP C A (execs ys env) Qf s') → (∀ v s' H', Frm C (AtX env.locals) H H' s s' → R (er v) H' → Qf (.ret v) s') → WP C A (execs (xs ++ ys) env) Qf s
  | .nil, xs, ys, σ, H, N, R, hx, h, A, s, bd, i0, Qf, hn, hr => onNil_inv xs hx (hn σ H s (Frm.refl i0.keep i0.view) i0 h)
  | .cons p r, xs, ys, σ, H, N, R, hx, h, A, s, bd, i0, Qf, hn, hr => onCons_inv xs hx fun x xs hx => and_k hx fun h1 h2 =>
    wpAny_execs_cons (postN (sS eo gl hint p x σ H _ R h1 h A s bd i0) (fun s₁ σ₁ H₁ f₁ i₁ g₁ =>
      sApp eo gl hint r xs ys σ₁ H₁ N R h2 g₁ A s₁ bd i₁ Qf (fun σ' H' s' f' i' n' => hn σ' H' s' (f₁.trans f') i' n') fun v s' H' f' r' => hr v s' H' (f₁.trans f') r') hr)
end

/-- the lambda -/
noncomputable def lamParams (p : Pos) : Arguments := { posonlyargs := [], args := [{ arg := S "size", annotation := none, pos := p }], vararg := none, kwonlyargs := [], kw_defaults := [], kwarg := none, defaults := [] }
noncomputable def lamBody (p1 p2 p3 p4 p5 p6 : Pos) : PySem.Expr := .Call (.Name (S "e_bits") p1) [.Name (S "size") p2, .Name (S "w") p3, .Name (S "mul_school") p4, .Name (S "divrem_school") p5] [] p6
noncomputable def lamNames : List (Str × NameKind) := [(S "size", .local), (S "w", .free), (S "e_bits", .globalImplicit), (S "mul_school", .globalImplicit), (S "divrem_school", .globalImplicit)]
theorem lam_stmt : ∃ (p0 p1 p2 p3 p4 p5 p6 q1 q2 q3 q4 q5 q6 q7 q8 : Pos) (sc : Scope), lBody[11]? = some (.Assign [.Name (S "found") q1] (.Call (.Name (S "digits_of") q2) [.Lambda (lamParams p0) (lamBody p1 p2 p3 p4 p5 p6) sc q3, .Name (S "digits") q4, .Name (S "w") q5, .Name (S "mul_school") q6] [] q7) q8) ∧
    sc.names = lamNames ∧ sc.kind = .function ∧ sc.isCoroutine = false ∧ sc.isGenerator = false := ⟨_, _, _, _, _, _, _, _, _, _, _, _, _, _, _, _, rfl, rfl, rfl, rfl, rfl⟩

section
variable {C : WC} {n : Nat}

theorem lam_ok (P : PW C) (p : PK C) {w k : Nat} {wt : Tok} {c f c' : Addr} {H : PH} {Q : Value → PH → Prop} {qual : Str} {p0 p1 p2 p3 p4 p5 p6 : Pos} {sc : Scope} {pm ctv : Value} {oc : Obj} (hw : Wd w) (hk : k ≤ 100)
    (s1 : sc.names = lamNames) (s2 : sc.kind = .function) (s3 : sc.isCoroutine = false) (s4 : sc.isGenerator = false)
    (hf : H f = some (.raw (kla_obj "<lambda>" qual (lamParams p0) (lamBody p1 p2 p3 p4 p5 p6) sc [(S "w", c)] pm c' ctv))) (hc' : H c' = some (.raw oc)) (hoc : ∃ vs t, oc.data = .fields vs ∧ vs[1]? = some (.str qual t))
    (hcell : C.hb.IsCell c (some (.int (w : Int) wt))) (h : ∀ r H', Ext H H' → H' r = some (.lst (rw' w (eV k))) → Q (.ref r) H') : CallOk C (n + 190) (.ref f) [I (k : Int)] H Q :=
  ⟨fun A s f' args' bd kp v ef ea => by
    obtain rfl := er_ref ef
    obtain ⟨x', rfl, hx'⟩ := one_arg ea
    obtain ⟨fo, g1, e1⟩ := v.at' _ _ hf
    cases e1
    obtain ⟨oc', g2, e2⟩ := v.at' _ _ hc'
    cases e2
    refine ⟨fun Q' hk => ?_, ?_⟩
    · unfold keeperOf
      exact wpAny_bind (wpAny_load g1 (wpAny_pure (hk _)))
    have hrec : s.heap.CodeRec (.ref c') qual := by
      obtain ⟨vs, t, d1, d2⟩ := hoc
      exact ⟨c', _, vs, t, rfl, g2, d1, d2⟩
    have hloc : sc.names.lookup (S "size") = some .local := by rw [s1]; decide +kernel
    refine wpAny_call (kla_callFunE (body := lamBody p1 p2 p3 p4 p5 p6) bd.depth0 g1 rfl s3 s4 rfl hrec ?_)
    have hbind : bindArgs (kla_fn "<lambda>" qual (lamParams p0) (lamBody p1 p2 p3 p4 p5 p6) sc [(S "w", c)] pm (.ref c') ctv) ⟨[x'], []⟩ = pure [(S "size", x')] := rfl
    refine wpAny_of_eq hbind ?_
    refine wpAny_newFunctionEnv (by show ∀ x ∈ sc.names, _; rw [s1]; simp [lamNames]) (by intro y hy; simp at hy; subst hy; exact hloc) (fun h₁ hns hsb => ⟨C.lim.keeps kp.k |>.fresh _ hsb, kla_codeExpr ?_⟩) s2
    have hscope : (newEnv sc s.heap.objs.size mainGlobals [(S "w", c)] (qual ++ ".<locals>.") (some f) (.ref c') none builtinsNs).scope = sc := rfl
    have hL : (newEnv sc s.heap.objs.size mainGlobals [(S "w", c)] (qual ++ ".<locals>.") (some f) (.ref c') none builtinsNs).locals = s.heap.objs.size := rfl
    have hcl : (newEnv sc s.heap.objs.size mainGlobals [(S "w", c)] (qual ++ ".<locals>.") (some f) (.ref c') none builtinsNs).cells = [(S "w", c)] := rfl
    have hg : (newEnv sc s.heap.objs.size mainGlobals [(S "w", c)] (qual ++ ".<locals>.") (some f) (.ref c') none builtinsNs).globals = mainGlobals := rfl
    have hb : (newEnv sc s.heap.objs.size mainGlobals [(S "w", c)] (qual ++ ".<locals>.") (some f) (.ref c') none builtinsNs).builtins = builtinsNs := rfl
    show wpAny _ (A.deeper (newEnv sc s.heap.objs.size mainGlobals [(S "w", c)] (qual ++ ".<locals>.") (some f) (.ref c') none builtinsNs)) (eval _ (newEnv sc s.heap.objs.size mainGlobals [(S "w", c)] (qual ++ ".<locals>.") (some f) (.ref c') none builtinsNs)) _ _ _
    generalize newEnv sc s.heap.objs.size mainGlobals [(S "w", c)] (qual ++ ".<locals>.") (some f) (.ref c') none builtinsNs = env at *
    have eo : EnvOk C env [S "size"] := ⟨by rw [hscope]; exact s2, hg, hb, fun i x hx => by
      cases i with
      | zero => simp at hx; subst hx; exact ⟨by show env.scope.names.lookup _ = _; rw [hscope]; exact hloc, by decide +kernel⟩
      | succ i => simp at hx, by simp⟩
    have gle : GlobsE C env GT := P.gl.toE fun x v _ hk => by
      have hk' : env.scope.names.lookup x = some .cell := hk
      rw [hscope, s1] at hk'
      have := mem_of_lookup hk'
      simp [lamNames] at this
    have hk₁ : ∀ b o, s.heap.get? b = some o → h₁.get? b = some o := fun b o e => hsb.extBut b o (Nat.ne_of_lt (Heap.lt_size e)) (Heap.get?_push_of_some _ e)
    have f₁ : Frm C NoX H H s { s with heap := h₁, toks := s.toks + [(S "size", x')].length } := Frm.grow kp v hk₁
    have i₁ : Inn C env [S "size"] [some (I (k : Int))] H { s with heap := h₁, toks := s.toks + [(S "size", x')].length } := by
      refine ⟨f₁.keep, f₁.view, ⟨rfl, _, by rw [hL]; exact hns, fun i x hx => ?_⟩, by rw [hL]; exact v.none_of_size _ (Nat.le_refl _), by rw [hL]; exact kp.none_at (Nat.le_refl _)⟩
      cases i with
      | zero => simp at hx; subst hx; simp [List.lookup, hx']
      | succ i => simp at hx
    have bd' : Bud (n + 189) (A.deeper env) := bd.deeper env
    generalize ({ s with heap := h₁, toks := s.toks + [(S "size", x')].length } : Shared) = s' at *
    have main : WP C (A.deeper env) (eval (lamBody p1 p2 p3 p4 p5 p6) env) (fun v' s'' => ∃ H', Frm C NoX H H' s' s'' ∧ Q (er v') H') s' := by
      unfold lamBody
      refine Call_ ?_
      obtain ⟨u, hu, hl⟩ := loadGlob (A := A.deeper env) eo gle i₁.keep (x := S "e_bits") (v := .ref a_e_bits) (by show env.scope.names.lookup _ = _; rw [hscope, s1]; decide +kernel) (by decide +kernel)
      obtain rfl := er_ref hu
      refine hl ?_
      refine callWith_ok (by repeat rw [star_no rfl]
                             rfl) ?_
      refine wpAny_items_cons ?_ (star_no rfl _ _)
      obtain ⟨u1, hu1, hl1⟩ := loadLocal (A := A.deeper env) (i := 0) eo i₁ rfl rfl
      refine wpAny_Name (hl1 ?_) (eo.loc 0 _ rfl).2
      refine wpAny_items_cons ?_ (star_no rfl _ _)
      refine wpAny_Name (wpAny_loadName_free eo.kind (by show env.scope.names.lookup _ = _; rw [hscope, s1]; decide +kernel) (by rw [hcl]; rfl) (hcell.keeps i₁.keep.k) ?_ (by decide +kernel)) (by decide +kernel)
      refine wpAny_items_cons ?_ (star_no rfl _ _)
      obtain ⟨u2, hu2, hl2⟩ := loadGlob (A := A.deeper env) eo gle i₁.keep (x := S "mul_school") (v := .ref a_mul_school) (by show env.scope.names.lookup _ = _; rw [hscope, s1]; decide +kernel) (by decide +kernel)
      refine hl2 ?_
      refine wpAny_items_cons ?_ (star_no rfl _ _)
      obtain ⟨u3, hu3, hl3⟩ := loadGlob (A := A.deeper env) eo gle i₁.keep (x := S "divrem_school") (v := .ref a_divrem_school) (by show env.scope.names.lookup _ = _; rw [hscope, s1]; decide +kernel) (by decide +kernel)
      refine hl3 ?_
      refine wpAny_items_nil ?_
      have ct := chk_tE k (by lia)
      have z := (e_bits_ok P p (n := n) (H := H) (Q := Q) hw (k := k) (by lia) ct.1 ct.2 h).ok (A.deeper env) s' (.ref a_e_bits) [u1, .int w wt, u2, u3] (bd'.mono (by lia)) i₁.keep i₁.view rfl (by show [er u1, I (w : Int), er u2, er u3] = _; rw [hu1, hu2, hu3])
      exact z
    refine WP.toE (wpAny_mono main (fun v' s'' ⟨H', f', q'⟩ => ?_) fun _ _ x => x)
    exact ⟨H', f₁.trans f', q'⟩⟩
end
end

section

section
variable {C : WC} {n : Nat}

/-- the law's frame, once w is written -/
structure LEnv (C : WC) (env : Env) (w : Nat) (c : Addr) (wt : Tok) : Prop where
  eo : EnvOk C env lNs
  gl : GlobsE C env (GTw w)
  hint : interactive env = false
  sc : env.scope = lSc
  code : env.code = .ref 437
  hd : CodeHd C.hb 437 433
  cells : env.cells.lookup (S "w") = some c
  cell : C.hb.IsCell c (some (.int (w : Int) wt))
  blt : ∀ h, Keep C h → h.BuiltinsAt C.mg 433
  tab : C.hb.get? 433 = none

theorem found_ok (P : PW C) (p : PK C) {env : Env} {w c dd : Nat} {wt : Tok} {pool : Addr} {sv : Value} {v2 v3 v4 v5 v7 : Option Value} {H : PH} {A : Around} {s : Shared} {x : Stmt} (hw : Wd w) (le : LEnv C env w c wt) (hd : dd < 8) (hx : lBody[11]? = some x) (hI : LI H pool) (bd : Bud (n + 195) A)
    (i0 : Inn C env lNs [some sv, some (.ref pool), v2, v3, v4, v5, some (I (dd : Int)), v7, none, none, none, none, none] H s) :
    WP C A (exec x env) (PostS C env lNs H s (fun σ H' => ∃ r ps, σ = [some sv, some (.ref pool), v2, v3, v4, v5, some (I (dd : Int)), v7, some (.ref r), none, none, none, none] ∧ Pool H' pool ∧ r ≠ pool ∧ pool ≠ 433 ∧ H' 433 = some (.raw (tabObj ps)) ∧ H' r = some (.lst (rw' w (10 ^ dd * lE 100 / 2 ^ 100)))) (fun _ _ => False)) s := by
  obtain ⟨p0, p1, p2, p3, p4, p5, p6, q1, q2, q3, q4, q5, q6, q7, q8, sc, hst, s1, s2, s3, s4⟩ := lam_stmt
  rw [hst] at hx
  cases hx
  have eo := le.eo
  refine wpAny_Assign_Name ?_ (swWith (.inl rfl) _ _)
  refine Call_ ?_
  have lk : ∀ y, lSc.names.lookup y = some .globalImplicit → env.kindOf y = some .globalImplicit := fun y h => by show env.scope.names.lookup y = _; rw [le.sc]; exact h
  obtain ⟨u, hu, hl⟩ := loadGlob (A := A) eo le.gl i0.keep (x := S "digits_of") (v := .ref a_digits_of) (lk _ (by decide +kernel)) (by show List.lookup _ (_ :: GT) = _; rw [List.lookup_cons, show (S "digits_of" == S "w") = false by decide +kernel]; dsimp only; decide +kernel)
  obtain rfl := er_ref hu
  refine hl ?_
  refine callWith_ok (by repeat rw [star_no rfl]
                         rfl) ?_
  refine wpAny_items_cons ?_ (star_no rfl _ _)
  -- the lambda
  have hclos : closureFor sc env = pure [(S "w", c)] := by
    have hco : cellOf env (S "w") = pure c := by unfold cellOf; rw [le.cells]
    unfold closureFor
    rw [s1]
    simp only [lamNames, List.forIn_cons, List.forIn_nil, show (NameKind.local == NameKind.free) = false from rfl, show (NameKind.free == NameKind.free) = true from rfl, show (NameKind.globalImplicit == NameKind.free) = false from rfl, if_true, Bool.false_eq_true, if_false]
    rw [hco]; rfl
  obtain ⟨to, hto, eto⟩ := i0.view.at' _ _ hI.tab
  cases eto
  refine kla_eval rfl (kla_makeFunction hclos eo.glob (ns_keep i0.keep C.g) le.code (le.hd.keeps i0.keep.k) hto trivial rfl (by decide) (le.blt _ i0.keep) fun c' ctv h' tk hext hge hlt hrec htab => ?_)
  obtain ⟨c2, oc, vs, t, ec, hoc, hdat, hvs⟩ := hrec
  cases ec
  generalize hfo : kla_obj "<lambda>" (env.qual ++ "<lambda>") (lamParams p0) (lamBody p1 p2 p3 p4 p5 p6) sc [(S "w", c)] ((C.mg "__name__").getD .none) c' ctv = fo
  generalize hps : (#[] : Array Value) ++ #[rawInt q3.line, rawInt q3.col, .ref c'] = ps at htab
  have hfree : fo.isFreed = false := by rw [← hfo]; rfl
  have hne : ∀ b o, s.heap.get? b = some o → b ≠ c' ∧ b ≠ h'.objs.size := fun b o e => by
    have hb := Heap.lt_size e
    exact ⟨show @Ne Nat b c' by have : @LT.lt Nat _ b c' := Nat.lt_of_lt_of_le hb hge
                                omega, show @Ne Nat b h'.objs.size by have : @LT.lt Nat _ b h'.objs.size := Nat.lt_trans (Nat.lt_of_lt_of_le hb hge) hlt
                                                                      omega⟩
  have hHn : ∀ b, s.heap.objs.size ≤ b → H b = none := fun b hb => i0.view.none_of_size b hb
  have hc'n : H c' = none := hHn _ hge
  have hfn : H h'.objs.size = none := hHn _ (Nat.le_trans hge (Nat.le_of_lt hlt))
  have hc'f : c' ≠ h'.objs.size := Nat.ne_of_lt hlt
  have h433c : (433 : Addr) ≠ c' := fun q => by rw [← q, hI.tab] at hc'n; cases hc'n
  have h433f : (433 : Addr) ≠ h'.objs.size := fun q => by rw [← q, hI.tab] at hfn; cases hfn
  generalize hH1 : ((H.set 433 (.raw (tabObj ps))).set c' (.raw oc)).set h'.objs.size (.raw fo) = H1
  have H1f : H1 h'.objs.size = some (.raw fo) := by rw [← hH1]; exact PH.set_same _ _ _
  have H1c : H1 c' = some (.raw oc) := by rw [← hH1, PH.set_ne _ _ hc'f]; exact PH.set_same _ _ _
  have H1t : H1 433 = some (.raw (tabObj ps)) := by rw [← hH1, PH.set_ne _ _ h433f, PH.set_ne _ _ h433c]; exact PH.set_same _ _ _
  have H1o : ∀ b, b ≠ 433 → b ≠ c' → b ≠ h'.objs.size → H1 b = H b := fun b b1 b2 b3 => by rw [← hH1, PH.set_ne _ _ b3, PH.set_ne _ _ b2, PH.set_ne _ _ b1]
  have eB : ExtB 433 H H1 := ⟨fun b o hb e => by
    rw [H1o b hb (fun q => by rw [q, hc'n] at e; cases e) (fun q => by rw [q, hfn] at e; cases e)]; exact e⟩
  have f1 : Frm C NoX H H1 s { s with heap := h'.push fo, toks := tk } := by
    refine ⟨⟨rfl, rfl, rfl⟩, fun b o _ e hn => ?_, ⟨fun b o e => ?_⟩, ⟨fun b o e => ?_, fun b zs e => ?_⟩⟩
    · have hb : b ≠ 433 := fun q => by rw [q, hI.tab] at hn; cases hn
      obtain ⟨b1, b2⟩ := hne b o e
      exact ⟨Heap.get?_push_of_some _ (hext b o hb e), by rw [H1o b hb b1 b2]; exact hn⟩
    · have hb : b ≠ 433 := fun q => by rw [q, le.tab] at e; cases e
      exact Heap.get?_push_of_some _ (hext b o hb (i0.keep.k b o e))
    · by_cases b3 : b = h'.objs.size
      · subst b3; rw [H1f] at e; cases e; exact ⟨_, Heap.get?_push_size _ hfree, rfl⟩
      · by_cases b2 : b = c'
        · subst b2; rw [H1c] at e; cases e; exact ⟨_, Heap.get?_push_of_some _ hoc, rfl⟩
        · by_cases b1 : b = 433
          · subst b1; rw [H1t] at e; cases e; exact ⟨_, Heap.get?_push_of_some _ htab, rfl⟩
          · rw [H1o b b1 b2 b3] at e
            obtain ⟨ob, k1, k2⟩ := i0.view.at' b o e
            exact ⟨ob, Heap.get?_push_of_some _ (hext b ob b1 k1), k2⟩
    · by_cases b3 : b = h'.objs.size
      · subst b3; rw [H1f] at e; cases e
      · by_cases b2 : b = c'
        · subst b2; rw [H1c] at e; cases e
        · by_cases b1 : b = 433
          · subst b1; rw [H1t] at e; cases e
          · rw [H1o b b1 b2 b3] at e; exact i0.view.fresh b zs e
  have in1 := i0.frm f1
  generalize ({ s with heap := h'.push fo, toks := tk } : Shared) = t1 at *
  -- the other arguments
  have lkc : GTw w = (S "w", I ((w : Nat) : Int)) :: GT := rfl
  refine wpAny_items_cons ?_ (star_no rfl _ _)
  obtain ⟨u2, hu2, hl2⟩ := loadLocal (A := A) (i := 6) eo in1 rfl rfl
  refine wpAny_Name (hl2 ?_) (eo.loc 6 _ rfl).2
  refine wpAny_items_cons ?_ (star_no rfl _ _)
  refine wpAny_Name (wpAny_loadName_cell eo.kind (by show env.scope.names.lookup _ = _; rw [le.sc]; decide +kernel) le.cells (le.cell.keeps in1.keep.k) ?_) (by decide +kernel)
  refine wpAny_items_cons ?_ (star_no rfl _ _)
  obtain ⟨u3, hu3, hl3⟩ := loadGlob (A := A) eo le.gl in1.keep (x := S "mul_school") (v := .ref a_mul_school) (lk _ (by decide +kernel)) (by show List.lookup _ (_ :: GT) = _; rw [List.lookup_cons, show (S "mul_school" == S "w") = false by decide +kernel]; dsimp only; decide +kernel)
  refine hl3 ?_
  refine wpAny_items_nil ?_
  have cd := chk_d dd hd
  obtain ⟨g, gs, gi, gsd, hp1, hp2, hp3, hp4⟩ := hI.pool.ex
  have hp433 : pool ≠ 433 := fun q => by rw [q, hI.tab] at hp1; cases hp1
  have hg433 : g ≠ 433 := fun q => by rw [q, hI.tab] at hp2; cases hp2
  have pool1 : Pool H1 pool := ⟨g, gs, gi, gsd, eB.e _ _ hp433 hp1, eB.e _ _ hg433 hp2, hp3, hp4⟩
  have z := (digits_of_ok P (n := n) (H := H1) (tv := .ref h'.objs.size) (Q := fun v H' => ∃ r, v = .ref r ∧ Ext H1 H' ∧ H' r = some (.lst (rw' w (10 ^ dd * lE 100 / 2 ^ 100)))) hw (d := dd) (by omega)
    (fun n k H2 Q e2 hk hQ => lam_ok P p hw hk s1 s2 s3 s4 (by rw [hfo]; exact e2.e _ _ H1f) (e2.e _ _ H1c) ⟨vs, t, hdat, hvs⟩ le.cell hQ) cd.2.1 cd.1
    (fun r H2 e2 hr => ⟨r, rfl, e2, by rw [← cd.2.2]; exact hr⟩)).ok A t1 (.ref a_digits_of) [.ref h'.objs.size, u2, .int w wt, u3] (bd.mono (by omega)) in1.keep in1.view rfl (by show [_, er u2, I (w : Int), er u3] = _; rw [hu2, hu3]; rfl)
  refine ⟨z.1, wpAny_mono z.2 (fun v' s2' ⟨H2, f2, r, hr1, e2, hr2⟩ => ?_) fun _ _ x => x⟩
  obtain rfl := er_ref hr1
  have in2 := in1.frm f2
  refine storeLocal eo in2 (i := 8) rfl fun s3' f3 in3 => ?_
  refine ⟨_, H2, (f1.trans f2).weak.trans f3, in3, r, ps, rfl, pool1.ext e2, ?_, hp433, e2.e _ _ H1t, hr2⟩
  rintro rfl
  have q := (pool1.ext e2).ex
  obtain ⟨g', gs', i', s', k1, k2, k3⟩ := q
  rw [hr2] at k1
  have hh := HO.lst.inj (Option.some.inj k1)
  have : (rw' w (10 ^ dd * lE 100 / 2 ^ 100))[0]? = some (.ref g') := by rw [hh]; rfl
  obtain ⟨d, _, hd'⟩ := nv_get' _ this
  cases hd'
end
end

section

/-- the same world, more of it held fast -/
noncomputable def WC.more (C : WC) (hb' : Heap) (k : ∀ b o, C.hb.get? b = some o → hb'.get? b = some o) : WC :=
  { prog := C.prog, w := C.w, hb := hb', mg := C.mg, mb := C.mb, g := C.g.keeps k, b := C.b.keeps k, lim := C.lim.keeps k }
section
variable {C : WC} {hb' : Heap} {k : ∀ b o, C.hb.get? b = some o → hb'.get? b = some o}
theorem FnAt.more {a : Addr} {q : Str} {ps : List Str} {body : List Stmt} {sc : Scope} (x : FnAt C a q ps body sc) : FnAt (C.more hb' k) a q ps body sc := by
  obtain ⟨o, fd, ho, hd, e1, e2, e3, e4, e5, e6, hcd, hbind⟩ := x.fn
  exact ⟨o, fd, k _ _ ho, hd, e1, e2, e3, e4, e5, e6, hcd.keeps k, hbind⟩
theorem PW.more (x : PW C) : PW (C.more hb' k) where
  gl := ⟨x.gl.g⟩
  f_normal := x.f_normal.more
  f_nat_of := x.f_nat_of.more
  f_compare := x.f_compare.more
  f_add := x.f_add.more
  f_sub := x.f_sub.more
  f_divrem_limb := x.f_divrem_limb.more
  f_shift_left := x.f_shift_left.more
  f_shift_right := x.f_shift_right.more
  f_bits := x.f_bits.more
  f_product_of_counts := x.f_product_of_counts.more
  f_signed := x.f_signed.more
  f_s_add := x.f_s_add.more
  f_s_mul := x.f_s_mul.more
  f_of_groups := x.f_of_groups.more
  f_EulerSeries_at := x.f_EulerSeries_at.more
  f_ArctanSeries_at := x.f_ArctanSeries_at.more
  f_ChudnovskySeries_at := x.f_ChudnovskySeries_at.more
  f_split_sum := x.f_split_sum.more
  f_series_fraction := x.f_series_fraction.more
  f_whole_bits := x.f_whole_bits.more
  f_terms_of_e := x.f_terms_of_e.more
  f_e_bits := x.f_e_bits.more
  f_terms_of_arctan := x.f_terms_of_arctan.more
  f_arctan_bits := x.f_arctan_bits.more
  f_pi_machin := x.f_pi_machin.more
  f_pi_chudnovsky := x.f_pi_chudnovsky.more
  f_power_of_ten := x.f_power_of_ten.more
  f_settled_digits := x.f_settled_digits.more
  f_digits_of := x.f_digits_of.more
  f_mul_school := x.f_mul_school.more
  f_divrem_small := x.f_divrem_small.more
  f_guessed_limb := x.f_guessed_limb.more
  f_take_away := x.f_take_away.more
  f_put_back := x.f_put_back.more
  f_divide_rows := x.f_divide_rows.more
  f_divrem_school := x.f_divrem_school.more
  f_law_draw := x.f_law_draw.more
  f_law_row := x.f_law_row.more
  f_law_term := x.f_law_term.more
  f_law_pieces_right := x.f_law_pieces_right.more
  f_law_arctan := x.f_law_arctan.more
  f_law_euler := x.f_law_euler.more
  f_law_root := x.f_law_root.more
  f_law_between := x.f_law_between.more
noncomputable def PK.more (x : PK C) : PK (C.more hb' k) where
  K := x.K
  kin := x.kin.keeps k
  e := x.e
  e0 := x.e0
  c := x.c
  c0 := x.c0
  a := x.a
  a0 := x.a0
  a1 := x.a1
  a2 := x.a2
  a3 := x.a3
  a4 := x.a4
  a5 := x.a5
  a6 := x.a6
  f_init := x.f_init.more
theorem PX.more (x : PX C) : PX (C.more hb' k) := ⟨x.pool.more, x.whole.more⟩
end

section
variable {C : WC} {n : Nat}

theorem law_rest (P : PW C) (p : PK C) (X : PX C) {env : Env} {d c : Addr} {wt : Tok} {pool : Addr} {sv : Value} {H : PH} {A : Around} {s : Shared} (hd : d < 4) (le : LEnv C env (6 + d) c wt) (hI : LI H pool) (bd : Bud (n + 195) A)
    (i0 : Inn C env lNs [some sv, some (.ref pool), none, none, none, none, none, none, none, none, none, none, none] H s) :
    WP C A (execs (lBody.drop 2) env) (fun fl s' => fl = .ret (.bool true) ∧ ∃ H' ps, Frm C (AtX env.locals) H H' s s' ∧ H' 433 = some (.raw (tabObj ps))) s := by
  have hw := wd6 hd
  have WO := law_whole_ok P X
  obtain ⟨x11, hx11⟩ : ∃ x, lBody[11]? = some x := ⟨_, List.getElem?_eq_getElem (by rw [is_ll]; decide)⟩
  have hsplit : lBody.drop 2 = (lBody.drop 2).take 9 ++ (x11 :: lBody.drop 12) := by
    have h1 : lBody.drop 11 = x11 :: lBody.drop 12 := by
      obtain ⟨hj, rfl⟩ := List.getElem?_eq_some_iff.mp hx11
      exact (List.getElem_cons_drop hj).symm
    have h2 : (lBody.drop 2).drop 9 = lBody.drop 11 := by rw [List.drop_drop]
    rw [← h1, ← h2, List.take_append_drop]
  rw [hsplit]
  refine sApp le.eo le.gl le.hint (lwA (6 + d)) _ _ _ H (fun σ H' => ∃ (nn x near dv told : Option Value) (dd : Nat), dd < 8 ∧ LI H' pool ∧ σ = [some sv, some (.ref pool), nn, x, near, told, some (I (dd : Int)), some (I ((10 ^ dd * lE 100 / 2 ^ 100 : Nat) : Int)), none, none, none, none, none]) (fun _ _ => False) (by rw [le.sc]; exact is_lwA d hd)
    (lawA_ok P p WO (n := n) hw hI fun nn x near dv told dd H' hdd hI' => ⟨nn, x, near, dv, told, dd, hdd, hI', rfl⟩) A s (bd.mono (by lia)) i0 _ (fun σ1 H1 s1 f1 i1 ⟨nn, x, near, dv, told, dd, hdd, hI1, hσ⟩ => ?_) fun v s' H' _ q => q.elim
  subst hσ
  refine wpAny_execs_cons ?_
  refine wpAny_mono (found_ok P p (n := n) hw le hdd hx11 hI1 bd i1) (fun fl s2 h2 => ?_) fun _ _ x => x
  cases fl with
  | ret v => obtain ⟨H', f', q⟩ := h2; exact q.elim
  | brk => exact h2.elim
  | cont => exact h2.elim
  | next =>
    obtain ⟨σ2, H2, f2, i2, r, ps, rfl, hp2, hrp, hp433, ht2, hr2⟩ := h2
    refine wpAny_mono (sSs le.eo le.gl le.hint (lwB (6 + d)) _ _ H2 (fun _ _ => False) (fun v H' => v = .bool true ∧ H' 433 = some (.raw (tabObj ps))) (by rw [le.sc]; exact is_lwB d hd)
      (lawB_ok P (n := n) hw hp2 hdd hr2 hrp fun H' e => ⟨rfl, e.e _ _ (Ne.symm hp433) ht2⟩) A s2 (bd.mono (by lia)) i2) (fun fl s3 h3 => ?_) fun _ _ x => x
    cases fl with
    | next => obtain ⟨σ', H', f', i', q⟩ := h3; exact q.elim
    | brk => exact h3.elim
    | cont => exact h3.elim
    | ret v =>
      obtain ⟨H3, f3, q1, q2⟩ := h3
      obtain rfl := er_bool q1
      exact ⟨rfl, H3, ps, (f1.trans f2).trans f3, q2⟩
end
end

section

section
variable {C : WC} {n : Nat}

structure LHead (C : WC) (env : Env) (c : Addr) : Prop where
  eo : EnvOk C env lNs
  sc : env.scope = lSc
  code : env.code = .ref 437
  hd : CodeHd C.hb 437 433
  cells : env.cells.lookup (S "w") = some c
  blt : ∀ h : Heap, (∀ b o, C.hb.get? b = some o → h.get? b = some o) → h.BuiltinsAt C.mg 433
  tab : C.hb.get? 433 = none
  cn : C.hb.get? c = none

theorem lSc_kinds : ∀ y ∈ lSc.names, y.2 = .cell → y.1 = S "w" := by decide +kernel
theorem lSc_w : lSc.names.lookup (S "w") = some .cell := by decide +kernel
theorem lSc_fn : lSc.kind = .function := by decide +kernel
theorem GT_w : GT.lookup (S "w") = none := by decide +kernel

theorem law_core (P : PW C) (p : PK C) (X : PX C) {env : Env} {c sa : Addr} {A : Around} {s : Shared} {H : PH} {vs : Array Value} {is : List Int} {co : Obj} (hh : LHead C env c) (hs : C.hb.IsList sa vs) (hvs : vs.toList.map er = is.map I) (hsz : vs.size ≤ cap)
    (hB : Base H) (ht : H 433 = some (.raw (tabObj #[]))) (hc : H c = some (.raw co)) (hcd : co.data = .cell none) (bd : Bud (n + 195) A)
    (i0 : Inn C env lNs [some (.ref sa), none, none, none, none, none, none, none, none, none, none, none, none] H s) :
    WP C A (execs lBody env) (fun fl s' => fl = .ret (.bool true) ∧ Same s s' ∧ Keep C s'.heap ∧ ∃ ps, s'.heap.get? 433 = some (tabObj ps)) s := by
  have eo := hh.eo
  have hint : interactive env = false := by unfold interactive; rw [hh.sc, lSc_fn]; rfl
  have gl : GlobsE C env GT := P.gl.toE fun x v hx hk => by
    have hk' : env.scope.names.lookup x = some .cell := hk
    rw [hh.sc] at hk'
    have := lSc_kinds _ (mem_of_lookup hk') rfl
    dsimp only at this
    subst this
    rw [GT_w] at hx; cases hx
  have hcL : c ≠ env.locals := fun q => by rw [q, i0.hL] at hc; cases hc
  obtain ⟨x1, p1, p2, hx1, hxE, hnc⟩ := is_lwE
  have hsplit : lBody = lBody.take 1 ++ (Stmt.Assign [.Name (S "w") p1] x1 p2 :: lBody.drop 2) := by
    have h1 : lBody.drop 1 = Stmt.Assign [.Name (S "w") p1] x1 p2 :: lBody.drop 2 := by
      obtain ⟨hj, he⟩ := List.getElem?_eq_some_iff.mp hx1
      rw [← he]; exact (List.getElem_cons_drop hj).symm
    rw [← h1, List.take_append_drop]
  rw [hsplit]
  refine sApp eo gl hint lw1 _ _ _ H (fun σ H' => ∃ pool, LI H' pool ∧ H' c = some (.raw co) ∧ σ = [some (.ref sa), some (.ref pool), none, none, none, none, none, none, none, none, none, none, none]) (fun _ _ => False) (by rw [hh.sc]; exact is_lw1) ?_ A s (bd.mono (show n + 185 ≤ n + 195 by lia)) i0 _ (fun σ1 H1 s1 f1 i1 ⟨pool, hI, hc1, hσ⟩ => ?_) fun v s' H' _ q => q.elim
  · unfold lw1
    simp only [lk_0, lk_s, w_int, w_bool, w_none, w_absent, w_var, w_glob, w_bin, w_cmp, w_neg, w_and, w_ite, w_idx, w_slc, w_tup, w_lst, w_call, w_meth, w_attr, v_cmp, v_and, v_not, v_call, u_nil, u_cons, set_m, set_n, z_asg, z_asgD, z_asgT, z_seti, z_aug, z_expr, z_ifs, z_whl, z_forR, z_forL, z_forE, z_ret, z_cons, z_nil, List.getElem?_cons_zero, Option.some.injEq, exists_eq_left']
    refine list_of (xs := is.map I) (ob := default) (vs := #[]) (m := 0) (.inl rfl) (fun s' kp v => ?_) fun r hr => ?_
    · obtain ⟨o, e1, e2, m, e3⟩ := hs
      exact ⟨o, vs, m, kp.k _ _ e1, e2, e3, hvs, hsz⟩
    · refine CallOk.mono (law_pool_ok P X (n := n) (xs := is) (PH.set_same _ _ _) fun pool H' e hp => ?_) (by lia) fun _ _ q => q
      have y := ((Ext.refl H).set hr).trans e
      exact ⟨pool, ⟨hp, hB.ext y, y.e _ _ ht⟩, y.e _ _ hc, rfl⟩
  subst hσ
  refine wpAny_execs_cons ?_
  refine wpAny_Assign_Name ?_ (swWith (.inl hnc) _ _)
  refine wpAny_mono (sE eo gl lwE x1 H1 (fun v H' => ∃ d, d < 4 ∧ v = I ((6 + d : Nat) : Int) ∧ LI H' pool ∧ H' c = some (.raw co)) (by rw [hh.sc]; exact hxE) ?_ A s1 (bd.mono (show n + 185 ≤ n + 195 by lia)) i1) (fun v s2 ⟨H2, f2, d, hd, q1, hI2, hc2⟩ => ?_) fun _ _ x => x
  · unfold lwE
    simp only [lk_0, lk_s, w_int, w_bool, w_none, w_absent, w_var, w_glob, w_bin, w_cmp, w_neg, w_and, w_ite, w_idx, w_slc, w_tup, w_lst, w_call, w_meth, w_attr, v_cmp, v_and, v_not, v_call, u_nil, u_cons, List.getElem?_cons_zero, List.getElem?_cons_succ, Option.some.injEq, exists_eq_left']
    refine CallOk.mono (law_draw_ok P (n := n) (m := 4) (by decide) hI.pool fun d H' hd hp e => ?_) (by lia) fun _ _ q => q
    obtain ⟨g, gs, i, sd, k1, k2, k3⟩ := hI.pool.ex
    refine n_add ⟨d, hd, rfl, hI.step hp e, e.e _ _ (fun q => ?_) hc1⟩
    rw [q, k1] at hc1; cases hc1
  obtain ⟨wt, rfl⟩ := er_int q1
  have i2 := i1.frm f2
  obtain ⟨cob, hcob, ecob⟩ := f2.view.at' _ _ hc2
  cases ecob
  refine wpAny_storeName_cell eo.kind (by show env.scope.names.lookup _ = _; rw [hh.sc]; exact lSc_w) hh.cells ⟨_, hcob, hcd⟩ fun h' hcell hsb => ?_
  have f12 : Frm C (AtX env.locals) H H2 s s2 := f1.trans f2.weak
  -- the new world
  have hk3 : ∀ b o, b ≠ c → s2.heap.get? b = some o → h'.get? b = some o := fun b o hb e => (hsb.2 b hb).trans e
  have keep3 : Keep C h' := ⟨fun b o e => hk3 b o (by rintro rfl; rw [hh.cn] at e; cases e) (i2.keep.k b o e)⟩
  let hid : List Addr := (List.range h'.objs.size).filter fun b => (C.hb.get? b).isNone && b != c
  have hid_in : ∀ b, b ∈ hid ↔ b < h'.objs.size ∧ C.hb.get? b = none ∧ b ≠ c := fun b => by
    simp only [hid, List.mem_filter, List.mem_range, Bool.and_eq_true, Option.isNone_iff_eq_none, bne_iff_ne, ne_eq]
  have k : ∀ b o, C.hb.get? b = some o → (hideAll h' hid).get? b = some o := fun b o e => hideAll_get _ (keep3.k b o e) fun q => by
    rw [hid_in] at q; rw [q.2.1] at e; cases e
  have k' : ∀ b o, (hideAll h' hid).get? b = some o → h'.get? b = some o := fun b o e => of_hideAll _ e
  have k'' : ∀ b o, (hideAll h' hid).get? b = some o → b ≠ c → C.hb.get? b = some o := fun b o e hb => by
    have e1 := k' b o e
    cases q : C.hb.get? b with
    | some o' => rw [keep3.k b o' q] at e1; exact e1
    | none =>
      have : b ∈ hid := (hid_in b).mpr ⟨Heap.lt_size e1, q, hb⟩
      rw [hideAll_none _ this] at e; cases e
  obtain ⟨ob', hob', hdat'⟩ := hcell
  have hcm : c ∉ hid := fun q => by rw [hid_in] at q; exact q.2.2 rfl
  have hLno : (hideAll h' hid).get? env.locals = none := by
    cases q : (hideAll h' hid).get? env.locals with
    | none => rfl
    | some o => have := k'' _ _ q (Ne.symm hcL); rw [i2.lL] at this; cases this
  have h433c : (433 : Addr) ≠ c := fun q => by
    have := hI2.tab; rw [q, hc2] at this; cases this; cases hcd
  have le : LEnv (C.more (hideAll h' hid) k) env (6 + d) c wt := {
    eo := ⟨eo.kind, eo.glob, eo.blt, eo.loc, eo.nd⟩
    gl := ⟨fun x v hx => by
        by_cases hxw : x = S "w"
        · subst hxw; decide +kernel
        · refine gl.dbg x v ?_
          have : (x == S "w") = false := beq_eq_false_iff_ne.mpr hxw
          unfold GTw at hx
          rw [List.lookup_cons, this] at hx; exact hx,
      fun x v hx hk => by
        by_cases hxw : x = S "w"
        · subst hxw
          have : env.scope.names.lookup (S "w") = some .globalImplicit := hk
          rw [hh.sc, lSc_w] at this; cases this
        · refine gl.g x v ?_ hk
          have : (x == S "w") = false := beq_eq_false_iff_ne.mpr hxw
          unfold GTw at hx
          rw [List.lookup_cons, this] at hx; exact hx,
      fun x v hx hk => by
        have hk' : env.scope.names.lookup x = some .cell := hk
        rw [hh.sc] at hk'
        have := lSc_kinds _ (mem_of_lookup hk') rfl
        dsimp only at this
        subst this
        have hv : v = I ((6 + d : Nat) : Int) := by
          unfold GTw at hx
          rw [List.lookup_cons, beq_self_eq_true] at hx
          cases hx; rfl
        subst hv
        exact ⟨c, _, hh.cells, ⟨ob', hideAll_get _ hob' hcm, hdat'⟩, rfl⟩⟩
    hint := hint
    sc := hh.sc
    code := hh.code
    hd := hh.hd.keeps k
    cells := hh.cells
    cell := ⟨ob', hideAll_get _ hob' hcm, hdat'⟩
    blt := fun h kk => hh.blt h fun b o e => kk.k _ _ (k b o e)
    tab := by
      cases q : (hideAll h' hid).get? 433 with
      | none => exact q
      | some o => have := k'' _ _ q h433c; rw [hh.tab] at this; cases this }
  have view3 : View (C.more (hideAll h' hid) k) (H2.set c (.raw ob')) h' := ⟨fun b o e => by
      by_cases hb : b = c
      · subst hb; rw [PH.set_same] at e; cases e; exact ⟨_, hob', rfl⟩
      · rw [PH.set_ne _ _ hb] at e
        obtain ⟨ob, q1, q2⟩ := i2.view.at' b o e
        exact ⟨ob, hk3 b ob hb q1, q2⟩,
    fun b zs e => by
      by_cases hb : b = c
      · subst hb; rw [PH.set_same] at e; cases e
      · rw [PH.set_ne _ _ hb] at e
        have := i2.view.fresh b zs e
        show (hideAll h' hid).get? b = none
        cases q : (hideAll h' hid).get? b with
        | none => rfl
        | some o => have z := k'' _ _ q hb; rw [this] at z; cases z⟩
  obtain ⟨l1, mm, hN, hm⟩ := i2.loc
  have i3 : Inn (C.more (hideAll h' hid) k) env lNs [some (.ref sa), some (.ref pool), none, none, none, none, none, none, none, none, none, none, none] (H2.set c (.raw ob')) { s2 with heap := h' } :=
    ⟨⟨k'⟩, view3, ⟨l1, mm, hN.at' fun o e => hk3 _ _ (Ne.symm hcL) e, hm⟩, by rw [PH.set_ne _ _ (Ne.symm hcL)]; exact i2.hL, hLno⟩
  obtain ⟨g, gs, gi, sd, kp1, kp2, kp3, kp4⟩ := hI2.pool.ex
  have nc : ∀ {a xs}, H2 a = some (.lst xs) → (H2.set c (.raw ob')) a = some (.lst xs) := fun {a xs} e => by rw [PH.set_ne _ _ (fun q => by rw [q, hc2] at e; cases e)]; exact e
  have nt : ∀ {a xs}, H2 a = some (.tup xs) → (H2.set c (.raw ob')) a = some (.tup xs) := fun {a xs} e => by rw [PH.set_ne _ _ (fun q => by rw [q, hc2] at e; cases e)]; exact e
  have hI3 : LI (H2.set c (.raw ob')) pool := ⟨⟨g, gs, gi, sd, nc kp1, nc kp2, kp3, kp4⟩, ⟨nt hI2.base.1, nt hI2.base.2, nt hI2.base.3, nt hI2.base.4, nt hI2.base.5, nt hI2.base.6⟩, by rw [PH.set_ne _ _ h433c]; exact hI2.tab⟩
  have main := law_rest (n := n) (P.more (k := k)) (p.more (k := k)) (X.more (k := k)) hd le hI3 bd i3
  refine wpAny_mono main (fun fl s4 ⟨q1, H4, ps, f4, q4⟩ => ?_) fun _ _ x => x
  obtain ⟨ob4, g4, e4⟩ := f4.view.at' _ _ q4
  cases e4
  exact ⟨q1, f12.same.trans ⟨f4.same.gens, f4.same.drawn, f4.same.os⟩, ⟨fun b o e => f4.keep.k b o (k b o e)⟩, ps, g4⟩
end
end

section

noncomputable def fnData? (K : Frag) (a : Addr) : Option FuncData := match K.lookup a with
  | some ⟨_, _, .func fd, _⟩ => some fd
  | _ => none
/-- a function of the text, as it lies in the written part -/
structure FnK (K : Frag) (a : Addr) (q : Str) (ps : List Str) (body : List Stmt) (sc : Scope) : Prop where
  d : (fnData? K a).map (fun fd => (fd.qualname, fd.body, fd.scope, fd.globals, fd.closure, fd.builtins)) = some (q, .stmts body, sc, mainGlobals, [], builtinsNs)
  c : (fnData? K a).map (fun fd => codeIn K fd.code q) = some true
  b : ∀ args : List Value, args.length = ps.length → (fnData? K a).map (fun fd => bindArgs fd ⟨args, []⟩) = some (pure (ps.zip args))
theorem fnData_get {K : Frag} {a : Addr} {fd : FuncData} (h : fnData? K a = some fd) : ∃ o, K.lookup a = some o ∧ o.data = .func fd := by
  unfold fnData? at h
  split at h
  · rename_i e; cases h; exact ⟨_, e, rfl⟩
  · cases h
theorem FnK.at {C : WC} {K : Frag} (X : K.In C.hb) {a : Addr} {q : Str} {ps : List Str} {body : List Stmt} {sc : Scope} (x : FnK K a q ps body sc) : FnAt C a q ps body sc := by
  obtain ⟨d, c, b⟩ := x
  obtain ⟨fd, hf, he⟩ := Option.map_eq_some_iff.mp d
  obtain ⟨o, ho, hd⟩ := fnData_get hf
  rw [hf] at c b
  simp only [Prod.mk.injEq] at he
  obtain ⟨e1, e2, e3, e4, e5, e6⟩ := he
  exact ⟨o, fd, X _ _ ho, hd, e1, e2, e3, e4, e5, e6, codeRec_of X (Option.some.inj c), fun args hl => Option.some.inj (b args hl)⟩

noncomputable def globB (K : Frag) (x : Str) (v : Value) : Bool := match nsIn K mainGlobals x with
  | some (some u) => er u == v
  | some none => !(x == ("__name__" : Str)) && (bootBuiltins x == some v) && (er v == v)
  | none => false
noncomputable def tupOf : Obj → Option (List Value)
  | ⟨.type T, none, .seq vs _, sl⟩ => if T == "tuple" && sl.isEmpty && decide (vs.size ≤ 100) then some (vs.toList.map er) else none
  | _ => none
theorem tupOf_is {o : Obj} {xs : List Value} (h : tupOf o = some xs) : (HO.tup xs).Is o := by
  unfold tupOf at h
  split at h
  · rename_i T vs m sl
    split at h
    · rename_i hc
      simp only [Bool.and_eq_true, beq_iff_eq, decide_eq_true_eq, Array.isEmpty_iff] at hc
      obtain ⟨⟨rfl, rfl⟩, hs⟩ := hc
      cases h
      exact ⟨vs, m, rfl, rfl, Nat.le_trans hs (by show 100 ≤ 1048576; decide)⟩
    · cases h
  · cases h

structure FS where
  a : Addr
  q : Str
  ps : List Str
  st : Stmt
noncomputable def FL : List FS := [
  ⟨a_normal, S "normal", p_normal, stAt 4⟩,
  ⟨a_nat_of, S "nat_of", p_nat_of, stAt 5⟩,
  ⟨a_compare, S "compare", p_compare, stAt 6⟩,
  ⟨a_add, S "add", p_add, stAt 7⟩,
  ⟨a_sub, S "sub", p_sub, stAt 8⟩,
  ⟨a_divrem_limb, S "divrem_limb", p_divrem_limb, stAt 9⟩,
  ⟨a_shift_left, S "shift_left", p_shift_left, stAt 10⟩,
  ⟨a_shift_right, S "shift_right", p_shift_right, stAt 11⟩,
  ⟨a_bits, S "bits", p_bits, stAt 12⟩,
  ⟨a_product_of_counts, S "product_of_counts", p_product_of_counts, stAt 14⟩,
  ⟨a_signed, S "signed", p_signed, stAt 16⟩,
  ⟨a_s_add, S "s_add", p_s_add, stAt 17⟩,
  ⟨a_s_mul, S "s_mul", p_s_mul, stAt 18⟩,
  ⟨a_of_groups, S "of_groups", p_of_groups, stAt 29⟩,
  ⟨a_EulerSeries_at, S "EulerSeries.at", p_EulerSeries_at, meAt 30 0⟩,
  ⟨a_ArctanSeries_at, S "ArctanSeries.at", p_ArctanSeries_at, meAt 31 1⟩,
  ⟨a_ChudnovskySeries_at, S "ChudnovskySeries.at", p_ChudnovskySeries_at, meAt 32 0⟩,
  ⟨a_split_sum, S "split_sum", p_split_sum, stAt 33⟩,
  ⟨a_series_fraction, S "series_fraction", p_series_fraction, stAt 34⟩,
  ⟨a_whole_bits, S "whole_bits", p_whole_bits, stAt 35⟩,
  ⟨a_terms_of_e, S "terms_of_e", p_terms_of_e, stAt 36⟩,
  ⟨a_e_bits, S "e_bits", p_e_bits, stAt 37⟩,
  ⟨a_terms_of_arctan, S "terms_of_arctan", p_terms_of_arctan, stAt 38⟩,
  ⟨a_arctan_bits, S "arctan_bits", p_arctan_bits, stAt 39⟩,
  ⟨a_pi_machin, S "pi_machin", p_pi_machin, stAt 40⟩,
  ⟨a_pi_chudnovsky, S "pi_chudnovsky", p_pi_chudnovsky, stAt 41⟩,
  ⟨a_power_of_ten, S "power_of_ten", p_power_of_ten, stAt 42⟩,
  ⟨a_settled_digits, S "settled_digits", p_settled_digits, stAt 43⟩,
  ⟨a_digits_of, S "digits_of", p_digits_of, stAt 44⟩,
  ⟨a_mul_school, S "mul_school", p_mul_school, stAt 46⟩,
  ⟨a_divrem_small, S "divrem_small", p_divrem_small, stAt 47⟩,
  ⟨a_guessed_limb, S "guessed_limb", p_guessed_limb, stAt 48⟩,
  ⟨a_take_away, S "take_away", p_take_away, stAt 49⟩,
  ⟨a_put_back, S "put_back", p_put_back, stAt 50⟩,
  ⟨a_divide_rows, S "divide_rows", p_divide_rows, stAt 51⟩,
  ⟨a_divrem_school, S "divrem_school", p_divrem_school, stAt 52⟩,
  ⟨a_law_draw, S "_law_draw", p_law_draw, stAt 54⟩,
  ⟨a_law_row, S "_law_row", p_law_row, stAt 56⟩,
  ⟨a_law_term, S "_law_term", p_law_term, stAt 59⟩,
  ⟨a_law_pieces_right, S "_law_pieces_right", p_law_pieces_right, stAt 60⟩,
  ⟨a_law_arctan, S "_law_arctan", p_law_arctan, stAt 61⟩,
  ⟨a_law_euler, S "_law_euler", p_law_euler, stAt 62⟩,
  ⟨a_law_root, S "_law_root", p_law_root, stAt 63⟩,
  ⟨a_law_between, S "_law_between", p_law_between, stAt 64⟩,
  ⟨a_law_pool, S "_law_pool", [S "script"], stAt 55⟩,
  ⟨a_law_whole, S "_law_whole", [S "row", S "w"], stAt 57⟩,
  ⟨a_ArctanSeries_init, S "ArctanSeries.__init__", [S "self", S "x"], meAt 31 0⟩]
noncomputable abbrev Val5 := Value → Value → Value → Value → Value → Sem (List (Str × Value))
noncomputable abbrev FOb := Str × FuncBody × Scope × Addr × List (Str × Addr) × Addr × Bool × Val5
/-- what is seen of a function -/
noncomputable def obF (K : Frag) (x : FS) : Option FOb := (fnData? K x.a).map fun fd => (fd.qualname, fd.body, fd.scope, fd.globals, fd.closure, fd.builtins, codeIn K fd.code x.q, fun u0 u1 u2 u3 u4 => bindArgs fd ⟨[u0, u1, u2, u3, u4].take x.ps.length, []⟩)
noncomputable def exF (x : FS) : Option FOb := some (x.q, .stmts (fBody x.st), fSc x.st, mainGlobals, [], builtinsNs, true, fun u0 u1 u2 u3 u4 => pure (x.ps.zip ([u0, u1, u2, u3, u4].take x.ps.length)))
theorem take5 : ∀ (n : Nat) (args : List Value), args.length = n → n ≤ 5 → ∃ u0 u1 u2 u3 u4, args = [u0, u1, u2, u3, u4].take n
  | _, [], rfl, _ => ⟨.none, .none, .none, .none, .none, rfl⟩
  | _, [a], rfl, _ => ⟨a, .none, .none, .none, .none, rfl⟩
  | _, [a, b], rfl, _ => ⟨a, b, .none, .none, .none, rfl⟩
  | _, [a, b, c], rfl, _ => ⟨a, b, c, .none, .none, rfl⟩
  | _, [a, b, c, d], rfl, _ => ⟨a, b, c, d, .none, rfl⟩
  | _, [a, b, c, d, e], rfl, _ => ⟨a, b, c, d, e, rfl⟩
  | _, _ :: _ :: _ :: _ :: _ :: _ :: _, rfl, h => by simp only [List.length_cons] at h; omega
theorem FnK.of_ob {K : Frag} {x : FS} (h : obF K x = exF x) (h5 : x.ps.length ≤ 5) : FnK K x.a x.q x.ps (fBody x.st) (fSc x.st) := by
  unfold obF exF at h
  cases e : fnData? K x.a with
  | none => rw [e] at h; cases h
  | some fd =>
    rw [e] at h
    simp only [Option.map_some, Option.some.injEq, Prod.mk.injEq] at h
    obtain ⟨h1, h2, h3, h4, h5', h6, h7, h8⟩ := h
    refine ⟨by rw [e]; simp only [Option.map_some, h1, h2, h3, h4, h5', h6], by rw [e]; simp only [Option.map_some, h7], fun args hl => ?_⟩
    obtain ⟨u0, u1, u2, u3, u4, rfl⟩ := take5 _ args hl h5
    rw [e]
    exact congrArg some (congrFun (congrFun (congrFun (congrFun (congrFun h8 u0) u1) u2) u3) u4)
theorem FL5 : ∀ x ∈ FL, x.ps.length ≤ 5 := by
  have h : FL.all (fun x => Nat.ble x.ps.length 5) = true := by decide +kernel
  exact fun x hx => Nat.le_of_ble_eq_true (List.all_eq_true.mp h x hx)

noncomputable def clsB (K : Frag) (c m : Addr) : Bool := makesIn K c && keepIn K (.ref c) && plainGet K c "at" && isFn K (.ref m)
/-- what is seen of the rest -/
noncomputable def obB (K : Frag) : List Bool := [GT.all (fun p => !(p.1 == ("__debug__" : Str)) && globB K p.1 p.2), clsB K 172 169, clsB K 221 218, clsB K 200 197, isFn K (.ref 190), plainOver K 200, hasDictIn K 200, noTabs K, codeHdIn K 437 433]
noncomputable def exB : List Bool := [true, true, true, true, true, true, true, true, true]
noncomputable def obO (K : Frag) : List (Option (Option Value)) := [findIn K (.ref 172) "at", findIn K (.ref 221) "at", findIn K (.ref 200) "at", findIn K (.ref 172) "__init__", findIn K (.ref 221) "__init__", findIn K (.ref 200) "__init__",
  findIn K (.ref 200) "__setattr__", takerIn K 200 "x", findIn K (.ref 200) "x"]
noncomputable def exO : List (Option (Option Value)) := [some (some (.ref 169)), some (some (.ref 218)), some (some (.ref 197)), some (some (.builtin "object.__init__")), some (some (.builtin "object.__init__")), some (some (.ref 190)),
  some (some (.builtin "object.__setattr__")), some none, some none]
noncomputable def obT (K : Frag) : List (Option (List Value)) := [143, 144, 145, 146, 147, 148].map fun a => (K.lookup a).bind tupOf
noncomputable def exT : List (Option (List Value)) := [some (nv [5, 239]), some (nv [13, 591, 409]), some (nv [545, 140, 134]), some (nv cubes), some (nv [10, 5]), some (nv [426, 880])]
/-- all that is asked of the written part -/
structure HeadK (K : Frag) : Prop where
  f : FL.map (obF K) = FL.map exF
  b : obB K = exB
  o : obO K = exO
  t : obT K = exT
  l : tabIn K (S "law") = some (437, 433)
theorem HeadK.fn {K : Frag} (h : HeadK K) (i : Nat) {x : FS} (hx : FL[i]? = some x) : FnK K x.a x.q x.ps (fBody x.st) (fSc x.st) := by
  have hm := List.mem_of_getElem? hx
  exact .of_ob (List.map_inj_left.mp h.f x hm) (FL5 x hm)
theorem HeadK.bs {K : Frag} (h : HeadK K) : GT.all (fun p => !(p.1 == ("__debug__" : Str)) && globB K p.1 p.2) = true ∧ clsB K 172 169 = true ∧ clsB K 221 218 = true ∧ clsB K 200 197 = true ∧ isFn K (.ref 190) = true ∧ plainOver K 200 = true ∧ hasDictIn K 200 = true ∧
    noTabs K = true ∧ codeHdIn K 437 433 = true := by
  have := h.b
  unfold obB exB at this
  simpa only [List.cons.injEq, and_true] using this
theorem HeadK.os {K : Frag} (h : HeadK K) : findIn K (.ref 172) "at" = some (some (.ref 169)) ∧ findIn K (.ref 221) "at" = some (some (.ref 218)) ∧ findIn K (.ref 200) "at" = some (some (.ref 197)) ∧ findIn K (.ref 172) "__init__" = some (some (.builtin "object.__init__")) ∧
    findIn K (.ref 221) "__init__" = some (some (.builtin "object.__init__")) ∧ findIn K (.ref 200) "__init__" = some (some (.ref 190)) ∧ findIn K (.ref 200) "__setattr__" = some (some (.builtin "object.__setattr__")) ∧ takerIn K 200 "x" = some none ∧ findIn K (.ref 200) "x" = some none := by
  have := h.o
  unfold obO exO at this
  simpa only [List.cons.injEq, and_true] using this
theorem HeadK.ts {K : Frag} (h : HeadK K) : (K.lookup 143).bind tupOf = some (nv [5, 239]) ∧ (K.lookup 144).bind tupOf = some (nv [13, 591, 409]) ∧ (K.lookup 145).bind tupOf = some (nv [545, 140, 134]) ∧ (K.lookup 146).bind tupOf = some (nv cubes) ∧
    (K.lookup 147).bind tupOf = some (nv [10, 5]) ∧ (K.lookup 148).bind tupOf = some (nv [426, 880]) := by
  have := h.t
  unfold obT exT at this
  simpa only [List.map_cons, List.map_nil, List.cons.injEq, and_true] using this
theorem clsK_of {K : Frag} {c m : Addr} (h : clsB K c m = true) (a : findIn K (.ref c) "at" = some (some (.ref m))) : ClsK K c m := by
  simp only [clsB, Bool.and_eq_true] at h
  exact ⟨h.1.1.1, h.1.1.2, h.1.2, a, h.2⟩

theorem lookup_all {x : Str} {v : Value} : ∀ {l : List (Str × Value)} {f : Str × Value → Bool}, l.all f = true → l.lookup x = some v → f (x, v) = true
  | [], f, _, h => by cases h
  | (y, u) :: l, f, ha, h => by
    simp only [List.all_cons, Bool.and_eq_true] at ha
    rw [List.lookup_cons] at h
    cases hb : x == y with
    | true => rw [hb] at h; cases h; rw [beq_iff_eq.mp hb]; exact ha.1
    | false => rw [hb] at h; exact lookup_all ha.2 h

section
variable {C : WC} {K : Frag}
theorem globs_of (X : K.In C.hb) (bi : ∀ x : Str, x ≠ "__name__" → C.mb x = bootBuiltins x) (hk : HeadK K) : Globs C GT :=
  ⟨fun x v hx => by
    have z := lookup_all hk.bs.1 hx
    simp only [Bool.and_eq_true, Bool.not_eq_true'] at z
    refine ⟨z.1, ?_⟩
    have z2 := z.2
    unfold globB at z2
    split at z2
    · rename_i u e
      left
      rw [mg_of X C.g e, Option.map_some, beq_iff_eq.mp z2]
    · rename_i e
      right
      simp only [Bool.and_eq_true, Bool.not_eq_true', beq_iff_eq] at z2
      exact ⟨mg_none_of X C.g e, (bi x (beq_eq_false_iff_ne.mp z2.1.1)).trans z2.1.2, z2.2⟩
    · cases z2⟩
theorem pw_of (X : K.In C.hb) (bi : ∀ x : Str, x ≠ "__name__" → C.mb x = bootBuiltins x) (hk : HeadK K) : PW C where
  gl := globs_of X bi hk
  f_normal := (hk.fn 0 rfl).at X
  f_nat_of := (hk.fn 1 rfl).at X
  f_compare := (hk.fn 2 rfl).at X
  f_add := (hk.fn 3 rfl).at X
  f_sub := (hk.fn 4 rfl).at X
  f_divrem_limb := (hk.fn 5 rfl).at X
  f_shift_left := (hk.fn 6 rfl).at X
  f_shift_right := (hk.fn 7 rfl).at X
  f_bits := (hk.fn 8 rfl).at X
  f_product_of_counts := (hk.fn 9 rfl).at X
  f_signed := (hk.fn 10 rfl).at X
  f_s_add := (hk.fn 11 rfl).at X
  f_s_mul := (hk.fn 12 rfl).at X
  f_of_groups := (hk.fn 13 rfl).at X
  f_EulerSeries_at := (hk.fn 14 rfl).at X
  f_ArctanSeries_at := (hk.fn 15 rfl).at X
  f_ChudnovskySeries_at := (hk.fn 16 rfl).at X
  f_split_sum := (hk.fn 17 rfl).at X
  f_series_fraction := (hk.fn 18 rfl).at X
  f_whole_bits := (hk.fn 19 rfl).at X
  f_terms_of_e := (hk.fn 20 rfl).at X
  f_e_bits := (hk.fn 21 rfl).at X
  f_terms_of_arctan := (hk.fn 22 rfl).at X
  f_arctan_bits := (hk.fn 23 rfl).at X
  f_pi_machin := (hk.fn 24 rfl).at X
  f_pi_chudnovsky := (hk.fn 25 rfl).at X
  f_power_of_ten := (hk.fn 26 rfl).at X
  f_settled_digits := (hk.fn 27 rfl).at X
  f_digits_of := (hk.fn 28 rfl).at X
  f_mul_school := (hk.fn 29 rfl).at X
  f_divrem_small := (hk.fn 30 rfl).at X
  f_guessed_limb := (hk.fn 31 rfl).at X
  f_take_away := (hk.fn 32 rfl).at X
  f_put_back := (hk.fn 33 rfl).at X
  f_divide_rows := (hk.fn 34 rfl).at X
  f_divrem_school := (hk.fn 35 rfl).at X
  f_law_draw := (hk.fn 36 rfl).at X
  f_law_row := (hk.fn 37 rfl).at X
  f_law_term := (hk.fn 38 rfl).at X
  f_law_pieces_right := (hk.fn 39 rfl).at X
  f_law_arctan := (hk.fn 40 rfl).at X
  f_law_euler := (hk.fn 41 rfl).at X
  f_law_root := (hk.fn 42 rfl).at X
  f_law_between := (hk.fn 43 rfl).at X
noncomputable def pk_of (X : K.In C.hb) (hk : HeadK K) : PK C where
  K := K
  kin := X
  e := clsK_of hk.bs.2.1 hk.os.1
  e0 := hk.os.2.2.2.1
  c := clsK_of hk.bs.2.2.1 hk.os.2.1
  c0 := hk.os.2.2.2.2.1
  a := clsK_of hk.bs.2.2.2.1 hk.os.2.2.1
  a0 := hk.os.2.2.2.2.2.1
  a1 := hk.bs.2.2.2.2.1
  a2 := hk.os.2.2.2.2.2.2.1
  a3 := hk.bs.2.2.2.2.2.1
  a4 := hk.os.2.2.2.2.2.2.2.1
  a5 := hk.bs.2.2.2.2.2.2.1
  a6 := hk.os.2.2.2.2.2.2.2.2
  f_init := (hk.fn 46 rfl).at X
theorem px_of (X : K.In C.hb) (hk : HeadK K) : PX C := ⟨(hk.fn 44 rfl).at X, (hk.fn 45 rfl).at X⟩
end

theorem intsAre_er : ∀ {vs : List Value} {is : List Int}, IntsAre vs is → vs.map er = is.map I
  | _, _, .nil => rfl
  | _, _, .cons _ t r => by rw [List.map_cons, List.map_cons, intsAre_er r]; rfl

/-- the heap that the law meets -/
noncomputable def H0 (L : Addr) (wo : Obj) : PH := fun b =>
  if b = 143 then some (.tup (nv [5, 239])) else if b = 144 then some (.tup (nv [13, 591, 409])) else if b = 145 then some (.tup (nv [545, 140, 134])) else if b = 146 then some (.tup (nv cubes)) else
  if b = 147 then some (.tup (nv [10, 5])) else if b = 148 then some (.tup (nv [426, 880])) else if b = 433 then some (.raw (tabObj #[])) else if b = L + 1 then some (.raw wo) else none

theorem law_join {prog : Program} {w : World} {base h₁ : Heap} {K : Frag} {mg mb m : Str → Option Value} {L fa sa : Addr} {wo : Obj} {vs : List Value} {is : List Int} {gs : Array GenState} {dr : Drawn} {tk : Nat} {os : OsState} {nm : Str} {A : Around}
    (X : K.In base) (hg : base.Ns mainGlobals mg) (hb : base.Ns builtinsNs mb) (nl : base.NoLimit) (bi : ∀ x : Str, x ≠ "__name__" → mb x = bootBuiltins x)
    (bm : ∃ bm ob, mg "__builtins__" = some (.ref bm) ∧ bm ≠ builtinsNs ∧ base.get? bm = some ob ∧ ob.cls = .type "module" ∧ ob.dict = some builtinsNs ∧ ob.data = .plain)
    (F : Fr base L h₁ m) (hm : ∀ (i : Nat) (y : Str), lNs[i]? = some y → m y = if i = 0 then some (.ref sa) else none)
    (N : News base L h₁ [(L + 1, wo), (433, tabObj #[])]) (hwo : wo.data = .cell none) (hd : CodeHd base 437 433) (hl : base.IsList sa vs.toArray) (hI : IntsAre vs is) (hlen : ¬ (63 : Int) < (is.length : Int)) (hk : HeadK K) (bd : Bud 195 A) :
    wpAny (model prog w) A (execs lBody (envOfC nm lSc L fa (.ref 437))) (fun fl s' => fl = .ret (.bool true) ∧ s'.gens = gs ∧ s'.os = os ∧ (∀ b o, base.get? b = some o → s'.heap.get? b = some o) ∧ ∃ ps, s'.heap.get? 433 = some (tabObj ps)) noE
      { heap := h₁, gens := gs, drawn := dr, toks := tk, os := os } := by
  let C : WC := { prog := prog, w := w, hb := base, mg := mg, mb := mb, g := hg, b := hb, lim := nl }
  have X' : K.In C.hb := X
  have P := pw_of X' bi hk
  have p := pk_of X' hk
  have PXx := px_of X' hk
  have n1 := N (L + 1, wo) (.head _)
  have n2 := N (433, tabObj #[]) (.tail _ (.head _))
  dsimp only at n1 n2
  have henv : (envOfC nm lSc L fa (.ref 437)).scope = lSc ∧ (envOfC nm lSc L fa (.ref 437)).globals = mainGlobals ∧ (envOfC nm lSc L fa (.ref 437)).builtins = builtinsNs ∧ (envOfC nm lSc L fa (.ref 437)).locals = L ∧
      (envOfC nm lSc L fa (.ref 437)).code = .ref 437 ∧ (envOfC nm lSc L fa (.ref 437)).cells = cellsFrom (L + 1) lSc.names [] := ⟨rfl, rfl, rfl, rfl, rfl, rfl⟩
  generalize envOfC nm lSc L fa (.ref 437) = env at henv ⊢
  obtain ⟨v1, v2, v3, v4, v5, v6⟩ := henv
  have eo : EnvOk C env lNs := ⟨by rw [v1]; exact lSc_fn, v2, v3, fun i x hx => by
    have hmem := List.mem_of_getElem? hx
    have : ∀ y ∈ lNs, lSc.names.lookup y = some .local ∧ (y == ("__debug__" : Str)) = false := by decide +kernel
    refine ⟨?_, (this x hmem).2⟩
    show env.scope.names.lookup x = _
    rw [v1]; exact (this x hmem).1, by decide +kernel⟩
  have h433L : (433 : Addr) ≠ L + 1 := fun q => by
    have h1 := n1.1
    rw [← q, n2.1] at h1
    cases h1; cases hwo
  have look : ∀ {a : Addr} {xs : List Value}, (K.lookup a).bind tupOf = some xs → ∃ o, base.get? a = some o ∧ (HO.tup xs).Is o := fun {a xs} h => by
    obtain ⟨o, ho, h2⟩ := Option.bind_eq_some_iff.mp h
    exact ⟨o, X _ _ ho, tupOf_is h2⟩
  have kp : Keep C h₁ := ⟨F.keep⟩
  have tup : ∀ {a : Addr} {xs : List Value}, (K.lookup a).bind tupOf = some xs → ∃ o, h₁.get? a = some o ∧ (HO.tup xs).Is o := fun {a xs} h => by
    obtain ⟨o, h1, h2⟩ := look h; exact ⟨o, F.keep _ _ h1, h2⟩
  have hv : View C (H0 L wo) h₁ := by
    refine ⟨fun a o e => ?_, fun a xs e => ?_⟩
    · unfold H0 at e
      split at e
      · cases e; rename_i q; subst q; exact tup hk.ts.1
      · split at e
        · cases e; rename_i q; subst q; exact tup hk.ts.2.1
        · split at e
          · cases e; rename_i q; subst q; exact tup hk.ts.2.2.1
          · split at e
            · cases e; rename_i q; subst q; exact tup hk.ts.2.2.2.1
            · split at e
              · cases e; rename_i q; subst q; exact tup hk.ts.2.2.2.2.1
              · split at e
                · cases e; rename_i q; subst q; exact tup hk.ts.2.2.2.2.2
                · split at e
                  · cases e; rename_i q; subst q; exact ⟨_, n2.1, rfl⟩
                  · split at e
                    · cases e; rename_i q; subst q; exact ⟨_, n1.1, rfl⟩
                    · cases e
    · unfold H0 at e
      split at e
      · cases e
      · split at e
        · cases e
        · split at e
          · cases e
          · split at e
            · cases e
            · split at e
              · cases e
              · split at e
                · cases e
                · split at e
                  · cases e
                  · split at e
                    · cases e
                    · cases e
  have hNs := F.ns
  have inb : ∀ {a : Addr} {xs : List Value}, (K.lookup a).bind tupOf = some xs → a ≠ L ∧ a ≠ 433 ∧ a ≠ L + 1 := fun {a xs} h => by
    obtain ⟨o, h1, h2⟩ := look h
    refine ⟨fun q => ?_, fun q => ?_, fun q => ?_⟩
    · have := Heap.lt_size h1
      have hab := F.above
      rw [q] at this
      exact absurd this (Nat.not_lt.mpr hab)
    · rw [q, n2.2.2] at h1; cases h1
    · rw [q, n1.2.2] at h1; cases h1
  have hLn : (H0 L wo) env.locals = none := by
    rw [v4]
    unfold H0
    rw [if_neg (Ne.symm (inb hk.ts.1).1), if_neg (Ne.symm (inb hk.ts.2.1).1), if_neg (Ne.symm (inb hk.ts.2.2.1).1), if_neg (Ne.symm (inb hk.ts.2.2.2.1).1), if_neg (Ne.symm (inb hk.ts.2.2.2.2.1).1), if_neg (Ne.symm (inb hk.ts.2.2.2.2.2).1), if_neg (Ne.symm n2.2.1), if_neg (Nat.ne_of_lt (Nat.lt_succ_self L))]
  have hLb : base.get? L = none := by
    cases q : base.get? L with
    | none => rfl
    | some o => exact absurd (Heap.lt_size q) (Nat.not_lt.mpr F.above)
  have hB : Base (H0 L wo) := ⟨rfl, rfl, rfl, rfl, rfl, rfl⟩
  have ht : (H0 L wo) 433 = some (.raw (tabObj #[])) := rfl
  have hc : (H0 L wo) (L + 1) = some (.raw wo) := by
    unfold H0
    rw [if_neg (Ne.symm (inb hk.ts.1).2.2), if_neg (Ne.symm (inb hk.ts.2.1).2.2), if_neg (Ne.symm (inb hk.ts.2.2.1).2.2), if_neg (Ne.symm (inb hk.ts.2.2.2.1).2.2), if_neg (Ne.symm (inb hk.ts.2.2.2.2.1).2.2), if_neg (Ne.symm (inb hk.ts.2.2.2.2.2).2.2), if_neg (Ne.symm h433L), if_pos rfl]
  have hh : LHead C env (L + 1) := {
    eo := eo
    sc := v1
    code := v5
    hd := hd
    cells := by rw [v6]; rfl
    blt := fun h kk => by
      obtain ⟨bm, ob, b1, b2, b3, b4, b5, b6⟩ := bm
      refine ⟨bm, ob, b1, b2, fun q => ?_, fun q => ?_, kk _ _ b3, b4, b5, b6⟩
      · obtain ⟨o, es, ep, e, hd', _⟩ := hg
        rw [q, e] at b3; cases b3; rw [hd'] at b6; cases b6
      · rw [q, n2.2.2] at b3; cases b3
    tab := n2.2.2
    cn := n1.2.2 }
  have i0 : Inn C env lNs [some (.ref sa), none, none, none, none, none, none, none, none, none, none, none, none] (H0 L wo) { heap := h₁, gens := gs, drawn := dr, toks := tk, os := os } := by
    refine ⟨kp, hv, ⟨rfl, m, by rw [v4]; exact hNs, fun i y hy => ?_⟩, hLn, by rw [v4]; exact hLb⟩
    rw [hm i y hy]
    have hi : i < 13 := (List.getElem?_eq_some_iff.mp hy).1
    match i, hi with
    | 0, _ => rfl
    | 1, _ => rfl
    | 2, _ => rfl
    | 3, _ => rfl
    | 4, _ => rfl
    | 5, _ => rfl
    | 6, _ => rfl
    | 7, _ => rfl
    | 8, _ => rfl
    | 9, _ => rfl
    | 10, _ => rfl
    | 11, _ => rfl
    | 12, _ => rfl
  have her := intsAre_er hI
  have hvl : vs.length = is.length := by have := congrArg List.length her; simpa using this
  refine wpAny_mono (law_core (n := 0) P p PXx hh hl her (by show vs.toArray.size ≤ 1048576; simp; omega) hB ht hc hwo bd i0) (fun fl s' ⟨q1, q2, q3, q4⟩ => ?_) fun _ _ x => x
  exact ⟨q1, q2.gens, q2.os, q3.k, q4⟩
end

section
noncomputable def rr : OpenLaw := PySem.Challenge.rw_nn0034_01
theorem ws_c : namesResolve rr.prog = true := by
  rw [PySem.W.Fast.te8377067652309620493]
  kernel_rfl
theorem ws_3 : looksOpen rr.prog = true := by
  unfold looksOpen
  rw [ws_c, PySem.W.Fast.te8326940854005059898, PySem.W.Fast.te17119622794617984870, PySem.W.Fast.te13343964577679436407, PySem.W.Fast.te5923862056798008813, PySem.W.Fast.te12862048085361865435]
  kernel_rfl
theorem ws_4 : rr.row.wellSaid = true := by
  unfold OpenRow.wellSaid OpenRow.partSaid
  rw [show looksOpen rr.row.prog = true from ws_3]
  kernel_rfl
theorem ws : OpenLaw.wellSaid PySem.Challenge.rw_nn0034_01 = true := by
  show OpenLaw.wellSaid rr = true
  unfold OpenLaw.wellSaid
  rw [ws_4, PySem.W.Fast.te8326940854005059898, PySem.W.Fast.te17119622794617984870, PySem.W.Fast.te9558739934217749035, PySem.W.Fast.te16286561074155671207, PySem.W.Fast.te8179353310426384613]
  kernel_rfl
end

section
noncomputable def keep : List Nat := (List.range 66).filter fun i => !(Nat.beq i 0 || Nat.beq i 13 || Nat.beq i 15 || Nat.beq i 19 || Nat.beq i 45 || Nat.beq i 53)
noncomputable def pp : Program := PySem.Challenge.pw_nn0034_01
noncomputable def vw : Program := view pp keep
noncomputable def seenAs : List Addr := [2, 3, 15, 22, 23, 24, 25, 28, 35, 36, 37, 40, 47, 48, 49, 52, 54, 55, 57, 58, 59, 61, 62, 64, 65, 66, 68, 69, 71, 72, 73, 75, 76, 78, 79, 80, 82, 83, 85, 86, 87, 89, 90, 92, 93, 94, 96, 97, 99, 100, 101, 103, 104, 106, 107, 108, 110, 111, 113, 114, 115, 117, 118, 120, 121, 122, 124, 125, 127, 128, 129, 131, 132, 134, 135, 136, 138, 139, 141, 142, 143, 144, 145, 146, 147, 148, 149, 151, 152, 154, 155, 163, 165, 166, 168, 169, 170, 171, 172, 173, 174, 184, 186, 187, 189, 190, 191, 193, 194, 196, 197, 198, 199, 200, 201, 202, 212, 214, 215, 217, 218, 219, 220, 221, 222, 223, 226, 228, 229, 231, 232, 233, 235, 236, 238, 239, 240, 242, 243, 245, 246, 247, 249, 250, 252, 253, 254, 256, 257, 259, 260, 261, 263, 264, 266, 267, 268, 270, 271, 273, 274, 275, 277, 278, 280, 281, 282, 284, 285, 287, 288, 289, 291, 292, 294, 295, 296, 298, 299, 301, 302, 303, 305, 306, 308, 309, 310, 312, 313, 315, 316, 317, 319, 320, 322, 323, 324, 326, 327, 329, 330, 331, 333, 334, 336, 337, 338, 340, 341, 343, 344, 345, 347, 348, 350, 351, 352, 354, 355, 357, 358, 359, 361, 362, 364, 365, 366, 369, 370, 371, 373, 374, 376, 377, 378, 381, 382, 390, 392, 393, 395, 396, 397, 399, 400, 402, 403, 404, 406, 407, 409, 410, 411, 413, 414, 416, 417, 418, 420, 421, 423, 424, 425, 427, 428, 430, 431, 432, 434, 435, 437, 438]
noncomputable def Kof (h : Heap) : Frag := seenAs.filterMap fun a => (h.get? a).map fun o => (a, o)
theorem mem_of_lookup {K : Frag} {a : Addr} {o : Obj} (e : K.lookup a = some o) : (a, o) ∈ K := by
  induction K with
  | nil => cases e
  | cons p l ih =>
    obtain ⟨b, x⟩ := p
    rw [List.lookup_cons] at e
    cases hb : a == b with
    | true => rw [hb] at e; cases e; rw [beq_iff_eq.mp hb]; exact .head _
    | false => rw [hb] at e; exact .tail _ (ih e)
theorem Kof_in (h : Heap) : (Kof h).In h := fun a o e => by
  obtain ⟨b, _, hb⟩ := List.mem_filterMap.mp (mem_of_lookup e)
  obtain ⟨x, hx, e'⟩ := Option.map_eq_some_iff.mp hb
  cases e'
  exact hx
noncomputable abbrev Ob := List (Option FOb) × List Bool × List (Option (Option Value)) × List (Option (List Value)) × Option (Addr × Addr) × Option Obj
noncomputable def obs (s : Shared) : Ob := (FL.map (obF (Kof s.heap)), obB (Kof s.heap), obO (Kof s.heap), obT (Kof s.heap), tabIn (Kof s.heap) (S "law"), s.heap.get? 433)
noncomputable def exs : Ob := (FL.map exF, exB, exO, exT, some (437, 433), some (tabObj #[]))
noncomputable def Says (h : Heap) : Prop := (∃ K : Frag, K.In h ∧ HeadK K) ∧ h.get? 433 = some (tabObj #[])
theorem says_of {s : Shared} (h : obs s = exs) : Says s.heap := by
  simp only [obs, exs, Prod.mk.injEq] at h
  obtain ⟨h1, h2, h3, h4, h5, h6⟩ := h
  exact ⟨⟨_, Kof_in _, ⟨h1, h2, h3, h4, h5⟩⟩, h6⟩
theorem Says.keeps {h h' : Heap} (x : Says h) (k : ∀ b o, h.get? b = some o → h'.get? b = some o) : Says h' :=
  let ⟨⟨K, X, H⟩, y⟩ := x
  ⟨⟨K, X.keeps k, H⟩, k _ _ y⟩
noncomputable def Xt0 (s : Shared) : Bool := xlAt vw [] s && recOk [] s
noncomputable abbrev q0 : Pos := ⟨0, 0, 0, 0⟩
noncomputable def bT : List Stmt := behindTheImports pp
noncomputable def envT : Env := { scope := pp.main.scope, locals := mainNs, globals := mainNs, cells := [], code := .ref 13, frame := some 14 }
noncomputable def cT : Code := .body bT envT
noncomputable abbrev annT : Option Value := some (.ref 6)
noncomputable def s0 (w : World) (os : OsState) : Shared := ⟨boot_heap w.params, Array.mk [], boot_drawn, boot_toks, os⟩
/-- the state ahead of the first row of the text -/
noncomputable def sa (w : World) (os : OsState) : Shared := ((PySem.W.Fast.tw15667345088766844465 PySem.W.Fast.tw14364793385576792824 pp w 11 annT 12 (s0 w os) (topStub pp)).map (·.1)).getD (s0 w os)
noncomputable def treeOf : List Obj → Nat → BT → BT
  | [], _, t => t
  | o :: l, i, t => treeOf l (i + 1) (t.ins i o)
noncomputable def stT (w : World) (os : OsState) : SharedT := ⟨treeOf (sa w os).heap.objs.toList 0 .nil, 15, (sa w os).heap.life, (sa w os).gens, (sa w os).drawn, (sa w os).toks, os⟩
theorem top_pre (w : World) : (fun os => topGo treeTable pp w 11 annT 12 (s0 w os) (topStub pp)) = fun os => some ((stT w os).abs, ⟨denote treeTable cT, cT, q0, [topFrame q0]⟩) := by
  rw [PySem.W.Fast.te15667345088766844465, PySem.W.Fast.te14364793385576792824, PySem.W.Fast.te11892475500146522536]
  kernel_rfl
theorem top_block (w : World) : (fun os => segRun treeTable pp w 11 annT 1 1 (stT w os).abs (blockOf bT envT cT q0 [topFrame q0])) = fun os => some (.next, (stT w os).abs, cT, q0) := by
  kernel_rfl
noncomputable def runT (w : World) (os : OsState) : Option (Flow × SharedT × Code × Pos) := segRunT treeTable pp w 11 annT 1 3100 (stT w os) ⟨(execs bT envT).wrap doneF deadEnd id id, cT, q0, [topFrame q0]⟩
noncomputable def topB (w : World) (s : Shared) : Bool := staticsOk (importedModules pp.main.body) (boot_heap w.params) s.heap && namesBound pp s.heap && gensDone s && laidKept (boot_heap w.params) s.heap
noncomputable def lookC (s : Shared) : Bool := s.heap.accountedOkI (importedModules pp.main.body) && s.heap.isNs mainGlobals && s.heap.isNs builtinsNs && tablesOk vw s.heap && Xt0 s && (s.gens.size == 0)
theorem top_g1 (w : World) : (fun os => (runT w os).map fun r => (r.1, r.2.2.1, topB w r.2.1.abs && lookC r.2.1.abs, r.2.1.abs.heap.bltView)) = fun _ => some (Flow.next, cT, true, bltViewBooted) := by
  unfold runT
  rw [PySem.W.Fast.te10110043849684766642, PySem.W.Fast.te14364793385576792824, PySem.W.Fast.te12563942051412417395]
  kernel_rfl
theorem top_c1 (w : World) : (fun os => (runT w os).map fun r => seen ((recsOf vw).map (·.name)) (ownsOf vw) [] { r.2.1.abs with gens := #[] }) = fun _ => some (expectedOf vw) := by
  unfold runT
  rw [PySem.W.Fast.te10110043849684766642, PySem.W.Fast.te14364793385576792824, PySem.W.Fast.te12563942051412417395]
  kernel_rfl
theorem top_c3 (w : World) : (fun os => (runT w os).map fun r => r.2.1.abs.heap.keysOk (looseW vw []) ((recsOf vw).map (·.name)) ((litsOf vw).map (·.1)) ((clssOf vw (looseW vw [])).map (·.name))) = fun _ => some (true) := by
  unfold runT
  rw [PySem.W.Fast.te10110043849684766642, PySem.W.Fast.te14364793385576792824, PySem.W.Fast.te12563942051412417395, PySem.W.Fast.te10880121769531294198, PySem.W.Fast.te821141287760084731, PySem.W.Fast.te3399658132070893891, PySem.W.Fast.te7409074990110511671, PySem.W.Fast.te13664370479719496447]
  kernel_rfl
theorem top_c5 (w : World) : (fun os => (runT w os).map fun r => tabsOk vw r.2.1.abs) = fun _ => some (true) := by
  unfold runT
  rw [PySem.W.Fast.te10110043849684766642, PySem.W.Fast.te14364793385576792824, PySem.W.Fast.te12563942051412417395]
  kernel_rfl
theorem top_d1 (w : World) : (fun os => (runT w os).map fun r => plainSeenE vw (looseW vw []) r.2.1.abs) = fun _ => some (plainGoodE vw (looseW vw [])) := by
  unfold runT
  rw [PySem.W.Fast.te10110043849684766642, PySem.W.Fast.te14364793385576792824, PySem.W.Fast.te12563942051412417395]
  kernel_rfl
theorem top_g6 (w : World) : (fun os => (runT w os).map fun r => (pinSeenD vw (drecsOf vw) r.2.1.abs, plainSeenD vw [] r.2.1.abs, wideSeen vw r.2.1.abs, clsSeenW vw [] r.2.1.abs)) = fun _ => some (pinGoodD (drecsOf vw), plainGoodD vw [], wideGood vw, clsGoodW vw []) := by
  unfold runT
  rw [PySem.W.Fast.te10110043849684766642, PySem.W.Fast.te14364793385576792824, PySem.W.Fast.te12563942051412417395]
  kernel_rfl
theorem top_c8 (w : World) : (fun os => (runT w os).map fun r => FL.map (obF (Kof r.2.1.abs.heap))) = fun _ => some (FL.map exF) := by
  unfold runT
  rw [PySem.W.Fast.te10110043849684766642, PySem.W.Fast.te14364793385576792824, PySem.W.Fast.te12563942051412417395]
  kernel_rfl
theorem top_g5 (w : World) : (fun os => (runT w os).map fun r => (obB (Kof r.2.1.abs.heap), obO (Kof r.2.1.abs.heap), obT (Kof r.2.1.abs.heap), tabIn (Kof r.2.1.abs.heap) (S "law"), r.2.1.abs.heap.get? 433)) = fun _ => some (exB, exO, exT, some (437, 433), some (tabObj #[])) := by
  unfold runT
  rw [PySem.W.Fast.te10110043849684766642, PySem.W.Fast.te14364793385576792824, PySem.W.Fast.te12563942051412417395]
  kernel_rfl
/-- one run, seen in many ways -/
theorem seen_at {α β : Type} {o : Option α} {f : α → β} {b : β} {r : α} (h : o = some r) (e : o.map f = some b) : f r = b := by
  rw [h] at e; exact Option.some.inj e
theorem top_all (w : World) (os : OsState) : ∃ (sf : SharedT) (q : Pos), runT w os = some (.next, sf, cT, q) ∧ topB w sf.abs = true ∧ openSeen vw [] (importedModules pp.main.body) Xt0 true sf.abs = openGood vw [] ∧ obs sf.abs = exs := by
  have h0 := congrFun (top_g1 w) os
  cases hr : runT w os with
  | none => rw [hr] at h0; cases h0
  | some r =>
    have z0 := seen_at hr h0
    have z1 := seen_at hr (congrFun (top_c1 w) os)
    have z3 := seen_at hr (congrFun (top_c3 w) os)
    have z5 := seen_at hr (congrFun (top_c5 w) os)
    have d1 := seen_at hr (congrFun (top_d1 w) os)
    have z6 := seen_at hr (congrFun (top_g6 w) os)
    have z8 := seen_at hr (congrFun (top_c8 w) os)
    have z9 := seen_at hr (congrFun (top_g5 w) os)
    clear hr h0
    obtain ⟨f, sf, c, q⟩ := r
    dsimp only at z0 z1 z3 z5 d1 z6 z8 z9
    simp only [Prod.mk.injEq] at z0 z6 z9
    obtain ⟨rfl, rfl, z0, z2⟩ := z0
    obtain ⟨d0, d2, d3, d4⟩ := z6
    obtain ⟨z9, z10⟩ := z9
    obtain ⟨z0, z4⟩ := Bool.and_eq_true_iff.mp z0
    refine ⟨sf, q, rfl, z0, ?_, ?_⟩
    · have k : (sf.abs.heap.keysOk (looseW vw []) ((recsOf vw).map (·.name)) ((litsOf vw).map (·.1)) ((clssOf vw (looseW vw [])).map (·.name)) && sf.abs.heap.accountedOkI (importedModules pp.main.body) && sf.abs.heap.isNs mainGlobals && sf.abs.heap.isNs builtinsNs &&
          tablesOk vw sf.abs.heap && Xt0 sf.abs && (if true = true then sf.abs.gens.size == 0 else !leftWithCleanup sf.abs.gens)) = true := by
        have y := z4
        unfold lookC at y
        simp only [Bool.and_eq_true] at y ⊢
        exact ⟨⟨⟨⟨⟨⟨z3, y.1.1.1.1.1⟩, y.1.1.1.1.2⟩, y.1.1.1.2⟩, y.1.1.2⟩, y.1.2⟩, y.2⟩
      exact Prod.ext z1 (Prod.ext z2 (Prod.ext k (Prod.ext z5 (Prod.ext d0 (Prod.ext d1 (Prod.ext d2 (Prod.ext d3 d4)))))))
    · exact Prod.ext z8 (Prod.ext z9 (Prod.ext z10.1 (Prod.ext z10.2.1 (Prod.ext z10.2.2.1 z10.2.2.2))))
theorem top_size (w : World) : (fun os => ((s0 w os).heap.isNs mainGlobals && (s0 w os).gens.size == 0, (s0 w os).heap.objs.size, (s0 w os).heap.nsMap mainGlobals "__annotations__")) = fun _ => (true, 11, annT) := by kernel_rfl
theorem fin_step (w : World) (sf : Shared) (q : Pos) : topRun treeTable pp w 11 annT 2 sf ⟨doneF .next, cT, q, [topFrame q0]⟩ = some sf := by kernel_rfl
theorem top_from (w : World) (os : OsState) : ∃ sf : Shared, topFrom treeTable pp w 6152 (s0 w os) = some sf ∧ openSeen vw [] (importedModules pp.main.body) Xt0 true sf = openGood vw [] ∧ obs sf = exs := by
  obtain ⟨sf, q, hr, hb, ho, hx⟩ := top_all w os
  refine ⟨sf.abs, ?_, ho, hx⟩
  have r1 : topRun treeTable pp w 11 annT (3100 + 2) (stT w os).abs (restOf (bT ++ []) envT cT q0 [topFrame q0]) = some sf.abs := piece_app (segRun_of hr) (piece_nil (fin_step w sf.abs q))
  rw [List.append_nil] at r1
  have r2 := piece_block (congrFun (top_block w) os) r1
  have r3 := go_top (congrFun (top_pre w) os) r2
  have r4 := topRun_mono 3037 _ _ _ _ r3
  have z := congrFun (top_size w) os
  simp only [Prod.mk.injEq] at z
  obtain ⟨z1, z2, z3⟩ := z
  unfold topFrom
  rw [z1, z2, z3]
  dsimp only
  rw [show topRun treeTable pp w 11 annT 6152 (s0 w os) (topStub pp) = some sf.abs from r4]
  show (match topB w sf.abs with | true => some sf.abs | false => none) = _
  rw [hb]
theorem op_pp : opening pp = plainProg pp.main.scope.names := by kernel_rfl
theorem fence_pp (s : Shared) : fenceModules? pp s = some s := by rfl
theorem boot_pp (w : World) : (fencedOpening treeTable pp w 6152).map (fun s => (s.heap, s.gens, s.drawn, s.toks)) = some (boot_heap w.params, Array.mk [], boot_drawn, boot_toks) :=
  boot_open op_pp (by rfl) fence_pp w
theorem openEnds_of {p : Program} {w : World} {N : Nat} {s : Shared} (e : fencedOpening treeTable p w N = some s) : openEnds treeTable p w N = topFrom treeTable p w N s := by
  unfold openEnds
  rw [e, Option.bind_some]
theorem map_seen {α β γ : Type} {o : Option α} {s : α} {f : α → β} {g : α → γ} {y : β} {z : γ} (a : o = some s) (b : f s = y) (c : g s = z) : o.map (fun s => (f s, g s)) = some (y, z) := by
  subst a b c
  rfl
/-- by general lemmas alone: a 'show' at this program makes the kernel run the top again (60 s, 6.6 GB) -/
theorem left_head : LeftO pp vw [] Xt0 obs (fun _ => exs) 6152 := fun w => by
  obtain ⟨⟨h, gs, d, k, os⟩, e1, e2⟩ := Option.map_eq_some_iff.mp (boot_pp w)
  simp only [Prod.mk.injEq] at e2
  obtain ⟨rfl, rfl, rfl, rfl⟩ := e2
  obtain ⟨sf, a, b, c⟩ := top_from w os
  exact map_seen ((openEnds_of e1).trans a) b c
end

section
theorem bud_law (env : Env) : Bud 195 (callerA.deeper env) := ⟨rfl, (by show 1 + claimMargin + 1 + 195 < 1000; decide), (by show 4 + 3 + 4 * 195 + 70 ≤ 9900; decide)⟩
noncomputable def fPos : Stmt → Pos
  | .FunctionDef _ _ _ _ _ _ _ _ _ p => p
  | _ => default
noncomputable def dL : DefRec := { name := S "law", params := { posonlyargs := [], args := [{ arg := S "script", annotation := none, pos := ⟨315, 8, 315, 14⟩ }], vararg := none, kwonlyargs := [], kw_defaults := [], kwarg := none, defaults := [] }, body := fBody (stAt 65), scope := fSc (stAt 65), pos := fPos (stAt 65) }
theorem dL_at : defOf vw (S "law") = some (dL, []) := by kernel_rfl
theorem dL_p : pp.theDef (S "law") = some (dL.params, dL.body, dL.scope) := by kernel_rfl
end
end Mine
set_option maxHeartbeats 8000000 in
theorem PySem.Challenge.cw_nn0034_01_holds : PySem.Challenge.rw_nn0034_01.Holds := by
  w_on
  refine holds_law Mine.ws fun said => ?_
  refine holds_open (q := Mine.vw) (loose := []) (Xt := Mine.Xt0) (XP := XL Mine.vw []) (Yf := Mine.obs) (Ya := fun _ => Mine.exs) (YP := fun _ h => Mine.Says h) (N := 6152) (d := Mine.dL) (kwd := [])
    Mine.left_head (fun w s e => Mine.says_of e) (fun w h h' x k => x.keeps k) (fun s e => xl_of s (Bool.and_eq_true_iff.mp e).1) XL.keeps Mine.dL_at Mine.dL_p (by kernel_rfl)
    (fun s e => recFacts_of (Bool.and_eq_true_iff.mp e).2) (by rfl) (by assumption) (by decide +kernel) ⟨rfl, rfl, rfl, rfl, rfl, by decide +kernel⟩ ?hw ?hc
  case hw => w_witness2
  intro w s₀ s₁ mg mb G Y fa o pm cd doc dV kV ho hd hcd hD hmg hg args vals as hpre hlay hrd hwl hlo
  obtain ⟨⟨K, KX, HK⟩, hT433⟩ := Y
  have X := (Ground.X G).1
  have V := (Ground.X G).2
  refine Ground.open G ?_
  intro T B D TE TW
  have hT9 : TabsAt [((437 : Addr), (433 : Addr))] s₁.heap := List.forall_mem_cons.mpr ⟨⟨codeHd_of_K KX HK.bs.2.2.2.2.2.2.2.2, hT433⟩, fun _ h => nomatch h⟩
  have he9 : cd = PySem.Value.ref 437 := law_code (x := Mine.S "law") KX (Top.g T) HK.l hmg ho hd
  subst he9
  clear hmg
  wrow_args hpre hlay hrd hwl hlo
  all_goals (
    first | refine callC_kw (enter_call ?_) | refine enter_call ?_
    w_top on
    kn_posts
    w_call any ho hd hcd hD T F
    clear hd
    rename News _ _ _ _ => N
    have X' := ghost_K hT9 KX HK.bs.2.2.2.2.2.2.2.1
    have T' := ghost_top hT9 T
    have N' := ghost_news hT9 F N
    have F' := ghost_fr hT9 F
    have hl := ghost_list hT9 ‹s₁.heap.IsList _ _›
    have hc := (ghost_code hT9).1
    simp only [tabNews, List.map_cons, List.map_nil, List.nil_append, List.cons_append] at N'
    have hI := ‹IntsAre _ _›
    have hlen := ‹¬ (((63 : Nat) : Int) < _)›
    have hgens := ‹_ = (#[] : Array GenState)›
    have hwo := ‹Obj.data _ = Data.cell _›
    refine wpAny_mono (Mine.law_join (m := _) X' T'.g T'.b T'.nolimit T'.builtins T'.bmain F' ?_ N' (hwo.trans (by kernel_rfl)) hc hl hI hlen HK (Mine.bud_law _)) (fun fl s' h => ?_) (fun _ _ x => x.elim)
    · intro i y hy
      have hi : i < 13 := (List.getElem?_eq_some_iff.mp hy).1
      match i, hi with
      | 0, _ => cases hy; kernel_rfl
      | 1, _ => cases hy; kernel_rfl
      | 2, _ => cases hy; kernel_rfl
      | 3, _ => cases hy; kernel_rfl
      | 4, _ => cases hy; kernel_rfl
      | 5, _ => cases hy; kernel_rfl
      | 6, _ => cases hy; kernel_rfl
      | 7, _ => cases hy; kernel_rfl
      | 8, _ => cases hy; kernel_rfl
      | 9, _ => cases hy; kernel_rfl
      | 10, _ => cases hy; kernel_rfl
      | 11, _ => cases hy; kernel_rfl
      | 12, _ => cases hy; kernel_rfl
    · obtain ⟨rfl, h2, h3, h4, ps, h5⟩ := h
      exact ⟨⟨.inl ⟨.bool true, .bool true, [], rfl, fun _ => rfl, .bool true, by kernel_rfl, fun _ => ⟨List.nodup_nil, fun a ha => nomatch ha⟩⟩, h4, h3, h2.trans hgens⟩, ⟨ps, h5⟩, trivial⟩)
