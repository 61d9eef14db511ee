import PyProof.Rows.All
import Wide.All
import OpenK.AllK
import Wide.FinOn
import Lean
import PySem.Challenge.RW_xm0497_01
set_option Elab.async false
set_option maxHeartbeats 8000000
set_option linter.unusedVariables false
set_option maxRecDepth 100000
open PySem PySem.W PySem.Calls PyProof.Rows
namespace Mine
inductive V where
  | none
  | bool (b : Bool)
  | int (i : Int)
  | str (x : Str)
  | tup (l : List V)
  | lst (l : List V)
  | dct (l : List (Int × V))
  | rng (a b : Int)
  | obj (a : Addr)

structure Cx where
  prog : Program
  w : World
  B : Heap
  lim : B.NoLimit

noncomputable abbrev KM := Addr → Option Obj
noncomputable def KLe (K K' : KM) : Prop := ∀ a o, K a = some o → K' a = some o
theorem KLe.refl (K : KM) : KLe K K := fun _ _ e => e
theorem KLe.trans {K K' K'' : KM} (h : KLe K K') (h' : KLe K' K'') : KLe K K'' := fun a o e => h' a o (h a o e)

mutual
inductive RepV (X : Cx) (K : KM) : Value → V → Prop
  | none : RepV X K .none .none
  | bool (b : Bool) : RepV X K (.bool b) (.bool b)
  | int (i : Int) (t : Tok) : RepV X K (.int i t) (.int i)
  | str (x : Str) (t : Tok) : RepV X K (.str x t) (.str x)
  | tup {a : Addr} {items : Array Value} {n : Nat} {l : List V} : K a = some ⟨.type "tuple", .none, .seq items n, #[]⟩ → RepL X K items.toList l → RepV X K (.ref a) (.tup l)
  | lst {a : Addr} {items : Array Value} {n : Nat} {l : List V} : K a = some ⟨.type "list", .none, .seq items n, #[]⟩ → RepL X K items.toList l → RepV X K (.ref a) (.lst l)
  | dct {a : Addr} {o : Obj} {kvs : List (Int × Value)} {l : List (Int × V)} : K a = some o → o.IsDictOf (intKind X.prog X.w) kvs → RepD X K kvs l → (a == sysModules) = false → RepV X K (.ref a) (.dct l)
  | rng {r : Addr} {a b : Int} {t u v : Tok} : K r = some ⟨.type "range", .none, .fields #[.int a t, .int b u, .int 1 v], #[]⟩ → RepV X K (.ref r) (.rng a b)
  | obj (a : Addr) : RepV X K (.ref a) (.obj a)
inductive RepL (X : Cx) (K : KM) : List Value → List V → Prop
  | nil : RepL X K [] []
  | cons {v : Value} {x : V} {vs : List Value} {xs : List V} : RepV X K v x → RepL X K vs xs → RepL X K (v :: vs) (x :: xs)
inductive RepD (X : Cx) (K : KM) : List (Int × Value) → List (Int × V) → Prop
  | nil : RepD X K [] []
  | cons {k : Int} {v : Value} {x : V} {es : List (Int × Value)} {l : List (Int × V)} : RepV X K v x → RepD X K es l → RepD X K ((k, v) :: es) ((k, x) :: l)
end

mutual
theorem RepV.mono {X : Cx} {K K' : KM} (h : KLe K K') : ∀ {v : Value} {x : V}, RepV X K v x → RepV X K' v x
  | _, _, .none => .none
  | _, _, .bool b => .bool b
  | _, _, .int i t => .int i t
  | _, _, .str x t => .str x t
  | _, _, .tup e r => .tup (h _ _ e) (RepL.mono h r)
  | _, _, .lst e r => .lst (h _ _ e) (RepL.mono h r)
  | _, _, .dct e r n s => .dct (h _ _ e) r (RepD.mono h n) s
  | _, _, .rng e => .rng (h _ _ e)
  | _, _, .obj a => .obj a
theorem RepL.mono {X : Cx} {K K' : KM} (h : KLe K K') : ∀ {vs : List Value} {xs : List V}, RepL X K vs xs → RepL X K' vs xs
  | _, _, .nil => .nil
  | _, _, .cons r t => .cons (RepV.mono h r) (RepL.mono h t)
theorem RepD.mono {X : Cx} {K K' : KM} (h : KLe K K') : ∀ {es : List (Int × Value)} {l : List (Int × V)}, RepD X K es l → RepD X K' es l
  | _, _, .nil => .nil
  | _, _, .cons r t => .cons (RepV.mono h r) (RepD.mono h t)
end

section
variable {X : Cx} {K : KM}
theorem RepV.int_inv {v : Value} {i : Int} (r : RepV X K v (.int i)) : ∃ t, v = .int i t := by cases r; exact ⟨_, rfl⟩
theorem RepV.str_inv {v : Value} {x : Str} (r : RepV X K v (.str x)) : ∃ t, v = .str x t := by cases r; exact ⟨_, rfl⟩
theorem RepV.bool_inv {v : Value} {b : Bool} (r : RepV X K v (.bool b)) : v = .bool b := by cases r; rfl
theorem RepV.none_inv {v : Value} (r : RepV X K v .none) : v = .none := by cases r; rfl
theorem RepV.obj_inv {v : Value} {a : Addr} (r : RepV X K v (.obj a)) : v = .ref a := by cases r; rfl
theorem RepV.tup_inv {v : Value} {l : List V} (r : RepV X K v (.tup l)) : ∃ a items n, v = .ref a ∧ K a = some ⟨.type "tuple", .none, .seq items n, #[]⟩ ∧ RepL X K items.toList l := by
  cases r with | tup e r => exact ⟨_, _, _, rfl, e, r⟩
theorem RepL.cons_inv {us : List Value} {x : V} {xs : List V} (r : RepL X K us (x :: xs)) : ∃ u us', us = u :: us' ∧ RepV X K u x ∧ RepL X K us' xs := by
  cases r with | cons a b => exact ⟨_, _, rfl, a, b⟩
theorem RepL.cons_invl {u : Value} {us : List Value} {xs : List V} (r : RepL X K (u :: us) xs) : ∃ x xs', xs = x :: xs' ∧ RepV X K u x ∧ RepL X K us xs' := by
  cases r with | cons a b => exact ⟨_, _, rfl, a, b⟩
theorem RepV.lst_inv {v : Value} {l : List V} (r : RepV X K v (.lst l)) : ∃ a items n, v = .ref a ∧ K a = some ⟨.type "list", .none, .seq items n, #[]⟩ ∧ RepL X K items.toList l := by
  cases r with | lst e r => exact ⟨_, _, _, rfl, e, r⟩
theorem RepL.nil_inv {us : List Value} (r : RepL X K us []) : us = [] := by cases r; rfl
theorem RepL.nil_invl {xs : List V} (r : RepL X K [] xs) : xs = [] := by cases r; rfl
theorem RepL.length : ∀ {vs : List Value} {xs : List V}, RepL X K vs xs → vs.length = xs.length
  | _, _, .nil => rfl
  | _, _, .cons _ t => by simp [RepL.length t]
theorem RepL.append : ∀ {vs us : List Value} {xs ys : List V}, RepL X K vs xs → RepL X K us ys → RepL X K (vs ++ us) (xs ++ ys)
  | _, _, _, _, .nil, r => r
  | _, _, _, _, .cons h t, r => .cons h (RepL.append t r)
theorem RepL.get : ∀ {vs : List Value} {xs : List V}, RepL X K vs xs → ∀ (i : Nat) (x : V), xs[i]? = some x → ∃ v, vs[i]? = some v ∧ RepV X K v x
  | _, _, .nil, i, x, e => by simp at e
  | _, _, .cons h t, 0, x, e => by simp at e; subst e; exact ⟨_, rfl, h⟩
  | _, _, .cons h t, i + 1, x, e => by simp at e; simpa using RepL.get t i x e
theorem RepL.get' : ∀ {vs : List Value} {xs : List V}, RepL X K vs xs → ∀ (i : Nat) (v : Value), vs[i]? = some v → ∃ x, xs[i]? = some x ∧ RepV X K v x
  | _, _, .nil, i, v, e => by simp at e
  | _, _, .cons h t, 0, v, e => by simp at e; subst e; exact ⟨_, rfl, h⟩
  | _, _, .cons h t, i + 1, v, e => by simp at e; simpa using RepL.get' t i v e
theorem RepL.take : ∀ {vs : List Value} {xs : List V} (n : Nat), RepL X K vs xs → RepL X K (vs.take n) (xs.take n)
  | _, _, 0, _ => by simpa using RepL.nil
  | _, _, n + 1, .nil => by simpa using RepL.nil
  | _, _, n + 1, .cons h t => by simpa using RepL.cons h (RepL.take n t)
theorem RepL.drop : ∀ {vs : List Value} {xs : List V} (n : Nat), RepL X K vs xs → RepL X K (vs.drop n) (xs.drop n)
  | _, _, 0, h => by simpa using h
  | _, _, n + 1, .nil => by simpa using RepL.nil
  | _, _, n + 1, .cons h t => by simpa using RepL.drop n t
theorem RepL.one {v : Value} {x : V} (h : RepV X K v x) : RepL X K [v] [x] := .cons h .nil
theorem RepL.snoc {vs : List Value} {xs : List V} {v : Value} {x : V} (h : RepL X K vs xs) (r : RepV X K v x) : RepL X K (vs ++ [v]) (xs ++ [x]) := h.append (.one r)
theorem RepL.set : ∀ {vs : List Value} {xs : List V}, RepL X K vs xs → ∀ (i : Nat) {v : Value} {x : V}, RepV X K v x → RepL X K (vs.set i v) (xs.set i x)
  | _, _, .nil, i, _, _, _ => by simpa using RepL.nil
  | _, _, .cons h t, 0, _, _, r => by simpa using RepL.cons r t
  | _, _, .cons h t, i + 1, _, _, r => by simpa using RepL.cons h (RepL.set t i r)
theorem RepL.dropLast : ∀ {vs : List Value} {xs : List V}, RepL X K vs xs → RepL X K vs.dropLast xs.dropLast
  | _, _, .nil => by simpa using RepL.nil
  | _, _, .cons h .nil => by simpa using RepL.nil
  | _, _, .cons h (.cons h' t) => by simpa using RepL.cons h (RepL.dropLast (.cons h' t))
theorem RepD.keys : ∀ {es : List (Int × Value)} {l : List (Int × V)}, RepD X K es l → es.map (·.1) = l.map (·.1)
  | _, _, .nil => rfl
  | _, _, .cons _ t => by simp [RepD.keys t]
theorem RepD.length {es : List (Int × Value)} {l : List (Int × V)} (h : RepD X K es l) : es.length = l.length := by
  have := congrArg List.length h.keys; simpa using this
end

inductive RepS (X : Cx) (K : KM) : List (Str × Value) → List (Str × V) → Prop
  | nil : RepS X K [] []
  | cons {k : Str} {v : Value} {x : V} {es : List (Str × Value)} {l : List (Str × V)} : RepV X K v x → RepS X K es l → RepS X K ((k, v) :: es) ((k, x) :: l)
theorem RepS.mono {X : Cx} {K K' : KM} (h : KLe K K') {es : List (Str × Value)} {l : List (Str × V)} (r : RepS X K es l) : RepS X K' es l := by
  induction r with
  | nil => exact .nil
  | cons r _ ih => exact .cons (r.mono h) ih

inductive RepN (X : Cx) (K : KM) : List DictEntry → List (Str × V) → Prop
  | nil : RepN X K [] []
  | cons {g : Int} {k : Str} {t : Tok} {v : Value} {x : V} {es : List DictEntry} {l : List (Str × V)} : RepV X K v x → RepN X K es l → RepN X K (⟨g, .str k t, v⟩ :: es) ((k, x) :: l)
theorem RepN.mono {X : Cx} {K K' : KM} (h : KLe K K') {es : List DictEntry} {l : List (Str × V)} (r : RepN X K es l) : RepN X K' es l := by
  induction r with
  | nil => exact .nil
  | cons r _ ih => exact .cons (r.mono h) ih

inductive AObj where
  | list (l : List V)
  | dictI (l : List (Int × V))
  | dictT (l : List (V × V))
  | dictS (l : List (Str × V))
  | inst (C : Addr) (d : Addr)
  | ns (l : List (Str × V))
  | raw (o : Obj)

noncomputable abbrev St := List (Addr × AObj)

structure Ok (n : Nat) (A : Around) : Prop where
  h : A.handled = none
  d : A.depth + 8 * n + 100 ≤ 1000
  u : A.units + 64 * n + 500 ≤ 9900
theorem Ok.mono {n m : Nat} {A : Around} (h : Ok n A) (hm : m ≤ n) : Ok m A := ⟨h.h, by have := h.d; lia, by have := h.u; lia⟩
theorem Ok.units {n : Nat} {A : Around} (h : Ok n A) (k : Nat) (hk : k ≤ 400 := by decide) : A.units + k < cLine := by have := h.u; rw [cLine_is]; lia
theorem Ok.deeper {n : Nat} {A : Around} (h : Ok (n + 1) A) (env : Env) : Ok n (A.deeper env) :=
  ⟨h.h, by have := h.d; show A.depth + 1 + 8 * n + 100 ≤ 1000; lia, by have := h.u; show A.units + 3 + 64 * n + 500 ≤ 9900; lia⟩
theorem Ok.room {n : Nat} {A : Around} (h : Ok n A) : A.depth < recursionLimit := by have := h.d; show A.depth < 1000; lia

noncomputable def Same (s s' : Shared) : Prop := ∃ h t, s' = { s with heap := h, toks := t }
theorem Same.refl (s : Shared) : Same s s := ⟨s.heap, s.toks, rfl⟩
theorem Same.of (s : Shared) (h : Heap) (t : Tok) : Same s { s with heap := h, toks := t } := ⟨h, t, rfl⟩
theorem Same.trans {s s' s'' : Shared} (a : Same s s') (b : Same s' s'') : Same s s'' := by
  obtain ⟨h, t, rfl⟩ := a; obtain ⟨h', t', rfl⟩ := b; exact ⟨h', t', rfl⟩
mutual
inductive Key : Nat → V → Prop
  | int (d : Nat) (i : Int) : Key d (.int i)
  | str (d : Nat) (x : Str) : Key d (.str x)
  | tup {d : Nat} {l : List V} : Keys d l → Key (d + 1) (.tup l)
inductive Keys : Nat → List V → Prop
  | nil (d : Nat) : Keys d []
  | cons {d : Nat} {x : V} {l : List V} : Key d x → Keys d l → Keys d (x :: l)
end
mutual
theorem Key.up : ∀ {d d' : Nat} {x : V}, Key d x → d ≤ d' → Key d' x
  | _, _, _, .int _ i, _ => .int _ i
  | _, _, _, .str _ i, _ => .str _ i
  | _, d' + 1, _, .tup h, hd => .tup (Keys.up h (by lia))
  | _, 0, _, .tup h, hd => by lia
theorem Keys.up : ∀ {d d' : Nat} {x : List V}, Keys d x → d ≤ d' → Keys d' x
  | _, _, _, .nil _, _ => .nil _
  | _, _, _, .cons h t, hd => .cons (Key.up h hd) (Keys.up t hd)
end
theorem Keys.append {d : Nat} : ∀ {x y : List V}, Keys d x → Keys d y → Keys d (x ++ y)
  | _, _, .nil _, h => h
  | _, _, .cons h t, h' => .cons h (Keys.append t h')

mutual
noncomputable def hashV (w : World) : V → Int
  | .int i => hashInt i
  | .str x => hashStr w x
  | .tup l => reduceHash (Builtin.Tuple.tupleHashOf (hashVs w l))
  | _ => 0
noncomputable def hashVs (w : World) : List V → List Int
  | [] => []
  | x :: r => hashV w x :: hashVs w r
end
mutual
noncomputable def drawsV : V → Nat
  | .int _ => 1
  | .str _ => 1
  | .tup l => drawsVs l + 1
  | _ => 0
noncomputable def drawsVs : List V → Nat
  | [] => 0
  | x :: r => drawsV x + drawsVs r
end
theorem hashVs_append (w : World) : ∀ a b : List V, hashVs w (a ++ b) = hashVs w a ++ hashVs w b
  | [], _ => rfl
  | x :: r, b => by simp [hashVs, hashVs_append w r b]
theorem drawsVs_append : ∀ a b : List V, drawsVs (a ++ b) = drawsVs a + drawsVs b
  | [], _ => by simp [drawsVs]
  | x :: r, b => by simp [drawsVs, drawsVs_append r b]; lia

section
variable {X : Cx} {K K' : KM}
noncomputable def Atom (x : V) : Prop := (∃ i, x = .int i) ∨ ∃ s, x = .str s
theorem Key.inv0 {x : V} (k : Key 0 x) : Atom x := by
  cases k with
  | int => exact .inl ⟨_, rfl⟩
  | str => exact .inr ⟨_, rfl⟩
theorem Key.invS {d : Nat} {x : V} (k : Key (d + 1) x) : Atom x ∨ ∃ l, x = .tup l ∧ Keys d l := by
  cases k with
  | int => exact .inl (.inl ⟨_, rfl⟩)
  | str => exact .inl (.inr ⟨_, rfl⟩)
  | tup h => exact .inr ⟨_, rfl, h⟩
theorem Keys.cons_inv {d : Nat} {x : V} {xs : List V} (k : Keys d (x :: xs)) : Key d x ∧ Keys d xs := by
  cases k with | cons a b => exact ⟨a, b⟩
theorem RepV.inj_atom {d : Nat} {v : Value} {x y : V} (h1 : RepV X K v x) (h2 : RepV X K v y) (k1 : Atom x) (k2 : Key d y) : x = y := by
  rcases k1 with ⟨i, rfl⟩ | ⟨s, rfl⟩
  · obtain ⟨t, rfl⟩ := h1.int_inv
    cases h2; rfl
  · obtain ⟨t, rfl⟩ := h1.str_inv
    cases h2; rfl
theorem RepV.inj : ∀ (d : Nat) {v : Value} {x y : V}, RepV X K v x → RepV X K v y → Key d x → Key d y → x = y := by
  intro d
  induction d with
  | zero => exact fun h1 h2 k1 k2 => h1.inj_atom h2 k1.inv0 k2
  | succ d ih =>
    have hl : ∀ (vs : List Value) (xs ys : List V), RepL X K vs xs → RepL X K vs ys → Keys d xs → Keys d ys → xs = ys := by
      intro vs
      induction vs with
      | nil => intro xs ys h1 h2 _ _; rw [h1.nil_invl, h2.nil_invl]
      | cons v vs ihl =>
        intro xs ys h1 h2 k1 k2
        obtain ⟨x, xs, rfl, a, b⟩ := h1.cons_invl
        obtain ⟨y, ys, rfl, a', b'⟩ := h2.cons_invl
        rw [ih a a' k1.cons_inv.1 k2.cons_inv.1, ihl _ _ b b' k1.cons_inv.2 k2.cons_inv.2]
    intro v x y h1 h2 k1 k2
    rcases k1.invS with a1 | ⟨l, rfl, k1'⟩
    · exact h1.inj_atom h2 a1 k2
    · rcases k2.invS with a2 | ⟨m, rfl, k2'⟩
      · exact (h2.inj_atom h1 a2 k1).symm
      · obtain ⟨a, xs, n, rfl, e1, r1⟩ := h1.tup_inv
        obtain ⟨b, ys, m', hv, e2, r2⟩ := h2.tup_inv
        obtain rfl : a = b := by injection hv
        obtain ⟨rfl, rfl⟩ : xs = ys ∧ n = m' := by rw [e1] at e2; injection e2 with e; injection e with _ _ e _; injection e with e1 e2; exact ⟨e1, e2⟩
        rw [hl _ _ _ r1 r2 k1' k2']
theorem RepV.keep_atom {v : Value} {x : V} (h : RepV X K v x) (k : Atom x) : RepV X K' v x := by
  rcases k with ⟨i, rfl⟩ | ⟨s, rfl⟩
  · obtain ⟨t, rfl⟩ := h.int_inv; exact .int _ _
  · obtain ⟨t, rfl⟩ := h.str_inv; exact .str _ _
theorem RepV.keep (h : ∀ a n items, K a = some ⟨.type "tuple", .none, .seq items n, #[]⟩ → K' a = some ⟨.type "tuple", .none, .seq items n, #[]⟩) :
    ∀ (d : Nat) {v : Value} {x : V}, RepV X K v x → Key d x → RepV X K' v x := by
  intro d
  induction d with
  | zero => exact fun h1 k1 => h1.keep_atom k1.inv0
  | succ d ih =>
    have hl : ∀ (vs : List Value) (xs : List V), RepL X K vs xs → Keys d xs → RepL X K' vs xs := by
      intro vs
      induction vs with
      | nil => intro xs h1 _; rw [h1.nil_invl]; exact .nil
      | cons v vs ihl =>
        intro xs h1 k1
        obtain ⟨x, xs, rfl, a, b⟩ := h1.cons_invl
        exact .cons (ih a k1.cons_inv.1) (ihl _ b k1.cons_inv.2)
    intro v x h1 k1
    rcases k1.invS with a1 | ⟨l, rfl, k1'⟩
    · exact h1.keep_atom a1
    · obtain ⟨a, xs, n, rfl, e1, r1⟩ := h1.tup_inv
      exact .tup (h _ _ _ e1) (hl _ _ r1 k1')
end

noncomputable instance decV : DecidableEq V := fun a b => Classical.propDecidable (a = b)

section
variable {X : Cx} {A : Around} {E : Value → Shared → Prop} {s : Shared}

theorem hash_atom {A : Around} {E : Value → Shared → Prop} {s : Shared} {v : Value} {x : V} {Q : Int → Shared → Prop} (k : Atom x) (r : RepV X s.heap.get? v x)
    (h : Q (hashV X.w x) { s with toks := s.toks + drawsV x }) : wpAny (model X.prog X.w) A (pyHash v) Q E s := by
  rcases k with ⟨i, rfl⟩ | ⟨z, rfl⟩
  · obtain ⟨t, rfl⟩ := r.int_inv; exact wpAny_pyHash_int h
  · obtain ⟨t, rfl⟩ := r.str_inv; exact wpAny_pyHash_str h
theorem key_hash : ∀ (d : Nat) {A : Around} {E : Value → Shared → Prop} {s : Shared} {v : Value} {x : V} {Q : Int → Shared → Prop}, A.units + 4 * d < cLine → Key d x → RepV X s.heap.get? v x →
    Q (hashV X.w x) { s with toks := s.toks + drawsV x } → wpAny (model X.prog X.w) A (pyHash v) Q E s := by
  intro d
  induction d with
  | zero => exact fun _ hk hr h => hash_atom hk.inv0 hr h
  | succ d ih =>
    intro A E s v x Q hu hk hr h
    rcases hk.invS with k | ⟨l, rfl, hks⟩
    · exact hash_atom k hr h
    obtain ⟨a, items, n, rfl, e, r⟩ := hr.tup_inv
    have hT : s.TypeIs (.ref a) "tuple" := ⟨_, e, rfl⟩
    unfold pyHash
    unfold pyHashByItsType
    refine wpAny_bind (wpAny_cRoomFor_or (.inr (by lia)) ?_)
    refine wpAny_bind (wpAny_specialOf hT F.slot_tuple_hash.lookup ?_)
    show wpAny _ _ (if (some (Value.builtin "tuple.__hash__") == some Value.none) = true then _ else _) Q E s
    rw [if_neg (by rw [beq_builtin_none]; exact Bool.false_ne_true)]
    refine wpAny_bind (wpAny_specialOf hT F.slot_tuple_hash.lookup ?_)
    show wpAny _ _ (callSpecialIfBoundUnlessNone? (.ref a) "__hash__" _ >>= _) Q E s
    refine wpAny_bind (wpAny_callSpecialIfBoundUnlessNone?_slot hT F.slot_tuple_hash (wpAny_call_entry F.slot_tuple_hash hT F.entry_tuple_hash ?_ (F.args_tuple_hash_1 _)))
    show wpAny _ _ (Builtin.Tuple.tupleItemsOf (.ref a) >>= _) _ _ s
    refine wpAny_bind (wpAny_tupleItemsOf e rfl ?_)
    refine wpAny_bind ?_
    rw [← Array.forIn_toList]
    refine wpAny_forIn_list _
      (fun rest (b : Array Int) s' => ∃ done left, l = done ++ left ∧ RepL X s.heap.get? rest left ∧ Keys d left ∧ b.toList = hashVs X.w done ∧ s' = { s with toks := s.toks + drawsVs done })
      _ ?_ ?_ _ _ ⟨[], l, rfl, r, hks, rfl, rfl⟩
    · rintro y rest b s' ⟨done, left, rfl, hl, hkl, hb, rfl⟩
      obtain ⟨x', left', rfl, h1, hl'⟩ := hl.cons_invl
      obtain ⟨hk1, hkl'⟩ := hkl.cons_inv
      refine wpAny_bind (ih (s := { s with toks := s.toks + drawsVs done }) (by show A.units + 1 + 4 * d < cLine; lia) hk1 h1 ?_)
      exact wpAny_pure ⟨done ++ [x'], left', by simp, hl', hkl', by simp [hb, hashVs_append, hashVs], by simp [drawsVs_append, drawsVs, Nat.add_assoc]⟩
    · rintro b s' ⟨done, left, rfl, hl, hkl, hb, rfl⟩
      rw [hl.nil_invl, List.append_nil] at h
      show wpAny _ _ (retInt (Builtin.Tuple.tupleHashOf b.toList)) _ _ _
      rw [hb]
      refine wpAny_ret_mkInt ?_
      show wpAny _ _ (if (decide (-(2 : Int) ^ 63 ≤ Builtin.Tuple.tupleHashOf (hashVs X.w done)) && decide (Builtin.Tuple.tupleHashOf (hashVs X.w done) < 2 ^ 63)) = true then _ else _) Q E _
      simp only [hashV, drawsV] at h
      unfold reduceHash at h
      by_cases hr : (decide (-(2 : Int) ^ 63 ≤ Builtin.Tuple.tupleHashOf (hashVs X.w done)) && decide (Builtin.Tuple.tupleHashOf (hashVs X.w done) < 2 ^ 63)) = true
      · rw [if_pos hr]
        rw [if_pos hr] at h
        exact wpAny_pure (by simpa [Nat.add_assoc] using h)
      · rw [if_neg hr]
        rw [if_neg hr] at h
        exact wpAny_bind (wpAny_rule (wpAny_pure (by simpa [Nat.add_assoc] using h)))
end

theorem sub_tuple_int : isSubtype (.type "tuple") (.type "int") = pure false := by rw [isSubtype_type]; kernel_rfl
theorem sub_int_tuple : isSubtype (.type "int") (.type "tuple") = pure false := by rw [isSubtype_type]; kernel_rfl
theorem sub_tuple_str : isSubtype (.type "tuple") (.type "str") = pure false := by rw [isSubtype_type]; kernel_rfl
theorem sub_str_tuple : isSubtype (.type "str") (.type "tuple") = pure false := by rw [isSubtype_type]; kernel_rfl

section
variable {prog : Program} {w : World} {A : Around} {E : Value → Shared → Prop} {s : Shared}
theorem richEq_decline {a b : Value} {Ta Tb ida idb : String} {Q : Value → Shared → Prop} (ha : s.TypeIs a Ta) (hb : s.TypeIs b Tb)
    (hne : (Value.type Ta != Value.type Tb) = true) (hsub : isSubtype (.type Tb) (.type Ta) = pure false) (h1 : Slot Ta (cmpInfo .Eq).2.1 ida) (h2 : Slot Tb (cmpInfo .Eq).2.2 idb) (hk : isSame a b = pure false)
    (c1 : ∀ Q : Value → Shared → Prop, Q .notImplemented s → wpAny (model prog w) A (call (.builtin ida) [a, b]) Q E s)
    (c2 : ∀ Q : Value → Shared → Prop, Q .notImplemented s → wpAny (model prog w) A (call (.builtin idb) [b, a]) Q E s)
    (hu : A.units < cLine) (h : Q (.bool false) s) : wpAny (model prog w) A (richCompare .Eq a b) Q E s := by
  rcases hi : cmpInfo CmpOp.Eq with ⟨sym, f, r⟩
  rw [hi] at h1 h2
  simp only [richCompare, hi, ha.oneThing_none]
  try with_reducible refine wpAny_holding ?_
  refine wpAny_bind (wpAny_cRoomFor_or (.inr hu) ?_)
  refine wpAny_bind (wpAny_typeOf ha (wpAny_bind (wpAny_typeOf hb ?_)))
  simp only [hne, if_true]
  refine wpAny_bind (wpAny_of_eq hsub ?_)
  simp only [Bool.false_eq_true, if_false, Bool.not_false, if_true]
  refine wpAny_bind (m := tryCompare a _ b) (wpAny_tryCompare_declines ha h1 (c1 _ ⟨rfl, ?_⟩))
  refine wpAny_bind (m := tryCompare b _ a) (wpAny_tryCompare_declines hb h2 (c2 _ ⟨rfl, ?_⟩))
  exact wpAny_bind (wpAny_rule (wpAny_bind (wpAny_of_eq hk (wpAny_pure h))))
theorem int_eq_str {i : Int} {t : Tok} {x : Str} {u : Tok} {Q : Value → Shared → Prop} (h : Q .notImplemented s) :
    wpAny (model prog w) A (call (.builtin "int.__eq__") [.int i t, .str x u]) Q E s :=
  call_gives F.slot_int_eq (typeIs_int s i t) F.entry_int_eq (F.args_int_eq_2 _ _) (EqMixed.int___eq___int_str_0 i t x u) h
theorem str_eq_int {i : Int} {t : Tok} {x : Str} {u : Tok} {Q : Value → Shared → Prop} (h : Q .notImplemented s) :
    wpAny (model prog w) A (call (.builtin "str.__eq__") [.str x u, .int i t]) Q E s :=
  call_gives F.slot_str_eq (typeIs_str s x u) F.entry_str_eq (F.args_str_eq_2 _ _) (EqMixed.str___eq___str_int_0 x u i t) h
theorem int_eq_tup {i : Int} {t : Tok} {a : Addr} {items : Array Value} {n : Nat} {Q : Value → Shared → Prop} (e : s.heap.get? a = some ⟨.type "tuple", .none, .seq items n, #[]⟩) (h : Q .notImplemented s) :
    wpAny (model prog w) A (call (.builtin "int.__eq__") [.int i t, .ref a]) Q E s := by
  refine wpAny_call_entry F.slot_int_eq (typeIs_int s i t) F.entry_int_eq ?_ (F.args_int_eq_2 _ _)
  wp_walk
  exact ⟨_, rfl, h⟩
theorem str_eq_tup {x : Str} {t : Tok} {a : Addr} {items : Array Value} {n : Nat} {Q : Value → Shared → Prop} (e : s.heap.get? a = some ⟨.type "tuple", .none, .seq items n, #[]⟩) (h : Q .notImplemented s) :
    wpAny (model prog w) A (call (.builtin "str.__eq__") [.str x t, .ref a]) Q E s := by
  refine wpAny_call_entry F.slot_str_eq (typeIs_str s x t) F.entry_str_eq ?_ (F.args_str_eq_2 _ _)
  wp_walk
  exact ⟨_, rfl, h⟩
theorem tup_eq_int {i : Int} {t : Tok} {a : Addr} {items : Array Value} {n : Nat} {Q : Value → Shared → Prop} (e : s.heap.get? a = some ⟨.type "tuple", .none, .seq items n, #[]⟩) (h : Q .notImplemented s) :
    wpAny (model prog w) A (call (.builtin "tuple.__eq__") [.ref a, .int i t]) Q E s := by
  refine wpAny_call_entry F.slot_tuple_eq ⟨_, e, rfl⟩ F.entry_tuple_eq ?_ (F.args_tuple_eq_2 _ _)
  have hT := typeIs_int s i t
  have hs := sub_int_tuple
  wp_walk
  exact ⟨_, rfl, h⟩
theorem tup_eq_str {x : Str} {t : Tok} {a : Addr} {items : Array Value} {n : Nat} {Q : Value → Shared → Prop} (e : s.heap.get? a = some ⟨.type "tuple", .none, .seq items n, #[]⟩) (h : Q .notImplemented s) :
    wpAny (model prog w) A (call (.builtin "tuple.__eq__") [.ref a, .str x t]) Q E s := by
  refine wpAny_call_entry F.slot_tuple_eq ⟨_, e, rfl⟩ F.entry_tuple_eq ?_ (F.args_tuple_eq_2 _ _)
  have hT := typeIs_str s x t
  have hs := sub_str_tuple
  wp_walk
  exact ⟨_, rfl, h⟩

theorem eqBool_of_rich {a b : Value} {Q : Bool → Shared → Prop} (hne : (a == b) = false) (hf : ∀ x y, a ≠ .float x y) (h : wpAny (model prog w) A (richCompare .Eq a b) (fun v s' => ∃ c, v = .bool c ∧ Q c s') E s) :
    wpAny (model prog w) A (eqBool a b) Q E s := by
  unfold eqBool
  try with_reducible refine wpAny_holding ?_
  show wpAny _ _ (if (a == b) = true then _ else _) Q E s
  rw [if_neg (by rw [hne]; exact Bool.false_ne_true)]
  have fin : wpAny (model prog w) A (richCompare .Eq a b >>= truthOfDropped) Q E s := by
    refine wpAny_bind (wpAny_mono h (fun v s' hv => ?_) fun _ _ e => e)
    obtain ⟨c, rfl, hq⟩ := hv
    exact wpAny_truthy_bool hq
  cases a with
  | float x y => exact absurd rfl (hf x y)
  | _ => exact fin

theorem int_str {i : Int} {t : Tok} {x : Str} {u : Tok} {Q : Bool → Shared → Prop} (hu : A.units < cLine) (h : Q false s) : wpAny (model prog w) A (eqBool (.int i t) (.str x u)) Q E s :=
  eqBool_of_rich rfl (fun _ _ e => nomatch e) (richEq_decline (typeIs_int ..) (typeIs_str ..) (by decide) F.sub_str_int F.slot_int_eq F.slot_str_eq_refl rfl (fun Q h => int_eq_str h) (fun Q h => str_eq_int h) hu ⟨_, rfl, h⟩)
theorem str_int {i : Int} {t : Tok} {x : Str} {u : Tok} {Q : Bool → Shared → Prop} (hu : A.units < cLine) (h : Q false s) : wpAny (model prog w) A (eqBool (.str x u) (.int i t)) Q E s :=
  eqBool_of_rich rfl (fun _ _ e => nomatch e) (richEq_decline (typeIs_str ..) (typeIs_int ..) (by decide) F.sub_int_str F.slot_str_eq F.slot_int_eq_refl rfl (fun Q h => str_eq_int h) (fun Q h => int_eq_str h) hu ⟨_, rfl, h⟩)
theorem atom_tup {u : Value} {a : Addr} {items : Array Value} {n : Nat} {X : Cx} {x : V} {Q : Bool → Shared → Prop} (hu : A.units < cLine) (hr : RepV X s.heap.get? u x) (k : Atom x)
    (e : s.heap.get? a = some ⟨.type "tuple", .none, .seq items n, #[]⟩) (h : Q false s) : wpAny (model prog w) A (eqBool u (.ref a)) Q E s := by
  rcases k with ⟨i, rfl⟩ | ⟨z, rfl⟩
  · obtain ⟨t, rfl⟩ := hr.int_inv
    exact eqBool_of_rich rfl (fun _ _ e => nomatch e) (richEq_decline (typeIs_int ..) ⟨_, e, rfl⟩ (by decide) sub_tuple_int F.slot_int_eq F.slot_tuple_eq_refl rfl (fun Q h => int_eq_tup e h) (fun Q h => tup_eq_int e h) hu ⟨_, rfl, h⟩)
  · obtain ⟨t, rfl⟩ := hr.str_inv
    exact eqBool_of_rich rfl (fun _ _ e => nomatch e) (richEq_decline (typeIs_str ..) ⟨_, e, rfl⟩ (by decide) sub_tuple_str F.slot_str_eq F.slot_tuple_eq_refl rfl (fun Q h => str_eq_tup e h) (fun Q h => tup_eq_str e h) hu ⟨_, rfl, h⟩)
theorem tup_atom {u : Value} {a : Addr} {items : Array Value} {n : Nat} {X : Cx} {x : V} {Q : Bool → Shared → Prop} (hu : A.units < cLine) (hr : RepV X s.heap.get? u x) (k : Atom x)
    (e : s.heap.get? a = some ⟨.type "tuple", .none, .seq items n, #[]⟩) (h : Q false s) : wpAny (model prog w) A (eqBool (.ref a) u) Q E s := by
  rcases k with ⟨i, rfl⟩ | ⟨z, rfl⟩
  · obtain ⟨t, rfl⟩ := hr.int_inv
    exact eqBool_of_rich rfl (fun _ _ e => nomatch e) (richEq_decline ⟨_, e, rfl⟩ (typeIs_int ..) (by decide) sub_int_tuple F.slot_tuple_eq F.slot_int_eq_refl rfl (fun Q h => tup_eq_int e h) (fun Q h => int_eq_tup e h) hu ⟨_, rfl, h⟩)
  · obtain ⟨t, rfl⟩ := hr.str_inv
    exact eqBool_of_rich rfl (fun _ _ e => nomatch e) (richEq_decline ⟨_, e, rfl⟩ (typeIs_str ..) (by decide) sub_str_tuple F.slot_tuple_eq F.slot_str_eq_refl rfl (fun Q h => tup_eq_str e h) (fun Q h => str_eq_tup e h) hu ⟨_, rfl, h⟩)
end

section
variable {X : Cx}
theorem int_dec (i j : Int) : decide (V.int i = V.int j) = (i == j) := by by_cases h : i = j <;> simp [h]
noncomputable def EqOk (X : Cx) (d : Nat) : Prop := ∀ {A : Around} {E : Value → Shared → Prop} {s : Shared} {u v : Value} {x y : V} {Q : Bool → Shared → Prop}, A.units + 4 * d < cLine → Key d x → Key d y →
    RepV X s.heap.get? u x → RepV X s.heap.get? v y → Q (decide (x = y)) s → wpAny (model X.prog X.w) A (eqBool u v) Q E s

theorem zip_cons {u v : Value} {rest : List (Value × Value)} : ∀ {xs ys : List Value}, (u, v) :: rest = List.zip xs ys → ∃ u' xs₂ v' ys₂, xs = u' :: xs₂ ∧ ys = v' :: ys₂ ∧ u = u' ∧ v = v' ∧ rest = List.zip xs₂ ys₂
  | [], _, h => nomatch h
  | _ :: _, [], h => nomatch h
  | a :: xs, b :: ys, h => by injection h with h1 h2; injection h1 with h3 h4; exact ⟨a, xs, b, ys, rfl, rfl, h3, h4, h2⟩
theorem zip_nil : ∀ {xs ys : List Value}, [] = List.zip xs ys → xs = [] ∨ ys = []
  | [], _, _ => .inl rfl
  | _ :: _, [], _ => .inr rfl
  | _ :: _, _ :: _, h => nomatch h
theorem dec_cons (x : V) (l m : List V) : decide (l = m) = decide (x :: l = x :: m) := by
  by_cases h : l = m
  · rw [decide_eq_true h, h, decide_eq_true rfl]
  · rw [decide_eq_false h, decide_eq_false fun e => h (List.cons.inj e).2]
theorem len_cons (u v : Value) (xs ys : List Value) : ((u :: xs).length == (v :: ys).length) = (xs.length == ys.length) := by
  rw [List.length_cons, List.length_cons, Bool.eq_iff_iff, beq_iff_eq, beq_iff_eq]; exact Nat.succ_inj
theorem q_dec {x y : V} {Q : Bool → Shared → Prop} {s : Shared} (h : Q (decide (x = y)) s) (ne : x ≠ y) : Q false s := by rw [decide_eq_false ne] at h; exact h
theorem tup_eq_tup {d : Nat} (H : EqOk X d) {A : Around} {E : Value → Shared → Prop} {s : Shared} {a b : Addr} {l m : List V} {Q : Value → Shared → Prop} (hu : A.units + 4 * d + 1 < cLine) (hl : Keys d l) (hm : Keys d m)
    (r1 : RepV X s.heap.get? (.ref a) (.tup l)) (r2 : RepV X s.heap.get? (.ref b) (.tup m)) (h : Q (.bool (decide (l = m))) s) :
    wpAny (model X.prog X.w) A (call (.builtin "tuple.__eq__") [.ref a, .ref b]) Q E s := by
  obtain ⟨a, xs, n1, ea, e1, r1⟩ := r1.tup_inv
  cases ea
  obtain ⟨b, ys, n2, eb, e2, r2⟩ := r2.tup_inv
  cases eb
  refine wpAny_call_entry F.slot_tuple_eq ⟨_, e1, rfl⟩ F.entry_tuple_eq ?_ (F.args_tuple_eq_2 _ _)
  show wpAny _ _ (isInstance (.ref b) (.type "tuple") >>= _) _ _ s
  refine wpAny_bind (wpAny_isInstance ⟨_, e2, rfl⟩ isSubtype_tuple_tuple ?_)
  simp only [Bool.not_true, Bool.false_eq_true, if_false]
  refine wpAny_bind (wpAny_tupleItemsOf e1 rfl ?_)
  refine wpAny_bind (wpAny_tupleItemsOf e2 rfl ?_)
  refine wpAny_bind ?_
  refine wpAny_forIn_list _
    (fun rest r s' => r.1 = none ∧ s' = s ∧ ∃ l' m' xs' ys', rest = List.zip xs' ys' ∧ RepL X s.heap.get? xs' l' ∧ RepL X s.heap.get? ys' m' ∧ Keys d l' ∧ Keys d m' ∧ decide (l' = m') = decide (l = m) ∧ (xs'.length == ys'.length) = (xs.size == ys.size))
    _ ?_ ?_ _ _ ⟨rfl, rfl, l, m, xs.toList, ys.toList, rfl, r1, r2, hl, hm, rfl, by simp⟩
  · rintro ⟨u, v⟩ rest r s' ⟨hr, rfl, l', m', xs', ys', hz, h1, h2, k1, k2, hdec, hlen⟩
    obtain ⟨u', xs₂, v', ys₂, rfl, rfl, rfl, rfl, rfl⟩ := zip_cons hz
    obtain ⟨x, l'', rfl, ha, hb⟩ := h1.cons_invl
    obtain ⟨y, m'', rfl, hc, hd⟩ := h2.cons_invl
    obtain ⟨k1, k1'⟩ := k1.cons_inv
    obtain ⟨k2, k2'⟩ := k2.cons_inv
    refine wpAny_bind (H (by show A.units + 1 + 4 * d < cLine; lia) k1 k2 ha hc ?_)
    by_cases hk : x = y
    · subst hk
      rw [decide_eq_true rfl]
      simp only [Bool.not_true, Bool.false_eq_true, if_false]
      refine wpAny_pure ⟨rfl, rfl, l'', m'', _, _, rfl, hb, hd, k1', k2', ?_, (len_cons ..).symm.trans hlen⟩
      rw [← hdec]
      exact dec_cons x l'' m''
    · rw [decide_eq_false hk]
      simp only [Bool.not_false, if_true]
      have hf : decide (l = m) = false := by rw [← hdec]; exact decide_eq_false fun e => hk (List.cons.inj e).1
      rw [hf] at h
      exact wpAny_bind (wpAny_pure (wpAny_pure (wpAny_pure ⟨_, rfl, h⟩)))
  · rintro ⟨r1', r2'⟩ s' ⟨hr, rfl, l', m', xs', ys', hz, h1, h2, k1, k2, hdec, hlen⟩
    simp only at hr
    subst hr
    refine wpAny_pure ?_
    have hfin : (xs.size == ys.size) = decide (l = m) := by
      rw [← hdec, ← hlen]
      rcases zip_nil hz with rfl | rfl
      · rw [h1.nil_invl]
        cases ys' with
        | nil => rw [h2.nil_invl, decide_eq_true rfl]; rfl
        | cons v vs => obtain ⟨y, m'', rfl, _⟩ := h2.cons_invl; rw [decide_eq_false (fun e => nomatch e)]; rfl
      · rw [h2.nil_invl]
        cases xs' with
        | nil => rw [h1.nil_invl, decide_eq_true rfl]; rfl
        | cons v vs => obtain ⟨y, m'', rfl, _⟩ := h1.cons_invl; rw [decide_eq_false (fun e => nomatch e)]; rfl
    refine ⟨.bool (xs.size == ys.size), rfl, ?_⟩
    rw [hfin]; exact h

theorem atom_eq {A : Around} {E : Value → Shared → Prop} {s : Shared} {u v : Value} {x y : V} {Q : Bool → Shared → Prop} (hu : A.units < cLine) (k1 : Atom x) (k2 : Atom y) (r1 : RepV X s.heap.get? u x) (r2 : RepV X s.heap.get? v y)
    (h : Q (decide (x = y)) s) : wpAny (model X.prog X.w) A (eqBool u v) Q E s := by
  rcases k1 with ⟨i, rfl⟩ | ⟨z, rfl⟩
  · obtain ⟨t, rfl⟩ := r1.int_inv
    rcases k2 with ⟨j, rfl⟩ | ⟨z, rfl⟩
    · obtain ⟨t', rfl⟩ := r2.int_inv; exact wpAny_eqBool_int (by rw [← int_dec]; exact h)
    · obtain ⟨t', rfl⟩ := r2.str_inv; exact int_str hu (q_dec h fun e => nomatch e)
  · obtain ⟨t, rfl⟩ := r1.str_inv
    rcases k2 with ⟨j, rfl⟩ | ⟨z, rfl⟩
    · obtain ⟨t', rfl⟩ := r2.int_inv; exact str_int hu (q_dec h fun e => nomatch e)
    · obtain ⟨t', rfl⟩ := r2.str_inv; exact wpAny_eqBool_str (by simpa using h)
theorem Atom.ne {x : V} {l : List V} (k : Atom x) : x ≠ .tup l := by
  rcases k with ⟨i, rfl⟩ | ⟨z, rfl⟩ <;> exact fun e => nomatch e
theorem key_eq : ∀ d, EqOk X d := by
  intro d
  induction d with
  | zero => exact fun hu k1 k2 r1 r2 h => atom_eq (by lia) k1.inv0 k2.inv0 r1 r2 h
  | succ d ih =>
    intro A E s u v x y Q hu k1 k2 r1 r2 h
    have hu' : A.units < cLine := by lia
    rcases k1.invS with a1 | ⟨l, rfl, k1'⟩
    · rcases k2.invS with a2 | ⟨m, rfl, k2'⟩
      · exact atom_eq hu' a1 a2 r1 r2 h
      · obtain ⟨b, ys, n2, rfl, e2, _⟩ := r2.tup_inv
        exact atom_tup hu' r1 a1 e2 (q_dec h a1.ne)
    · obtain ⟨a, xs, n1, rfl, e1, q1⟩ := r1.tup_inv
      rcases k2.invS with a2 | ⟨m, rfl, k2'⟩
      · exact tup_atom hu' r2 a2 e1 (q_dec h a2.ne.symm)
      · obtain ⟨b, ys, n2, rfl, e2, q2⟩ := r2.tup_inv
        by_cases hab : a = b
        · subst hab
          have hlm := RepV.inj (d + 1) r1 r2 k1 k2
          unfold eqBool
          try with_reducible refine wpAny_holding ?_
          show wpAny _ _ (if (Value.ref a == Value.ref a) = true then _ else _) Q E s
          rw [if_pos (by simp)]
          exact wpAny_bind (wpAny_rule (wpAny_pure (by rw [decide_eq_true hlm] at h; exact h)))
        · refine eqBool_of_rich (by simpa using hab) (fun _ _ e => nomatch e) ?_
          refine wpAny_richCompare_same_room (op := .Eq) ⟨_, e1, rfl⟩ ⟨_, e2, rfl⟩ F.slot_tuple_eq ?_ hu'
          exact tup_eq_tup ih (by lia) k1' k2' r1 r2 ⟨(fun e => nomatch e), _, rfl, by simpa using h⟩

theorem quiet_atom {m : Nat} {A : Around} {E : Value → Shared → Prop} {s : Shared} {v : Value} {x : V} {Q : Bool → Shared → Prop} (k : Atom x) (r : RepV X s.heap.get? v x) (h : Q true s) : wpAny (model X.prog X.w) A (eqIsQuiet m v) Q E s := by
  rcases k with ⟨i, rfl⟩ | ⟨z, rfl⟩
  · obtain ⟨t, rfl⟩ := r.int_inv; rw [eqIsQuiet_byValue _ (by rfl)]; exact wpAny_pure h
  · obtain ⟨t, rfl⟩ := r.str_inv; rw [eqIsQuiet_byValue _ (by rfl)]; exact wpAny_pure h
theorem key_quiet : ∀ (d m : Nat) {A : Around} {E : Value → Shared → Prop} {s : Shared} {v : Value} {x : V} {Q : Bool → Shared → Prop}, Key d x → d ≤ m → RepV X s.heap.get? v x → Q true s →
    wpAny (model X.prog X.w) A (eqIsQuiet m v) Q E s := by
  intro d
  induction d with
  | zero => exact fun m _ _ _ _ _ _ k _ r h => quiet_atom k.inv0 r h
  | succ d ih =>
    intro m A E s v x Q k hm r h
    rcases k.invS with k | ⟨l, rfl, k₁⟩
    · exact quiet_atom k r h
    obtain ⟨a, xs, n, rfl, e, r⟩ := r.tup_inv
    obtain ⟨m, rfl⟩ : ∃ j, m = j + 1 := ⟨m - 1, by lia⟩
    unfold eqIsQuiet
    refine wpAny_bind (wpAny_specialOf ⟨_, e, rfl⟩ F.slot_tuple_eq.lookup ?_)
    show wpAny _ _ (isInstance (.ref a) (.type "tuple") >>= _) _ _ s
    refine wpAny_bind (wpAny_isInstance ⟨_, e, rfl⟩ isSubtype_tuple_tuple ?_)
    simp only [Bool.not_true, Bool.false_eq_true, if_false]
    refine wpAny_bind (wpAny_seqItems e rfl ?_)
    refine wpAny_bind ?_
    show wpAny _ _ (forIn xs _ _) _ _ s
    rw [← Array.forIn_toList]
    refine wpAny_forIn_list _ (fun rest r s' => r.1 = none ∧ s' = s ∧ ∃ l', RepL X s.heap.get? rest l' ∧ Keys d l') _ ?_ ?_ _ _ ⟨rfl, rfl, _, r, k₁⟩
    · rintro v rest r s' ⟨hr, rfl, l', hl, kl⟩
      obtain ⟨x, l'', rfl, ha, hb⟩ := hl.cons_invl
      refine wpAny_bind (ih m kl.cons_inv.1 (by lia) ha ?_)
      simp only [Bool.not_true, Bool.false_eq_true, if_false]
      exact wpAny_pure ⟨rfl, rfl, _, hb, kl.cons_inv.2⟩
    · rintro ⟨r1, r2⟩ s' ⟨hr, rfl, _⟩
      simp only at hr
      subst hr
      exact wpAny_pure h

noncomputable def keyKind (X : Cx) : HeapKind X.prog X.w V where
  is := fun h k a => Key 7 k ∧ RepV X h.get? (.ref a) k
  hash := hashV X.w
  draws := drawsV
  room := fun A => A.units + 40 < cLine
  inj := fun hx hy => RepV.inj 7 hx.2 hy.2 hx.1 hy.1
  keeps := fun x ho hd hs => ⟨x.1, RepV.keep (fun a n items e => by
      refine (hs.2 a ?_).trans e
      rintro rfl
      rw [ho] at e; cases e; cases hd) 7 x.2 x.1⟩
  pyHash := fun hu hk h => key_hash 7 (by lia) hk.1 hk.2 h
  eqBool := fun hu hx hy h => key_eq 7 (by lia) hx.1 hy.1 hx.2 hy.2 (by rw [show (decide (_ = _)) = decide (_ = _) from by congr]; exact h)
  quiet := fun hk h => key_quiet 7 8 hk.1 (by lia) hk.2 h
end
inductive RepT (X : Cx) (K : KM) : List (V × Addr × Value) → List (V × V) → Prop
  | nil : RepT X K [] []
  | cons {k : V} {a : Addr} {v : Value} {x : V} {es : List (V × Addr × Value)} {l : List (V × V)} : Key 7 k → RepV X K (.ref a) k → RepV X K v x → RepT X K es l → RepT X K ((k, a, v) :: es) ((k, x) :: l)
theorem RepT.mono {X : Cx} {K K' : KM} (h : KLe K K') {es : List (V × Addr × Value)} {l : List (V × V)} (r : RepT X K es l) : RepT X K' es l := by
  induction r with
  | nil => exact .nil
  | cons k ra r _ ih => exact .cons k (ra.mono h) (r.mono h) ih

noncomputable def RepO (X : Cx) (K : KM) (o : Obj) : AObj → Prop
  | .list l => ∃ items n, o = ⟨.type "list", .none, .seq items n, #[]⟩ ∧ RepL X K items.toList l
  | .dictI l => ∃ kvs, o.IsDictOf (intKind X.prog X.w) kvs ∧ RepD X K kvs l
  | .dictS l => ∃ kvs, o.IsDictOf (strKind X.prog X.w) kvs ∧ RepS X K kvs l
  | .dictT l => ∃ es n xs, o = ⟨.type "dict", .none, .dict es n, #[]⟩ ∧ es.toList = xs.map (entryOfKey (keyKind X)) ∧ RepT X K xs l ∧ (xs.map (·.1)).Nodup
  | .inst C d => o = instObj C d
  | .ns l => ∃ es n, o = PySem.W.dictOf es n ∧ RepN X K es l
  | .raw o' => o = o'
theorem RepO.mono {X : Cx} {K K' : KM} (h : KLe K K') {o : Obj} : ∀ {x : AObj}, RepO X K o x → RepO X K' o x
  | .list _, ⟨i, n, e, r⟩ => ⟨i, n, e, r.mono h⟩
  | .dictI _, ⟨i, e, r⟩ => ⟨i, e, r.mono h⟩
  | .dictS _, ⟨i, e, r⟩ => ⟨i, e, r.mono h⟩
  | .dictT _, ⟨i, n, x, e, e', r, d⟩ => ⟨i, n, x, e, e', r.mono h, d⟩
  | .inst _ _, e => e
  | .ns _, ⟨i, n, e, r⟩ => ⟨i, n, e, r.mono h⟩
  | .raw _, e => e

structure Inv (X : Cx) (K : KM) (st : St) (h : Heap) : Prop where
  base : ∀ a o, X.B.get? a = some o → K a = some o
  kept : ∀ a o, K a = some o → h.get? a = some o
  objs : ∀ p ∈ st, ∃ o, h.get? p.1 = some o ∧ RepO X K o p.2
  nd : (st.map (·.1)).Nodup
  fr : ∀ p ∈ st, K p.1 = none
  lo : ∀ p ∈ st, (p.1 == sysModules) = false

noncomputable def kset (K : KM) (a : Addr) (o : Obj) : KM := fun b => if b = a then some o else K b
theorem kle_set {K : KM} {a : Addr} (o : Obj) (h : K a = none) : KLe K (kset K a o) := by
  intro b o' e
  unfold kset
  split
  · rename_i hb; subst hb; rw [h] at e; cases e
  · exact e
theorem kset_self {K : KM} {a : Addr} {o : Obj} : kset K a o a = some o := by simp [kset]

namespace Inv
variable {X : Cx} {K K' : KM} {st st' rest : St} {h h' : Heap} {a : Addr} {o : Obj}

theorem baseIn (I : Inv X K st h) : ∀ a o, X.B.get? a = some o → h.get? a = some o := fun a o e => I.kept a o (I.base a o e)

theorem lim (I : Inv X K st h) : h.NoLimit := X.lim.keeps I.baseIn
theorem newLo (I : Inv X K st h) {a : Addr} (ha : h.objs.size ≤ a) : (a == sysModules) = false :=
  beq_eq_false_iff_ne.mpr (Nat.ne_of_gt (Nat.lt_of_lt_of_le (modules_low I.lim) ha))
theorem none_of_size (I : Inv X K st h) {a : Addr} (ha : h.objs.size ≤ a) : K a = none := by
  cases e : K a with
  | none => rfl
  | some o => exact absurd (Heap.lt_size (I.kept a o e)) (Nat.not_lt.mpr ha)
theorem notin_of_size (I : Inv X K st h) {a : Addr} (ha : h.objs.size ≤ a) : a ∉ st.map (·.1) := by
  intro hm
  obtain ⟨p, hp, rfl⟩ := List.mem_map.mp hm
  obtain ⟨o, ho, _⟩ := I.objs p hp
  exact absurd (Heap.lt_size ho) (Nat.not_lt.mpr ha)

theorem sub (I : Inv X K st h) (hs : st'.Sublist st) : Inv X K st' h :=
  ⟨I.base, I.kept, fun p hp => I.objs p (hs.subset hp), (hs.map _).nodup I.nd, fun p hp => I.fr p (hs.subset hp), fun p hp => I.lo p (hs.subset hp)⟩
theorem perm (I : Inv X K st h) (hs : st'.Perm st) : Inv X K st' h :=
  ⟨I.base, I.kept, fun p hp => I.objs p (hs.subset hp), (hs.map _).nodup_iff.mpr I.nd, fun p hp => I.fr p (hs.subset hp), fun p hp => I.lo p (hs.subset hp)⟩

theorem keep (I : Inv X K st h) (hk : ∀ b o, h.get? b = some o → h'.get? b = some o) : Inv X K st h' :=
  ⟨I.base, fun a o e => hk _ _ (I.kept a o e), fun p hp => let ⟨o, ho, r⟩ := I.objs p hp; ⟨o, hk _ _ ho, r⟩, I.nd, I.fr, I.lo⟩

theorem freeze (I : Inv X K st h) (ha : K a = none) (hn : a ∉ st.map (·.1)) (ho : h.get? a = some o) : Inv X (kset K a o) st h := by
  refine ⟨fun b x e => kle_set o ha b x (I.base b x e), fun b x e => ?_, fun p hp => ?_, I.nd, fun p hp => ?_, I.lo⟩
  · unfold kset at e
    split at e
    · rename_i q; subst q; cases e; exact ho
    · exact I.kept b x e
  · obtain ⟨x, hx, r⟩ := I.objs p hp
    exact ⟨x, hx, r.mono (kle_set o ha)⟩
  · unfold kset
    split
    · rename_i q; exact absurd (q ▸ List.mem_map_of_mem hp) hn
    · exact I.fr p hp

theorem changeE {pre post : St} {x y : AObj} {o' : Obj} (I : Inv X K (pre ++ (a, x) :: post) h) (hs : ∀ b o, b ≠ a → h.get? b = some o → h'.get? b = some o) (ho : h'.get? a = some o') (r : RepO X K o' y) :
    Inv X K (pre ++ (a, y) :: post) h' := by
  have hKa : K a = none := I.fr (a, x) (by simp)
  have hnd := I.nd
  simp only [List.map_append, List.map_cons] at hnd
  have hne : ∀ p ∈ pre ++ post, p.1 ≠ a := by
    intro p hp e
    rw [List.nodup_append] at hnd
    obtain ⟨n1, n2, n3⟩ := hnd
    rw [List.nodup_cons] at n2
    rcases List.mem_append.mp hp with hp | hp
    · exact n3 p.1 (List.mem_map_of_mem hp) a (by simp) e
    · exact n2.1 (e ▸ List.mem_map_of_mem hp)
  refine ⟨I.base, fun b o e => ?_, fun p hp => ?_, by simpa using I.nd, fun p hp => ?_, fun p hp => ?_⟩
  · have : b ≠ a := by rintro rfl; rw [hKa] at e; cases e
    exact hs b o this (I.kept b o e)
  · rcases List.mem_append.mp hp with hp | hp
    · obtain ⟨x, hx, r⟩ := I.objs p (by simp [hp])
      exact ⟨x, hs _ _ (hne p (by simp [hp])) hx, r⟩
    · rcases List.mem_cons.mp hp with rfl | hp
      · exact ⟨o', ho, r⟩
      · obtain ⟨x, hx, r⟩ := I.objs p (by simp [hp])
        exact ⟨x, hs _ _ (hne p (by simp [hp])) hx, r⟩
  · rcases List.mem_append.mp hp with hp | hp
    · exact I.fr p (by simp [hp])
    · rcases List.mem_cons.mp hp with rfl | hp
      · exact I.fr (a, x) (by simp)
      · exact I.fr p (by simp [hp])
  · rcases List.mem_append.mp hp with hp | hp
    · exact I.lo p (by simp [hp])
    · rcases List.mem_cons.mp hp with rfl | hp
      · exact I.lo (a, x) (by simp)
      · exact I.lo p (by simp [hp])

theorem change {pre post : St} {x y : AObj} {o' : Obj} (I : Inv X K (pre ++ (a, x) :: post) h) (hs : Heap.SameBut a h h') (ho : h'.get? a = some o') (r : RepO X K o' y) :
    Inv X K (pre ++ (a, y) :: post) h' := I.changeE (fun b o hb e => (hs.2 b hb).trans e) ho r
theorem off (I : Inv X K st h) (hK : K a = none) (hn : a ∉ st.map (·.1)) (hs : ∀ b o, b ≠ a → h.get? b = some o → h'.get? b = some o) : Inv X K st h' :=
  ⟨I.base, fun b o e => hs b o (by rintro rfl; rw [hK] at e; cases e) (I.kept b o e),
    fun p hp => let ⟨o, ho, r⟩ := I.objs p hp; ⟨o, hs _ _ (fun e => hn (e ▸ List.mem_map_of_mem hp)) ho, r⟩, I.nd, I.fr, I.lo⟩
theorem apart {pre post : St} {x : AObj} (I : Inv X K (pre ++ (a, x) :: post) h) : a ∉ (pre ++ post).map (·.1) := by
  have hnd := I.nd
  simp only [List.map_append, List.map_cons] at hnd
  rw [List.nodup_append] at hnd
  obtain ⟨n1, n2, n3⟩ := hnd
  rw [List.nodup_cons] at n2
  intro hm
  rw [List.map_append] at hm
  rcases List.mem_append.mp hm with hm | hm
  · exact n3 a hm a (by simp) rfl
  · exact n2.1 hm
theorem grow {x : AObj} (I : Inv X K st h) (hsz : h.objs.size ≤ a) (hlo : (a == sysModules) = false) (hk : ∀ b o, h.get? b = some o → h'.get? b = some o) (ho : h'.get? a = some o) (r : RepO X K o x) :
    Inv X K ((a, x) :: st) h' := by
  refine ⟨I.base, fun b o e => hk b o (I.kept b o e), fun p hp => ?_, ?_, fun p hp => ?_, fun p hp => ?_⟩
  · rcases List.mem_cons.mp hp with rfl | hp
    · exact ⟨o, ho, r⟩
    · obtain ⟨x, hx, r⟩ := I.objs p hp; exact ⟨x, hk _ _ hx, r⟩
  · rw [List.map_cons, List.nodup_cons]; exact ⟨I.notin_of_size hsz, I.nd⟩
  · rcases List.mem_cons.mp hp with rfl | hp
    · exact I.none_of_size hsz
    · exact I.fr p hp
  · rcases List.mem_cons.mp hp with rfl | hp
    · exact hlo
    · exact I.lo p hp

theorem harden {pre post : St} {x : AObj} (I : Inv X K (pre ++ (a, x) :: post) h) : ∃ o, h.get? a = some o ∧ RepO X K o x ∧ K a = none ∧ Inv X (kset K a o) (pre ++ post) h := by
  obtain ⟨o, ho, r⟩ := I.objs (a, x) (by simp)
  have hKa := I.fr (a, x) (by simp)
  refine ⟨o, ho, r, hKa, ?_⟩
  have hnd := I.nd
  simp only [List.map_append, List.map_cons] at hnd
  have I' : Inv X K (pre ++ post) h := I.sub (by simp)
  refine I'.freeze hKa ?_ ho
  intro hm
  rw [List.nodup_append] at hnd
  obtain ⟨n1, n2, n3⟩ := hnd
  rw [List.nodup_cons] at n2
  rw [List.map_append] at hm
  rcases List.mem_append.mp hm with hm | hm
  · exact n3 a hm a (by simp) rfl
  · exact n2.1 hm
end Inv

noncomputable def frAddr (env : Env) (a : Addr) : Prop := a = env.locals ∨ ∃ x, env.cells.lookup x = some a
structure FrI (X : Cx) (K : KM) (env : Env) (f : List (Str × V)) (h : Heap) : Prop where
  fk : env.scope.kind = .function
  gl : env.globals = mainGlobals
  bl : env.builtins = builtinsNs
  ns : ∃ m, h.Ns env.locals m ∧ ∀ x v, f.lookup x = some v → env.kindOf x = some .local → ∃ u, m x = some u ∧ RepV X K u v
  cl : ∀ x c, env.cells.lookup x = some c → ∃ vo, h.IsCell c vo ∧ ∀ v, f.lookup x = some v → env.kindOf x = some .cell → ∃ u, vo = some u ∧ RepV X K u v
  ok : ∀ x v, f.lookup x = some v → env.kindOf x = some .local ∨ (env.kindOf x = some .cell ∧ ∃ c, env.cells.lookup x = some c)
  nk : K env.locals = none
  nc : ∀ x c, env.cells.lookup x = some c → K c = none
  ap : ∀ x y c, env.cells.lookup x = some c → env.cells.lookup y = some c → x = y
  lc : ∀ x c, env.cells.lookup x = some c → c ≠ env.locals
  lo : ∀ a, frAddr env a → (a == sysModules) = false

structure IF (X : Cx) (K : KM) (env : Env) (f : List (Str × V)) (st : St) (h : Heap) : Prop where
  inv : Inv X K st h
  fr : FrI X K env f h
  dj : ∀ p ∈ st, ¬ frAddr env p.1


theorem nodup_of (l : List Addr) : ∃ l' : List Addr, l'.Nodup ∧ ∀ a, a ∈ l' ↔ a ∈ l := by
  induction l with
  | nil => exact ⟨[], .nil, fun _ => Iff.rfl⟩
  | cons a l ih =>
    obtain ⟨l', h1, h2⟩ := ih
    by_cases ha : a ∈ l'
    · exact ⟨l', h1, fun b => by rw [h2, List.mem_cons]; exact ⟨.inr, fun q => q.elim (fun e => e ▸ (h2 a).mp ha) id⟩⟩
    · exact ⟨a :: l', List.nodup_cons.mpr ⟨ha, h1⟩, fun b => by rw [List.mem_cons, List.mem_cons, h2]⟩

theorem FrI.live {X : Cx} {K : KM} {env : Env} {f : List (Str × V)} {h : Heap} (F : FrI X K env f h) {a : Addr} (ha : frAddr env a) : ∃ o, h.get? a = some o := by
  rcases ha with rfl | ⟨x, hx⟩
  · obtain ⟨m, ⟨o, _, _, ho, _⟩, _⟩ := F.ns; exact ⟨o, ho⟩
  · obtain ⟨vo, ⟨o, ho, _⟩, _⟩ := F.cl x a hx; exact ⟨o, ho⟩
theorem FrI.noK {X : Cx} {K : KM} {env : Env} {f : List (Str × V)} {h : Heap} (F : FrI X K env f h) {a : Addr} (ha : frAddr env a) : K a = none := by
  rcases ha with rfl | ⟨x, hx⟩
  · exact F.nk
  · exact F.nc x a hx
theorem FrI.move {X : Cx} {K K' : KM} {env : Env} {f : List (Str × V)} {h h' : Heap} (F : FrI X K env f h) (hK : KLe K K') (hk : ∀ a, frAddr env a → ∀ o, h.get? a = some o → h'.get? a = some o)
    (hn : ∀ a, frAddr env a → K' a = none) : FrI X K' env f h' where
  fk := F.fk
  gl := F.gl
  bl := F.bl
  ns := let ⟨m, hm, r⟩ := F.ns; ⟨m, hm.at fun o e => hk _ (.inl rfl) o e, fun x v e k => let ⟨u, a, b⟩ := r x v e k; ⟨u, a, b.mono hK⟩⟩
  cl := fun x c e => let ⟨vo, ⟨o, ho, hd⟩, r⟩ := F.cl x c e; ⟨vo, ⟨o, hk _ (.inr ⟨x, e⟩) o ho, hd⟩, fun v e k => let ⟨u, a, b⟩ := r v e k; ⟨u, a, b.mono hK⟩⟩
  ok := F.ok
  nk := hn _ (.inl rfl)
  nc := fun x c e => hn _ (.inr ⟨x, e⟩)
  ap := F.ap
  lc := F.lc
  lo := F.lo

theorem IF.split {X : Cx} {K : KM} {env : Env} {f : List (Str × V)} {st : St} {h : Heap} (I : IF X K env f st h) :
    ∃ raws : St, Inv X K (st ++ raws) h ∧ (∀ a, frAddr env a → ∃ o, (a, AObj.raw o) ∈ raws) ∧ ∀ K' st' h', KLe K K' → Inv X K' (st' ++ raws) h' → IF X K' env f st' h' := by
  obtain ⟨as, hnd, has⟩ := nodup_of (env.locals :: (env.cells.map (·.2)))
  obtain ⟨bs, hbd, hbs⟩ : ∃ bs : List Addr, bs.Nodup ∧ ∀ a, a ∈ bs ↔ frAddr env a := by
    haveI : DecidablePred (frAddr env) := fun a => Classical.propDecidable _
    refine ⟨as.filter (fun a => decide (frAddr env a)), hnd.filter _, fun a => ?_⟩
    rw [List.mem_filter]
    constructor
    · intro q; exact of_decide_eq_true q.2
    · intro q
      refine ⟨(has a).mpr ?_, decide_eq_true q⟩
      rcases q with rfl | ⟨x, hx⟩
      · exact .head _
      · refine .tail _ (List.mem_map.mpr ⟨(x, a), mem_of_lookup hx, rfl⟩)
  have hlive : ∀ a ∈ bs, ∃ o, h.get? a = some o := fun a ha => I.fr.live ((hbs a).mp ha)
  let raws : St := bs.map fun a => (a, AObj.raw ((h.get? a).getD default))
  have hraw : ∀ p ∈ raws, frAddr env p.1 ∧ ∃ o, h.get? p.1 = some o ∧ p.2 = .raw o := by
    intro p hp
    obtain ⟨a, ha, rfl⟩ := List.mem_map.mp hp
    obtain ⟨o, ho⟩ := hlive a ha
    exact ⟨(hbs a).mp ha, o, ho, by simp [ho]⟩
  have hmap : raws.map (·.1) = bs := by simp [raws, Function.comp_def]
  have hback : ∀ a, frAddr env a → ∃ o, h.get? a = some o ∧ (a, AObj.raw o) ∈ raws := by
    intro a ha
    obtain ⟨o, ho⟩ := hlive a ((hbs a).mpr ha)
    exact ⟨o, ho, List.mem_map.mpr ⟨a, (hbs a).mpr ha, by simp [ho]⟩⟩
  have hInv : Inv X K (st ++ raws) h := by
    refine ⟨I.inv.base, I.inv.kept, fun p hp => ?_, ?_, fun p hp => ?_, fun p hp => ?_⟩
    · rcases List.mem_append.mp hp with hp | hp
      · exact I.inv.objs p hp
      · obtain ⟨_, o, ho, e⟩ := hraw p hp; exact ⟨o, ho, by rw [e]; exact rfl⟩
    · rw [List.map_append, hmap, List.nodup_append]
      refine ⟨I.inv.nd, hbd, fun a ha b hb e => ?_⟩
      subst e
      obtain ⟨p, hp, rfl⟩ := List.mem_map.mp ha
      exact I.dj p hp ((hbs _).mp hb)
    · rcases List.mem_append.mp hp with hp | hp
      · exact I.inv.fr p hp
      · exact I.fr.noK (hraw p hp).1
    · rcases List.mem_append.mp hp with hp | hp
      · exact I.inv.lo p hp
      · exact I.fr.lo _ (hraw p hp).1
  refine ⟨raws, hInv, fun a ha => let ⟨o, _, hm⟩ := hback a ha; ⟨o, hm⟩, fun K' st' h' hK I' => ⟨I'.sub (by simp), I.fr.move hK (fun a ha o ho => ?_) (fun a ha => ?_), fun p hp hf => ?_⟩⟩
  · obtain ⟨o', ho', hm⟩ := hback a ha
    obtain rfl : o' = o := Option.some.inj (ho'.symm.trans ho)
    obtain ⟨o'', h1, h2⟩ := I'.objs (a, .raw o') (List.mem_append_right _ hm)
    rw [h1]; exact congrArg some h2
  · obtain ⟨o', ho', hm⟩ := hback a ha
    exact I'.fr (a, .raw o') (List.mem_append_right _ hm)
  · obtain ⟨o', ho', hm⟩ := hback p.1 hf
    have := I'.nd
    rw [List.map_append, List.nodup_append] at this
    exact this.2.2 p.1 (List.mem_map_of_mem hp) p.1 (List.mem_map.mpr ⟨_, hm, rfl⟩) rfl

structure Gd (X : Cx) (mg mb : Str → Option Value) : Prop where
  g : X.B.Ns mainGlobals mg
  b : X.B.Ns builtinsNs mb

noncomputable def NoE : Value → Shared → Prop := fun _ _ => False

inductive PO {α β : Type} (X : Cx) (K : KM) (rest : St) (s : Shared) (Rep : KM → α → β → Prop) (Q : β → St → Prop) (v : α) (s' : Shared) : Prop where
  | mk (K' : KM) (x : β) (st' : St) (h1 : KLe K K') (h2 : Rep K' v x) (h3 : Inv X K' (st' ++ rest) s'.heap) (h4 : Same s s') (h5 : Q x st') : PO X K rest s Rep Q v s'
inductive PE {α β : Type} (X : Cx) (K : KM) (env : Env) (f : List (Str × V)) (rest : St) (s : Shared) (Rep : KM → α → β → Prop) (Q : β → St → Prop) (v : α) (s' : Shared) : Prop where
  | mk (K' : KM) (x : β) (st' : St) (h1 : KLe K K') (h2 : Rep K' v x) (h3 : IF X K' env f (st' ++ rest) s'.heap) (h4 : Same s s') (h5 : Q x st') : PE X K env f rest s Rep Q v s'
noncomputable def TO {α β : Type} (X : Cx) (n : Nat) (K : KM) (st : St) (t : Sem α) (Rep : KM → α → β → Prop) (Q : β → St → Prop) : Prop :=
  ∀ (A : Around) (rest : St) (s : Shared), Ok n A → Inv X K (st ++ rest) s.heap →
    wpAny (model X.prog X.w) A t (PO X K rest s Rep Q) NoE s
noncomputable def TE {α β : Type} (X : Cx) (n : Nat) (env : Env) (f : List (Str × V)) (K : KM) (st : St) (t : Sem α) (Rep : KM → α → β → Prop) (Q : β → St → Prop) : Prop :=
  ∀ (A : Around) (rest : St) (s : Shared), Ok n A → IF X K env f (st ++ rest) s.heap →
    wpAny (model X.prog X.w) A t (PE X K env f rest s Rep Q) NoE s

section
variable {α β γ δ : Type} {X : Cx} {n : Nat} {env : Env} {f : List (Str × V)} {K : KM} {st : St} {t : Sem α} {Rep : KM → α → β → Prop} {Q Q' : β → St → Prop}

theorem TO.pure {a : α} {b : β} (hr : Rep K a b) (hq : Q b st) : TO X n K st (pure a) Rep Q :=
  fun _ _ s _ I => wpAny_pure ⟨K, b, st, .refl _, hr, I, .refl s, hq⟩
theorem TE.pure {a : α} {b : β} (hr : Rep K a b) (hq : Q b st) : TE X n env f K st (pure a) Rep Q :=
  fun _ _ s _ I => wpAny_pure ⟨K, b, st, .refl _, hr, I, .refl s, hq⟩
theorem TO.mono (h : TO X n K st t Rep Q) (hq : ∀ b st', Q b st' → Q' b st') : TO X n K st t Rep Q' :=
  fun A rest s ok I => wpAny_mono (h A rest s ok I) (fun _ _ ⟨K', x, st', a, b, c, d, e⟩ => ⟨K', x, st', a, b, c, d, hq _ _ e⟩) fun _ _ e => e
theorem TE.mono (h : TE X n env f K st t Rep Q) (hq : ∀ b st', Q b st' → Q' b st') : TE X n env f K st t Rep Q' :=
  fun A rest s ok I => wpAny_mono (h A rest s ok I) (fun _ _ ⟨K', x, st', a, b, c, d, e⟩ => ⟨K', x, st', a, b, c, d, hq _ _ e⟩) fun _ _ e => e
theorem TO.level {m : Nat} (h : TO X n K st t Rep Q) (hm : n ≤ m) : TO X m K st t Rep Q := fun A rest s ok I => h A rest s (ok.mono hm) I

theorem TE.of (h : TO X n K st t Rep Q) : TE X n env f K st t Rep Q := by
  intro A rest s ok I
  obtain ⟨raws, I', _, back⟩ := I.split
  rw [List.append_assoc] at I'
  refine wpAny_mono (h A (rest ++ raws) s ok I') (fun v s' ⟨K', x, st', hK, hr, I'', hs, hq⟩ => ?_) fun _ _ e => e
  rw [← List.append_assoc] at I''
  exact ⟨K', x, st', hK, hr, back _ _ _ hK I'', hs, hq⟩

theorem TE.bind {k : α → Sem γ} {Rep' : KM → γ → δ → Prop} {R : δ → St → Prop} (h : TE X n env f K st t Rep (fun b st₁ => ∀ K₁ a, KLe K K₁ → Rep K₁ a b → TE X n env f K₁ st₁ (k a) Rep' R)) :
    TE X n env f K st (t >>= k) Rep' R := by
  intro A rest s ok I
  refine wpAny_bind (wpAny_mono (h A rest s ok I) (fun v s' ⟨K', x, st', hK, hr, I', hs, hq⟩ => ?_) fun _ _ e => e)
  refine wpAny_mono (hq K' v hK hr A rest s' ok I') (fun v' s'' ⟨K'', x', st'', hK', hr', I'', hs', hq'⟩ => ?_) fun _ _ e => e
  exact ⟨K'', x', st'', hK.trans hK', hr', I'', hs.trans hs', hq'⟩
theorem TO.bind {k : α → Sem γ} {Rep' : KM → γ → δ → Prop} {R : δ → St → Prop} (h : TO X n K st t Rep (fun b st₁ => ∀ K₁ a, KLe K K₁ → Rep K₁ a b → TO X n K₁ st₁ (k a) Rep' R)) :
    TO X n K st (t >>= k) Rep' R := by
  intro A rest s ok I
  refine wpAny_bind (wpAny_mono (h A rest s ok I) (fun v s' ⟨K', x, st', hK, hr, I', hs, hq⟩ => ?_) fun _ _ e => e)
  refine wpAny_mono (hq K' v hK hr A rest s' ok I') (fun v' s'' ⟨K'', x', st'', hK', hr', I'', hs', hq'⟩ => ?_) fun _ _ e => e
  exact ⟨K'', x', st'', hK.trans hK', hr', I'', hs.trans hs', hq'⟩
theorem TE.seq {t' : Sem Unit} {k : Unit → Sem α} (ht : ∀ (A : Around) (P : Unit → Shared → Prop) (s : Shared), P () s → wpAny (model X.prog X.w) A t' P NoE s) (h : TE X n env f K st (k ()) Rep Q) :
    TE X n env f K st (t' >>= k) Rep Q := fun A rest s ok I => wpAny_bind (ht A _ s (h A rest s ok I))
theorem TE.stand {p : Pos} {k : Unit → Sem α} (h : TE X n env f K st (k ()) Rep Q) : TE X n env f K st (standAt p >>= k) Rep Q := TE.seq (fun _ _ _ h => wpAny_standAt h) h
theorem TE.holding {vs : List Value} (h : TE X n env f K st t Rep Q) : TE X n env f K st (holding vs t) Rep Q := fun A rest s ok I => wpAny_holding (h A rest s ok I)
theorem TO.holding {vs : List Value} (h : TO X n K st t Rep Q) : TO X n K st (holding vs t) Rep Q := fun A rest s ok I => wpAny_holding (h A rest s ok I)
end

noncomputable abbrev RepB : KM → Bool → Bool → Prop := fun _ a b => a = b
noncomputable abbrev RepU : KM → Unit → Unit → Prop := fun _ _ _ => True

noncomputable def WE (X : Cx) (n : Nat) (env : Env) (f : List (Str × V)) (st : St) (e : Expr) (Q : V → St → Prop) : Prop := ∀ K, TE X n env f K st (eval e env) (RepV X) Q
noncomputable def WT (X : Cx) (n : Nat) (env : Env) (f : List (Str × V)) (st : St) (e : Expr) (Q : Bool → St → Prop) : Prop := ∀ K, TE X n env f K st (isTrue e env (eval e env)) RepB Q
noncomputable def WL (X : Cx) (n : Nat) (env : Env) (f : List (Str × V)) (st : St) (es : List Expr) (Q : List V → St → Prop) : Prop := ∀ K p, TE X n env f K st (spliced (backTo p (starEach es env))) (RepL X) Q
noncomputable def Op (X : Cx) (n : Nat) (st : St) (xs : List V) (t : List Value → Sem Value) (Q : V → St → Prop) : Prop := ∀ K vs, RepL X K vs xs → TO X n K st (t vs) (RepV X) Q
noncomputable def OpB (X : Cx) (n : Nat) (st : St) (xs : List V) (t : List Value → Sem Bool) (Q : Bool → St → Prop) : Prop := ∀ K vs, RepL X K vs xs → TO X n K st (t vs) RepB Q
noncomputable def OpU (X : Cx) (n : Nat) (st : St) (xs : List V) (t : List Value → Sem Unit) (Q : St → Prop) : Prop := ∀ K vs, RepL X K vs xs → TO X n K st (t vs) RepU (fun _ st' => Q st')

noncomputable def on1 {α : Type} (g : Value → Sem α) : List Value → Sem α
  | [a] => g a
  | _ => unsupported "on1"
noncomputable def on2 {α : Type} (g : Value → Value → Sem α) : List Value → Sem α
  | [a, b] => g a b
  | _ => unsupported "on2"
noncomputable def on3 {α : Type} (g : Value → Value → Value → Sem α) : List Value → Sem α
  | [a, b, c] => g a b c
  | _ => unsupported "on3"

noncomputable def Call (X : Cx) (n : Nat) (st : St) (c : Value) (xs : List V) (Q : V → St → Prop) : Prop := Op X n st xs (fun vs => call c vs) Q

section
variable {X : Cx} {n : Nat} {env : Env} {f : List (Str × V)} {st : St} {Q Q' : V → St → Prop}
theorem WE.mono {e : Expr} (h : WE X n env f st e Q) (hq : ∀ b st', Q b st' → Q' b st') : WE X n env f st e Q' := fun K => (h K).mono hq
theorem WT.mono {e : Expr} {Q Q' : Bool → St → Prop} (h : WT X n env f st e Q) (hq : ∀ b st', Q b st' → Q' b st') : WT X n env f st e Q' := fun K => (h K).mono hq
theorem Op.mono {xs : List V} {t : List Value → Sem Value} (h : Op X n st xs t Q) (hq : ∀ b st', Q b st' → Q' b st') : Op X n st xs t Q' := fun K vs r => (h K vs r).mono hq
theorem Op.level {m : Nat} {xs : List V} {t : List Value → Sem Value} (h : Op X n st xs t Q) (hm : n ≤ m) : Op X m st xs t Q := fun K vs r => (h K vs r).level hm

theorem TO.frame {α β : Type} {K : KM} {t : Sem α} {Rep : KM → α → β → Prop} {st₂ : St} {Q : β → St → Prop} (h : TO X n K st t Rep (fun b st' => Q b (st' ++ st₂))) : TO X n K (st ++ st₂) t Rep Q := by
  intro A rest s ok I
  rw [List.append_assoc] at I
  refine wpAny_mono (h A (st₂ ++ rest) s ok I) (fun v s' ⟨K', x, st', hK, hr, I', hs, hq⟩ => ?_) fun _ _ e => e
  rw [← List.append_assoc] at I'
  exact ⟨K', x, _, hK, hr, I', hs, hq⟩
theorem TO.perm {α β : Type} {K : KM} {t : Sem α} {Rep : KM → α → β → Prop} {st₂ : St} {Q : β → St → Prop} (hp : st₂.Perm st) (h : TO X n K st t Rep Q) : TO X n K st₂ t Rep Q :=
  fun A rest s ok I => h A rest s ok (I.perm (hp.symm.append_right rest))
theorem Op.frame {xs : List V} {t : List Value → Sem Value} {st₂ : St} (h : Op X n st xs t (fun b st' => Q b (st' ++ st₂))) : Op X n (st ++ st₂) xs t Q := fun K vs r => (h K vs r).frame
theorem Op.pure {xs : List V} {t : List Value → Sem Value} (h : Op X n [] xs t (fun b st' => st' = [] ∧ Q b st)) : Op X n st xs t Q := by
  have := Op.frame (st := []) (st₂ := st) (Q := Q) (h.mono fun b st' ⟨e, q⟩ => by subst e; exact q)
  simpa using this
end
section
variable {X : Cx} {n : Nat} {env : Env} {f : List (Str × V)} {st : St} {Q : V → St → Prop} {pos : Pos}

theorem WE_name {x : Str} {v : V} (hv : f.lookup x = some v) (h : Q v st) (hd : (x == ("__debug__" : Str)) = false := by decide) : WE X n env f st (.Name x pos) Q := by
  intro K A rest s ok I
  have fin : ∀ u, RepV X K u v → PE X K env f rest s (RepV X) Q u s := fun u r => ⟨K, v, st, .refl _, r, I, .refl s, h⟩
  rcases I.fr.ok x v hv with hl | ⟨hc, c, hcc⟩
  · obtain ⟨m, hm, r⟩ := I.fr.ns
    obtain ⟨u, hu, hr⟩ := r x v hv hl
    exact wpAny_Name (wpAny_loadName_local I.fr.fk hl hm hu (fin u hr)) hd
  · obtain ⟨vo, hcell, r⟩ := I.fr.cl x c hcc
    obtain ⟨u, rfl, hr⟩ := r v hv hc
    exact wpAny_Name (wpAny_loadName_cell I.fr.fk hc hcc hcell (fin u hr)) hd

theorem WE_glob {mg mb : Str → Option Value} (G : Gd X mg mb) {x : Str} {u : Value} {v : V} (hg : mg x = some u) (hr : RepV X X.B.get? u v) (h : Q v st) (hk : env.kindOf x = some .globalImplicit := by rfl)
    (hd : (x == ("__debug__" : Str)) = false := by decide) : WE X n env f st (.Name x pos) Q := by
  intro K A rest s ok I
  refine Name_function_global I.fr.fk hk (loadGlobal_global (env := env) (by rw [I.fr.gl]; exact G.g.keeps I.inv.baseIn) hg ?_) hd
  exact ⟨K, v, st, .refl _, hr.mono I.inv.base, I, .refl s, h⟩

theorem WE_int {i : Int} {k : Nat} (h : Q (.int i) st) : WE X n env f st (.Constant (.int i) k pos) Q :=
  fun K A rest s ok I => wpAny_Constant_int ⟨K, _, st, .refl _, .int i _, I, .of s _ _, h⟩
theorem WE_str {x : Str} {k : Nat} (h : Q (.str x) st) : WE X n env f st (.Constant (.str x) k pos) Q :=
  fun K A rest s ok I => wpAny_Constant_str ⟨K, _, st, .refl _, .str x _, I, .of s _ _, h⟩
theorem WE_bool {b : Bool} {k : Nat} (h : Q (.bool b) st) : WE X n env f st (.Constant (.bool b) k pos) Q :=
  fun K A rest s ok I => wpAny_Constant_bool ⟨K, _, st, .refl _, .bool b, I, .refl s, h⟩
theorem WE_none {k : Nat} (h : Q .none st) : WE X n env f st (.Constant .none k pos) Q :=
  fun K A rest s ok I => wpAny_Constant_none ⟨K, _, st, .refl _, .none, I, .refl s, h⟩

theorem WE_bin {l r : Expr} {op : Operator} (h : WE X n env f st l (fun a st₁ => WE X n env f st₁ r (fun b st₂ => Op X n st₂ [a, b] (on2 (binaryOp op)) Q))) : WE X n env f st (.BinOp l op r pos) Q := by
  intro K A rest s ok I
  refine wpAny_BinOp (wpAny_mono (h K A rest s ok I) ?_ fun _ _ e => e)
  rintro a s₁ ⟨K₁, x, st₁, hK₁, hr₁, I₁, S₁, h₁⟩
  refine wpAny_mono (h₁ K₁ A rest s₁ ok I₁) ?_ fun _ _ e => e
  rintro b s₂ ⟨K₂, y, st₂, hK₂, hr₂, I₂, S₂, h₂⟩
  refine wpAny_mono (TE.of (h₂ K₂ [a, b] (.cons (hr₁.mono hK₂) (.one hr₂))) A rest s₂ ok I₂) ?_ fun _ _ e => e
  rintro c s₃ ⟨K₃, z, st₃, hK₃, hr₃, I₃, S₃, h₃⟩
  exact ⟨K₃, z, st₃, (hK₁.trans hK₂).trans hK₃, hr₃, I₃, (S₁.trans S₂).trans S₃, h₃⟩

theorem WE_un {e : Expr} {op : UnaryOp} (h : WE X n env f st e (fun a st₁ => Op X n st₁ [a] (on1 (unaryOp op)) Q)) : WE X n env f st (.UnaryOp op e pos) Q := by
  intro K A rest s ok I
  refine wpAny_UnaryOp (wpAny_mono (h K A rest s ok I) ?_ fun _ _ e => e)
  rintro a s₁ ⟨K₁, x, st₁, hK₁, hr₁, I₁, S₁, h₁⟩
  refine wpAny_mono (TE.of (h₁ K₁ [a] (.one hr₁)) A rest s₁ ok I₁) ?_ fun _ _ e => e
  rintro c s₃ ⟨K₃, z, st₃, hK₃, hr₃, I₃, S₃, h₃⟩
  exact ⟨K₃, z, st₃, hK₁.trans hK₃, hr₃, I₃, S₁.trans S₃, h₃⟩

theorem WE_cmp {l r : Expr} {op : CmpOp} (h : WE X n env f st l (fun a st₁ => WE X n env f st₁ r (fun b st₂ => Op X n st₂ [a, b] (on2 (compareOp op)) Q)))
    (hm : behindInMarks op r = false := by with_unfolding_all rfl) : WE X n env f st (.Compare l [op] [r] pos) Q := by
  intro K A rest s ok I
  refine wpAny_Compare1 (wpAny_mono (h K A rest s ok I) ?_ fun _ _ e => e) hm
  rintro a s₁ ⟨K₁, x, st₁, hK₁, hr₁, I₁, S₁, h₁⟩
  refine wpAny_mono (h₁ K₁ A rest s₁ ok I₁) ?_ fun _ _ e => e
  rintro b s₂ ⟨K₂, y, st₂, hK₂, hr₂, I₂, S₂, h₂⟩
  refine wpAny_mono (TE.of (h₂ K₂ [a, b] (.cons (hr₁.mono hK₂) (.one hr₂))) A rest s₂ ok I₂) ?_ fun _ _ e => e
  rintro c s₃ ⟨K₃, z, st₃, hK₃, hr₃, I₃, S₃, h₃⟩
  exact ⟨K₃, z, st₃, (hK₁.trans hK₂).trans hK₃, hr₃, I₃, (S₁.trans S₂).trans S₃, h₃⟩

noncomputable abbrev Bo (Q : Bool → St → Prop) (c : V) (st : St) : Prop := ∃ t, c = .bool t ∧ Q t st
theorem t_bo {Q : Bool → St → Prop} {t : Bool} (h : Q t st) : Bo Q (.bool t) st := ⟨_, rfl, h⟩
theorem WT_cmp {l r : Expr} {op : CmpOp} {Q : Bool → St → Prop} (h : WE X n env f st l (fun a st₁ => WE X n env f st₁ r (fun b st₂ => Op X n st₂ [a, b] (on2 (compareOp op)) (Bo Q))))
    (hm : behindInMarks op r = false := by with_unfolding_all rfl) : WT X n env f st (.Compare l [op] [r] pos) Q := by
  intro K A rest s ok I
  refine wpAny_isTrue_Compare1 (wpAny_mono (h K A rest s ok I) ?_ fun _ _ e => e) hm
  rintro a s₁ ⟨K₁, x, st₁, hK₁, hr₁, I₁, S₁, h₁⟩
  refine wpAny_mono (h₁ K₁ A rest s₁ ok I₁) ?_ fun _ _ e => e
  rintro b s₂ ⟨K₂, y, st₂, hK₂, hr₂, I₂, S₂, h₂⟩
  refine wpAny_mono (TE.of (h₂ K₂ [a, b] (.cons (hr₁.mono hK₂) (.one hr₂))) A rest s₂ ok I₂) ?_ fun _ _ e => e
  rintro c s₃ ⟨K₃, z, st₃, hK₃, hr₃, I₃, S₃, t, rfl, h₃⟩
  obtain rfl := hr₃.bool_inv
  exact wpAny_truthy_bool ⟨K₃, t, st₃, (hK₁.trans hK₂).trans hK₃, rfl, I₃, (S₁.trans S₂).trans S₃, h₃⟩

theorem WT_value {e : Expr} {Q : Bool → St → Prop} (h : WE X n env f st e (fun a st₁ => OpB X n st₁ [a] (on1 truthy) Q))
    (he : isTrue e env (eval e env) = (do let v ← eval e env; standAt e.pos; holding [v] (truthy v)) := by rfl) : WT X n env f st e Q := by
  intro K A rest s ok I
  refine wpAny_isTrue_value (wpAny_mono (h K A rest s ok I) ?_ fun _ _ e => e) he
  rintro a s₁ ⟨K₁, x, st₁, hK₁, hr₁, I₁, S₁, h₁⟩
  refine wpAny_mono (TE.of (h₁ K₁ [a] (.one hr₁)) A rest s₁ ok I₁) ?_ fun _ _ e => e
  rintro c s₃ ⟨K₃, z, st₃, hK₃, hr₃, I₃, S₃, h₃⟩
  exact ⟨K₃, z, st₃, hK₁.trans hK₃, hr₃, I₃, S₁.trans S₃, h₃⟩

theorem WT_not {e : Expr} {Q : Bool → St → Prop} (h : WT X n env f st e (fun b st₁ => Q (!b) st₁)) : WT X n env f st (.UnaryOp .Not e pos) Q := by
  intro K A rest s ok I
  refine wpAny_isTrue_Not (wpAny_mono (h K A rest s ok I) ?_ fun _ _ e => e)
  rintro a s₁ ⟨K₁, x, st₁, hK₁, hr₁, I₁, S₁, h₁⟩
  exact ⟨K₁, !x, st₁, hK₁, by rw [hr₁], I₁, S₁, h₁⟩

noncomputable def WA (X : Cx) (n : Nat) (env : Env) (f : List (Str × V)) (st : St) (op : BoolOp) (es : List Expr) (Q : Bool → St → Prop) : Prop := ∀ K, TE X n env f K st (allTrue op es env) RepB Q
theorem WT_bool {op : BoolOp} {es : List Expr} {Q : Bool → St → Prop} (h : WA X n env f st op es Q) : WT X n env f st (.BoolOp op es pos) Q :=
  fun K A rest s ok I => wpAny_isTrue_BoolOp (h K A rest s ok I)
theorem WA_and_nil {Q : Bool → St → Prop} (h : Q true st) : WA X n env f st .And [] Q := fun K A rest s ok I => wpAny_allTrue_And_nil ⟨K, true, st, .refl _, rfl, I, .refl s, h⟩
theorem WA_or_nil {Q : Bool → St → Prop} (h : Q false st) : WA X n env f st .Or [] Q := fun K A rest s ok I => wpAny_allTrue_Or_nil ⟨K, false, st, .refl _, rfl, I, .refl s, h⟩
noncomputable abbrev Wa (X : Cx) (n : Nat) (env : Env) (f : List (Str × V)) (es : List Expr) (Q : Bool → St → Prop) (b : Bool) (st : St) : Prop := (b = true → WA X n env f st .And es Q) ∧ (b = false → Q false st)
noncomputable abbrev Wo (X : Cx) (n : Nat) (env : Env) (f : List (Str × V)) (es : List Expr) (Q : Bool → St → Prop) (b : Bool) (st : St) : Prop := (b = false → WA X n env f st .Or es Q) ∧ (b = true → Q true st)
theorem wa_t {es : List Expr} {Q : Bool → St → Prop} {b : Bool} (e : b = true) (h : WA X n env f st .And es Q) : Wa X n env f es Q b st := ⟨fun _ => h, fun e' => absurd (e.symm.trans e') (by decide)⟩
theorem wa_f {es : List Expr} {Q : Bool → St → Prop} {b : Bool} (e : b = false) (h : Q false st) : Wa X n env f es Q b st := ⟨fun e' => absurd (e.symm.trans e') (by decide), fun _ => h⟩
theorem wo_f {es : List Expr} {Q : Bool → St → Prop} {b : Bool} (e : b = false) (h : WA X n env f st .Or es Q) : Wo X n env f es Q b st := ⟨fun _ => h, fun e' => absurd (e.symm.trans e') (by decide)⟩
theorem wo_t {es : List Expr} {Q : Bool → St → Prop} {b : Bool} (e : b = true) (h : Q true st) : Wo X n env f es Q b st := ⟨fun e' => absurd (e.symm.trans e') (by decide), fun _ => h⟩
theorem WA_and_cons {e : Expr} {es : List Expr} {Q : Bool → St → Prop} (h : WT X n env f st e (Wa X n env f es Q)) : WA X n env f st .And (e :: es) Q := by
  intro K A rest s ok I
  refine wpAny_allTrue_And_cons (wpAny_mono (h K A rest s ok I) ?_ fun _ _ e => e)
  rintro a s₁ ⟨K₁, x, st₁, hK₁, rfl, I₁, S₁, h₁, h₂⟩
  cases a with
  | false => exact ⟨K₁, false, st₁, hK₁, rfl, I₁, S₁, h₂ rfl⟩
  | true =>
    refine wpAny_mono (h₁ rfl K₁ A rest s₁ ok I₁) ?_ fun _ _ e => e
    rintro c s₃ ⟨K₃, z, st₃, hK₃, hr₃, I₃, S₃, h₃⟩
    exact ⟨K₃, z, st₃, hK₁.trans hK₃, hr₃, I₃, S₁.trans S₃, h₃⟩
theorem WA_or_cons {e : Expr} {es : List Expr} {Q : Bool → St → Prop} (h : WT X n env f st e (Wo X n env f es Q)) : WA X n env f st .Or (e :: es) Q := by
  intro K A rest s ok I
  refine wpAny_allTrue_Or_cons (wpAny_mono (h K A rest s ok I) ?_ fun _ _ e => e)
  rintro a s₁ ⟨K₁, x, st₁, hK₁, rfl, I₁, S₁, h₁, h₂⟩
  cases a with
  | true => exact ⟨K₁, true, st₁, hK₁, rfl, I₁, S₁, h₂ rfl⟩
  | false =>
    refine wpAny_mono (h₁ rfl K₁ A rest s₁ ok I₁) ?_ fun _ _ e => e
    rintro c s₃ ⟨K₃, z, st₃, hK₃, hr₃, I₃, S₃, h₃⟩
    exact ⟨K₃, z, st₃, hK₁.trans hK₃, hr₃, I₃, S₁.trans S₃, h₃⟩

noncomputable abbrev An (X : Cx) (n : Nat) (env : Env) (f : List (Str × V)) (r : Expr) (Q : V → St → Prop) (a : V) (st : St) : Prop := ∃ b, a = .bool b ∧ (b = true → WE X n env f st r Q) ∧ (b = false → Q (.bool false) st)
noncomputable abbrev Orr (X : Cx) (n : Nat) (env : Env) (f : List (Str × V)) (r : Expr) (Q : V → St → Prop) (a : V) (st : St) : Prop := ∃ b, a = .bool b ∧ (b = false → WE X n env f st r Q) ∧ (b = true → Q (.bool true) st)
noncomputable abbrev Ie (X : Cx) (n : Nat) (env : Env) (f : List (Str × V)) (a b : Expr) (Q : V → St → Prop) (c : Bool) (st : St) : Prop := (c = true → WE X n env f st a Q) ∧ (c = false → WE X n env f st b Q)
theorem ie_t {a b : Expr} {Q : V → St → Prop} {c : Bool} (e : c = true) (h : WE X n env f st a Q) : Ie X n env f a b Q c st := ⟨fun _ => h, fun e' => absurd (e.symm.trans e') (by decide)⟩
theorem ie_f {a b : Expr} {Q : V → St → Prop} {c : Bool} (e : c = false) (h : WE X n env f st b Q) : Ie X n env f a b Q c st := ⟨fun e' => absurd (e.symm.trans e') (by decide), fun _ => h⟩
theorem WE_and2 {l r : Expr} (h : WE X n env f st l (An X n env f r Q)) : WE X n env f st (.BoolOp .And [l, r] pos) Q := by
  intro K A rest s ok I
  refine wpAny_And2 (wpAny_mono (h K A rest s ok I) ?_ fun _ _ e => e)
  rintro a s₁ ⟨K₁, x, st₁, hK₁, hr, I₁, S₁, b, rfl, h₁, h₂⟩
  obtain rfl := hr.bool_inv
  refine wpAny_truthy_bool ?_
  cases b with
  | false => exact ⟨K₁, _, st₁, hK₁, .bool false, I₁, S₁, h₂ rfl⟩
  | true =>
    refine wpAny_mono (h₁ rfl K₁ A rest s₁ ok I₁) ?_ fun _ _ e => e
    rintro c s₃ ⟨K₃, z, st₃, hK₃, hr₃, I₃, S₃, h₃⟩
    exact ⟨K₃, z, st₃, hK₁.trans hK₃, hr₃, I₃, S₁.trans S₃, h₃⟩
theorem WE_or2 {l r : Expr} (h : WE X n env f st l (Orr X n env f r Q)) : WE X n env f st (.BoolOp .Or [l, r] pos) Q := by
  intro K A rest s ok I
  refine wpAny_Or2 (wpAny_mono (h K A rest s ok I) ?_ fun _ _ e => e)
  rintro a s₁ ⟨K₁, x, st₁, hK₁, hr, I₁, S₁, b, rfl, h₁, h₂⟩
  obtain rfl := hr.bool_inv
  refine wpAny_truthy_bool ?_
  cases b with
  | true => exact ⟨K₁, _, st₁, hK₁, .bool true, I₁, S₁, h₂ rfl⟩
  | false =>
    refine wpAny_mono (h₁ rfl K₁ A rest s₁ ok I₁) ?_ fun _ _ e => e
    rintro c s₃ ⟨K₃, z, st₃, hK₃, hr₃, I₃, S₃, h₃⟩
    exact ⟨K₃, z, st₃, hK₁.trans hK₃, hr₃, I₃, S₁.trans S₃, h₃⟩

theorem WE_ifexp {t a b : Expr} (h : WT X n env f st t (Ie X n env f a b Q)) : WE X n env f st (.IfExp t a b pos) Q := by
  intro K A rest s ok I
  refine wpAny_IfExp (wpAny_mono (h K A rest s ok I) ?_ fun _ _ e => e)
  rintro c s₁ ⟨K₁, x, st₁, hK₁, rfl, I₁, S₁, h₁, h₂⟩
  cases c with
  | true =>
    refine wpAny_mono (h₁ rfl K₁ A rest s₁ ok I₁) ?_ fun _ _ e => e
    rintro c s₃ ⟨K₃, z, st₃, hK₃, hr₃, I₃, S₃, h₃⟩
    exact ⟨K₃, z, st₃, hK₁.trans hK₃, hr₃, I₃, S₁.trans S₃, h₃⟩
  | false =>
    refine wpAny_mono (h₂ rfl K₁ A rest s₁ ok I₁) ?_ fun _ _ e => e
    rintro c s₃ ⟨K₃, z, st₃, hK₃, hr₃, I₃, S₃, h₃⟩
    exact ⟨K₃, z, st₃, hK₁.trans hK₃, hr₃, I₃, S₁.trans S₃, h₃⟩

theorem WL_nil {Q : List V → St → Prop} (h : Q [] st) : WL X n env f st [] Q := fun K p A rest s ok I => wpAny_items_nil ⟨K, [], st, .refl _, .nil, I, .refl s, h⟩
theorem WL_cons {e : Expr} {es : List Expr} {Q : List V → St → Prop} (h : WE X n env f st e (fun x st₁ => WL X n env f st₁ es (fun xs st₂ => Q (x :: xs) st₂)))
    (he : starEach (e :: es) env = (false, eval e env) :: starEach es env := by rfl) : WL X n env f st (e :: es) Q := by
  intro K p A rest s ok I
  refine wpAny_items_cons (wpAny_mono (h K A rest s ok I) ?_ fun _ _ e => e) he
  rintro a s₁ ⟨K₁, x, st₁, hK₁, hr₁, I₁, S₁, h₁⟩
  refine wpAny_mono (h₁ K₁ p A rest s₁ ok I₁) ?_ fun _ _ e => e
  rintro b s₂ ⟨K₂, y, st₂, hK₂, hr₂, I₂, S₂, h₂⟩
  exact ⟨K₂, x :: y, st₂, hK₁.trans hK₂, .cons (hr₁.mono hK₂) hr₂, I₂, S₁.trans S₂, h₂⟩

theorem TO_newTuple {K : KM} {vs : List Value} {xs : List V} (r : RepL X K vs xs) (hl : xs.length ≤ 100000) (h : Q (.tup xs) st) : TO X n K st (newTuple vs) (RepV X) Q := by
  intro A rest s ok I
  refine wpAny_newObj_type ?_ (by show vs.toArray.size ≤ sizeLine; rw [List.size_toArray, r.length, sizeLine_eq]; lia)
  have hK := I.none_of_size (Nat.le_refl _)
  have I' := (I.keep (h' := s.heap.push { cls := .type "tuple", data := .seq vs.toArray }) fun b o e => Heap.get?_push_of_some _ e).freeze hK (I.notin_of_size (Nat.le_refl _)) (Heap.get?_push_size _ rfl)
  exact ⟨_, _, st, kle_set _ hK, .tup kset_self (by simpa using r.mono (kle_set _ hK)), I', .of s _ _, h⟩
theorem TO_newListF {K : KM} {vs : List Value} {xs : List V} (r : RepL X K vs xs) (hl : xs.length ≤ 100000) (h : Q (.lst xs) st) : TO X n K st (newList vs) (RepV X) Q := by
  intro A rest s ok I
  refine wpAny_newObj_type ?_ (by show vs.toArray.size ≤ sizeLine; rw [List.size_toArray, r.length, sizeLine_eq]; lia)
  have hK := I.none_of_size (Nat.le_refl _)
  have I' := (I.keep (h' := s.heap.push { cls := .type "list", data := .seq vs.toArray }) fun b o e => Heap.get?_push_of_some _ e).freeze hK (I.notin_of_size (Nat.le_refl _)) (Heap.get?_push_size _ rfl)
  exact ⟨_, _, st, kle_set _ hK, .lst kset_self (by simpa using r.mono (kle_set _ hK)), I', .of s _ _, h⟩

theorem TO_newList {K : KM} {vs : List Value} {xs : List V} (r : RepL X K vs xs) (hl : xs.length ≤ 100000) (h : ∀ a, Q (.obj a) ((a, .list xs) :: st)) : TO X n K st (newList vs) (RepV X) Q := by
  intro A rest s ok I
  refine wpAny_newObj_type ?_ (by show vs.toArray.size ≤ sizeLine; rw [List.size_toArray, r.length, sizeLine_eq]; lia)
  refine ⟨K, _, _, .refl _, .obj _, ?_, .of s _ _, h _⟩
  exact I.grow (Nat.le_refl _) (I.newLo (Nat.le_refl _)) (fun b o e => Heap.get?_push_of_some _ e) (Heap.get?_push_size _ rfl) ⟨_, 0, rfl, by simpa using r⟩

theorem WE_tuple {es : List Expr} {k : Nat} (h : WL X n env f st es (fun xs st₁ => xs.length ≤ 100000 ∧ Q (.tup xs) st₁)) : WE X n env f st (.Tuple es k pos) Q := by
  intro K A rest s ok I
  refine Tuple_ (wpAny_mono (h K pos A rest s ok I) ?_ fun _ _ e => e)
  rintro a s₁ ⟨K₁, x, st₁, hK₁, hr₁, I₁, S₁, hl, h₁⟩
  refine wpAny_mono (TE.of (TO_newTuple hr₁ hl h₁) A rest s₁ ok I₁) ?_ fun _ _ e => e
  rintro c s₃ ⟨K₃, z, st₃, hK₃, hr₃, I₃, S₃, h₃⟩
  exact ⟨K₃, z, st₃, hK₁.trans hK₃, hr₃, I₃, S₁.trans S₃, h₃⟩
theorem WE_listF {es : List Expr} (h : WL X n env f st es (fun xs st₁ => xs.length ≤ 100000 ∧ Q (.lst xs) st₁)) : WE X n env f st (.List es pos) Q := by
  intro K A rest s ok I
  refine List_ (wpAny_mono (h K pos A rest s ok I) ?_ fun _ _ e => e)
  rintro a s₁ ⟨K₁, x, st₁, hK₁, hr₁, I₁, S₁, hl, h₁⟩
  refine wpAny_mono (TE.of (TO_newListF hr₁ hl h₁) A rest s₁ ok I₁) ?_ fun _ _ e => e
  rintro c s₃ ⟨K₃, z, st₃, hK₃, hr₃, I₃, S₃, h₃⟩
  exact ⟨K₃, z, st₃, hK₁.trans hK₃, hr₃, I₃, S₁.trans S₃, h₃⟩
theorem WE_list {es : List Expr} (h : WL X n env f st es (fun xs st₁ => xs.length ≤ 100000 ∧ ∀ a, Q (.obj a) ((a, .list xs) :: st₁))) : WE X n env f st (.List es pos) Q := by
  intro K A rest s ok I
  refine List_ (wpAny_mono (h K pos A rest s ok I) ?_ fun _ _ e => e)
  rintro a s₁ ⟨K₁, x, st₁, hK₁, hr₁, I₁, S₁, hl, h₁⟩
  refine wpAny_mono (TE.of (TO_newList hr₁ hl h₁) A rest s₁ ok I₁) ?_ fun _ _ e => e
  rintro c s₃ ⟨K₃, z, st₃, hK₃, hr₃, I₃, S₃, h₃⟩
  exact ⟨K₃, z, st₃, hK₁.trans hK₃, hr₃, I₃, S₁.trans S₃, h₃⟩

theorem WE_sub {v i : Expr} (h : WE X n env f st v (fun a st₁ => WE X n env f st₁ i (fun b st₂ => Op X n st₂ [a, b] (on2 (subscriptTail v i)) Q))) : WE X n env f st (.Subscript v i pos) Q := by
  intro K A rest s ok I
  refine Subscript_ (wpAny_mono (h K A rest s ok I) ?_ fun _ _ e => e)
  rintro a s₁ ⟨K₁, x, st₁, hK₁, hr₁, I₁, S₁, h₁⟩
  refine wpAny_mono (h₁ K₁ A rest s₁ ok I₁) ?_ fun _ _ e => e
  rintro b s₂ ⟨K₂, y, st₂, hK₂, hr₂, I₂, S₂, h₂⟩
  refine wpAny_mono (TE.of (h₂ K₂ [a, b] (.cons (hr₁.mono hK₂) (.one hr₂))) A rest s₂ ok I₂) ?_ fun _ _ e => e
  rintro c s₃ ⟨K₃, z, st₃, hK₃, hr₃, I₃, S₃, h₃⟩
  exact ⟨K₃, z, st₃, (hK₁.trans hK₂).trans hK₃, hr₃, I₃, (S₁.trans S₂).trans S₃, h₃⟩

noncomputable def Kp (X : Cx) (c : Value) : Prop := ∀ h : Heap, (∀ a o, X.B.get? a = some o → h.get? a = some o) → ∃ k, (k = Keeper.frame ∨ k = Keeper.machine ∨ k = Keeper.boundFrame) ∧ Looks (model X.prog X.w) h (keeperOf c) k
theorem Kp.builtin (id : String) : Kp X (.builtin id) := fun _ _ => ⟨.machine, .inr (.inl rfl), Looks.of_pure rfl⟩
theorem Kp.type (id : String) : Kp X (.type id) := fun _ _ => ⟨.machine, .inr (.inl rfl), Looks.of_pure rfl⟩
theorem Kp.frag {F : Frag} (hF : F.In X.B) {c : Value} (hk : keepIn F c = true) : Kp X c := fun h hb => keeps_K hk h (hF.keeps hb)

noncomputable def Callee (X : Cx) (env : Env) (g : Expr) (c : Value) : Prop := ∀ (A : Around) (s : Shared) (R : Value → Shared → Prop), (∀ a o, X.B.get? a = some o → s.heap.get? a = some o) → env.scope.kind = .function → env.globals = mainGlobals → env.builtins = builtinsNs →
  R c s → wpAny (model X.prog X.w) A (eval g env) R NoE s
theorem Callee.glob {mg mb : Str → Option Value} (G : Gd X mg mb) {x : Str} {c : Value} (hg : mg x = some c) (hk : env.kindOf x = some .globalImplicit := by rfl) (hd : (x == ("__debug__" : Str)) = false := by decide) :
    Callee X env (.Name x pos) c := fun A s R hb h1 h2 _ hR => Name_function_global h1 hk (loadGlobal_global (env := env) (by rw [h2]; exact G.g.keeps hb) hg hR) hd
theorem Callee.blt {mg mb : Str → Option Value} (G : Gd X mg mb) {x : Str} {c : Value} (hg : mg x = Option.none) (hv : mb x = some c) (hk : env.kindOf x = some .globalImplicit := by rfl) (hd : (x == ("__debug__" : Str)) = false := by decide) :
    Callee X env (.Name x pos) c := fun A s R hb h1 h2 h3 hR => Name_function_global h1 hk (loadGlobal_builtin (env := env) (by rw [h2]; exact G.g.keeps hb) hg (by rw [h3]; exact G.b.keeps hb) hv hR) hd

theorem callWith_args {A : Around} {s : Shared} {K : KM} {rest : St} {c : Value} {first : List Value} {fx : List V} {args : List Expr} (ok : Ok n A) (hk : Kp X c) (I : IF X K env f (st ++ rest) s.heap) (rf : RepL X K first fx)
    (h : WL X n env f st args (fun xs st₁ => Call X n st₁ c (fx ++ xs) Q)) (hstar : (starEach args env).any (·.1) = false) :
    wpAny (model X.prog X.w) A (callWith pos c first (backTo pos (starEach args env)) []) (PE X K env f rest s (RepV X) Q) NoE s := by
  have hst : (backTo pos (starEach args env)).any (·.1) = false := by
    simp only [backTo, List.any_map]
    exact hstar
  have key : wpAny (model X.prog X.w) A (spliced (backTo pos (starEach args env))) (fun vs s₁ => (∀ a o, X.B.get? a = some o → s₁.heap.get? a = some o) ∧ wpAny (model X.prog X.w) A (call c (first ++ vs) [])
      (PE X K env f rest s (RepV X) Q) NoE s₁) NoE s := by
    refine wpAny_mono (h K pos A rest s ok I) ?_ fun _ _ e => e
    rintro a s₁ ⟨K₁, x, st₁, hK₁, hr₁, I₁, S₁, h₁⟩
    refine ⟨I₁.inv.baseIn, ?_⟩
    refine wpAny_mono (TE.of (h₁ K₁ (first ++ a) ((rf.mono hK₁).append hr₁)) A rest s₁ ok I₁) ?_ fun _ _ e => e
    rintro c s₃ ⟨K₃, z, st₃, hK₃, hr₃, I₃, S₃, h₃⟩
    exact ⟨K₃, z, st₃, hK₁.trans hK₃, hr₃, I₃, S₁.trans S₃, h₃⟩
  refine callWith_of (P := fun h => ∀ a o, X.B.get? a = some o → h.get? a = some o) (by rw [hst]; rfl) (fun h hb => hk h hb) ?_
  cases args with
  | nil =>
    have key' : wpAny (model X.prog X.w) A (spliced []) _ NoE s := key
    refine evalArgs_nil3 ?_
    have := key'
    unfold spliced at this
    obtain ⟨p1, p2⟩ : (∀ a o, X.B.get? a = some o → s.heap.get? a = some o) ∧ _ := ⟨I.inv.baseIn, True.intro⟩
    refine ⟨p1, ?_⟩
    have h0 : wpAny (model X.prog X.w) A (pure [] : Sem (List Value)) _ NoE s := this
    exact (fun Γ p hΓ => (h0 Γ p hΓ).2 Γ p hΓ)
  | cons e es =>
    cases hs : backTo pos (starEach (e :: es) env) with
    | nil =>
      rw [hs] at key
      refine evalArgs_nil3 ⟨I.inv.baseIn, ?_⟩
      have h0 : wpAny (model X.prog X.w) A (pure [] : Sem (List Value)) _ NoE s := key
      exact (fun Γ p hΓ => (h0 Γ p hΓ).2 Γ p hΓ)
    | cons y ys =>
      rw [hs] at key hst
      obtain ⟨b, t⟩ := y
      obtain rfl : b = false := by simp only [List.any_cons, Bool.or_eq_false_iff] at hst; exact hst.1
      exact evalArgs_plain key

theorem WE_call {g : Expr} {args : List Expr} {c : Value} (hc : Callee X env g c) (hk : Kp X c) (h : WL X n env f st args (fun xs st₁ => Call X n st₁ c xs Q))
    (hev : eval (.Call g args [] pos) env = (do callWith pos (← eval g env) [] (backTo pos (starEach args env)) (backToKw pos (keywordEach [] env))) := by rfl)
    (hstar : (starEach args env).any (·.1) = false := by rfl) : WE X n env f st (.Call g args [] pos) Q := by
  intro K A rest s ok I
  rw [hev]
  exact wpAny_bind (hc A s _ I.inv.baseIn I.fr.fk I.fr.gl I.fr.bl (callWith_args ok hk I .nil h hstar))
end
noncomputable abbrev Fm := List (Str × V)
noncomputable def fset (x : Str) (v : V) : Fm → Fm
  | [] => [(x, v)]
  | (y, w) :: r => if y == x then (x, v) :: r else (y, w) :: fset x v r
theorem lookup_fset (x : Str) (v : V) (y : Str) : ∀ f : Fm, (fset x v f).lookup y = if y = x then some v else f.lookup y
  | [] => by
    simp only [fset, List.lookup_cons, List.lookup_nil]
    by_cases h : y = x
    · simp [h]
    · simp [h, beq_eq_false_iff_ne.mpr h]
  | (z, w) :: r => by
    have ih := lookup_fset x v y r
    simp only [fset]
    by_cases hz : z = x
    · subst hz
      simp only [beq_self_eq_true, if_true, List.lookup_cons]
      by_cases h : y = z
      · simp [h]
      · simp [h, beq_eq_false_iff_ne.mpr h]
    · simp only [beq_eq_false_iff_ne.mpr hz, Bool.false_eq_true, if_false, List.lookup_cons]
      by_cases h : y = z
      · subst h; simp [hz]
      · rw [beq_eq_false_iff_ne.mpr h]; exact ih

noncomputable def FSub (f' f : Fm) : Prop := ∀ x v, f'.lookup x = some v → f.lookup x = some v
theorem FSub.refl (f : Fm) : FSub f f := fun _ _ e => e
theorem FSub.nil (f : Fm) : FSub [] f := fun _ _ e => by simp at e
theorem FSub.cons {f' f : Fm} {x : Str} {v : V} (h : f.lookup x = some v) (t : FSub f' f) : FSub ((x, v) :: f') f := by
  intro y w e
  rw [List.lookup_cons] at e
  cases hb : y == x with
  | true => rw [hb] at e; cases e; rw [beq_iff_eq.mp hb]; exact h
  | false => rw [hb] at e; exact t y w e

noncomputable def Sto (env : Env) (x : Str) : Prop := env.kindOf x = some .local ∨ (env.kindOf x = some .cell ∧ ∃ c, env.cells.lookup x = some c)

theorem FrI.weaken {X : Cx} {K : KM} {env : Env} {f f' : Fm} {h : Heap} (F : FrI X K env f h) (hs : FSub f' f) : FrI X K env f' h where
  fk := F.fk
  gl := F.gl
  bl := F.bl
  ns := let ⟨m, hm, r⟩ := F.ns; ⟨m, hm, fun x v e k => r x v (hs x v e) k⟩
  cl := fun x c e => let ⟨vo, hc, r⟩ := F.cl x c e; ⟨vo, hc, fun v e k => r v (hs x v e) k⟩
  ok := fun x v e => F.ok x v (hs x v e)
  nk := F.nk
  nc := F.nc
  ap := F.ap
  lc := F.lc
  lo := F.lo
theorem IF.weaken {X : Cx} {K : KM} {env : Env} {f f' : Fm} {st : St} {h : Heap} (F : IF X K env f st h) (hs : FSub f' f) : IF X K env f' st h := ⟨F.inv, F.fr.weaken hs, F.dj⟩

section
variable {X : Cx} {K : KM} {env : Env} {f : Fm} {st : St} {A : Around}
theorem IF.store {x : Str} {u : Value} {v : V} {s : Shared} {R : Unit → Shared → Prop} {E : Value → Shared → Prop} (I : IF X K env f st s.heap) (hx : Sto env x) (r : RepV X K u v)
    (h : ∀ h' t, IF X K env (fset x v f) st h' → R () { s with heap := h', toks := t }) : wpAny (model X.prog X.w) A (storeName env x u) R E s := by
  rcases hx with hl | ⟨hc, c, hcc⟩
  · obtain ⟨m, hm, rr⟩ := I.fr.ns
    refine wpAny_storeName_local hl hm (fun h' hn hs => h h' _ ?_) (by rw [I.fr.fk]; rfl)
    have hL : env.locals ∉ st.map (·.1) := fun hm => by obtain ⟨p, hp, e⟩ := List.mem_map.mp hm; exact I.dj p hp (.inl e)
    refine ⟨I.inv.off I.fr.nk hL fun b o hb e => (hs.2 b hb).trans e, ?_, I.dj⟩
    refine ⟨I.fr.fk, I.fr.gl, I.fr.bl, ⟨_, hn, fun y w e k => ?_⟩, fun y c e => ?_, fun y w e => ?_, I.fr.nk, I.fr.nc, I.fr.ap, I.fr.lc, I.fr.lo⟩
    · rw [lookup_fset] at e
      by_cases hy : y = x
      · rw [if_pos hy] at e; cases e; exact ⟨u, by simp [hy], r⟩
      · rw [if_neg hy] at e; simpa [hy] using rr y w e k
    · obtain ⟨vo, hcell, q⟩ := I.fr.cl y c e
      refine ⟨vo, hcell.sameBut hs (I.fr.lc y c e), fun w e' k => ?_⟩
      rw [lookup_fset] at e'
      by_cases hy : y = x
      · subst hy; rw [hl] at k; cases k
      · rw [if_neg hy] at e'; exact q w e' k
    · rw [lookup_fset] at e
      by_cases hy : y = x
      · subst hy; exact .inl hl
      · rw [if_neg hy] at e; exact I.fr.ok y w e
  · obtain ⟨vo, hcell, q⟩ := I.fr.cl x c hcc
    refine wpAny_storeName_cell I.fr.fk hc hcc hcell (fun h' hv hs => h h' _ ?_)
    have hL : c ∉ st.map (·.1) := fun hm => by obtain ⟨p, hp, e⟩ := List.mem_map.mp hm; exact I.dj p hp (.inr ⟨x, e ▸ hcc⟩)
    refine ⟨I.inv.off (I.fr.nc x c hcc) hL fun b o hb e => (hs.2 b hb).trans e, ?_, I.dj⟩
    obtain ⟨m, hm, rr⟩ := I.fr.ns
    refine ⟨I.fr.fk, I.fr.gl, I.fr.bl, ⟨m, hm.sameBut hs (Ne.symm (I.fr.lc x c hcc)), fun y w e k => ?_⟩, fun y d e => ?_, fun y w e => ?_, I.fr.nk, I.fr.nc, I.fr.ap, I.fr.lc, I.fr.lo⟩
    · rw [lookup_fset] at e
      by_cases hy : y = x
      · subst hy; rw [hc] at k; cases k
      · rw [if_neg hy] at e; exact rr y w e k
    · by_cases hy : y = x
      · subst hy
        rw [hcc] at e; cases e
        refine ⟨some u, hv, fun w e' k => ?_⟩
        rw [lookup_fset, if_pos rfl] at e'; cases e'
        exact ⟨u, rfl, r⟩
      · obtain ⟨vo', hcell', q'⟩ := I.fr.cl y d e
        refine ⟨vo', hcell'.sameBut hs (fun e2 => hy (I.fr.ap y x d e (e2 ▸ hcc))), fun w e' k => ?_⟩
        rw [lookup_fset, if_neg hy] at e'
        exact q' w e' k
    · rw [lookup_fset] at e
      by_cases hy : y = x
      · subst hy; exact .inr ⟨hc, c, hcc⟩
      · rw [if_neg hy] at e; exact I.fr.ok y w e
end

inductive Fl where
  | next | brk | cont
  | ret (v : V)
inductive RepFl (X : Cx) (K : KM) : Flow → Fl → Prop
  | next : RepFl X K .next .next
  | brk : RepFl X K .brk .brk
  | cont : RepFl X K .cont .cont
  | ret {u : Value} {v : V} : RepV X K u v → RepFl X K (.ret u) (.ret v)

inductive PS (X : Cx) (K : KM) (env : Env) (rest : St) (s : Shared) (Q : Fl → Fm → St → Prop) (v : Flow) (s' : Shared) : Prop where
  | mk (K' : KM) (x : Fl) (f' : Fm) (st' : St) (h1 : KLe K K') (h2 : RepFl X K' v x) (h3 : IF X K' env f' (st' ++ rest) s'.heap) (h4 : Same s s') (h5 : Q x f' st') : PS X K env rest s Q v s'
noncomputable def TS (X : Cx) (n : Nat) (env : Env) (f : Fm) (K : KM) (st : St) (t : Sem Flow) (Q : Fl → Fm → St → Prop) : Prop :=
  ∀ (A : Around) (rest : St) (s : Shared), Ok n A → IF X K env f (st ++ rest) s.heap →
    wpAny (model X.prog X.w) A t (PS X K env rest s Q) NoE s
noncomputable def WS (X : Cx) (n : Nat) (env : Env) (f : Fm) (st : St) (c : Stmt) (Q : Fl → Fm → St → Prop) : Prop := ∀ K, TS X n env f K st (exec c env) Q
noncomputable def WB (X : Cx) (n : Nat) (env : Env) (f : Fm) (st : St) (c : List Stmt) (Q : Fl → Fm → St → Prop) : Prop := ∀ K, TS X n env f K st (execs c env) Q

section
variable {X : Cx} {n : Nat} {env : Env} {f : Fm} {st : St} {Q Q' : Fl → Fm → St → Prop} {pos : Pos}

theorem WS.mono {c : Stmt} (h : WS X n env f st c Q) (hq : ∀ a b d, Q a b d → Q' a b d) : WS X n env f st c Q' :=
  fun K A rest s ok I => wpAny_mono (h K A rest s ok I) (fun _ _ ⟨K', x, f', st', a, b, c, d, e⟩ => ⟨K', x, f', st', a, b, c, d, hq _ _ _ e⟩) fun _ _ e => e
theorem WB.mono {c : List Stmt} (h : WB X n env f st c Q) (hq : ∀ a b d, Q a b d → Q' a b d) : WB X n env f st c Q' :=
  fun K A rest s ok I => wpAny_mono (h K A rest s ok I) (fun _ _ ⟨K', x, f', st', a, b, c, d, e⟩ => ⟨K', x, f', st', a, b, c, d, hq _ _ _ e⟩) fun _ _ e => e
theorem WB.weaken {c : List Stmt} {f' : Fm} (hs : FSub f' f) (h : WB X n env f' st c Q) : WB X n env f st c Q := fun K A rest s ok I => h K A rest s ok (I.weaken hs)
theorem WB.perm {c : List Stmt} {st' : St} (hp : st'.Perm st) (h : WB X n env f st' c Q) : WB X n env f st c Q :=
  fun K A rest s ok I => h K A rest s ok ⟨I.inv.perm (hp.append_right rest), I.fr, fun p hp' => I.dj p ((hp.append_right rest).subset hp')⟩
theorem WB.sub {c : List Stmt} {st' : St} (hp : st'.Sublist st) (h : WB X n env f st' c Q) : WB X n env f st c Q :=
  fun K A rest s ok I => h K A rest s ok ⟨I.inv.sub (hp.append_right rest), I.fr, fun p hp' => I.dj p ((hp.append_right rest).subset hp')⟩

noncomputable abbrev Kf (X : Cx) (n : Nat) (env : Env) (cs : List Stmt) (Q : Fl → Fm → St → Prop) (fl : Fl) (f : Fm) (st : St) : Prop := (fl = .next → WB X n env f st cs Q) ∧ (fl ≠ .next → Q fl f st)
noncomputable abbrev Br (X : Cx) (n : Nat) (env : Env) (f : Fm) (a b : List Stmt) (Q : Fl → Fm → St → Prop) (c : Bool) (st : St) : Prop := (c = true → WB X n env f st a Q) ∧ (c = false → WB X n env f st b Q)
theorem br_t {a b : List Stmt} {c : Bool} (e : c = true) (h : WB X n env f st a Q) : Br X n env f a b Q c st := ⟨fun _ => h, fun e' => absurd (e.symm.trans e') (by decide)⟩
theorem br_f {a b : List Stmt} {c : Bool} (e : c = false) (h : WB X n env f st b Q) : Br X n env f a b Q c st := ⟨fun e' => absurd (e.symm.trans e') (by decide), fun _ => h⟩
theorem fl_next {cs : List Stmt} (h : WB X n env f st cs Q) : Kf X n env cs Q .next f st := ⟨fun _ => h, fun e => absurd rfl e⟩
theorem fl_ret {cs : List Stmt} {v : V} (h : Q (.ret v) f st) : Kf X n env cs Q (.ret v) f st := ⟨fun e => (nomatch e), fun _ => h⟩
theorem fl_brk {cs : List Stmt} (h : Q .brk f st) : Kf X n env cs Q .brk f st := ⟨fun e => (nomatch e), fun _ => h⟩
theorem WB_nil (h : Q .next f st) : WB X n env f st [] Q := fun K A rest s ok I => wpAny_execs_nil ⟨K, .next, f, st, .refl _, .next, I, .refl s, h⟩
theorem WB_cons {c : Stmt} {cs : List Stmt} (h : WS X n env f st c (Kf X n env cs Q)) : WB X n env f st (c :: cs) Q := by
  intro K A rest s ok I
  refine wpAny_execs_cons (wpAny_mono (h K A rest s ok I) ?_ fun _ _ e => e)
  rintro a s₁ ⟨K₁, x, f₁, st₁, hK₁, hr, I₁, S₁, h₁, h₂⟩
  cases hr with
  | next =>
    refine wpAny_mono (h₁ rfl K₁ A rest s₁ ok I₁) ?_ fun _ _ e => e
    rintro b s₂ ⟨K₂, y, f₂, st₂, hK₂, hr₂, I₂, S₂, hq⟩
    exact ⟨K₂, y, f₂, st₂, hK₁.trans hK₂, hr₂, I₂, S₁.trans S₂, hq⟩
  | brk => exact ⟨K₁, _, f₁, st₁, hK₁, .brk, I₁, S₁, h₂ (fun e => nomatch e)⟩
  | cont => exact ⟨K₁, _, f₁, st₁, hK₁, .cont, I₁, S₁, h₂ (fun e => nomatch e)⟩
  | ret r => exact ⟨K₁, _, f₁, st₁, hK₁, .ret r, I₁, S₁, h₂ (fun e => nomatch e)⟩

theorem WS_ret {e : Expr} (h : WE X n env f st e (fun v st₁ => Q (.ret v) f st₁)) : WS X n env f st (.Return (some e) pos) Q := by
  intro K A rest s ok I
  refine wpAny_Return_some (wpAny_mono (h K A rest s ok I) ?_ fun _ _ e => e)
  rintro a s₁ ⟨K₁, x, st₁, hK₁, hr, I₁, S₁, h₁⟩
  exact ⟨K₁, _, f, st₁, hK₁, .ret hr, I₁, S₁, h₁⟩
theorem WS_expr {e : Expr} (h : WE X n env f st e (fun _ st₁ => Q .next f st₁)) (hi : interactive env = false := by rfl) (hs : swapsWith e none pos.line env = pure false := by rfl) : WS X n env f st (.Expr e pos) Q := by
  intro K A rest s ok I
  refine wpAny_Expr_any (wpAny_mono (h K A rest s ok I) ?_ fun _ _ e => e) hi hs
  rintro a s₁ ⟨K₁, x, st₁, hK₁, hr, I₁, S₁, h₁⟩
  exact ⟨K₁, _, f, st₁, hK₁, .next, I₁, S₁, h₁⟩
theorem WS_break (h : Q .brk f st) : WS X n env f st (.Break pos) Q := fun K A rest s ok I => wpAny_Break ⟨K, _, f, st, .refl _, .brk, I, .refl s, h⟩
theorem WS_pass (h : Q .next f st) : WS X n env f st (.Pass pos) Q := fun K A rest s ok I => wpAny_Pass ⟨K, _, f, st, .refl _, .next, I, .refl s, h⟩
theorem WS_if {t : Expr} {a b : List Stmt} (h : WT X n env f st t (Br X n env f a b Q)) : WS X n env f st (.If t a b pos) Q := by
  intro K A rest s ok I
  refine wpAny_If (wpAny_mono (h K A rest s ok I) ?_ fun _ _ e => e)
  rintro c s₁ ⟨K₁, x, st₁, hK₁, rfl, I₁, S₁, h₁, h₂⟩
  cases c with
  | true =>
    refine wpAny_mono (h₁ rfl K₁ A rest s₁ ok I₁) ?_ fun _ _ e => e
    rintro b s₂ ⟨K₂, y, f₂, st₂, hK₂, hr₂, I₂, S₂, hq⟩
    exact ⟨K₂, y, f₂, st₂, hK₁.trans hK₂, hr₂, I₂, S₁.trans S₂, hq⟩
  | false =>
    refine wpAny_mono (h₂ rfl K₁ A rest s₁ ok I₁) ?_ fun _ _ e => e
    rintro b s₂ ⟨K₂, y, f₂, st₂, hK₂, hr₂, I₂, S₂, hq⟩
    exact ⟨K₂, y, f₂, st₂, hK₁.trans hK₂, hr₂, I₂, S₁.trans S₂, hq⟩
theorem WS_assign {x : Str} {p : Pos} {e : Expr} (h : WE X n env f st e (fun v st₁ => Q .next (fset x v f) st₁)) (hx : Sto env x) (hs : swapsWith e (some (.Name x p)) pos.line env = pure false := by rfl) :
    WS X n env f st (.Assign [.Name x p] e pos) Q := by
  intro K A rest s ok I
  refine wpAny_Assign_Name (wpAny_mono (h K A rest s ok I) ?_ fun _ _ e => e) hs
  rintro a s₁ ⟨K₁, v, st₁, hK₁, hr, I₁, S₁, h₁⟩
  exact I₁.store hx hr fun h' t I' => ⟨K₁, _, _, st₁, hK₁, .next, I', S₁.trans (.of ..), h₁⟩
theorem WS_aug {x : Str} {p : Pos} {op : Operator} {e : Expr} {v : V} (hv : f.lookup x = some v) (h : WE X n env f st e (fun b st₁ => Op X n st₁ [v, b] (on2 (inplaceOp op)) (fun c st₂ => Q .next (fset x c f) st₂))) (hx : Sto env x) :
    WS X n env f st (.AugAssign (.Name x p) op e pos) Q := by
  intro K A rest s ok I
  refine wpAny_AugAssign_Name ?_
  have fin : ∀ u, RepV X K u v → wpAny (model X.prog X.w) A (eval e env) (fun w s₂ => wpAny (model X.prog X.w) A (inplaceOp op u w) (fun r s₃ => wpAny (model X.prog X.w) A (storeName env x r)
      (fun _ s' => PS X K env rest s Q .next s') NoE s₃) NoE s₂) NoE s := by
    intro u r
    refine wpAny_mono (h K A rest s ok I) ?_ fun _ _ e => e
    rintro a s₁ ⟨K₁, y, st₁, hK₁, hr, I₁, S₁, h₁⟩
    refine wpAny_mono (TE.of (h₁ K₁ [u, a] (.cons (r.mono hK₁) (.one hr))) A rest s₁ ok I₁) ?_ fun _ _ e => e
    rintro c s₃ ⟨K₃, z, st₃, hK₃, hr₃, I₃, S₃, h₃⟩
    exact I₃.store hx hr₃ fun h' t I' => ⟨K₃, _, _, st₃, hK₁.trans hK₃, .next, I', (S₁.trans S₃).trans (.of ..), h₃⟩
  rcases I.fr.ok x v hv with hl | ⟨hc, c, hcc⟩
  · obtain ⟨m, hm, r⟩ := I.fr.ns
    obtain ⟨u, hu, hr⟩ := r x v hv hl
    exact wpAny_loadName_local I.fr.fk hl hm hu (fin u hr)
  · obtain ⟨vo, hcell, r⟩ := I.fr.cl x c hcc
    obtain ⟨u, rfl, hr⟩ := r v hv hc
    exact wpAny_loadName_cell I.fr.fk hc hcc hcell (fin u hr)
theorem WS_setitem {o i e : Expr} {p : Pos} (h : WE X n env f st e (fun v st₁ => WE X n env f st₁ o (fun a st₂ => WE X n env f st₂ i (fun b st₃ => OpU X n st₃ [a, b, v] (on3 setItem) (fun st₄ => Q .next f st₄)))))
    (hs : swapsWith e (some (.Subscript o i p)) pos.line env = pure false := by rfl) : WS X n env f st (.Assign [.Subscript o i p] e pos) Q := by
  intro K A rest s ok I
  refine wpAny_Assign_Subscript (wpAny_mono (h K A rest s ok I) ?_ fun _ _ e => e) hs
  rintro v s₁ ⟨K₁, xv, st₁, hK₁, hr₁, I₁, S₁, h₁⟩
  refine wpAny_mono (h₁ K₁ A rest s₁ ok I₁) ?_ fun _ _ e => e
  rintro a s₂ ⟨K₂, xa, st₂, hK₂, hr₂, I₂, S₂, h₂⟩
  refine wpAny_mono (h₂ K₂ A rest s₂ ok I₂) ?_ fun _ _ e => e
  rintro b s₃ ⟨K₃, xb, st₃, hK₃, hr₃, I₃, S₃, h₃⟩
  refine wpAny_mono (TE.of (h₃ K₃ [a, b, v] (.cons (hr₂.mono hK₃) (.cons hr₃ (.one (hr₁.mono (hK₂.trans hK₃)))))) A rest s₃ ok I₃) ?_ fun _ _ e => e
  rintro _ s₄ ⟨K₄, _, st₄, hK₄, _, I₄, S₄, h₄⟩
  exact ⟨K₄, _, f, st₄, ((hK₁.trans hK₂).trans hK₃).trans hK₄, .next, I₄, ((S₁.trans S₂).trans S₃).trans S₄, h₄⟩
theorem WS_setattr {o e : Expr} {at' : Str} {p : Pos} (h : WE X n env f st e (fun v st₁ => WE X n env f st₁ o (fun a st₂ => OpU X n st₂ [a, v] (on2 (fun a v => setAttr a at' v)) (fun st₄ => Q .next f st₄))))
    (hs : swapsWith e (some (.Attribute o at' p)) pos.line env = pure false := by rfl) : WS X n env f st (.Assign [.Attribute o at' p] e pos) Q := by
  intro K A rest s ok I
  refine plainObj_wpAny_Assign_Attribute (wpAny_mono (h K A rest s ok I) ?_ fun _ _ e => e) hs
  rintro v s₁ ⟨K₁, xv, st₁, hK₁, hr₁, I₁, S₁, h₁⟩
  refine wpAny_mono (h₁ K₁ A rest s₁ ok I₁) ?_ fun _ _ e => e
  rintro a s₂ ⟨K₂, xa, st₂, hK₂, hr₂, I₂, S₂, h₂⟩
  refine wpAny_mono (TE.of (h₂ K₂ [a, v] (.cons hr₂ (.one (hr₁.mono hK₂)))) A rest s₂ ok I₂) ?_ fun _ _ e => e
  rintro _ s₄ ⟨K₄, _, st₄, hK₄, _, I₄, S₄, h₄⟩
  exact ⟨K₄, _, f, st₄, (hK₁.trans hK₂).trans hK₄, .next, I₄, (S₁.trans S₂).trans S₄, h₄⟩
theorem WS_del {o i : Expr} {p : Pos} (h : WE X n env f st o (fun a st₂ => WE X n env f st₂ i (fun b st₃ => OpU X n st₃ [a, b] (on2 delItem) (fun st₄ => Q .next f st₄)))) : WS X n env f st (.Delete [.Subscript o i p] pos) Q := by
  intro K A rest s ok I
  refine wpAny_Delete (wpAny_deleteEach_cons (wpAny_delete_Subscript (wpAny_mono (h K A rest s ok I) ?_ fun _ _ e => e)))
  rintro a s₂ ⟨K₂, xa, st₂, hK₂, hr₂, I₂, S₂, h₂⟩
  refine wpAny_mono (h₂ K₂ A rest s₂ ok I₂) ?_ fun _ _ e => e
  rintro b s₃ ⟨K₃, xb, st₃, hK₃, hr₃, I₃, S₃, h₃⟩
  refine wpAny_mono (TE.of (h₃ K₃ [a, b] (.cons (hr₂.mono hK₃) (.one hr₃))) A rest s₃ ok I₃) ?_ fun _ _ e => e
  rintro _ s₄ ⟨K₄, _, st₄, hK₄, _, I₄, S₄, h₄⟩
  exact wpAny_deleteEach_nil ⟨K₄, _, f, st₄, (hK₂.trans hK₃).trans hK₄, .next, I₄, (S₂.trans S₃).trans S₄, h₄⟩

theorem WS_pair {x y : Str} {px py tp : Pos} {k : Nat} {e : Expr} (h : WE X n env f st e (fun v st₁ => ∃ a b, v = .tup [a, b] ∧ Q .next (fset y b (fset x a f)) st₁)) (hx : Sto env x) (hy : Sto env y)
    (hs : swapsWithSole [.Tuple [.Name x px, .Name y py] k tp] e pos.line env = pure false := by rfl)
    (hw : swappedStores [.Tuple [.Name x px, .Name y py] k tp] e env = pure none := by rfl) : WS X n env f st (.Assign [.Tuple [.Name x px, .Name y py] k tp] e pos) Q := by
  intro K A rest s ok I
  refine Assign_Tuple (wpAny_mono (h K A rest s ok I) ?_ fun _ _ e => e) hs hw
  rintro v s₁ ⟨K₁, xv, st₁, hK₁, hr₁, I₁, S₁, a, b, rfl, h₁⟩
  obtain ⟨t, items, m, rfl, e, r⟩ := hr₁.tup_inv
  have e' := I₁.inv.kept _ _ e
  have hl := r.length
  have hne : ∀ a, frAddr env a → a ≠ s₁.heap.objs.size := fun a ha => by obtain ⟨o, ho⟩ := I₁.fr.live ha; exact Nat.ne_of_lt (Heap.lt_size ho)
  refine wpAny_assign_Tuple ok.h ⟨_, e', rfl, m, rfl⟩ ?_ rfl fun h' he => ?_
  · show 2 = items.size
    rw [← Array.length_toList, hl]; rfl
  · have I₂ : IF X K₁ env f (st₁ ++ rest) h' := by
      refine ⟨I₁.inv.off (I₁.inv.none_of_size (Nat.le_refl _)) (I₁.inv.notin_of_size (Nat.le_refl _)) (fun b o hb e => he b o hb e), I₁.fr.move (.refl _) (fun a ha o ho => he a o (hne a ha) ho) (fun a ha => I₁.fr.noK ha), I₁.dj⟩
    obtain ⟨u, us, hit, ra, r⟩ := r.cons_inv
    obtain ⟨w, ws, rfl, rb, r⟩ := r.cons_inv
    obtain rfl := r.nil_inv
    rw [hit]
    show wpAny _ A (assignInOrder [assign (.Name x px) env, assign (.Name y py) env] [u, w]) _ _ _
    simp only [assignInOrder]
    refine wpAny_bind (wpAny_holding (wpAny_assign_Name (I₂.store (s := { s₁ with heap := h' }) hx ra fun h₂ t₂ I₃ => ?_)))
    refine wpAny_bind (wpAny_holding (wpAny_assign_Name (I₃.store (s := { s₁ with heap := h₂, toks := t₂ }) hy rb fun h₃ t₃ I₄ => ?_)))
    exact wpAny_pure ⟨K₁, _, _, st₁, hK₁, .next, I₄, S₁.trans (.of ..), h₁⟩

noncomputable abbrev Lw (I : Nat → Fm → St → Prop) (k : Nat) (Q : Fl → Fm → St → Prop) (fl : Fl) (f₂ : Fm) (st₃ : St) : Prop := match fl with
  | .next | .cont => ∃ j f₃, j < k ∧ FSub f₃ f₂ ∧ I j f₃ st₃
  | .brk => Q .next f₂ st₃
  | .ret v => Q (.ret v) f₂ st₃
noncomputable abbrev Wt (X : Cx) (n : Nat) (env : Env) (f₁ : Fm) (body : List Stmt) (I : Nat → Fm → St → Prop) (k : Nat) (Q : Fl → Fm → St → Prop) (c : Bool) (st₂ : St) : Prop := (c = true → WB X n env f₁ st₂ body (Lw I k Q)) ∧ (c = false → Q .next f₁ st₂)
theorem WS_while {t : Expr} {body : List Stmt} (I : Nat → Fm → St → Prop) (m : Nat) (h0 : ∃ f', FSub f' f ∧ I m f' st)
    (turn : ∀ k f₁ st₁, I k f₁ st₁ → WT X n env f₁ st₁ t (Wt X n env f₁ body I k Q)) : WS X n env f st (.While t body [] pos) Q := by
  intro K A rest s ok I₀
  obtain ⟨f', hf', hI⟩ := h0
  refine wpAny_While (codeAny_whileLoop (fun k s' => ∃ K' f₁ st₁, KLe K K' ∧ IF X K' env f₁ (st₁ ++ rest) s'.heap ∧ Same s s' ∧ I k f₁ st₁) ?_ m ⟨K, f', st, .refl _, I₀.weaken hf', .refl s, hI⟩)
  rintro k s' ⟨K', f₁, st₁, hK', I₁, S₁, hI₁⟩
  refine wpAny_mono (turn k f₁ st₁ hI₁ K' A rest s' ok I₁) ?_ fun _ _ e => e.elim
  rintro c s₂ ⟨K₂, x, st₂, hK₂, rfl, I₂, S₂, h₁, h₂⟩
  cases c with
  | false =>
    refine wpAny_execs_nil ?_
    exact ⟨K₂, _, f₁, st₂, hK'.trans hK₂, .next, I₂, S₁.trans S₂, h₂ rfl⟩
  | true =>
    refine wpAny_mono (h₁ rfl K₂ A rest s₂ ok I₂) ?_ fun _ _ e => e.elim
    rintro fl s₃ ⟨K₃, y, f₂, st₃, hK₃, hr, I₃, S₃, hq⟩
    cases hr with
    | next => obtain ⟨j, f₃, hj, hs, hI₃⟩ := hq; exact ⟨j, hj, K₃, f₃, st₃, (hK'.trans hK₂).trans hK₃, I₃.weaken hs, (S₁.trans S₂).trans S₃, hI₃⟩
    | cont => obtain ⟨j, f₃, hj, hs, hI₃⟩ := hq; exact ⟨j, hj, K₃, f₃, st₃, (hK'.trans hK₂).trans hK₃, I₃.weaken hs, (S₁.trans S₂).trans S₃, hI₃⟩
    | brk => exact ⟨K₃, _, f₂, st₃, (hK'.trans hK₂).trans hK₃, .next, I₃, (S₁.trans S₂).trans S₃, hq⟩
    | ret r => exact ⟨K₃, _, f₂, st₃, (hK'.trans hK₂).trans hK₃, .ret r, I₃, (S₁.trans S₂).trans S₃, hq⟩
end
noncomputable def rngItems (a b : Int) : List V := (List.range (b - a).toNat).map fun (i : Nat) => V.int (a + (i : Int))
theorem rngItems_length (a b : Int) : (rngItems a b).length = (b - a).toNat := by simp [rngItems]

inductive Its : V → List V → Prop
  | tup (l : List V) : Its (.tup l) l
  | lst (l : List V) : Its (.lst l) l
  | rng (a b : Int) : (-1000000 ≤ a ∧ a ≤ 1000000 ∧ -1000000 ≤ b ∧ b ≤ 1000000) → Its (.rng a b) (rngItems a b)

section
variable {X : Cx} {n : Nat} {env : Env} {f : Fm} {st : St} {pos : Pos}

structure ItAt (X : Cx) (A : Around) (K : KM) (items : List V) (I : Addr) (fp : List Addr) (P : Nat → Value → Prop) (Sx : Nat → Heap → Prop) : Prop where
  W : Walks X.prog X.w A I fp [I] items.length P Sx
  rep : ∀ i u, i < items.length → P i u → ∃ x, items[i]? = some x ∧ RepV X K u x
  off : ∀ b ∈ fp, b = I ∨ ∃ o, K b = some o
  live : ∀ i h, Sx i h → ∃ o, h.get? I = some o

theorem small_of {a b : Int} (h : -1000000 ≤ a ∧ a ≤ 1000000 ∧ -1000000 ≤ b ∧ b ≤ 1000000) : Builtin.Range.small a b 1 = true := by
  have hs := rangeSize_one a b
  have hr : -5000000 ≤ Builtin.Range.rangeSize a b 1 ∧ Builtin.Range.rangeSize a b 1 ≤ 5000000 := by rw [hs]; split <;> lia
  generalize Builtin.Range.rangeSize a b 1 = z at hr
  unfold Builtin.Range.small
  generalize hz : Builtin.Range.rangeSize a b 1 = y
  have hy : -5000000 ≤ y ∧ y ≤ 5000000 := by rw [← hz, hs]; split <;> lia
  simp only [Builtin.Range.rangeFitsLong, Bool.and_eq_true, Bool.or_eq_true, decide_eq_true_eq, beq_iff_eq, show (1 : Int) > 0 by decide, if_true]
  refine ⟨⟨⟨⟨?_, ?_⟩, ?_⟩, ?_⟩, .inr ?_⟩ <;> lia

theorem iter_frozen {A : Around} {K : KM} {rest : St} {s : Shared} {u : Value} {v : V} {items : List V} {R : Value → Shared → Prop} {E : Value → Shared → Prop} (hh : A.handled = none) (I₀ : Inv X K st s.heap) (r : RepV X K u v) (hi : Its v items)
    (h : ∀ fp P Sx h', ItAt X A K items s.heap.objs.size fp P Sx → Sx 0 h' → (∀ b o, s.heap.get? b = some o → h'.get? b = some o) → R (.ref s.heap.objs.size) { s with heap := h' }) :
    wpAny (model X.prog X.w) A (pyIter u) R E s := by
  cases hi with
  | tup =>
    obtain ⟨t, its, m, rfl, e, r⟩ := r.tup_inv
    have e' := I₀.kept _ _ e
    have ht : s.heap.IsTuple t its := ⟨_, e', rfl, m, rfl⟩
    have hne : t ≠ s.heap.objs.size := Nat.ne_of_lt (Heap.lt_size e')
    have hlen : its.size = items.length := by rw [← Array.length_toList, r.length]
    have W := Walks.tuple (prog := X.prog) (w := X.w) hh s.heap.objs.size t hne its
    rw [hlen] at W
    refine wpAny_pyIter_tuple ht (h _ _ _ _ ⟨W, ?_, ?_, ?_⟩ ⟨⟨_, Heap.get?_push_size _ rfl, rfl, rfl⟩, ht.push _⟩ fun b o e => Heap.get?_push_of_some _ e)
    · intro i u _ hp; exact r.get' i u (by simpa using hp)
    · intro b hb
      rcases List.mem_cons.mp hb with rfl | hb
      · exact .inl rfl
      · rw [List.mem_singleton.mp hb]; exact .inr ⟨_, e⟩
    · rintro i hh ⟨⟨o, ho, _⟩, _⟩; exact ⟨o, ho⟩
  | lst =>
    obtain ⟨t, its, m, rfl, e, r⟩ := r.lst_inv
    have e' := I₀.kept _ _ e
    have ht : s.heap.IsList t its := ⟨_, e', rfl, m, rfl⟩
    have hne : t ≠ s.heap.objs.size := Nat.ne_of_lt (Heap.lt_size e')
    have hlen : its.size = items.length := by rw [← Array.length_toList, r.length]
    have W := Walks.list (prog := X.prog) (w := X.w) hh s.heap.objs.size t hne its
    rw [hlen] at W
    refine wpAny_pyIter_list ht (h _ _ _ _ ⟨W, ?_, ?_, ?_⟩ ⟨⟨_, Heap.get?_push_size _ rfl, rfl, rfl⟩, ht.push _⟩ fun b o e => Heap.get?_push_of_some _ e)
    · intro i u _ hp; exact r.get' i u (by simpa using hp)
    · intro b hb
      rcases List.mem_cons.mp hb with rfl | hb
      · exact .inl rfl
      · rw [List.mem_singleton.mp hb]; exact .inr ⟨_, e⟩
    · rintro i hh ⟨⟨o, ho, _⟩, _⟩; exact ⟨o, ho⟩
  | rng a b hab =>
    cases r with
    | @rng t _ _ t1 t2 t3 e =>
    have e' := I₀.kept _ _ e
    have hsz : Builtin.Range.rangeSize a b 1 = (((b - a).toNat : Nat) : Int) := by rw [rangeSize_one]; split <;> lia
    have W := Walks.range (prog := X.prog) (w := X.w) hh s.heap.objs.size a 1 (b - a).toNat
    rw [← rngItems_length] at W
    refine wpAny_pyIter_range e' (small_of hab) (h _ _ _ _ ⟨W, ?_, ?_, ?_⟩ ?_ fun b o e => Heap.get?_push_of_some _ e)
    · rintro i u hi ⟨tk, rfl⟩
      refine ⟨.int (a + (i : Int)), ?_, by simpa using RepV.int (a + (i : Int)) tk⟩
      rw [rngItems_length] at hi
      simp [rngItems, hi]
    · intro b hb; exact .inl (List.mem_singleton.mp hb)
    · intro i hh hs; exact ⟨_, hs⟩
    · show IsRangeIter _ _ _ _ _
      rw [hsz, rngItems_length]
      have := Heap.get?_push_size s.heap (o := { cls := .type "range_iterator", data := .fields #[rawInt a, rawInt (((b - a).toNat : Nat) : Int), rawInt 1] }) rfl
      simpa using this

theorem IF.drop {K : KM} {rest : St} {h h' : Heap} {a : Addr} {x : AObj} (I : IF X K env f (st ++ ((a, x) :: rest)) h) (hk : ∀ b o, b ≠ a → h.get? b = some o → h'.get? b = some o) : IF X K env f (st ++ rest) h' := by
  have hK : K a = none := I.inv.fr (a, x) (by simp)
  have hd : ¬ frAddr env a := I.dj (a, x) (by simp)
  have hs : (st ++ rest).Sublist (st ++ ((a, x) :: rest)) := by simp
  exact ⟨(I.inv.sub hs).off hK I.inv.apart hk, I.fr.move (.refl _) (fun b hb o ho => hk b o (fun e => hd (e ▸ hb)) ho) (fun b hb => I.fr.noK hb), fun p hp => I.dj p (hs.subset hp)⟩
theorem IF.swap {K : KM} {rest : St} {h h' : Heap} {a : Addr} {x : AObj} {o' : Obj} (I : IF X K env f (st ++ ((a, x) :: rest)) h) (hk : ∀ b o, b ≠ a → h.get? b = some o → h'.get? b = some o) (ho : h'.get? a = some o') :
    IF X K env f (st ++ ((a, .raw o') :: rest)) h' := by
  have hd : ¬ frAddr env a := I.dj (a, x) (by simp)
  refine ⟨I.inv.changeE hk ho rfl, I.fr.move (.refl _) (fun b hb o ho => hk b o (fun e => hd (e ▸ hb)) ho) (fun b hb => I.fr.noK hb), fun p hp => ?_⟩
  rcases List.mem_append.mp hp with hp | hp
  · exact I.dj p (List.mem_append.mpr (.inl hp))
  · rcases List.mem_cons.mp hp with rfl | hp
    · exact hd
    · exact I.dj p (List.mem_append.mpr (.inr (.tail _ hp)))

noncomputable abbrev Lp (J : Fm → St → Prop) (Q : Fl → Fm → St → Prop) (fl : Fl) (f₂ : Fm) (st₃ : St) : Prop := match fl with
  | .next | .cont => ∃ f₃, FSub f₃ f₂ ∧ J f₃ st₃
  | .brk => Q .next f₂ st₃
  | .ret v => Q (.ret v) f₂ st₃
noncomputable abbrev LpM (p : Addr × AObj) (J : Fm → St → Prop) (Q : Fl → Fm → St → Prop) (fl : Fl) (f₂ : Fm) (st₃ : St) : Prop := match fl with
  | .next | .cont => ∃ f₃, FSub f₃ f₂ ∧ J f₃ st₃
  | .brk => Q .next f₂ (p :: st₃)
  | .ret v => Q (.ret v) f₂ (p :: st₃)
theorem WS_for {Q : Fl → Fm → St → Prop} {x : Str} {px : Pos} {iter : Expr} {body : List Stmt} (h : WE X n env f st iter (fun v st₁ => ∃ items, Its v items ∧ ∃ I : List V → List V → Fm → St → Prop,
      (∃ f', FSub f' f ∧ I [] items f' st₁) ∧
      (∀ done y todo f₁ st₂, items = done ++ y :: todo → I done (y :: todo) f₁ st₂ → WB X n env (fset x y f₁) st₂ body (Lp (I (done ++ [y]) todo) Q)) ∧
      (∀ f₁ st₂, I items [] f₁ st₂ → Q .next f₁ st₂))) (hx : Sto env x)
    (hs : ∀ x, foldedSetIterable iter env x = pure x := by intro _; rfl) :
    WS X n env f st (.For (.Name x px) iter body [] pos) Q := by
  intro K A rest s ok I₀
  refine wpAny_For (wpAny_mono (h K A rest s ok I₀) ?_ fun _ _ e => e) hs
  rintro u s₁ ⟨K₁, v, st₁, hK₁, hr, I₁, S₁, items, hits, I, ⟨f', hf', hI0⟩, turn, fin⟩
  refine iter_frozen (rest := rest) ok.h I₁.inv hr hits fun fp P Sx h' W hS hk => ?_
  have hself := fun a (ha : frAddr env a) => (I₁.fr.live ha)
  generalize hi : s₁.heap.objs.size = i₀ at W
  have hneF : ∀ a, frAddr env a → a ≠ i₀ := fun a ha e => by
    obtain ⟨o, ho⟩ := I₁.fr.live ha
    have := Heap.lt_size ho; rw [hi, ← e] at this; exact Nat.lt_irrefl _ this
  obtain ⟨oI, hoI⟩ := W.live 0 h' hS
  have hI₂ : IF X K₁ env f' (st₁ ++ ((i₀, .raw oI) :: rest)) h' := by
    have g := I₁.inv.grow (h' := h') (x := .raw oI) (Nat.le_of_eq hi) (I₁.inv.newLo (Nat.le_of_eq hi)) hk hoI rfl
    refine ⟨g.perm List.perm_middle, (I₁.fr.weaken hf').move (.refl _) (fun a ha o ho => hk _ _ ho) (fun a ha => I₁.fr.noK ha), fun p hp hfr => ?_⟩
    rcases List.mem_append.mp hp with hp | hp
    · exact I₁.dj p (List.mem_append.mpr (.inl hp)) hfr
    · rcases List.mem_cons.mp hp with rfl | hp
      · exact hneF _ hfr rfl
      · exact I₁.dj p (List.mem_append.mpr (.inr hp)) hfr
  refine codeAny_forLoop (fun k s' => ∃ K' done todo f₁ st₂ oI, items = done ++ todo ∧ k = todo.length ∧ KLe K₁ K' ∧ IF X K' env f₁ (st₂ ++ ((i₀, .raw oI) :: rest)) s'.heap ∧ Sx done.length s'.heap ∧ Same s s' ∧ I done todo f₁ st₂)
    ?_ items.length ⟨K₁, [], items, f', st₁, oI, rfl, rfl, .refl _, hI₂, hS, S₁.trans (.of ..), hI0⟩
  rintro k s' ⟨K', done, todo, f₁, st₂, oI, e, rfl, hK', I', hS', S', hI'⟩
  cases todo with
  | nil =>
    rw [List.append_nil] at e; subst e
    refine W.W.done s' _ _ hS' fun h₂ tk hk₂ => ?_
    refine wpAny_execs_nil ?_
    exact ⟨K', _, f₁, st₂, hK₁.trans hK', .next, I'.drop (fun b o hb => hk₂ b o (by simpa using hb)), S'.trans (.of ..), fin f₁ st₂ hI'⟩
  | cons y todo =>
    have hlt : done.length < items.length := by rw [e]; simp
    refine W.W.item done.length s' _ _ hlt hS' fun v h₂ tk hP hS₂ hk₂ => ?_
    obtain ⟨y', hy, ry⟩ := W.rep _ _ hlt hP
    obtain rfl : y' = y := by rw [e] at hy; simpa using hy.symm
    obtain ⟨o₂, ho₂⟩ := W.live _ _ hS₂
    have I₂ : IF X K' env f₁ (st₂ ++ ((i₀, .raw o₂) :: rest)) h₂ := I'.swap (fun b o hb => hk₂ b o (by simpa using hb)) ho₂
    refine wpAny_assign_Name (I₂.store (s := { s' with heap := h₂, toks := tk }) hx (ry.mono hK') fun h₃ t₃ I₃ => ?_)
    refine wpAny_mono (turn done y' todo f₁ st₂ e hI' K' A ((i₀, .raw o₂) :: rest) _ ok I₃) ?_ fun _ _ e => e.elim
    rintro fl s₄ ⟨K₄, z, f₂, st₃, hK₄, hr₄, I₄, S₄, hq⟩
    have hS₄ : Sx (done ++ [y']).length s₄.heap := by
      rw [List.length_append, List.length_singleton]
      refine W.W.frame _ _ _ hS₂ fun b hb o ho => ?_
      rcases W.off b hb with rfl | ⟨o', ho'⟩
      · obtain ⟨o₅, h5, e5⟩ := I₄.inv.objs (b, .raw o₂) (by simp)
        rw [ho₂] at ho; cases ho; rw [h5]; exact congrArg some e5
      · have h1 := I₂.inv.kept _ _ (hK' _ _ ho')
        rw [ho] at h1; cases h1
        exact I₄.inv.kept _ _ (hK₄ _ _ (hK' _ _ ho'))
    have e' : items = (done ++ [y']) ++ todo := by rw [e]; simp
    have S₅ : Same s s₄ := (S'.trans (.of ..)).trans S₄
    cases hr₄ with
    | next => obtain ⟨f₃, hs, hI₃⟩ := hq; exact ⟨todo.length, by simp, K₄, _, todo, f₃, st₃, o₂, e', rfl, hK'.trans hK₄, I₄.weaken hs, hS₄, S₅, hI₃⟩
    | cont => obtain ⟨f₃, hs, hI₃⟩ := hq; exact ⟨todo.length, by simp, K₄, _, todo, f₃, st₃, o₂, e', rfl, hK'.trans hK₄, I₄.weaken hs, hS₄, S₅, hI₃⟩
    | brk => exact ⟨K₄, _, f₂, st₃, (hK₁.trans hK').trans hK₄, .next, I₄.drop (fun b o _ e => e), S₅, hq⟩
    | ret r => exact ⟨K₄, _, f₂, st₃, (hK₁.trans hK').trans hK₄, .ret r, I₄.drop (fun b o _ e => e), S₅, hq⟩
end
noncomputable def cap (ys : List Str) (f : Fm) : Fm := f.filter fun p => ys.contains p.1
theorem lookup_cap (ys : List Str) (y : Str) : ∀ f : Fm, (cap ys f).lookup y = if ys.contains y = true then f.lookup y else none
  | [] => by simp [cap]
  | (z, w) :: r => by
    have ih := lookup_cap ys y r
    unfold cap at ih ⊢
    rw [List.filter_cons]
    by_cases hz : ys.contains z = true
    · rw [if_pos hz, List.lookup_cons, List.lookup_cons, ih]
      cases hb : y == z with
      | true => have e := beq_iff_eq.mp hb; subst e; exact (if_pos hz).symm
      | false => simp
    · rw [if_neg hz, ih, List.lookup_cons]
      cases hb : y == z with
      | true =>
        have := beq_iff_eq.mp hb; subst this
        rw [if_neg hz, if_neg hz]
      | false => rfl

inductive ClOk (env : Env) (scope : Scope) : List (Str × Addr) → Prop
  | nil : ClOk env scope []
  | cons {y : Str} {c : Addr} {cl : List (Str × Addr)} : env.cells.lookup y = some c → env.kindOf y = some .cell → scope.names.lookup y = some .free → ClOk env scope cl → ClOk env scope ((y, c) :: cl)
theorem ClOk.at {env : Env} {scope : Scope} {cl : List (Str × Addr)} (h : ClOk env scope cl) {y : Str} {c : Addr} (e : cl.lookup y = some c) : env.cells.lookup y = some c ∧ env.kindOf y = some .cell ∧ scope.names.lookup y = some .free := by
  induction h with
  | nil => simp at e
  | @cons z d cl h1 h2 h3 _ ih =>
    rw [List.lookup_cons] at e
    cases hb : y == z with
    | true => rw [hb] at e; cases e; have := beq_iff_eq.mp hb; subst this; exact ⟨h1, h2, h3⟩
    | false => rw [hb] at e; exact ih e
theorem mem_names {cl : List (Str × Addr)} {y : Str} : (cl.map (·.1)).contains y = true ↔ ∃ c, cl.lookup y = some c := by
  induction cl with
  | nil => simp
  | cons p r ih =>
    rw [List.map_cons, List.contains_cons, List.lookup_cons, Bool.or_eq_true, ih]
    cases hb : y == p.1 with
    | true => simp
    | false => simp

theorem lookup_relabel_cell {env : Env} (hk : env.scope.kind = .function) : ∀ {names : List (Str × NameKind)} {x : Str}, names.lookup x = some .free → env.kindOf x = some .cell →
    (names.map fun (n, k) => if (k == NameKind.free && env.scope.kind == .function && env.kindOf n == some .cell) then (n, NameKind.cell) else (n, k)).lookup x = some .cell
  | [], _, h, _ => by simp at h
  | (n, k) :: r, x, h, h' => by
    have ih := @lookup_relabel_cell env hk r x
    show List.lookup x ((if (k == NameKind.free && env.scope.kind == .function && env.kindOf n == some .cell) = true then (n, NameKind.cell) else (n, k)) :: _) = _
    cases hx : x == n with
    | true =>
      have := beq_iff_eq.mp hx; subst this
      simp only [List.lookup_cons, hx] at h
      cases h
      rw [if_pos (by rw [hk, h']; rfl)]
      simp [List.lookup_cons]
    | false =>
      simp only [List.lookup_cons, hx] at h
      by_cases hc : (k == NameKind.free && env.scope.kind == .function && env.kindOf n == some .cell) = true
      · rw [if_pos hc]; simp only [List.lookup_cons, hx]; exact ih h h'
      · rw [if_neg hc]; simp only [List.lookup_cons, hx]; exact ih h h'

noncomputable abbrev Cb (X : Cx) (n : Nat) (cenv : Env) (f : Fm) (elt : Expr) (Qno : St → Prop) (Q : V → St → Prop) (b : Bool) (st : St) : Prop := (b = true → WE X n cenv f st elt Q) ∧ (b = false → Qno st)
noncomputable def CStep (X : Cx) (n : Nat) (cenv : Env) (f : Fm) (st : St) (ifs : List Expr) (elt : Expr) (Qno : St → Prop) (Q : V → St → Prop) : Prop :=
  match ifs with
  | [] => WE X n cenv f st elt Q
  | [t] => WT X n cenv f st t (Cb X n cenv f elt Qno Q)
  | _ => False

section
variable {X : Cx} {n : Nat} {env : Env} {f : Fm} {st : St} {pos : Pos}

theorem CStep.run {cenv : Env} {K : KM} {A : Around} {ifs : List Expr} {elt : Expr} {Qno : St → Prop} {Q : V → St → Prop} {rest : St} {s : Shared} (ok : Ok n A) (I : IF X K cenv f (st ++ rest) s.heap)
    (h : CStep X n cenv f st ifs elt Qno Q) :
    wpAny (model X.prog X.w) A (forIn ifs true fun c r => if r = true then do let ok ← isTrue c cenv (eval c cenv); pure (ForInStep.yield ok) else pure (ForInStep.yield r))
      (fun b s₁ => ∃ K₁ st₁, KLe K K₁ ∧ IF X K₁ cenv f (st₁ ++ rest) s₁.heap ∧ Same s s₁ ∧ (b = true → WE X n cenv f st₁ elt Q) ∧ (b = false → Qno st₁)) NoE s := by
  match ifs, h with
  | [], h => exact wpAny_tests_nil ⟨K, st, .refl _, I, .refl s, fun _ => h, fun e => nomatch e⟩
  | [t], h =>
    refine wpAny_tests_one (wpAny_mono (h K A rest s ok I) ?_ fun _ _ e => e)
    rintro b s₁ ⟨K₁, x, st₁, hK₁, rfl, I₁, S₁, h₁⟩
    exact ⟨K₁, st₁, hK₁, I₁, S₁, h₁⟩

theorem comp_core {K : KM} {A : Around} {rest : St} {s : Shared} {u : Value} {v : V} {items : List V} {elt iter : Expr} {x : Str} {px : Pos} {ifs : List Expr} {scope : Scope} {cl : List (Str × Addr)} {cpos : Pos}
    {RR : Value → Addr → Result → Shared → Prop} {Qfin : List V → St → Prop}
    (ok : Ok n A) (I₀ : IF X K env f (st ++ rest) s.heap) (hr : RepV X K u v) (hits : Its v items) (hlen : items.length ≤ 100000)
    (hcl : ClOk env scope cl) (hcell : ∀ y ∈ scope.names, y.2 ≠ .cell) (hkind : scope.kind = .function) (hx : scope.names.lookup x = some .local)
    (I : List V → List V → List V → St → Prop) (h0 : I [] items [] st)
    (step : ∀ C done y todo acc st₂, items = done ++ y :: todo → I done (y :: todo) acc st₂ → CStep X n (compEnvC scope cl C env) (fset x y (cap (cl.map (·.1)) f)) st₂ ifs elt (fun st₃ => I (done ++ [y]) todo acc st₃) (fun r st₃ => I (done ++ [y]) todo (acc ++ [r]) st₃))
    (fin : ∀ acc st₂, I items [] acc st₂ → Qfin acc st₂)
    (hRR : ∀ D C s' K' st' acc m', Same s s' → KLe K K' → IF X K' env f ((D, .list acc) :: (st' ++ rest)) s'.heap → s'.heap.Ns C m' → K' C = none → C ∉ ((D, AObj.list acc) :: (st' ++ rest)).map (·.1) → ¬ frAddr env C → (C == sysModules) = false → Qfin acc st' →
      RR (.ref D) C (.ok .next) s') :
    wpAny (model X.prog X.w) A (pyIter u) (fun it s₂ => wpAny (model X.prog X.w) A (newList []) (fun acc s₃ => wpAny (model X.prog X.w) A (newFunctionEnv scope env.globals cl [] env.qual none .none (some env)) (fun cenv s₄ =>
      codeAny (model X.prog X.w) A (.compStart (.ListComp elt [⟨.Name x px, iter, ifs, 0⟩] scope cpos) 0 it acc { cenv with scope := relabel scope env }) (RR acc cenv.locals) s₄) NoE s₃) NoE s₂) NoE s := by
  obtain ⟨raws, Iraw, hrawAll, _⟩ := I₀.split
  have F₀ := I₀.fr
  let capA : Addr → Bool := fun a => cl.any fun p => p.2 == a
  let raws' : St := raws.filter fun p => !capA p.1
  have hcapA : ∀ a, capA a = true → ∃ y, env.cells.lookup y = some a := by
    intro a ha
    obtain ⟨p, hp, e⟩ := List.any_eq_true.mp ha
    have e' : p.2 = a := by simpa using e
    -- every pair of cl is found by its name in the environment
    have : ∀ cl', ClOk env scope cl' → p ∈ cl' → env.cells.lookup p.1 = some p.2 := by
      intro cl' hc
      induction hc with
      | nil => intro h; cases h
      | cons h1 _ _ _ ih => intro h; rcases List.mem_cons.mp h with rfl | h; exact h1; exact ih h
    exact ⟨p.1, e' ▸ this cl hcl hp⟩
  have hcapL : ∀ y c, cl.lookup y = some c → capA c = true := by
    intro y c e
    exact List.any_eq_true.mpr ⟨(y, c), mem_of_lookup e, by simp⟩
  refine iter_frozen (rest := rest) ok.h I₀.inv hr hits fun fp P Sx h₁ W hS hk₁ => ?_
  generalize hi : (s.heap.objs.size : Nat) = i₀ at W
  obtain ⟨oI, hoI⟩ := W.live 0 h₁ hS
  have hi₀ : @LT.lt Nat _ i₀ h₁.objs.size := Heap.lt_size hoI
  -- the list
  refine wpAny_newObj_type ?_ (by show ([] : List Value).toArray.size ≤ sizeLine; exact Nat.zero_le _)
  refine wpAny_newFunctionEnv hcell (by intro y hy; simp at hy) (fun h₃ hns₃ hsb₃ => ?_) hkind
  dsimp only at hns₃ hsb₃ ⊢
  generalize hD : (h₁.objs.size : Nat) = D at hsb₃ hns₃ ⊢
  generalize hH2 : h₁.push { cls := .type "list", dict := none, data := .seq ([] : List Value).toArray } = H2 at hns₃ hsb₃ ⊢
  have hCs : @Eq Nat H2.objs.size (D + 1) := by rw [← hH2, Heap.size_push, hD]
  generalize hC : (H2.objs.size : Nat) = C at hns₃ hsb₃ hCs ⊢
  have hk₂ : ∀ b o, h₁.get? b = some o → H2.get? b = some o := fun b o e => hH2 ▸ Heap.get?_push_of_some _ e
  have hk₃ : ∀ b o, H2.get? b = some o → h₃.get? b = some o := fun b o e => hsb₃.extBut b o (by have h9 : @LT.lt Nat _ b H2.objs.size := Heap.lt_size e; rw [hC] at h9; exact Nat.ne_of_lt h9) (Heap.get?_push_of_some _ e)
  have hlive : ∀ (a : Nat) o, s.heap.get? a = some o → a < i₀ := fun a o e => by have h9 : @LT.lt Nat _ a s.heap.objs.size := Heap.lt_size e; rw [hi] at h9; exact h9
  have hiD : i₀ < D := by rw [← hD]; exact hi₀
  have hDC : D < C := by lia
  have hk : ∀ b o, s.heap.get? b = some o → h₃.get? b = some o := fun b o e => hk₃ b o (hk₂ b o (hk₁ b o e))
  have hfrlt : ∀ (a : Nat), frAddr env a → a < i₀ := fun a ha => by obtain ⟨o, ho⟩ := F₀.live ha; exact hlive a o ho
  have hKlt : ∀ (a : Nat) o, K a = some o → a < i₀ := fun a o e => hlive a o (I₀.inv.kept a o e)
  have hKnone : ∀ (a : Nat), i₀ ≤ a → K a = none := fun a ha => by
    cases e : K a with
    | none => rfl
    | some o => exact absurd (hKlt a o e) (by lia)
  -- the inner frame
  have hDobj : h₃.get? D = some ⟨.type "list", .none, .seq #[] 0, #[]⟩ := by
    refine hk₃ _ _ ?_
    rw [← hH2, ← hD]; exact Heap.get?_push_size _ rfl
  have hIobj : h₃.get? i₀ = some oI := hk₃ _ _ (hk₂ _ _ hoI)
  let cenv := compEnvC scope cl C env
  have hcenvA : ∀ a, frAddr cenv a → a = C ∨ ∃ y, cl.lookup y = some a := fun a ha => ha
  have Fin : FrI X K cenv (cap (cl.map (·.1)) f) h₃ := by
    have hkc : ∀ y c, cl.lookup y = some c → cenv.kindOf y = some .cell := fun y c e => lookup_relabel_cell F₀.fk (hcl.at e).2.2 (hcl.at e).2.1
    refine ⟨hkind, F₀.gl, F₀.bl, ⟨_, hns₃, fun y w e k => ?_⟩, fun y c e => ?_, fun y w e => ?_, hKnone C (by lia), fun y c e => F₀.nc y c (hcl.at e).1, fun y z c e e' => F₀.ap y z c (hcl.at e).1 (hcl.at e').1, fun y c e => ?_, fun a ha => ?_⟩
    · rw [lookup_cap] at e
      split at e
      · rename_i hm
        obtain ⟨c, hc⟩ := mem_names.mp hm
        rw [hkc y c hc] at k; cases k
      · cases e
    · obtain ⟨vo, ⟨o, ho, hd⟩, q⟩ := F₀.cl y c (hcl.at e).1
      refine ⟨vo, ⟨o, hk _ _ ho, hd⟩, fun w e' _ => ?_⟩
      rw [lookup_cap] at e'
      split at e'
      · exact q w e' (hcl.at e).2.1
      · cases e'
    · rw [lookup_cap] at e
      split at e
      · rename_i hm
        obtain ⟨c, hc⟩ := mem_names.mp hm
        exact .inr ⟨hkc y c hc, c, hc⟩
      · cases e
    · have := hfrlt c (.inr ⟨y, (hcl.at e).1⟩)
      exact Nat.ne_of_lt (Nat.lt_trans this (Nat.lt_trans hiD hDC))
    · rcases hcenvA a ha with rfl | ⟨y, hy⟩
      · exact I₀.inv.newLo (by rw [hi]; exact Nat.le_of_lt (Nat.lt_trans hiD hDC))
      · exact F₀.lo a (.inr ⟨y, (hcl.at hy).1⟩)
  have hdisj : ∀ p ∈ st ++ (rest ++ raws'), ¬ frAddr cenv p.1 := by
    intro p hp hf
    have hlt : @LT.lt Nat _ p.1 i₀ := by
      have : p ∈ st ++ rest ++ raws := by
        rw [List.append_assoc]
        rcases List.mem_append.mp hp with h | h
        · exact List.mem_append.mpr (.inl h)
        · rcases List.mem_append.mp h with h | h
          · exact List.mem_append.mpr (.inr (List.mem_append.mpr (.inl h)))
          · exact List.mem_append.mpr (.inr (List.mem_append.mpr (.inr (List.mem_filter.mp h).1)))
      obtain ⟨o, ho, _⟩ := Iraw.objs p this
      exact hlive _ o ho
    rcases hcenvA p.1 hf with e | ⟨y, hy⟩
    · have e9 : @Eq Nat p.1 C := e
      lia
    · rw [← List.append_assoc] at hp
      rcases List.mem_append.mp hp with h | h
      · exact I₀.dj p h (.inr ⟨y, (hcl.at hy).1⟩)
      · have := (List.mem_filter.mp h).2
        rw [hcapL y p.1 hy] at this; cases this
  have Iin : IF X K cenv (cap (cl.map (·.1)) f) (st ++ ((i₀, .raw oI) :: (D, .raw ⟨.type "list", .none, .seq #[] 0, #[]⟩) :: (rest ++ raws'))) h₃ := by
    have hsub : (st ++ (rest ++ raws')).Sublist (st ++ rest ++ raws) := by
      rw [List.append_assoc]; exact (List.Sublist.refl _).append ((List.Sublist.refl _).append List.filter_sublist)
    have B := Iraw.sub hsub
    have g1 : Inv X K ((i₀, .raw oI) :: (st ++ (rest ++ raws'))) h₁ := B.grow (Nat.le_of_eq hi) (I₀.inv.newLo (Nat.le_of_eq hi)) hk₁ hoI rfl
    have g2 : Inv X K ((D, .raw ⟨.type "list", .none, .seq #[] 0, #[]⟩) :: (i₀, .raw oI) :: (st ++ (rest ++ raws'))) h₃ := g1.grow (Nat.le_of_eq hD) (I₀.inv.newLo (by rw [hi]; exact Nat.le_of_lt hiD)) (fun b o e => hk₃ b o (hk₂ b o e)) hDobj rfl
    refine ⟨g2.perm ?_, Fin, fun p hp hf => ?_⟩
    · have e1 : (st ++ ((i₀, AObj.raw oI) :: (D, AObj.raw ⟨.type "list", .none, .seq #[] 0, #[]⟩) :: (rest ++ raws'))).Perm ((i₀, AObj.raw oI) :: (st ++ ((D, AObj.raw ⟨.type "list", .none, .seq #[] 0, #[]⟩) :: (rest ++ raws')))) := List.perm_middle
      have e2 : (st ++ ((D, AObj.raw ⟨.type "list", .none, .seq #[] 0, #[]⟩) :: (rest ++ raws'))).Perm ((D, AObj.raw ⟨.type "list", .none, .seq #[] 0, #[]⟩) :: (st ++ (rest ++ raws'))) := List.perm_middle
      exact (e1.trans (e2.cons _)).trans (List.Perm.swap ..)
    · have hnot : ∀ (a : Nat), i₀ ≤ a → a ≠ C → ¬ frAddr cenv a := by
        intro a ha hne hf
        rcases hcenvA a hf with e | ⟨y, hy⟩
        · exact hne e
        · have := hfrlt a (.inr ⟨y, (hcl.at hy).1⟩); lia
      rcases List.mem_append.mp hp with h | h
      · exact hdisj p (List.mem_append.mpr (.inl h)) hf
      · rcases List.mem_cons.mp h with rfl | h
        · exact hnot i₀ (Nat.le_refl _) (by lia) hf
        · rcases List.mem_cons.mp h with rfl | h
          · exact hnot D (by lia) (by lia) hf
          · exact hdisj p (List.mem_append.mpr (.inr h)) hf
  have hS₃ : Sx 0 h₃ := W.W.frame _ _ _ hS fun b _ o e => hk₃ b o (hk₂ b o e)
  have hxcap : ∀ y, FSub (cap (cl.map (·.1)) f) (fset x y (cap (cl.map (·.1)) f)) := by
    intro y z w e
    rw [lookup_fset]
    by_cases hz : z = x
    · subst hz
      rw [lookup_cap] at e
      split at e
      · rename_i hm
        obtain ⟨c, hc⟩ := mem_names.mp hm
        have := (hcl.at hc).2.2
        rw [hx] at this; cases this
      · cases e
    · rw [if_neg hz]; exact e
  have hsto : Sto cenv x := .inl (lookup_relabel_local hx)
  have loop : ∀ s₃ : Shared, Same s s₃ → s₃.heap = h₃ →
      codeAny (model X.prog X.w) A (.compLoop (.ListComp elt [⟨.Name x px, iter, ifs, 0⟩] scope cpos) 0 (.ref i₀) (.ref D) cenv) (RR (.ref D) C) s₃ := by
    intro s₃ hS₃' hh₃
    refine codeAny_compLoop_tests (fun k s' => ∃ K' done todo acc ys m st₂ oI', items = done ++ todo ∧ k = todo.length ∧ KLe K K' ∧
        IF X K' cenv (cap (cl.map (·.1)) f) (st₂ ++ ((i₀, .raw oI') :: (D, .raw ⟨.type "list", .none, .seq ys m, #[]⟩) :: (rest ++ raws'))) s'.heap ∧ RepL X K' ys.toList acc ∧ acc.length ≤ done.length ∧ Sx done.length s'.heap ∧ Same s s' ∧ I done todo acc st₂)
      ?_ items.length ⟨K, [], items, [], #[], 0, st, oI, rfl, rfl, .refl _, hh₃ ▸ Iin, .nil, Nat.le_refl _, hh₃ ▸ hS₃, hS₃', h0⟩
    rintro k s' ⟨K', done, todo, acc, ys, m, st₂, oI', e, rfl, hK', I', ryl, hal, hS', S', hI'⟩
    cases todo with
    | nil =>
      rw [List.append_nil] at e; subst e
      refine W.W.done s' _ _ hS' fun h₄ tk hk₄ => ?_
      have I₄ : IF X K' cenv (cap (cl.map (·.1)) f) (st₂ ++ ((D, .raw ⟨.type "list", .none, .seq ys m, #[]⟩) :: (rest ++ raws'))) h₄ := I'.drop (fun b o hb => hk₄ b o (by simpa using hb))
      have hK'' : KLe K' K' := .refl _
      have IH' : Inv X K' (((D, .list acc) :: (st₂ ++ rest)) ++ raws') h₄ := by
        have B := I₄.inv.perm (st' := (D, .raw ⟨.type "list", .none, .seq ys m, #[]⟩) :: (st₂ ++ (rest ++ raws'))) List.perm_middle.symm
        have B' : Inv X K' ([] ++ (D, .raw ⟨.type "list", .none, .seq ys m, #[]⟩) :: (st₂ ++ (rest ++ raws'))) h₄ := B
        obtain ⟨oD, hoD, eD⟩ := B.objs _ (.head _)
        have eD' : oD = ⟨.type "list", .none, .seq ys m, #[]⟩ := eD
        subst eD'
        have B2 := B'.changeE (h' := h₄) (y := .list acc) (fun b o _ e => e) hoD ⟨ys, m, rfl, ryl⟩
        simpa using B2
      have hKC : K' C = none := I₄.fr.nk
      obtain ⟨mC, hmC, _⟩ := I₄.fr.ns
      have hun : ∀ a, frAddr env a → capA a = false → ∀ o, s.heap.get? a = some o → h₄.get? a = some o := by
        intro a ha hc o ho
        obtain ⟨o', hm⟩ := hrawAll a ha
        obtain ⟨o₁, h1, e1⟩ := Iraw.objs (a, .raw o') (List.mem_append_right _ hm)
        have e1' : o₁ = o' := e1
        subst e1'
        rw [ho] at h1; cases h1
        obtain ⟨o₂, h2, e2⟩ := IH'.objs (a, .raw o) (List.mem_append_right _ (List.mem_filter.mpr ⟨hm, by simp [hc]⟩))
        rw [h2]; exact congrArg some e2
      have hno : ∀ a, frAddr env a → K' a = none := by
        intro a ha
        cases hc : capA a with
        | false =>
          obtain ⟨o', hm⟩ := hrawAll a ha
          exact IH'.fr (a, .raw o') (List.mem_append_right _ (List.mem_filter.mpr ⟨hm, by simp [hc]⟩))
        | true =>
          have h9 := hfrlt a ha
          obtain ⟨p, hp, e⟩ := List.any_eq_true.mp hc
          have e' : p.2 = a := by simpa using e
          have : ∃ y, cl.lookup y = some a := by
            have : ∀ cl', ClOk env scope cl' → p ∈ cl' → ∃ y, cl'.lookup y = some p.2 := by
              intro cl' hc
              induction hc with
              | nil => intro h; cases h
              | @cons y c cl₂ h1 _ _ hc2 ih =>
                intro h
                rcases List.mem_cons.mp h with rfl | h
                · exact ⟨y, by simp⟩
                · obtain ⟨z, hz⟩ := ih h
                  by_cases hzy : z = y
                  · subst hzy
                    have := (hc2.at hz).1
                    rw [h1] at this; cases this
                    exact ⟨z, by simp⟩
                  · exact ⟨z, by rw [List.lookup_cons, beq_eq_false_iff_ne.mpr hzy]; exact hz⟩
            exact e' ▸ this cl hcl hp
          obtain ⟨y, hy⟩ := this
          exact I₄.fr.nc y a hy
      refine hRR D C _ _ st₂ acc mC (S'.trans (.of ..)) (hK'.trans hK'') ?_ hmC hKC ?_ ?_ (I₀.inv.newLo (by rw [hi]; exact Nat.le_of_lt (Nat.lt_trans hiD hDC))) (fin acc st₂ hI')
      · refine ⟨IH'.sub (by simp), ?_, fun p hp hf => ?_⟩
        · have hKK := hK'.trans hK''
          refine ⟨F₀.fk, F₀.gl, F₀.bl, ?_, fun y c e => ?_, F₀.ok, hno _ (.inl rfl), fun y c e => hno c (.inr ⟨y, e⟩), F₀.ap, F₀.lc, F₀.lo⟩
          · obtain ⟨m₀, hm₀, r₀⟩ := F₀.ns
            refine ⟨m₀, hm₀.at fun o ho => hun _ (.inl rfl) ?_ o ho, fun y w e k => let ⟨a, b, c⟩ := r₀ y w e k; ⟨a, b, c.mono hKK⟩⟩
            cases hc : capA env.locals with
            | false => rfl
            | true => obtain ⟨y, hy⟩ := hcapA _ hc; exact absurd rfl (F₀.lc y _ hy)
          · cases hc : capA c with
            | false =>
              obtain ⟨vo, ⟨o, ho, hd⟩, q⟩ := F₀.cl y c e
              exact ⟨vo, ⟨o, hun c (.inr ⟨y, e⟩) hc o ho, hd⟩, fun w e' k => let ⟨a, b, c⟩ := q w e' k; ⟨a, b, c.mono hKK⟩⟩
            | true =>
              have hy : cl.lookup y = some c := by
                obtain ⟨p, hp, ep⟩ := List.any_eq_true.mp hc
                have ep' : p.2 = c := by simpa using ep
                have key : ∀ cl', ClOk env scope cl' → p ∈ cl' → p.2 = c → cl'.lookup y = some c := by
                  intro cl' hc
                  induction hc with
                  | nil => intro h; cases h
                  | @cons z d cl₂ h1 h2 h3 hc2 ih =>
                    intro h hpc
                    rcases List.mem_cons.mp h with rfl | h
                    · have hd : d = c := hpc
                      subst hd
                      have := F₀.ap z y d h1 e
                      subst this; simp
                    · have ih' := ih h hpc
                      by_cases hzy : y = z
                      · subst hzy
                        rw [h1] at e; cases e
                        simp
                      · rw [List.lookup_cons, beq_eq_false_iff_ne.mpr hzy]; exact ih'
                exact key cl hcl hp ep'
              obtain ⟨vo, hcc, q⟩ := I₄.fr.cl y c hy
              refine ⟨vo, hcc, fun w e' k => ?_⟩
              obtain ⟨a, b, r⟩ := q w (by rw [lookup_cap, if_pos (mem_names.mpr ⟨c, hy⟩)]; exact e') (lookup_relabel_cell F₀.fk (hcl.at hy).2.2 (hcl.at hy).2.1)
              exact ⟨a, b, r.mono hK''⟩
        · rcases List.mem_cons.mp hp with rfl | hp'
          · have h9 := hfrlt D hf; lia
          rcases List.mem_append.mp hp' with h | h
          · cases hc : capA p.1 with
            | false =>
              obtain ⟨o', hm⟩ := hrawAll p.1 hf
              have := IH'.nd
              rw [List.map_append, List.nodup_append] at this
              exact this.2.2 p.1 (List.mem_map_of_mem hp) p.1 (List.mem_map.mpr ⟨_, List.mem_filter.mpr ⟨hm, by simp [hc]⟩, rfl⟩) rfl
            | true =>
              obtain ⟨q, hq, e⟩ := List.any_eq_true.mp hc
              have e' : q.2 = p.1 := by simpa using e
              have key : ∀ cl', ClOk env scope cl' → q ∈ cl' → ∃ y, cl'.lookup y = some q.2 := by
                intro cl' hc
                induction hc with
                | nil => intro h; cases h
                | @cons y c cl₂ h1 _ _ hc2 ih =>
                  intro h
                  rcases List.mem_cons.mp h with rfl | h
                  · exact ⟨y, by simp⟩
                  · obtain ⟨z, hz⟩ := ih h
                    by_cases hzy : z = y
                    · subst hzy
                      have := (hc2.at hz).1
                      rw [h1] at this; cases this
                      exact ⟨z, by simp⟩
                    · exact ⟨z, by rw [List.lookup_cons, beq_eq_false_iff_ne.mpr hzy]; exact hz⟩
              obtain ⟨y, hy⟩ := key cl hcl hq
              exact I₄.dj p (List.mem_append.mpr (.inl h)) (.inr ⟨y, e' ▸ hy⟩)
          · exact I₀.dj p (List.mem_append.mpr (.inr h)) hf
      · intro hm
        obtain ⟨p, hp, e⟩ := List.mem_map.mp hm
        rcases List.mem_cons.mp hp with rfl | hp
        · exact I₄.dj (D, .raw ⟨.type "list", .none, .seq ys m, #[]⟩) (by simp) (.inl e)
        refine I₄.dj p ?_ (.inl e)
        rcases List.mem_append.mp hp with h | h
        · exact List.mem_append.mpr (.inl h)
        · exact List.mem_append.mpr (.inr (.tail _ (List.mem_append.mpr (.inl h))))
      · intro hf; have := hfrlt C hf; lia
    | cons y todo =>
      have hlt : done.length < items.length := by rw [e]; simp
      refine W.W.item done.length s' _ _ hlt hS' fun v h₄ tk hP hS₄ hk₄ => ?_
      obtain ⟨y', hy, ry⟩ := W.rep _ _ hlt hP
      obtain rfl : y' = y := by rw [e] at hy; simpa using hy.symm
      obtain ⟨o₂, ho₂⟩ := W.live _ _ hS₄
      have I₂ := I'.swap (fun b o hb => hk₄ b o (by simpa using hb)) ho₂
      refine wpAny_assign_Name (I₂.store (s := { s' with heap := h₄, toks := tk }) hsto (ry.mono hK') fun h₅ t₅ I₅ => ?_)
      have hst := step C done y' todo acc st₂ e hI'
      refine wpAny_mono (CStep.run (s := { s' with heap := h₅, toks := t₅ }) ok I₅ hst) ?_ fun _ _ e => e.elim
      rintro b s₆ ⟨K₆, st₃, hK₆, I₆, S₆, hyes, hno⟩
      have e' : items = (done ++ [y']) ++ todo := by rw [e]; simp
      have hSx : ∀ (K₇ : KM) (st₄ : St) (hh : Heap) (oD : Obj) (f' : Fm), KLe K' K₇ → IF X K₇ cenv f' (st₄ ++ ((i₀, .raw o₂) :: (D, .raw oD) :: (rest ++ raws'))) hh → Sx (done ++ [y']).length hh := by
        intro K₇ st₄ hh oD f' hK₇ I₇
        rw [List.length_append, List.length_singleton]
        refine W.W.frame _ _ _ hS₄ fun b hb o ho => ?_
        rcases W.off b hb with rfl | ⟨o', ho'⟩
        · obtain ⟨o₅, h5, e5⟩ := I₇.inv.objs (b, .raw o₂) (by simp)
          rw [ho₂] at ho; cases ho; rw [h5]; exact congrArg some e5
        · have h1 := I₂.inv.kept _ _ (hK' _ _ ho')
          rw [ho] at h1; cases h1
          exact I₇.inv.kept _ _ (hK₇ _ _ (hK' _ _ ho'))
      have S₇ : Same s s₆ := (S'.trans (.of ..)).trans S₆
      cases b with
      | false =>
        simp only [Bool.false_eq_true, if_false]
        exact ⟨todo.length, by simp, K₆, _, todo, acc, ys, m, st₃, o₂, e', rfl, hK'.trans hK₆, I₆.weaken (hxcap y'), ryl.mono hK₆, by rw [List.length_append]; lia, hSx K₆ st₃ _ _ _ hK₆ I₆, S₇, hno rfl⟩
      | true =>
        simp only [if_true]
        refine wpAny_mono (hyes rfl K₆ A _ s₆ ok I₆) ?_ fun _ _ e => e.elim
        rintro uv s₈ ⟨K₈, z, st₄, hK₈, rz, I₈, S₈, hq⟩
        have hDm : s₈.heap.get? D = some ⟨.type "list", .none, .seq ys m, #[]⟩ := by
          obtain ⟨o₉, h9, e9⟩ := I₈.inv.objs (D, .raw ⟨.type "list", .none, .seq ys m, #[]⟩) (by simp)
          rw [h9]; exact congrArg some e9
        have hysz : ys.size ≤ sizeLine := by
          have h1 := ryl.length
          have h2 : ys.toList.length = ys.size := by simp
          rw [sizeLine_eq]
          have h3 : done.length ≤ 100000 := by lia
          lia
        refine append_at (hsz := hysz) hDm fun h₉ hs₉ hD₉ => ?_
        have I₈' : IF X K₈ cenv (fset x y' (cap (cl.map (·.1)) f)) ((st₄ ++ [(i₀, .raw o₂)]) ++ ((D, .raw ⟨.type "list", .none, .seq ys m, #[]⟩) :: (rest ++ raws'))) s₈.heap := by simpa using I₈
        have I₉ := I₈'.swap (h' := h₉) (fun b o hb e => (hs₉.2 b hb).trans e) hD₉
        have I₁₀ : IF X K₈ cenv (fset x y' (cap (cl.map (·.1)) f)) (st₄ ++ ((i₀, .raw o₂) :: (D, .raw ⟨.type "list", .none, .seq (ys.push uv) (m + 1), #[]⟩) :: (rest ++ raws'))) h₉ := by simpa using I₉
        exact ⟨todo.length, by simp, K₈, _, todo, acc ++ [z], ys.push uv, m + 1, st₄, o₂, e', rfl, (hK'.trans hK₆).trans hK₈, I₁₀.weaken (hxcap y'),
          by simpa using (ryl.mono (hK₆.trans hK₈)).snoc rz, by rw [List.length_append, List.length_append]; simp; lia, hSx K₈ st₄ _ _ _ (hK₆.trans hK₈) I₁₀, (S₇.trans S₈).trans (.of ..), hq⟩
  refine codeAny_compStart_list (loop _ (.of ..) rfl) ?_
  exact W.W.self 0 _ _ _ hS₃ (loop _ (.of ..) rfl)


theorem IF.harden {K : KM} {rest : St} {h : Heap} {a : Addr} {x : AObj} (I : IF X K env f ((a, x) :: rest) h) : ∃ o, h.get? a = some o ∧ RepO X K o x ∧ K a = none ∧ IF X (kset K a o) env f rest h := by
  have I' : Inv X K ([] ++ (a, x) :: rest) h := I.inv
  obtain ⟨o, ho, r, hK, IH⟩ := I'.harden
  refine ⟨o, ho, r, hK, IH, I.fr.move (kle_set _ hK) (fun a ha o ho => ho) (fun b hb => ?_), fun p hp => I.dj p (.tail _ hp)⟩
  unfold kset
  rw [if_neg]
  · exact I.fr.noK hb
  · rintro rfl; exact I.dj (b, x) (.head _) hb
theorem IF.hardenL {K : KM} {rest : St} {h : Heap} {a : Addr} {l : List V} (I : IF X K env f ((a, .list l) :: rest) h) : ∃ K', KLe K K' ∧ RepV X K' (.ref a) (.lst l) ∧ IF X K' env f rest h ∧ (∀ b, b ≠ a → K' b = K b) := by
  obtain ⟨o, ho, ⟨items, m, rfl, rl⟩, hK, I'⟩ := I.harden
  exact ⟨_, kle_set _ hK, .lst kset_self (rl.mono (kle_set _ hK)), I', fun b hb => by unfold kset; rw [if_neg hb]⟩

theorem WE_compM {Q : V → St → Prop} {elt iter : Expr} {x : Str} {px : Pos} {ifs : List Expr} {scope : Scope} {cl : List (Str × Addr)}
    (h : WE X n env f st iter (fun v st₁ => ∃ items, Its v items ∧ items.length ≤ 100000 ∧ ∃ I : List V → List V → List V → St → Prop, I [] items [] st₁ ∧
      (∀ C done y todo acc st₂, items = done ++ y :: todo → I done (y :: todo) acc st₂ → CStep X n (compEnvC scope cl C env) (fset x y (cap (cl.map (·.1)) f)) st₂ ifs elt (fun st₃ => I (done ++ [y]) todo acc st₃) (fun r st₃ => I (done ++ [y]) todo (acc ++ [r]) st₃)) ∧
      (∀ acc st₂, I items [] acc st₂ → ∀ D, Q (.obj D) ((D, .list acc) :: st₂))))
    (hcl : ClOk env scope cl) (hclos : closureFor scope env = pure cl := by rfl) (hcell : ∀ y ∈ scope.names, y.2 ≠ .cell := by decide) (hkind : scope.kind = .function := by rfl)
    (hnames : ∀ y ∈ scope.names, y.2 = .local → scope.names.lookup y.1 = some .local := by decide) (hx : scope.names.lookup x = some .local := by rfl)
    (hs : ∀ x, foldedSetIterable iter env x = pure x := by intro _; rfl) :
    WE X n env f st (.ListComp elt [⟨.Name x px, iter, ifs, 0⟩] scope pos) Q := by
  intro K A rest s ok I₀
  rw [eval_ListComp]
  refine wpAny_comprehension_free (use := none) rfl hs hclos hkind hnames (wpAny_mono (h K A rest s ok I₀) ?_ fun _ _ e => e)
  rintro u s₁ ⟨K₁, v, st₁, hK₁, hr, I₁, S₁, items, hits, hlen, I, h0, step, fin⟩
  refine comp_core (RR := fun acc C => compPost (model X.prog X.w) A NoE none _ acc C) (Qfin := fun acc st₂ => ∀ D, Q (.obj D) ((D, .list acc) :: st₂)) ok I₁ hr hits hlen hcl hcell hkind hx I h0 step fin ?_
  intro D C s' K' st' acc m' S hK' I' hm hKC hn hf hlo hq
  refine ⟨m', hm, fun h' hs' => ?_⟩
  refine ⟨K', .obj D, (D, .list acc) :: st', hK₁.trans hK', .obj D, ⟨I'.inv.off hKC hn fun b o hb e => (hs'.2 b hb).trans e, I'.fr.move (.refl _) (fun a ha o ho => (hs'.2 a (fun e => hf (e ▸ ha))).trans ho) (fun a ha => I'.fr.noK ha), I'.dj⟩, (S₁.trans S).trans (.of ..), hq D⟩

theorem WE.harden {Q : V → St → Prop} {e : Expr} (h : WE X n env f st e (fun v st₁ => ∃ a l st₂, v = .obj a ∧ st₁ = (a, .list l) :: st₂ ∧ Q (.lst l) st₂)) : WE X n env f st e Q := by
  intro K A rest s ok I₀
  refine wpAny_mono (h K A rest s ok I₀) ?_ fun _ _ e => e
  rintro u s₁ ⟨K₁, v, st₁, hK₁, rv, I₁, S₁, a, l, st₂, rfl, rfl, hq⟩
  obtain ⟨K₂, hK₂, r, I₂, _⟩ := I₁.hardenL
  obtain rfl := rv.obj_inv
  exact ⟨K₂, .lst l, st₂, hK₁.trans hK₂, r, I₂, S₁, hq⟩

theorem WE_comp {Q : V → St → Prop} {elt iter : Expr} {x : Str} {px : Pos} {ifs : List Expr} {scope : Scope} {cl : List (Str × Addr)}
    (h : WE X n env f st iter (fun v st₁ => ∃ items, Its v items ∧ items.length ≤ 100000 ∧ ∃ I : List V → List V → List V → St → Prop, I [] items [] st₁ ∧
      (∀ C done y todo acc st₂, items = done ++ y :: todo → I done (y :: todo) acc st₂ → CStep X n (compEnvC scope cl C env) (fset x y (cap (cl.map (·.1)) f)) st₂ ifs elt (fun st₃ => I (done ++ [y]) todo acc st₃) (fun r st₃ => I (done ++ [y]) todo (acc ++ [r]) st₃)) ∧
      (∀ acc st₂, I items [] acc st₂ → Q (.lst acc) st₂)))
    (hcl : ClOk env scope cl) (hclos : closureFor scope env = pure cl := by rfl) (hcell : ∀ y ∈ scope.names, y.2 ≠ .cell := by decide) (hkind : scope.kind = .function := by rfl)
    (hnames : ∀ y ∈ scope.names, y.2 = .local → scope.names.lookup y.1 = some .local := by decide) (hx : scope.names.lookup x = some .local := by rfl)
    (hs : ∀ x, foldedSetIterable iter env x = pure x := by intro _; rfl) :
    WE X n env f st (.ListComp elt [⟨.Name x px, iter, ifs, 0⟩] scope pos) Q := by
  refine WE.harden (WE_compM (h.mono ?_) hcl hclos hcell hkind hnames hx hs)
  rintro v st₁ ⟨items, hits, hlen, I, h0, step, fin⟩
  exact ⟨items, hits, hlen, I, h0, step, fun acc st₂ hI D => ⟨D, acc, st₂, rfl, rfl, fin acc st₂ hI⟩⟩

theorem WS_assignC {Q : Fl → Fm → St → Prop} {elt iter : Expr} {x y : Str} {px py : Pos} {ifs : List Expr} {scope : Scope} {cl : List (Str × Addr)} {cpos : Pos}
    (h : WE X n env f st iter (fun v st₁ => ∃ items, Its v items ∧ items.length ≤ 100000 ∧ ∃ I : List V → List V → List V → St → Prop, I [] items [] st₁ ∧
      (∀ C done y todo acc st₂, items = done ++ y :: todo → I done (y :: todo) acc st₂ → CStep X n (compEnvC scope cl C env) (fset x y (cap (cl.map (·.1)) f)) st₂ ifs elt (fun st₃ => I (done ++ [y]) todo acc st₃) (fun r st₃ => I (done ++ [y]) todo (acc ++ [r]) st₃)) ∧
      (∀ acc st₂, I items [] acc st₂ → Q .next (fset y (.lst acc) f) st₂)))
    (hcl : ClOk env scope cl) (hy : Sto env y) (hsw : swapsWith (.ListComp elt [⟨.Name x px, iter, ifs, 0⟩] scope cpos) (some (.Name y py)) pos.line env = pure true := by rfl)
    (hclos : closureFor scope env = pure cl := by rfl) (hcell : ∀ y ∈ scope.names, y.2 ≠ .cell := by decide) (hkind : scope.kind = .function := by rfl)
    (hnames : ∀ y ∈ scope.names, y.2 = .local → scope.names.lookup y.1 = some .local := by decide) (hx : scope.names.lookup x = some .local := by rfl)
    (hs : ∀ x, foldedSetIterable iter env x = pure x := by intro _; rfl) :
    WS X n env f st (.Assign [.Name y py] (.ListComp elt [⟨.Name x px, iter, ifs, 0⟩] scope cpos) pos) Q := by
  intro K A rest s ok I₀
  rw [exec_Assign_Name_used _ _ _ _ hsw]
  refine wpAny_bind (wpAny_standAt (wpAny_bind ?_))
  show wpAny _ A (do let _ ← comprehension (.ListComp elt [⟨.Name x px, iter, ifs, 0⟩] scope cpos) scope env _ (newList []) false (eval iter env) (some (assign (.Name y py) env))) _ _ s
  refine wpAny_bind (wpAny_mono (wpAny_comprehension_free (use := some (assign (.Name y py) env)) (Q := fun _ s' => PS X K env rest s Q .next s') rfl hs hclos hkind hnames
    (wpAny_mono (h K A rest s ok I₀) ?_ fun _ _ e => e)) (fun _ s' hq => wpAny_pure (wpAny_pure hq)) fun _ _ e => e)
  rintro u s₁ ⟨K₁, v, st₁, hK₁, hr, I₁, S₁, items, hits, hlen, I, h0, step, fin⟩
  refine comp_core (RR := fun acc C => compPost (model X.prog X.w) A NoE (some (assign (.Name y py) env)) _ acc C) (Qfin := fun acc st₂ => Q .next (fset y (.lst acc) f) st₂) ok I₁ hr hits hlen hcl hcell hkind hx I h0 step fin ?_
  intro D C s' K'₀ st' acc m' S hK'₀ I'₀ hm hKC₀ hn₀ hf hlo hq
  have hCD : C ≠ D := fun e => hn₀ (by rw [e]; exact .head _)
  have hn : C ∉ (st' ++ rest).map (·.1) := fun h => hn₀ (.tail _ h)
  obtain ⟨K', hKK, rD, I', hoff⟩ := I'₀.hardenL
  have hK' := hK'₀.trans hKK
  have hKC : K' C = none := (hoff C hCD).trans hKC₀
  show wpAny _ A (assign (.Name y py) env (.ref D)) _ _ _
  have hCL : C ≠ env.locals := fun e => hf (.inl e)
  -- the name is stored, C's own frame stands
  have I₂ : IF X K' env f ((C, .raw ((s'.heap.get? C).getD default)) :: (st' ++ rest)) s'.heap := by
    obtain ⟨oC, _, _, hoC, _⟩ := hm
    have g : Inv X K' ((C, .raw ((s'.heap.get? C).getD default)) :: (st' ++ rest)) s'.heap := by
      refine ⟨I'.inv.base, I'.inv.kept, fun p hp => ?_, ?_, fun p hp => ?_, fun p hp => ?_⟩
      · rcases List.mem_cons.mp hp with rfl | hp
        · exact ⟨oC, hoC, by show oC = _; rw [hoC]; rfl⟩
        · exact I'.inv.objs p hp
      · rw [List.map_cons, List.nodup_cons]; exact ⟨hn, I'.inv.nd⟩
      · rcases List.mem_cons.mp hp with rfl | hp
        · exact hKC
        · exact I'.inv.fr p hp
      · rcases List.mem_cons.mp hp with rfl | hp
        · exact hlo
        · exact I'.inv.lo p hp
    exact ⟨g, I'.fr, fun p hp => by
      rcases List.mem_cons.mp hp with rfl | hp
      · exact hf
      · exact I'.dj p hp⟩
  refine wpAny_assign_Name (I₂.store hy rD fun h' t I₃ => ?_)
  have hCsame : h'.get? C = s'.heap.get? C := by
    obtain ⟨oC, _, _, hoC, _⟩ := hm
    obtain ⟨o, ho, e⟩ := I₃.inv.objs (C, .raw ((s'.heap.get? C).getD default)) (.head _)
    have e' : o = (s'.heap.get? C).getD default := e
    rw [ho, e', hoC]; rfl
  refine ⟨m', hm.at fun o ho => hCsame.trans ho, fun h'' hs' => ?_⟩
  have I₄ : IF X K' env (fset y (.lst acc) f) (st' ++ rest) h'' := by
    have hno : ¬ frAddr env C := hf
    refine ⟨(I₃.inv.sub (List.sublist_cons_self ..)).off hKC hn fun b o hb e => (hs'.2 b hb).trans e, I₃.fr.move (.refl _) (fun a ha o ho => (hs'.2 a (fun e => hf (e ▸ ha))).trans ho) (fun a ha => I₃.fr.noK ha), I'.dj⟩
  exact ⟨K', _, _, st', hK₁.trans hK', .next, I₄, ((S₁.trans S).trans (.of ..)), hq⟩
end
theorem bindL_notin {kindOf : Str → Option NameKind} {y : Str} : ∀ {binds : List (Str × Value)} {m : Str → Option Value}, y ∉ binds.map (·.1) → bindL kindOf binds m y = m y
  | [], _, _ => rfl
  | (n, v) :: r, m, h => by
    simp only [List.map_cons, List.mem_cons, not_or] at h
    rw [bindL, bindL_notin h.2]
    split
    · exact if_neg h.1
    · rfl
theorem bindC_notin {kindOf : Str → Option NameKind} {y : Str} : ∀ {binds : List (Str × Value)} {m : Str → Option Value}, y ∉ binds.map (·.1) → bindC kindOf binds m y = m y
  | [], _, _ => rfl
  | (n, v) :: r, m, h => by
    simp only [List.map_cons, List.mem_cons, not_or] at h
    rw [bindC, bindC_notin h.2]
    split
    · rfl
    · exact if_neg h.1
theorem bindL_in {kindOf : Str → Option NameKind} {y : Str} {u : Value} (hk : kindOf y = some .local) : ∀ {binds : List (Str × Value)} {m : Str → Option Value}, (binds.map (·.1)).Nodup → (y, u) ∈ binds → bindL kindOf binds m y = some u
  | (n, v) :: r, m, hn, h => by
    rw [List.map_cons, List.nodup_cons] at hn
    rw [bindL]
    rcases List.mem_cons.mp h with e | h
    · cases e
      rw [bindL_notin hn.1, if_pos hk, if_pos rfl]
    · exact bindL_in hk hn.2 h
theorem bindC_in {kindOf : Str → Option NameKind} {y : Str} {u : Value} (hk : kindOf y ≠ some .local) : ∀ {binds : List (Str × Value)} {m : Str → Option Value}, (binds.map (·.1)).Nodup → (y, u) ∈ binds → bindC kindOf binds m y = some u
  | (n, v) :: r, m, hn, h => by
    rw [List.map_cons, List.nodup_cons] at hn
    rw [bindC]
    rcases List.mem_cons.mp h with e | h
    · cases e
      rw [bindC_notin hn.1, if_neg hk, if_pos rfl]
    · exact bindC_in hk hn.2 h

theorem zip_rep {X : Cx} {K : KM} : ∀ {names : List Str} {us : List Value} {ys : List V}, RepL X K us ys → ∀ (x : Str) (v : V), (names.zip ys).lookup x = some v → ∃ u, (x, u) ∈ names.zip us ∧ RepV X K u v
  | [], _, _, _, x, v, h => by simp at h
  | n :: ns, _, _, .nil, x, v, h => by simp at h
  | n :: ns, _, _, .cons r t, x, v, h => by
    rw [List.zip_cons_cons, List.lookup_cons] at h
    cases hb : x == n with
    | true => rw [hb] at h; cases h; rw [beq_iff_eq.mp hb]; exact ⟨_, .head _, r⟩
    | false =>
      rw [hb] at h
      obtain ⟨u, hu, r'⟩ := zip_rep t x v h
      exact ⟨u, .tail _ hu, r'⟩

section
variable {X : Cx} {n : Nat} {env : Env} {f : Fm} {st : St} {pos : Pos}

noncomputable def Binds (X : Cx) (fd : FuncData) (xs : List V) (names : List Str) (ys : List V) : Prop :=
  ∀ (K : KM) (s : Shared) (vs : List Value), (∀ a o, X.B.get? a = some o → K a = some o) → (∀ a o, X.B.get? a = some o → s.heap.get? a = some o) → RepL X K vs xs → ∃ us, RepL X K us ys ∧ us.length = names.length ∧ BindsTo s fd ⟨vs, []⟩ (names.zip us)

noncomputable def CallC (X : Cx) (n : Nat) (st : St) (c : Value) (xs : List V) (Q : V → St → Prop) : Prop :=
  ∀ K vs, RepL X K vs xs → ∀ (A : Around) (rest : St) (s : Shared) (R : Result → Shared → Prop), Ok n A → Inv X K (st ++ rest) s.heap →
    (∀ v s' K' x st', KLe K K' → RepV X K' v x → Inv X K' (st' ++ rest) s'.heap → Same s s' → Q x st' → R (.ok (.ret v)) s') → codeAny (model X.prog X.w) A (.call c ⟨vs, []⟩) R s
theorem CallC.call {c : Value} {xs : List V} {Q : V → St → Prop} (h : CallC X n st c xs Q) : Call X n st c xs Q :=
  fun K vs r A rest s ok I => wpAny_call (h K vs r A rest s _ ok I fun v s' K' x st' a b d e q => ⟨K', x, st', a, b, d, e, q⟩)

noncomputable abbrev Rt (Q : V → St → Prop) (fl : Fl) (_ : Fm) (st' : St) : Prop := match fl with | .ret v => Q v st' | .next => Q .none st' | _ => False
theorem CallC_def {Fk : Frag} (hF : Fk.In X.B) {fa : Addr} {name qual : Str} {params : Arguments} {body : List Stmt} {scope : Scope} {dV kV doc pm cdv ct oc : Value} {an od : Option Addr} {osl : Array (Option Value)}
    (ho : Fk.lookup fa = some ⟨oc, od, .func (fnOf name qual params body scope dV kV doc pm an cdv ct), osl⟩) (hcd : codeIn Fk cdv qual = true)
    {xs ys : List V} {names : List Str} {Q : V → St → Prop} (hb : Binds X (fnOf name qual params body scope dV kV doc pm an cdv ct) xs names ys)
    (h : ∀ L, WB X n (envX qual scope L fa cdv (cellsFrom (L + 1) scope.names [])) (names.zip ys) st body (Rt Q))
    (hnd : names.Nodup := by decide) (hkind : (names.all fun y => scope.names.lookup y == some .local || (scope.names.lookup y == some .cell)) = true := by rfl)
    (hco : scope.isCoroutine = false := by rfl) (hgen : scope.isGenerator = false := by rfl) (hk : scope.kind = .function := by rfl) :
    CallC X (n + 1) st (.ref fa) xs Q := by
  intro K vs r A rest s R ok I hR
  have hbase := I.baseIn
  obtain ⟨us, rus, hlen, hbinds⟩ := hb K s vs I.base hbase r
  have hmap : (names.zip us).map (·.1) = names := by rw [List.map_fst_zip (by lia)]
  refine codeAny_call_function ok.room (hF.keeps hbase _ _ ho) rfl hco hgen rfl (codeRec_of (hF.keeps hbase) hcd) (hbinds _ _ _ _ ?_)
  have hk1 : ∀ y ∈ names.zip us, scope.names.lookup y.1 = some .local ∨ scope.names.lookup y.1 = some .cell := by
    intro y hy
    have hm : y.1 ∈ names := by rw [← hmap]; exact List.mem_map_of_mem hy
    have := List.all_eq_true.mp hkind y.1 hm
    simpa using this
  refine wpAny_newFunctionEnv_cells hk (fun y hy => ?_) fun env' he s' x => ?_
  · rcases hk1 y hy with h1 | h1
    · exact .inl h1
    · exact .inr ⟨h1, cellsFrom_some _ _ _ (.inl h1)⟩
  have heq : env' = envX qual scope s.heap.objs.size fa cdv (cellsFrom (s.heap.objs.size + 1) scope.names []) := he
  clear he
  subst heq
  generalize henv : envX qual scope s.heap.objs.size fa cdv (cellsFrom (s.heap.objs.size + 1) scope.names []) = env' at x
  have e1 : env'.scope = scope := by rw [← henv]
  have e2 : env'.locals = s.heap.objs.size := by rw [← henv]
  refine ⟨(X.lim.keeps hbase).keeps x.toInCall.keep, codeAny_func ?_⟩
  have hk₁ := x.toInCall.keep
  have hlt : ∀ (a : Nat) o, s.heap.get? a = some o → @LT.lt Nat _ a s.heap.objs.size := fun a o e => Heap.lt_size e
  have hcge : ∀ y c, env'.cells.lookup y = some c → @LT.lt Nat _ s.heap.objs.size c := fun y c e => e2 ▸ x.above y c (mem_of_lookup e)
  have hfr : ∀ a, frAddr env' a → @LE.le Nat _ s.heap.objs.size a := by
    rintro a (rfl | ⟨y, hy⟩)
    · exact Nat.le_of_eq e2.symm
    · exact Nat.le_of_lt (hcge y a hy)
  have hKn : ∀ a, frAddr env' a → K a = none := fun a ha => I.none_of_size (hfr a ha)
  have IF₁ : IF X K env' (names.zip ys) (st ++ rest) s'.heap := by
    refine ⟨I.keep hk₁, ?_, fun p hp hf => ?_⟩
    · refine ⟨by rw [e1]; exact hk, by rw [← henv], by rw [← henv], ⟨_, x.toInCall.ns, fun y w e k => ?_⟩, fun y c e => ?_, fun y w e => ?_, hKn _ (.inl rfl), fun y c e => hKn c (.inr ⟨y, e⟩), fun y z c e e' => ?_, fun y c e => ?_, fun a ha => I.newLo (hfr a ha)⟩
      · obtain ⟨u, hu, r'⟩ := zip_rep rus y w e
        exact ⟨u, bindL_in k (by rw [hmap]; exact hnd) hu, r'⟩
      · refine ⟨_, x.cell y c e, fun w e' k => ?_⟩
        obtain ⟨u, hu, r'⟩ := zip_rep rus y w e'
        exact ⟨u, bindC_in (by rw [k]; decide) (by rw [hmap]; exact hnd) hu, r'⟩
      · obtain ⟨u, hu, _⟩ := zip_rep rus y w e
        have hkk : env'.kindOf y = scope.names.lookup y := by unfold Env.kindOf; rw [e1]
        rcases hk1 (y, u) hu with h1 | h1
        · exact .inl (hkk.trans h1)
        · refine .inr ⟨hkk.trans h1, Option.isSome_iff_exists.mp ?_⟩
          rw [← henv]
          exact cellsFrom_some _ _ _ (.inl h1)
      · exact name_of_addr x.apart (mem_of_lookup e) (mem_of_lookup e')
      · have := hcge y c e
        rw [e2]; exact Nat.ne_of_gt this
    · obtain ⟨o, ho', _⟩ := I.objs p hp
      exact absurd (hlt _ _ ho') (Nat.not_lt.mpr (hfr _ hf))
  obtain ⟨h₁, tk, rfl⟩ := x.toInCall.same
  have hb := h s.heap.objs.size
  rw [henv] at hb
  refine wpAny_mono (hb K (A.deeper env') rest _ (ok.deeper env') IF₁) ?_ fun _ _ e => e.elim
  rintro fl s₂ ⟨K₂, z, f₂, st₂, hK₂, rz, I₂, S₂, hq⟩
  have S : Same s s₂ := (Same.of s h₁ tk).trans S₂
  cases rz with
  | next => exact hR .none s₂ K₂ .none st₂ hK₂ .none I₂.inv S hq
  | ret rv => exact hR _ s₂ K₂ _ st₂ hK₂ rv I₂.inv S hq
  | brk => exact hq.elim
  | cont => exact hq.elim

theorem RepL.one_inv {K : KM} {vs : List Value} {x : V} (h : RepL X K vs [x]) : ∃ a, vs = [a] := by obtain ⟨u, us, rfl, _, r⟩ := h.cons_inv; rw [r.nil_inv]; exact ⟨_, rfl⟩
theorem RepL.two_inv {K : KM} {vs : List Value} {x y : V} (h : RepL X K vs [x, y]) : ∃ a b, vs = [a, b] := by cases h with | cons _ b => obtain ⟨c, rfl⟩ := RepL.one_inv b; exact ⟨_, _, rfl⟩
theorem RepL.three_inv {K : KM} {vs : List Value} {x y z : V} (h : RepL X K vs [x, y, z]) : ∃ a b c, vs = [a, b, c] := by cases h with | cons _ b => obtain ⟨c, d, rfl⟩ := RepL.two_inv b; exact ⟨_, _, _, rfl⟩
theorem RepL.four_inv {K : KM} {vs : List Value} {x y z t : V} (h : RepL X K vs [x, y, z, t]) : ∃ a b c d, vs = [a, b, c, d] := by cases h with | cons _ b => obtain ⟨c, d, e, rfl⟩ := RepL.three_inv b; exact ⟨_, _, _, _, rfl⟩
theorem Binds.zero {fd : FuncData} (h : bindArgs fd ⟨[], []⟩ = pure [] := by rfl) : Binds X fd [] [] [] := by
  intro K s vs _ _ r; cases r; exact ⟨[], .nil, rfl, .of_eq h⟩
theorem Binds.one {fd : FuncData} {x : V} {n₁ : Str} (h : ∀ a, bindArgs fd ⟨[a], []⟩ = pure [(n₁, a)] := by intro _; rfl) : Binds X fd [x] [n₁] [x] := by
  intro K s vs _ _ r; obtain ⟨a, rfl⟩ := r.one_inv; exact ⟨_, r, rfl, .of_eq (h a)⟩
theorem Binds.two {fd : FuncData} {x y : V} {n₁ n₂ : Str} (h : ∀ a b, bindArgs fd ⟨[a, b], []⟩ = pure [(n₁, a), (n₂, b)] := by intro _ _; rfl) : Binds X fd [x, y] [n₁, n₂] [x, y] := by
  intro K s vs _ _ r; obtain ⟨a, b, rfl⟩ := r.two_inv; exact ⟨_, r, rfl, .of_eq (h a b)⟩
theorem Binds.three {fd : FuncData} {x y z : V} {n₁ n₂ n₃ : Str} (h : ∀ a b c, bindArgs fd ⟨[a, b, c], []⟩ = pure [(n₁, a), (n₂, b), (n₃, c)] := by intro _ _ _; rfl) : Binds X fd [x, y, z] [n₁, n₂, n₃] [x, y, z] := by
  intro K s vs _ _ r; obtain ⟨a, b, c, rfl⟩ := r.three_inv; exact ⟨_, r, rfl, .of_eq (h a b c)⟩
theorem Binds.four {fd : FuncData} {x y z t : V} {n₁ n₂ n₃ n₄ : Str} (h : ∀ a b c d, bindArgs fd ⟨[a, b, c, d], []⟩ = pure [(n₁, a), (n₂, b), (n₃, c), (n₄, d)] := by intro _ _ _ _; rfl) : Binds X fd [x, y, z, t] [n₁, n₂, n₃, n₄] [x, y, z, t] := by
  intro K s vs _ _ r; obtain ⟨a, b, c, d, rfl⟩ := r.four_inv; exact ⟨_, r, rfl, .of_eq (h a b c d)⟩
end
inductive Up (a : Addr) (x y : AObj) : St → St → Prop
  | head {r : St} : Up a x y ((a, x) :: r) ((a, y) :: r)
  | tail {p : Addr × AObj} {r r' : St} : Up a x y r r' → Up a x y (p :: r) (p :: r')
theorem Up.split {a : Addr} {x y : AObj} {l l' : St} (u : Up a x y l l') : ∃ pre post, l = pre ++ (a, x) :: post ∧ l' = pre ++ (a, y) :: post := by
  induction u with
  | head => exact ⟨[], _, rfl, rfl⟩
  | @tail p r r' _ ih => obtain ⟨pre, post, h1, h2⟩ := ih; exact ⟨p :: pre, post, by rw [h1]; rfl, by rw [h2]; rfl⟩
inductive At (a : Addr) (x : AObj) : St → Prop
  | head {r : St} : At a x ((a, x) :: r)
  | tail {p : Addr × AObj} {r : St} : At a x r → At a x (p :: r)
theorem At.mem {a : Addr} {x : AObj} {l : St} (u : At a x l) : (a, x) ∈ l := by
  induction u with
  | head => exact .head _
  | tail _ ih => exact .tail _ ih
inductive Dr (a : Addr) (x : AObj) : St → St → Prop
  | head {r : St} : Dr a x ((a, x) :: r) r
  | tail {p : Addr × AObj} {r r' : St} : Dr a x r r' → Dr a x (p :: r) (p :: r')
theorem Dr.split {a : Addr} {x : AObj} {l l' : St} (u : Dr a x l l') : ∃ pre post, l = pre ++ (a, x) :: post ∧ l' = pre ++ post := by
  induction u with
  | head => exact ⟨[], _, rfl, rfl⟩
  | @tail p r r' _ ih => obtain ⟨pre, post, h1, h2⟩ := ih; exact ⟨p :: pre, post, by rw [h1]; rfl, by rw [h2]; rfl⟩

section
variable {X : Cx} {n : Nat} {K : KM} {st st' : St} {α β : Type} {t : Sem α} {Rep : KM → α → β → Prop} {Q : β → St → Prop} {x : β}

theorem TO.read (h : ∀ (A : Around) (rest : St) (s : Shared) (R : α → Shared → Prop), Ok n A → Inv X K (st ++ rest) s.heap → (∀ v tk, Rep K v x → R v { s with toks := tk }) → wpAny (model X.prog X.w) A t R NoE s) (hq : Q x st) : TO X n K st t Rep Q :=
  fun A rest s ok I => h A rest s _ ok I fun v tk r => ⟨K, x, st, .refl _, r, I, .of s s.heap tk, hq⟩
theorem TO.keep (h : ∀ (A : Around) (rest : St) (s : Shared) (R : α → Shared → Prop), Ok n A → Inv X K (st ++ rest) s.heap → (∀ v h' tk, (∀ b o, s.heap.get? b = some o → h'.get? b = some o) → Rep K v x → R v { s with heap := h', toks := tk }) →
    wpAny (model X.prog X.w) A t R NoE s) (hq : Q x st) : TO X n K st t Rep Q :=
  fun A rest s ok I => h A rest s _ ok I fun v h' tk hk r => ⟨K, x, st, .refl _, r, I.keep hk, .of s h' tk, hq⟩

theorem TO.fresh {t : Sem Value} {x : V} {Q : V → St → Prop} (h : ∀ (A : Around) (rest : St) (s : Shared) (R : Value → Shared → Prop), Ok n A → Inv X K (st ++ rest) s.heap →
      (∀ a o h' tk, s.heap.get? a = none → (∀ b o, s.heap.get? b = some o → h'.get? b = some o) → h'.get? a = some o → (KLe K (kset K a o) → RepV X (kset K a o) (.ref a) x) → R (.ref a) { s with heap := h', toks := tk }) →
      wpAny (model X.prog X.w) A t R NoE s) (hq : Q x st) : TO X n K st t (RepV X) Q :=
  fun A rest s ok I => h A rest s _ ok I fun a o h' tk ha hk ho r =>
    have hK : K a = none := by
      cases e : K a with
      | none => rfl
      | some o => have := I.kept a o e; rw [ha] at this; cases this
    ⟨kset K a o, x, st, kle_set _ hK, r (kle_set _ hK), (I.keep hk).freeze hK (fun hm => by
      obtain ⟨p, hp, rfl⟩ := List.mem_map.mp hm
      obtain ⟨o, ho, _⟩ := I.objs p hp
      rw [ha] at ho; cases ho) ho, .of s h' tk, hq⟩
theorem new_none {h : Heap} {a : Addr} (ha : @LE.le Nat _ h.objs.size a) : h.get? a = none := by
  cases e : h.get? a with
  | none => rfl
  | some o => exact absurd (Heap.lt_size e) (Nat.not_lt.mpr ha)
theorem none_back {h h' : Heap} {a : Addr} (hk : ∀ b o, h.get? b = some o → h'.get? b = some o) (ha : h'.get? a = none) : h.get? a = none := by
  cases e : h.get? a with
  | none => rfl
  | some o => have := hk a o e; rw [ha] at this; cases this
theorem TO.freshM {t : Sem Value} {x : AObj} {Q : V → St → Prop} (h : ∀ (A : Around) (rest : St) (s : Shared) (R : Value → Shared → Prop), Ok n A → Inv X K (st ++ rest) s.heap →
      (∀ a o h' tk, @LE.le Nat _ s.heap.objs.size a → (∀ b o, s.heap.get? b = some o → h'.get? b = some o) → h'.get? a = some o → RepO X K o x → R (.ref a) { s with heap := h', toks := tk }) →
      wpAny (model X.prog X.w) A t R NoE s) (hq : ∀ a, Q (.obj a) ((a, x) :: st)) : TO X n K st t (RepV X) Q :=
  fun A rest s ok I => h A rest s _ ok I fun a o h' tk ha hk ho r => ⟨K, .obj a, (a, x) :: st, .refl _, .obj a, I.grow ha (I.newLo ha) hk ho r, .of s h' tk, hq a⟩
theorem TO.upd {a : Addr} {p q : AObj} (u : Up a p q st st') (h : ∀ (A : Around) (rest : St) (s : Shared) (R : α → Shared → Prop) (o : Obj), Ok n A → Inv X K (st ++ rest) s.heap → (a == sysModules) = false → s.heap.get? a = some o → RepO X K o p →
      (∀ v h' tk o', (∀ b o, b ≠ a → s.heap.get? b = some o → h'.get? b = some o) → h'.get? a = some o' → RepO X K o' q → Rep K v x → R v { s with heap := h', toks := tk }) →
      wpAny (model X.prog X.w) A t R NoE s) (hq : Q x st') : TO X n K st t Rep Q := by
  intro A rest s ok I
  obtain ⟨pre, post, rfl, rfl⟩ := u.split
  have hm : (a, p) ∈ pre ++ (a, p) :: post ++ rest := by simp
  obtain ⟨o, ho, r⟩ := I.objs (a, p) hm
  refine h A rest s _ o ok I (I.lo (a, p) hm) ho r fun v h' tk o' hk ho' r' rv => ⟨K, x, _, .refl _, rv, ?_, .of s h' tk, hq⟩
  have I' : Inv X K (pre ++ (a, p) :: (post ++ rest)) s.heap := by simpa using I
  simpa using I'.changeE hk ho' r'
theorem Inv.at {a : Addr} {p : AObj} {rest : St} {h : Heap} (I : Inv X K (st ++ rest) h) (u : At a p st) : ∃ o, h.get? a = some o ∧ RepO X K o p ∧ (a == sysModules) = false :=
  let ⟨o, ho, r⟩ := I.objs (a, p) (List.mem_append_left _ u.mem); ⟨o, ho, r, I.lo (a, p) (List.mem_append_left _ u.mem)⟩
end

section
variable {X : Cx} {n : Nat} {env : Env} {f : Fm} {st st' : St} {Q : V → St → Prop} {pos : Pos}

theorem Op.hardenL {a : Addr} {l : List V} {xs : List V} {t : List Value → Sem Value} (h : Op X n st xs t (fun v st₁ => v = .obj a ∧ ∃ st₂, Dr a (.list l) st₁ st₂ ∧ Q (.lst l) st₂)) : Op X n st xs t Q := by
  intro K vs r A rest s ok I
  refine wpAny_mono (h K vs r A rest s ok I) ?_ fun _ _ e => e
  rintro u s₁ ⟨K₁, v, st₁, hK, rv, I₁, S, rfl, st₂, hd, hq⟩
  obtain ⟨pre, post, rfl, rfl⟩ := hd.split
  have I₁' : Inv X K₁ (pre ++ (a, .list l) :: (post ++ rest)) s₁.heap := by simpa using I₁
  obtain ⟨o, ho, ⟨items, m, rfl, rl⟩, hKa, I₂⟩ := I₁'.harden
  obtain rfl := rv.obj_inv
  refine ⟨_, .lst l, pre ++ post, hK.trans (kle_set _ hKa), .lst kset_self (rl.mono (kle_set _ hKa)), by simpa using I₂, S, hq⟩
theorem Op.hardenD {a : Addr} {l : List (Int × V)} {xs : List V} {t : List Value → Sem Value} (h : Op X n st xs t (fun v st₁ => v = .obj a ∧ ∃ st₂, Dr a (.dictI l) st₁ st₂ ∧ Q (.dct l) st₂)) : Op X n st xs t Q := by
  intro K vs r A rest s ok I
  refine wpAny_mono (h K vs r A rest s ok I) ?_ fun _ _ e => e
  rintro u s₁ ⟨K₁, v, st₁, hK, rv, I₁, S, rfl, st₂, hd, hq⟩
  obtain ⟨pre, post, rfl, rfl⟩ := hd.split
  have I₁' : Inv X K₁ (pre ++ (a, .dictI l) :: (post ++ rest)) s₁.heap := by simpa using I₁
  have hlo : (a == sysModules) = false := I₁'.lo (a, .dictI l) (by simp)
  obtain ⟨o, ho, ⟨kvs, hdict, rl⟩, hKa, I₂⟩ := I₁'.harden
  obtain rfl := rv.obj_inv
  refine ⟨_, .dct l, pre ++ post, hK.trans (kle_set _ hKa), .dct kset_self hdict (rl.mono (kle_set _ hKa)) hlo, by simpa using I₂, S, hq⟩

theorem Op.one {x : V} {g : Value → Sem Value} (h : ∀ K u, RepV X K u x → TO X n K st (g u) (RepV X) Q) : Op X n st [x] (on1 g) Q := by
  intro K vs r; cases r with | cons r1 r => cases r; exact h K _ r1
theorem Op.two {x y : V} {g : Value → Value → Sem Value} (h : ∀ K u v, RepV X K u x → RepV X K v y → TO X n K st (g u v) (RepV X) Q) : Op X n st [x, y] (on2 g) Q := by
  intro K vs r; cases r with | cons r1 r => cases r with | cons r2 r => cases r; exact h K _ _ r1 r2
theorem OpB.one {x : V} {g : Value → Sem Bool} {Q : Bool → St → Prop} (h : ∀ K u, RepV X K u x → TO X n K st (g u) RepB Q) : OpB X n st [x] (on1 g) Q := by
  intro K vs r; cases r with | cons r1 r => cases r; exact h K _ r1
theorem OpU.two {x y : V} {g : Value → Value → Sem Unit} {Q : St → Prop} (h : ∀ K u v, RepV X K u x → RepV X K v y → TO X n K st (g u v) RepU (fun _ st' => Q st')) : OpU X n st [x, y] (on2 g) Q := by
  intro K vs r; cases r with | cons r1 r => cases r with | cons r2 r => cases r; exact h K _ _ r1 r2
theorem OpU.three {x y z : V} {g : Value → Value → Value → Sem Unit} {Q : St → Prop} (h : ∀ K u v w, RepV X K u x → RepV X K v y → RepV X K w z → TO X n K st (g u v w) RepU (fun _ st' => Q st')) : OpU X n st [x, y, z] (on3 g) Q := by
  intro K vs r; cases r with | cons r1 r => cases r with | cons r2 r => cases r with | cons r3 r => cases r; exact h K _ _ _ r1 r2 r3
theorem Call.one {c : Value} {x : V} (h : ∀ K u, RepV X K u x → TO X n K st (call c [u]) (RepV X) Q) : Call X n st c [x] Q := by
  intro K vs r; cases r with | cons r1 r => cases r; exact h K _ r1
theorem Call.two {c : Value} {x y : V} (h : ∀ K u v, RepV X K u x → RepV X K v y → TO X n K st (call c [u, v]) (RepV X) Q) : Call X n st c [x, y] Q := by
  intro K vs r; cases r with | cons r1 r => cases r with | cons r2 r => cases r; exact h K _ _ r1 r2

theorem Op.ii {a b : Int} {g : Value → Value → Sem Value} (h : ∀ K t1 t2, TO X n K st (g (.int a t1) (.int b t2)) (RepV X) Q) : Op X n st [.int a, .int b] (on2 g) Q :=
  .two fun K u v r1 r2 => by obtain ⟨_, rfl⟩ := r1.int_inv; obtain ⟨_, rfl⟩ := r2.int_inv; exact h K _ _
theorem op_add {a b : Int} (h : Q (.int (a + b)) st) : Op X n st [.int a, .int b] (on2 (binaryOp .Add)) Q :=
  .ii fun K t1 t2 => .read (x := V.int (a + b)) (fun A rest s R ok I k => PyProof.Rows.add_int (k _ _ (.int _ _))) h
theorem op_iadd {a b : Int} (h : Q (.int (a + b)) st) : Op X n st [.int a, .int b] (on2 (inplaceOp .Add)) Q :=
  .ii fun K t1 t2 => .read (x := V.int (a + b)) (fun A rest s R ok I k => wpAny_iadd_int (k _ _ (.int _ _))) h
theorem op_sub {a b : Int} (h : Q (.int (a - b)) st) : Op X n st [.int a, .int b] (on2 (binaryOp .Sub)) Q :=
  .ii fun K t1 t2 => .read (x := V.int (a - b)) (fun A rest s R ok I k => PyProof.Rows.sub_int (k _ _ (.int _ _))) h
theorem op_mod {a b : Int} (hb : b ≠ 0) (h : Q (.int (a.fmod b)) st) : Op X n st [.int a, .int b] (on2 (binaryOp .Mod)) Q :=
  .ii fun K t1 t2 => .read (x := V.int (a.fmod b)) (fun A rest s R ok I k => PyProof.Rows.mod_int' hb (k _ _ (.int _ _))) h
theorem op_fdiv {a b : Int} (hb : b ≠ 0) (hs : b.natAbs < 1073741824) (h : Q (.int (a.fdiv b)) st) : Op X n st [.int a, .int b] (on2 (binaryOp .FloorDiv)) Q :=
  .ii fun K t1 t2 => .read (x := V.int (a.fdiv b)) (fun A rest s R ok I k => PyProof.Rows.floordiv_int hb (k _ _ (.int _ _)) (.inl (PyProof.noPylong_small hs))) h
theorem op_mul {a b : Int} (ha : Builtin.Int.intBits a ≤ 64) (h : Q (.int (a * b)) st) : Op X n st [.int a, .int b] (on2 (binaryOp .Mult)) Q :=
  .ii fun K t1 t2 => .read (x := V.int (a * b)) (fun A rest s R ok I k => PyProof.Rows.mul_int (k _ _ (.int _ _)) (IntMulOk.of_left ha)) h
theorem op_neg {a : Int} (h : Q (.int (-a)) st) : Op X n st [.int a] (on1 (unaryOp .USub)) Q :=
  .one fun K u r1 => by obtain ⟨_, rfl⟩ := r1.int_inv; exact .read (x := V.int (-a)) (fun A rest s R ok I k => PyProof.Rows.neg_int (k _ _ (.int _ _))) h
theorem op_eq {a b : Int} (h : Q (.bool (a == b)) st) : Op X n st [.int a, .int b] (on2 (compareOp .Eq)) Q :=
  .ii fun K t1 t2 => .read (x := V.bool (a == b)) (fun A rest s R ok I k => PyProof.Rows.eq_int (k _ s.toks (.bool _))) h
theorem op_ne {a b : Int} (h : Q (.bool (a != b)) st) : Op X n st [.int a, .int b] (on2 (compareOp .NotEq)) Q :=
  .ii fun K t1 t2 => .read (x := V.bool (a != b)) (fun A rest s R ok I k => PyProof.Rows.ne_int (k _ s.toks (.bool _))) h
theorem op_lt {a b : Int} (h : Q (.bool (decide (a < b))) st) : Op X n st [.int a, .int b] (on2 (compareOp .Lt)) Q :=
  .ii fun K t1 t2 => .read (x := V.bool (decide (a < b))) (fun A rest s R ok I k => PyProof.Rows.lt_int (k _ s.toks (.bool _))) h
theorem op_gt {a b : Int} (h : Q (.bool (decide (b < a))) st) : Op X n st [.int a, .int b] (on2 (compareOp .Gt)) Q :=
  .ii fun K t1 t2 => .read (x := V.bool (decide (b < a))) (fun A rest s R ok I k => PyProof.Rows.gt_int (k _ s.toks (.bool _))) h
theorem op_ge {a b : Int} (h : Q (.bool (decide (b ≤ a))) st) : Op X n st [.int a, .int b] (on2 (compareOp .GtE)) Q :=
  .ii fun K t1 t2 => .read (x := V.bool (decide (b ≤ a))) (fun A rest s R ok I k => PyProof.Rows.ge_int (k _ s.toks (.bool _))) h
theorem op_neb {a b : Bool} (h : Q (.bool (a != b)) st) : Op X n st [.bool a, .bool b] (on2 (compareOp .NotEq)) Q :=
  .two fun K u v r1 r2 => by obtain rfl := r1.bool_inv; obtain rfl := r2.bool_inv; exact .read (x := V.bool (a != b)) (fun A rest s R ok I k => PyProof.Rows.ne_bool (k _ s.toks (.bool _))) h

theorem op_adds {a b : Str} (hl : a.length + b.length ≤ 1000) (h : Q (.str (a ++ b)) st) : Op X n st [.str a, .str b] (on2 (binaryOp .Add)) Q :=
  .two fun K u v r1 r2 => by obtain ⟨_, rfl⟩ := r1.str_inv; obtain ⟨_, rfl⟩ := r2.str_inv; exact .read (x := V.str (a ++ b)) (fun A rest s R ok I k => PyProof.Rows.add_str (fun t' tk => k _ _ (.str _ _)) (by rw [sizeLine_eq]; lia)) h


noncomputable def vi (l : List Int) : List V := l.map V.int
theorem vi_nil : vi [] = [] := rfl
theorem vi_cons (a : Int) (l : List Int) : vi (a :: l) = .int a :: vi l := rfl
theorem vi_append (a b : List Int) : vi (a ++ b) = vi a ++ vi b := by simp [vi]
theorem vi_length (l : List Int) : (vi l).length = l.length := by simp [vi]
theorem vi_take (n : Nat) (l : List Int) : (vi l).take n = vi (l.take n) := by simp [vi, List.map_take]
theorem vi_drop (n : Nat) (l : List Int) : (vi l).drop n = vi (l.drop n) := by simp [vi, List.map_drop]
theorem ints_of {X : Cx} {K : KM} : ∀ {vs : List Value} {l : List Int}, RepL X K vs (vi l) → IntsAre vs l
  | _, [], h => by cases h; exact .nil
  | _, a :: l, h => by
    obtain ⟨u, us, rfl, r, t⟩ := RepL.cons_inv h
    obtain ⟨tk, rfl⟩ := r.int_inv
    exact .cons a tk (ints_of t)
theorem rep_of_ints {X : Cx} {K : KM} {vs : List Value} {l : List Int} (h : IntsAre vs l) : RepL X K vs (vi l) := by
  induction h with
  | nil => exact .nil
  | cons n t _ ih => exact .cons (.int n t) ih
theorem ints_get {vs : List Value} {l : List Int} (h : IntsAre vs l) : ∀ (j : Nat) (h1 : j < vs.length), ∃ t, vs[j] = .int (l[j]?.getD 0) t := by
  induction h with
  | nil => intro j h1; simp at h1
  | cons n t _ ih =>
    intro j h1
    cases j with
    | zero => exact ⟨t, rfl⟩
    | succ j => obtain ⟨u, hu⟩ := ih j (by simpa using h1); exact ⟨u, by simpa using hu⟩
theorem ints_len {vs : List Value} {l : List Int} (h : IntsAre vs l) : vs.length = l.length := by
  induction h with
  | nil => rfl
  | cons _ _ _ ih => simp [ih]

theorem eqAt_ints {xs ys : Array Value} {a b : List Int} {A : Around} {s : Shared} (h1 : IntsAre xs.toList a) (h2 : IntsAre ys.toList b) :
    ∀ j (p : j < xs.size) (q : j < ys.size), SeqAt.EqAt A s xs[j] ys[j] (a[j]?.getD 0 == b[j]?.getD 0) := by
  intro j p q
  obtain ⟨t, ht⟩ := ints_get h1 j (by simpa using p)
  obtain ⟨u, hu⟩ := ints_get h2 j (by simpa using q)
  rw [Array.getElem_toList] at ht hu
  rw [ht, hu]
  exact (MeetsSeq.EqGives.int _ _ _ _).at _ _
theorem all_min : ∀ (a b : List Int), ((List.range (min a.length b.length)).all (fun j => a[j]?.getD 0 == b[j]?.getD 0) && a.length == b.length) = (a == b)
  | [], [] => rfl
  | [], b :: bs => by simp
  | a :: as, [] => by simp
  | a :: as, b :: bs => by
    have ih := all_min as bs
    rw [List.cons_beq_cons, ← ih]
    simp only [List.length_cons, Nat.succ_min_succ, List.range_succ_eq_map, List.all_cons, List.all_map]
    have e1 : (as.length + 1 == bs.length + 1) = (as.length == bs.length) := by rw [Bool.eq_iff_iff]; simp
    rw [e1, Bool.and_assoc]
    congr 1
theorem int_any (i : Int) {vs : List Value} {l : List Int} (h : IntsAre vs l) (e : Value → Bool) (he : ∀ n t, e (.int n t) = (n == i)) : vs.any e = l.contains i := by
  induction h with
  | nil => rfl
  | cons n t _ ih =>
    rw [List.any_cons, ih, he, List.contains_cons]
    congr 1
    by_cases e : n = i
    · subst e; rfl
    · rw [beq_eq_false_iff_ne.mpr e, beq_eq_false_iff_ne.mpr (Ne.symm e)]

inductive LV (st : St) : V → List V → Prop
  | lst (l : List V) : LV st (.lst l) l
  | obj {a : Addr} {l : List V} : At a (.list l) st → LV st (.obj a) l
theorem LV.rep {K : KM} {rest : St} {h : Heap} {u : Value} {x : V} {l : List V} (v : LV st x l) (I : Inv X K (st ++ rest) h) (r : RepV X K u x) :
    ∃ a items m, u = .ref a ∧ h.get? a = some ⟨.type "list", .none, .seq items m, #[]⟩ ∧ RepL X K items.toList l := by
  cases v with
  | lst => obtain ⟨a, it, n, rfl, e, r⟩ := r.lst_inv; exact ⟨_, _, _, rfl, I.kept _ _ e, r⟩
  | obj hA =>
    obtain rfl := r.obj_inv
    obtain ⟨o, ho, ⟨items, m, rfl, rl⟩, _⟩ := I.at hA
    exact ⟨_, _, _, rfl, ho, rl⟩
theorem tup_rep {K : KM} {rest : St} {h : Heap} {u : Value} {l : List V} (I : Inv X K (st ++ rest) h) (r : RepV X K u (.tup l)) :
    ∃ a items m, u = .ref a ∧ h.get? a = some ⟨.type "tuple", .none, .seq items m, #[]⟩ ∧ RepL X K items.toList l := by
  obtain ⟨a, it, n, rfl, e, r⟩ := r.tup_inv; exact ⟨_, _, _, rfl, I.kept _ _ e, r⟩
theorem isList {h : Heap} {a : Addr} {items : Array Value} {m : Nat} (e : h.get? a = some ⟨.type "list", .none, .seq items m, #[]⟩) : h.IsList a items := ⟨_, e, rfl, m, rfl⟩
theorem isTuple {h : Heap} {a : Addr} {items : Array Value} {m : Nat} (e : h.get? a = some ⟨.type "tuple", .none, .seq items m, #[]⟩) : h.IsTuple a items := ⟨_, e, rfl, m, rfl⟩

theorem op_eqt {a b : List Int} (h : Q (.bool (a == b)) st) : Op X n st [.tup (vi a), .tup (vi b)] (on2 (compareOp .Eq)) Q :=
  .two fun K u v r1 r2 => .read (x := V.bool (a == b)) (fun A rest s R ok I k => by
    obtain ⟨p, xs, m1, rfl, e1, q1⟩ := tup_rep I r1
    obtain ⟨q, ys, m2, rfl, e2, q2⟩ := tup_rep I r2
    have i1 := ints_of q1
    have i2 := ints_of q2
    have l1 : xs.size = a.length := by rw [← ints_len i1]; simp
    have l2 : ys.size = b.length := by rw [← ints_len i2]; simp
    refine SeqAt.eq_tupleAt (isTuple e1) (isTuple e2) (by have := ok.units 0; lia) (eqAt_ints i1 i2) ?_
    rw [l1, l2, all_min]; exact k _ s.toks (.bool _)) h
theorem op_net {a b : List Int} (h : Q (.bool (a != b)) st) : Op X n st [.tup (vi a), .tup (vi b)] (on2 (compareOp .NotEq)) Q :=
  .two fun K u v r1 r2 => .read (x := V.bool (a != b)) (fun A rest s R ok I k => by
    obtain ⟨p, xs, m1, rfl, e1, q1⟩ := tup_rep I r1
    obtain ⟨q, ys, m2, rfl, e2, q2⟩ := tup_rep I r2
    have i1 := ints_of q1
    have i2 := ints_of q2
    have l1 : xs.size = a.length := by rw [← ints_len i1]; simp
    have l2 : ys.size = b.length := by rw [← ints_len i2]; simp
    refine SeqAt.RcNeAt.tuples (isTuple e1) (isTuple e2) (by have := ok.units 0; lia) (eqAt_ints i1 i2) _ _ _ _ ?_
    rw [l1, l2, all_min]; exact k _ s.toks (.bool _)) h
theorem all_len (a b : List Int) (hl : a.length = b.length) : ((List.range a.length).all (fun j => a[j]?.getD 0 == b[j]?.getD 0)) = (a == b) := by
  rw [← all_min, ← hl, Nat.min_self]; simp
theorem op_eql {x y : V} {a b : List Int} (hx : LV st x (vi a)) (hy : LV st y (vi b)) (h : Q (.bool (a == b)) st) : Op X n st [x, y] (on2 (compareOp .Eq)) Q :=
  .two fun K u v r1 r2 => .read (x := V.bool (a == b)) (fun A rest s R ok I k => by
    obtain ⟨p, xs, m1, rfl, e1, q1⟩ := hx.rep I r1
    obtain ⟨q, ys, m2, rfl, e2, q2⟩ := hy.rep I r2
    have i1 := ints_of q1
    have i2 := ints_of q2
    have l1 : xs.size = a.length := by rw [← ints_len i1]; simp
    have l2 : ys.size = b.length := by rw [← ints_len i2]; simp
    by_cases hl : a.length = b.length
    · refine SeqAt.eq_listAt (isList e1) (isList e2) (by lia) (by have := ok.units 0; lia) (eqAt_ints i1 i2) ?_
      rw [l1, all_len a b hl]; exact k _ s.toks (.bool _)
    · refine SeqAt.eq_list_lengthsAt (isList e1) (isList e2) (by rw [l1, l2]; exact bne_iff_ne.mpr hl) (by have := ok.units 0; lia) ?_
      have : (a == b) = false := by rw [beq_eq_false_iff_ne]; rintro rfl; exact hl rfl
      rw [← this]; exact k _ s.toks (.bool _)) h
theorem op_nel {x y : V} {a b : List Int} (hx : LV st x (vi a)) (hy : LV st y (vi b)) (h : Q (.bool (a != b)) st) : Op X n st [x, y] (on2 (compareOp .NotEq)) Q :=
  .two fun K u v r1 r2 => .read (x := V.bool (a != b)) (fun A rest s R ok I k => by
    obtain ⟨p, xs, m1, rfl, e1, q1⟩ := hx.rep I r1
    obtain ⟨q, ys, m2, rfl, e2, q2⟩ := hy.rep I r2
    have i1 := ints_of q1
    have i2 := ints_of q2
    have l1 : xs.size = a.length := by rw [← ints_len i1]; simp
    have l2 : ys.size = b.length := by rw [← ints_len i2]; simp
    by_cases hl : a.length = b.length
    · refine SeqAt.RcNeAt.lists (isList e1) (isList e2) (by lia) (by have := ok.units 0; lia) (eqAt_ints i1 i2) _ _ _ _ ?_
      rw [l1, all_len a b hl]; exact k _ s.toks (.bool _)
    · refine SeqAt.RcNeAt.lists_lengths (isList e1) (isList e2) (by rw [l1, l2]; exact bne_iff_ne.mpr hl) (by have := ok.units 0; lia) _ _ _ _ ?_
      have : (a != b) = true := by rw [bne_iff_ne]; rintro rfl; exact hl rfl
      rw [← this]; exact k _ s.toks (.bool _)) h

noncomputable def isI (i : Int) : Value → Bool
  | .int n _ => n == i
  | _ => false
theorem eqAt_isI {i : Int} {t : Tok} {vs : Array Value} {l : List Int} (h : IntsAre vs.toList l) {A : Around} {s : Shared} : ∀ y ∈ vs, SeqAt.EqAt A s y (.int i t) (isI i y) := by
  intro y hy
  have hm : y ∈ vs.toList := by simpa using hy
  clear hy
  generalize vs.toList = us at h hm
  induction h with
  | nil => cases hm
  | cons n t _ ih =>
    rcases List.mem_cons.mp hm with rfl | hm
    · exact (MeetsSeq.EqGives.int _ _ _ _).at _ _
    · exact ih hm
theorem any_isI {i : Int} {vs : Array Value} {l : List Int} (h : IntsAre vs.toList l) : vs.any (isI i) = l.contains i := by
  rw [← Array.any_toList]; exact int_any i h _ fun _ _ => rfl
theorem op_inl {x : V} {i : Int} {l : List Int} (hx : LV st x (vi l)) (h : Q (.bool (l.contains i)) st) : Op X n st [.int i, x] (on2 (compareOp .In)) Q :=
  .two fun K u v r1 r2 => .read (x := V.bool (l.contains i)) (fun A rest s R ok I k => by
    obtain ⟨p, xs, m1, rfl, e1, q1⟩ := hx.rep I r2
    obtain ⟨_, rfl⟩ := r1.int_inv
    refine SeqAt.in_listAt (isI i) (isList e1) (eqAt_isI (ints_of q1)) ?_
    rw [any_isI (ints_of q1)]; exact k _ s.toks (.bool _)) h
theorem op_ninl {x : V} {i : Int} {l : List Int} (hx : LV st x (vi l)) (h : Q (.bool (!l.contains i)) st) : Op X n st [.int i, x] (on2 (compareOp .NotIn)) Q :=
  .two fun K u v r1 r2 => .read (x := V.bool (!l.contains i)) (fun A rest s R ok I k => by
    obtain ⟨p, xs, m1, rfl, e1, q1⟩ := hx.rep I r2
    obtain ⟨_, rfl⟩ := r1.int_inv
    refine SeqAt.notIn_listAt (isI i) (isList e1) (eqAt_isI (ints_of q1)) ?_
    rw [any_isI (ints_of q1)]; exact k _ s.toks (.bool _)) h
theorem op_int {i : Int} {l : List Int} (h : Q (.bool (l.contains i)) st) : Op X n st [.int i, .tup (vi l)] (on2 (compareOp .In)) Q :=
  .two fun K u v r1 r2 => .read (x := V.bool (l.contains i)) (fun A rest s R ok I k => by
    obtain ⟨p, xs, m1, rfl, e1, q1⟩ := tup_rep I r2
    obtain ⟨_, rfl⟩ := r1.int_inv
    refine SeqAt.in_tupleAt (isI i) (isTuple e1) (eqAt_isI (ints_of q1)) ?_
    rw [any_isI (ints_of q1)]; exact k _ s.toks (.bool _)) h
theorem op_nint {i : Int} {l : List Int} (h : Q (.bool (!l.contains i)) st) : Op X n st [.int i, .tup (vi l)] (on2 (compareOp .NotIn)) Q :=
  .two fun K u v r1 r2 => .read (x := V.bool (!l.contains i)) (fun A rest s R ok I k => by
    obtain ⟨p, xs, m1, rfl, e1, q1⟩ := tup_rep I r2
    obtain ⟨_, rfl⟩ := r1.int_inv
    refine SeqAt.notIn_tupleAt (isI i) (isTuple e1) (eqAt_isI (ints_of q1)) ?_
    rw [any_isI (ints_of q1)]; exact k _ s.toks (.bool _)) h
end
section
variable {X : Cx} {n : Nat} {env : Env} {f : Fm} {st st' : St} {Q : V → St → Prop} {pos : Pos}

theorem seqIndex_nat {k : Int} {n : Nat} (h0 : 0 ≤ k) (hn : k < n) : seqIndex? k n = some k.toNat := seqIndex_of h0 hn

theorem op_itemL {v i : Expr} {x y : V} {l : List V} {k : Int} (hx : LV st x l) (h0 : 0 ≤ k) (hk : k < 1000000) (hy : l[k.toNat]? = some y) (h : Q y st)
    (hs : ∀ o j, subscripted i false o j = operate [o, j] (getItem o j) := by intro _ _; with_unfolding_all rfl) : Op X n st [x, .int k] (on2 (subscriptTail v i)) Q :=
  .two fun K u w r1 r2 => .read (x := y) (fun A rest s R ok I kk => by
    obtain ⟨p, xs, m1, rfl, e1, q1⟩ := hx.rep I r1
    obtain ⟨_, rfl⟩ := r2.int_inv
    obtain ⟨z, hz, rz⟩ := q1.get _ _ hy
    exact tail_any (isList e1).typeIs slot_list_getitem.lookup (wpAny_getItem_list (isList e1) h0 (by lia) (by simpa using hz) (kk z s.toks rz)) (hs _ _)) h
theorem op_itemT {v i : Expr} {y : V} {l : List V} {k : Int} (h0 : 0 ≤ k) (hk : k < 1000000) (hy : l[k.toNat]? = some y) (h : Q y st)
    (hs : ∀ o j, subscripted i false o j = operate [o, j] (getItem o j) := by intro _ _; with_unfolding_all rfl) : Op X n st [.tup l, .int k] (on2 (subscriptTail v i)) Q :=
  .two fun K u w r1 r2 => .read (x := y) (fun A rest s R ok I kk => by
    obtain ⟨p, xs, m1, rfl, e1, q1⟩ := tup_rep I r1
    obtain ⟨_, rfl⟩ := r2.int_inv
    obtain ⟨z, hz, rz⟩ := q1.get _ _ hy
    have hlt : k.toNat < xs.size := by
      have := (List.getElem?_eq_some_iff.mp hz).1; simpa using this
    exact tail_any (IsTup.typeIs (show IsTup s.heap p xs from ⟨_, e1, rfl, m1, rfl⟩)) slot_tuple_getitem.lookup
      (getItem_tuple (show IsTup s.heap p xs from ⟨_, e1, rfl, m1, rfl⟩) (by lia) (by lia) (seqIndex_nat h0 (by lia)) (by simpa using hz) (kk z s.toks rz)) (hs _ _)) h
theorem op_itemS {v i : Expr} {a : Str} {k : Int} {c : Nat} (h0 : 0 ≤ k) (hk : k < 1000000) (hc : (seqIndex? k a.length).bind (a.cps[·]?) = some c) (h : Q (.str ⟨#[c]⟩) st)
    (hs : ∀ o j, subscripted i false o j = operate [o, j] (getItem o j) := by intro _ _; with_unfolding_all rfl) : Op X n st [.str a, .int k] (on2 (subscriptTail v i)) Q :=
  .two fun K u w r1 r2 => .read (x := V.str ⟨#[c]⟩) (fun A rest s R ok I kk => by
    obtain ⟨_, rfl⟩ := r1.str_inv; obtain ⟨_, rfl⟩ := r2.int_inv
    refine tail_any (typeIs_str _ _ _) slot_str_getitem.lookup (PyProof.Rows.getItem_str ?_ hc (kk _ _ (.str _ _))) (hs _ _)
    have h1 : ¬ k < -(2 ^ 63 : Int) := by lia
    have h2 : ¬ k ≥ (2 ^ 63 : Int) := by lia
    rw [decide_eq_false h1, decide_eq_false h2]; rfl) h
theorem op_setL {a : Addr} {l : List V} {k : Int} {z : V} {Q : St → Prop} (u : Up a (.list l) (.list (l.set k.toNat z)) st st') (h0 : 0 ≤ k) (hk : k < l.length) (hf : l.length ≤ 1000000) (h : Q st') : OpU X n st [.obj a, .int k, z] (on3 setItem) Q :=
  .three fun K x y w r1 r2 r3 => .upd (x := ()) (Q := fun _ st' => Q st') u (fun A rest s R o ok I hlo ho ro kk => by
    obtain rfl := r1.obj_inv; obtain ⟨_, rfl⟩ := r2.int_inv
    obtain ⟨items, m, rfl, rl⟩ := ro
    have hl := rl.length
    rw [Array.length_toList] at hl
    refine ki_setAt (n := m) ho h0 (by lia) (by lia) ?_
    exact kk () _ s.toks _ (fun b o hb e => (Heap.get?_update_ne _ _ _ _ hb).trans e) (get?_update_seq ho _) ⟨_, _, rfl, by simpa using rl.set k.toNat r3⟩ True.intro) h

theorem c_len {x : V} {l : List V} (hx : LV st x l) (hl : l.length ≤ 1000000) (h : Q (.int l.length) st) : Call X n st (.builtin "len") [x] Q :=
  .one fun K u r => .read (x := V.int l.length) (fun A rest s R ok I kk => by
    obtain ⟨p, xs, m1, rfl, e1, q1⟩ := hx.rep I r
    have hl' : xs.size = l.length := by rw [← q1.length]; simp
    refine call_len_list (isList e1) (by lia) ?_
    rw [hl']; exact kk _ _ (.int _ _)) h
theorem c_lenT {l : List V} (hl : l.length ≤ 1000000) (h : Q (.int l.length) st) : Call X n st (.builtin "len") [.tup l] Q :=
  .one fun K u r => .read (x := V.int l.length) (fun A rest s R ok I kk => by
    obtain ⟨p, xs, m1, rfl, e1, q1⟩ := tup_rep I r
    have hl' : xs.size = l.length := by rw [← q1.length]; simp
    refine PyProof.Rows.len_tuple (show IsTup s.heap p xs from ⟨_, e1, rfl, m1, rfl⟩) (by lia) ?_
    rw [hl']; exact kk _ _ (.int _ _)) h
theorem t_list {x : V} {l : List V} {Q : Bool → St → Prop} (hx : LV st x l) (hl : l.length ≤ 1000000) (h : Q (!l.isEmpty) st) : OpB X n st [x] (on1 truthy) Q :=
  .one fun K u r => .read (x := !l.isEmpty) (fun A rest s R ok I kk => by
    obtain ⟨p, xs, m1, rfl, e1, q1⟩ := hx.rep I r
    have hl' : xs.size = l.length := by rw [← q1.length]; simp
    refine wpAny_truthy_list (isList e1) (by lia) ?_
    have e : xs.isEmpty = l.isEmpty := by rw [Array.isEmpty, hl']; cases l <;> simp
    rw [e]; exact kk _ _ rfl) h
theorem t_bool {b : Bool} {Q : Bool → St → Prop} (h : Q b st) : OpB X n st [.bool b] (on1 truthy) Q :=
  .one fun K u r => .read (x := b) (fun A rest s R ok I kk => by obtain rfl := r.bool_inv; exact wpAny_truthy_bool (kk _ s.toks rfl)) h

theorem c_append {a : Addr} {l : List V} {z : V} (u : Up a (.list l) (.list (l ++ [z])) st st') (hl : l.length ≤ 1000000) (h : Q .none st') : Call X n st (.builtin "list.append") [.obj a, z] Q :=
  .two fun K x w r1 r3 => .upd (x := V.none) u (fun A rest s R o ok I hlo ho ro kk => by
    obtain rfl := r1.obj_inv
    obtain ⟨items, m, rfl, rl⟩ := ro
    have hl' : items.size = l.length := by rw [← rl.length]; simp
    refine append_at ho (fun h' hs hD => ?_) (by rw [sizeLine_eq]; lia)
    exact kk .none h' s.toks _ (fun b o hb e => (hs.2 b hb).trans e) hD ⟨_, _, rfl, by simpa using rl.snoc r3⟩ .none) h

theorem c_range1 {k : Int} (h : Q (.rng 0 k) st) : Call X n st (.type "range") [.int k] Q :=
  .one fun K u r => .fresh (x := V.rng 0 k) (fun A rest s R ok I kk => by
    obtain ⟨_, rfl⟩ := r.int_inv
    refine call_range_1 (kk _ _ _ _ (new_none (Nat.le_refl _)) (fun b o e => Heap.get?_push_of_some _ e) (Heap.get?_push_size _ rfl) fun _ => .rng kset_self)) h
theorem c_range2 {a b : Int} (h : Q (.rng a b) st) : Call X n st (.type "range") [.int a, .int b] Q :=
  .two fun K u w r r' => .fresh (x := V.rng a b) (fun A rest s R ok I kk => by
    obtain ⟨_, rfl⟩ := r.int_inv; obtain ⟨_, rfl⟩ := r'.int_inv
    refine call_range_2 (kk _ _ _ _ (new_none (Nat.le_refl _)) (fun b o e => Heap.get?_push_of_some _ e) (Heap.get?_push_size _ rfl) fun _ => .rng kset_self)) h
theorem c_str {k : Int} (hk : k.natAbs.log2 < 1920) (h : Q (.str (Str.ofString (toString k))) st) : Call X n st (.type "str") [.int k] Q :=
  .one fun K u r => .read (x := V.str (Str.ofString (toString k))) (fun A rest s R ok I kk => by
    obtain ⟨_, rfl⟩ := r.int_inv
    exact P.str_of_int hk (kk _ _ (.str _ _))) h
theorem c_tupleL {x : V} {l : List V} (hx : LV st x l) (hl : l.length ≤ 100000) (h : Q (.tup l) st) : Call X n st (.type "tuple") [x] Q :=
  .one fun K u r => .fresh (x := V.tup l) (fun A rest s R ok I kk => by
    obtain ⟨p, xs, m1, rfl, e1, q1⟩ := hx.rep I r
    have hl' : xs.size = l.length := by rw [← q1.length]; simp
    refine call_tuple_list (isList e1) (fun h' hk => ?_) (by rw [sizeLine_eq]; lia)
    exact kk _ _ _ s.toks (none_back hk (new_none (Nat.le_refl _))) (fun b o e => Heap.get?_push_of_some _ (hk b o e)) (Heap.get?_push_size _ rfl) fun hK => .tup kset_self (q1.mono hK)) h
theorem c_tupleT {l : List V} (h : Q (.tup l) st) : Call X n st (.type "tuple") [.tup l] Q :=
  .one fun K u r => .read (x := V.tup l) (fun A rest s R ok I kk => by
    obtain ⟨p, xs, m1, rfl, e1, q1⟩ := tup_rep I r
    exact call_tuple_same (isTuple e1) (kk _ s.toks r)) h

theorem meets_pop (l : Addr) (items : Array Value) (n : Nat) (y : Value) (k : Nat) (hk : items.size = k + 1) (hy : items[k]? = some y) (hsz : items.size ≤ sizeLine) :
    Meets (Builtin.«list.pop» ⟨[.ref l], []⟩) (fun _ R s => s.heap.get? l = some { cls := .type "list", dict := none, data := .seq items n, slots := #[] } ∧ R (.ok (.ret y)) { s with heap := s.heap.update l (Obj.mapSeq (·.eraseIdxIfInBounds k)) }) :=
  .of_wp fun prog w A R s h => by
    obtain ⟨hp, g, d, tk, os⟩ := s; obtain ⟨hl, h⟩ := h
    have hz' : (items.eraseIdxIfInBounds k).size ≤ sizeLine + 1 := by
      unfold Array.eraseIdxIfInBounds
      split
      · rw [Array.size_eraseIdx]; lia
      · lia
    have hne : ¬ items.isEmpty = true := by rw [Array.isEmpty, hk]; simp
    have hb : ((seqIndex? (-1) items.size).bind fun k => items[k]?.map (k, ·)) = some (k, y) := by
      have : seqIndex? (-1) items.size = some k := by
        unfold seqIndex?
        rw [hk]
        simp
        lia
      rw [this]; simp [hy]
    have hb' : ((seqIndex? (-1) items.size).bind fun k => Option.map (fun x => (k, x)) items[k]?) = some (k, y) := hb
    wp_walk using (wpAny_updateSeq hl rfl (hz := hsz) (_hz' := hz'))
    rw [hb']
    wp_walk using (wpAny_updateSeq hl rfl (hz := hsz) (_hz' := hz'))
    exact ⟨_, rfl, h⟩
theorem c_pop {a : Addr} {l : List V} {z : V} (u : Up a (.list (l ++ [z])) (.list l) st st') (hl : l.length ≤ 1000000) (h : Q z st') : Call X n st (.builtin "list.pop") [.obj a] Q :=
  .one fun K x r1 => .upd (x := z) u (fun A rest s R o ok I hlo ho ro kk => by
    obtain rfl := r1.obj_inv
    obtain ⟨items, m, rfl, rl⟩ := ro
    have hl' : items.size = l.length + 1 := by rw [← Array.length_toList, rl.length]; simp
    obtain ⟨y, hy, ry⟩ := rl.get l.length z (by simp)
    refine call_meets F.slot_list_pop ⟨_, ho, rfl⟩ F.entry_list_pop (F.args_list_pop_1 _) (meets_pop a items m y l.length hl' (by simpa using hy) (by rw [sizeLine_eq]; lia)) ⟨ho, ?_⟩
    refine kk y _ s.toks _ (fun b o hb e => (Heap.get?_update_ne _ _ _ _ hb).trans e) (get?_update_seq ho _) ⟨_, _, rfl, ?_⟩ ry
    have := rl.dropLast
    rw [List.dropLast_concat] at this
    have e : (items.eraseIdxIfInBounds l.length).toList = items.toList.dropLast := by
      unfold Array.eraseIdxIfInBounds
      rw [dif_pos (by lia), Array.toList_eraseIdx]
      have hll : items.toList.length = l.length + 1 := by rw [Array.length_toList]; exact hl'
      generalize items.toList = us at hll
      show us.eraseIdx l.length = us.dropLast
      rw [List.dropLast_eq_take, List.eraseIdx_eq_take_drop_succ, hll, List.drop_of_length_le (by lia)]
      simp
    rw [e]; exact this) h

theorem noR_list : typeLookup (.type "list") (dunderR "add") = pure none := by rw [typeLookup_type, builtinLookup_eq_fast]; kernel_rfl
theorem noR_tuple : typeLookup (.type "tuple") (dunderR "add") = pure none := by rw [typeLookup_type, builtinLookup_eq_fast]; kernel_rfl
theorem noFill_list : fillsNumberSlot (.type "list") "add" = pure false := PySem.fillsNumberSlot_seq (id := "list.__add__") (r := none) F.slot_list_add.lookup (by decide +kernel) noR_list rfl
theorem noFill_tuple : fillsNumberSlot (.type "tuple") "add" = pure false := PySem.fillsNumberSlot_seq (id := "tuple.__add__") (r := none) F.slot_tuple_add.lookup (by decide +kernel) noR_tuple rfl
theorem seqs_list : seqSlot? (.type "list") "__add__" = pure (some (.builtin "list.__add__")) := PySem.seqSlot_of F.slot_list_add.lookup (by decide +kernel)
theorem seqs_tuple : seqSlot? (.type "tuple") "__add__" = pure (some (.builtin "tuple.__add__")) := PySem.seqSlot_of F.slot_tuple_add.lookup (by decide +kernel)
theorem op_addL {x y : V} {a b : List V} (hx : LV st x a) (hy : LV st y b) (hl : a.length + b.length ≤ 1000000) (h : ∀ D, Q (.obj D) ((D, .list (a ++ b)) :: st)) : Op X n st [x, y] (on2 (binaryOp .Add)) Q :=
  .two fun K u v r1 r2 => .freshM (x := .list (a ++ b)) (fun A rest s R ok I kk => by
    obtain ⟨p, xs, m1, rfl, e1, q1⟩ := hx.rep I r1
    obtain ⟨q, ys, m2, rfl, e2, q2⟩ := hy.rep I r2
    have l1 : xs.size = a.length := by rw [← q1.length]; simp
    have l2 : ys.size = b.length := by rw [← q2.length]; simp
    refine concat_meets (isList e1).typeIs (isList e2).typeIs noFill_list seqs_list F.slot_list_add F.entry_list_add (F.args_list_add_2 _ _) (AutoSeq1.list___add___list_list_0 p xs m1 q ys m2 (by rw [sizeLine_eq]; lia)) ⟨e1, e2, ?_⟩
    exact kk _ _ _ s.toks (Nat.le_refl _) (fun b o e => Heap.get?_push_of_some _ e) (Heap.get?_push_size _ rfl) ⟨_, 0, rfl, by simpa using q1.append q2⟩) h
theorem op_addT {a b : List V} (hl : a.length + b.length ≤ 1000000) (h : Q (.tup (a ++ b)) st) : Op X n st [.tup a, .tup b] (on2 (binaryOp .Add)) Q := by
  refine .two fun K u v r1 r2 => ?_
  by_cases ha : a = []
  · subst ha
    refine .read (x := V.tup b) (fun A rest s R ok I kk => ?_) h
    obtain ⟨p, xs, m1, rfl, e1, q1⟩ := tup_rep I r1
    obtain ⟨q, ys, m2, rfl, e2, q2⟩ := tup_rep I r2
    have l1 : xs.size = 0 := by have := q1.length; simpa using this
    exact concat_meets ⟨_, e1, rfl⟩ ⟨_, e2, rfl⟩ noFill_tuple seqs_tuple F.slot_tuple_add F.entry_tuple_add (F.args_tuple_add_2 _ _) (AutoSeq1.tuple___add___tuple_tuple_0 p xs m1 q ys m2 (by rw [Array.isEmpty, l1]; rfl)) ⟨e1, e2, kk _ s.toks r2⟩
  · by_cases hb : b = []
    · subst hb
      rw [List.append_nil] at h
      refine .read (x := V.tup a) (fun A rest s R ok I kk => ?_) h
      obtain ⟨p, xs, m1, rfl, e1, q1⟩ := tup_rep I r1
      obtain ⟨q, ys, m2, rfl, e2, q2⟩ := tup_rep I r2
      have l1 : xs.size = a.length := by rw [← q1.length]; simp
      have l2 : ys.size = 0 := by have := q2.length; simpa using this
      have ha' : a.length ≠ 0 := fun e => ha (List.length_eq_zero_iff.mp e)
      exact concat_meets ⟨_, e1, rfl⟩ ⟨_, e2, rfl⟩ noFill_tuple seqs_tuple F.slot_tuple_add F.entry_tuple_add (F.args_tuple_add_2 _ _) (AutoSeq1.tuple___add___tuple_tuple_1 p xs m1 q ys m2 (by rw [Array.isEmpty, l1]; simpa using ha') (by rw [Array.isEmpty, l2]; rfl)) ⟨e1, e2, kk _ s.toks r1⟩
    · refine .fresh (x := V.tup (a ++ b)) (fun A rest s R ok I kk => ?_) h
      obtain ⟨p, xs, m1, rfl, e1, q1⟩ := tup_rep I r1
      obtain ⟨q, ys, m2, rfl, e2, q2⟩ := tup_rep I r2
      have l1 : xs.size = a.length := by rw [← q1.length]; simp
      have l2 : ys.size = b.length := by rw [← q2.length]; simp
      have ha' : a.length ≠ 0 := fun e => ha (List.length_eq_zero_iff.mp e)
      have hb' : b.length ≠ 0 := fun e => hb (List.length_eq_zero_iff.mp e)
      refine concat_meets ⟨_, e1, rfl⟩ ⟨_, e2, rfl⟩ noFill_tuple seqs_tuple F.slot_tuple_add F.entry_tuple_add (F.args_tuple_add_2 _ _) (AutoSeq1.tuple___add___tuple_tuple_2 p xs m1 q ys m2 (by rw [Array.isEmpty, l1]; simpa using ha') (by rw [Array.isEmpty, l2]; simpa using hb') (by rw [sizeLine_eq]; lia)) ⟨e1, e2, ?_⟩
      exact kk _ _ _ s.toks (new_none (Nat.le_refl _)) (fun b o e => Heap.get?_push_of_some _ e) (Heap.get?_push_size _ rfl) fun hK => .tup kset_self (by simpa using (q1.append q2).mono hK)
theorem c_extend {a : Addr} {l m : List V} {y : V} (u : Up a (.list l) (.list (l ++ m)) st st') (hy : LV st y m) (hl : l.length + m.length ≤ 1000000) (h : Q .none st') : Call X n st (.builtin "list.extend") [.obj a, y] Q :=
  .two fun K x w r1 r2 => .upd (x := V.none) u (fun A rest s R o ok I hlo ho ro kk => by
    obtain rfl := r1.obj_inv
    obtain ⟨items, mm, rfl, rl⟩ := ro
    obtain ⟨q, ys, m2, rfl, e2, q2⟩ := hy.rep I r2
    have l1 : items.size = l.length := by rw [← rl.length]; simp
    have l2 : ys.size = m.length := by rw [← q2.length]; simp
    refine call_meets F.slot_list_extend ⟨_, ho, rfl⟩ F.entry_list_extend (F.args_list_extend_2 _ _) (AutoSeq1.list_extend_list_list_0 a items mm q ys m2 ?_ (by rw [sizeLine_eq]; lia) (by rw [sizeLine_eq]; lia)) ⟨ho, e2, ?_⟩
    · have : Builtin.List.listTooLong (items.size + ys.size) = false := by unfold Builtin.List.listTooLong; rw [sizeLine_eq]; simp; lia
      rw [this]; simp
    · exact kk .none _ s.toks _ (fun b o hb e => (Heap.get?_update_ne _ _ _ _ hb).trans e) (get?_update_seq ho _) ⟨_, _, rfl, by simpa using rl.append q2⟩ .none) h
theorem c_list {l : List V} (hl : l.length ≤ 100000) (h : ∀ D, Q (.obj D) ((D, .list l) :: st)) : Call X n st (.type "list") [.tup l] Q :=
  .one fun K u r => .freshM (x := .list l) (fun A rest s R ok I kk => by
    obtain ⟨p, xs, m1, rfl, e1, q1⟩ := tup_rep I r
    have l1 : xs.size = l.length := by rw [← q1.length]; simp
    refine call_list_seq p (.inr rfl) e1 rfl rfl (fun h' c' hk hg => ?_) (by rw [sizeLine_eq]; lia)
    exact kk _ _ _ s.toks (Nat.le_refl _) hk hg ⟨_, c', rfl, q1⟩) h
end
section
variable {X : Cx} {n : Nat} {env : Env} {f : Fm} {st st' : St} {Q : V → St → Prop} {pos : Pos}

noncomputable def WP (X : Cx) (n : Nat) (env : Env) (f : Fm) (st : St) (e : Option Expr) (Q : Option Int → St → Prop) : Prop :=
  ∀ K (A : Around) (rest : St) (s : Shared), Ok n A → IF X K env f (st ++ rest) s.heap →
    wpAny (model X.prog X.w) A (evalPart e env) (fun v s' => ∃ K' x st', KLe K K' ∧ IsPart v x ∧ IF X K' env f (st' ++ rest) s'.heap ∧ Same s s' ∧ Q x st') NoE s
theorem WP_none {Q : Option Int → St → Prop} (h : Q none st) : WP X n env f st none Q := fun K A rest s ok I => by
  rw [evalPart_none]; exact wpAny_pure ⟨K, none, st, .refl _, .none, I, .refl s, h⟩
theorem WP_some {e : Expr} {Q : Option Int → St → Prop} (h : WE X n env f st e (fun v st₁ => ∃ i, v = .int i ∧ Q (some i) st₁)) : WP X n env f st (some e) Q := fun K A rest s ok I => by
  rw [evalPart_some]
  refine wpAny_mono (h K A rest s ok I) ?_ fun _ _ e => e
  rintro u s₁ ⟨K₁, v, st₁, hK₁, rv, I₁, S₁, i, rfl, hq⟩
  obtain ⟨t, rfl⟩ := rv.int_inv; exact ⟨K₁, some i, st₁, hK₁, .int i t, I₁, S₁, hq⟩

theorem IF.pushes {K : KM} {h h' : Heap} (I : IF X K env f st h) (hk : ∀ b o, h.get? b = some o → h'.get? b = some o) : IF X K env f st h' :=
  ⟨I.inv.keep hk, I.fr.move (.refl _) (fun a ha o ho => hk a o ho) (fun a ha => I.fr.noK ha), I.dj⟩
theorem IF.newFrozen {K : KM} {h h' : Heap} {a : Addr} {o : Obj} (I : IF X K env f st h) (hk : ∀ b o, h.get? b = some o → h'.get? b = some o) (ha : h.get? a = none) (ho : h'.get? a = some o) : KLe K (kset K a o) ∧ IF X (kset K a o) env f st h' := by
  have hK : K a = none := by
    cases e : K a with
    | none => rfl
    | some o => have := I.inv.kept a o e; rw [ha] at this; cases this
  have hf : ∀ b, frAddr env b → b ≠ a := by
    rintro b hb rfl
    obtain ⟨o, ho⟩ := I.fr.live hb
    rw [ha] at ho; cases ho
  refine ⟨kle_set _ hK, (I.inv.keep hk).freeze hK (fun hm => by
      obtain ⟨p, hp, rfl⟩ := List.mem_map.mp hm
      obtain ⟨o, ho, _⟩ := I.inv.objs p hp
      rw [ha] at ho; cases ho) ho, I.fr.move (kle_set _ hK) (fun a ha o ho => hk a o ho) (fun b hb => ?_), I.dj⟩
  unfold kset; rw [if_neg (hf b hb)]; exact I.fr.noK hb

noncomputable def pickI (l : List Int) : Option Int → Option Int → List Int
  | none, some b => l.take b.toNat
  | some a, none => l.drop a.toNat
  | _, _ => l
noncomputable def pickOk : Option Int → Option Int → Prop
  | none, some b => 0 ≤ b
  | some a, none => 0 ≤ a
  | _, _ => False
theorem pick_ints {items : Array Value} {l : List Int} {lo hi : Option Int} (h : IntsAre items.toList l) (hp : pickOk lo hi) : IntsAre (slicePick items lo hi none).toList (pickI l lo hi) := by
  have e : items = items.toList.toArray := by simp
  cases lo with
  | none => cases hi with
    | none => exact hp.elim
    | some b => rw [e]; exact kmk_upto h hp
  | some a => cases hi with
    | none => rw [e]; exact kmk_from h hp
    | some b => exact hp.elim
theorem WE_sliceL {v : Expr} {lo hi : Option Expr} {p : Pos} (h : WE X n env f st v (fun a st₁ => WP X n env f st₁ lo (fun x st₂ => WP X n env f st₂ hi (fun y st₃ => ∃ l, LV st₃ a (vi l) ∧ l.length ≤ 100000 ∧ pickOk x y ∧ Q (.lst (vi (pickI l x y))) st₃))))
    (ht : ∀ o r, letTemporaryGo v o r = pure () := by intro _ _; rfl) : WE X n env f st (.Subscript v (.Slice lo hi none p) pos) Q := by
  intro K A rest s ok I
  refine wpAny_Subscript_list_slice (wpAny_mono (h K A rest s ok I) ?_ fun _ _ e => e) ht
  rintro u s₁ ⟨K₁, a, st₁, hK₁, ra, I₁, S₁, h₁⟩
  refine wpAny_mono (h₁ K₁ A rest s₁ ok I₁) ?_ fun _ _ e => e
  rintro vl s₂ ⟨K₂, x, st₂, hK₂, px, I₂, S₂, h₂⟩
  refine wpAny_mono (h₂ K₂ A rest s₂ ok I₂) ?_ fun _ _ e => e
  rintro vu s₃ ⟨K₃, y, st₃, hK₃, py, I₃, S₃, l, hl, hlen, hp, hq⟩
  obtain ⟨q, items, m, rfl, e, rl⟩ := hl.rep I₃.inv (ra.mono (hK₂.trans hK₃))
  have hi := ints_of rl
  have hsz : items.size = l.length := by rw [← ints_len hi]; simp
  refine ⟨q, items, x, y, rfl, isList e, by rw [sizeLine_eq]; lia, px, py, ?_⟩
  have hk : ∀ b o, s₃.heap.get? b = some o → ((s₃.heap.push { cls := .type "slice", data := .fields #[vl, vu, .none] }).push { cls := .type "list", data := .seq (slicePick items x y none) }).get? b = some o :=
    fun b o e => Heap.get?_push_of_some _ (Heap.get?_push_of_some _ e)
  have hg : ((s₃.heap.push { cls := .type "slice", data := .fields #[vl, vu, .none] }).push { cls := .type "list", data := .seq (slicePick items x y none) }).get? (s₃.heap.objs.size + 1) = some { cls := .type "list", data := .seq (slicePick items x y none) } := by
    have := Heap.get?_push_size (s₃.heap.push { cls := .type "slice", data := .fields #[vl, vu, .none] }) (o := { cls := .type "list", data := .seq (slicePick items x y none) }) rfl
    rw [Heap.size_push] at this; exact this
  obtain ⟨hK₄, I₄⟩ := I₃.newFrozen hk (new_none (Nat.le_succ _)) hg
  exact ⟨_, _, st₃, ((hK₁.trans hK₂).trans hK₃).trans hK₄, .lst kset_self (rep_of_ints (pick_ints hi hp)), I₄, ((S₁.trans S₂).trans S₃).trans (.of ..), hq⟩

theorem adjust_run (a b n : Nat) (ha : a ≤ b) (hb : b ≤ n) : Builtin.Slice.sliceAdjust (some (a : Int)) (some (b : Int)) 1 (n : Int) = ((a : Int), (b : Int)) := by
  unfold Builtin.Slice.sliceAdjust
  have h1 : ¬ ((1 : Int) < 0) := by lia
  have h2 : ¬ ((a : Int) < 0) := by lia
  have h3 : ¬ ((b : Int) < 0) := by lia
  simp only [h1, h2, h3, if_false]
  congr 1 <;> lia
theorem places_run (a b : Nat) (ha : a ≤ b) : Builtin.Slice.slicePlaces (a : Int) (b : Int) 1 = b - a := by
  unfold Builtin.Slice.slicePlaces
  have h1 : (1 : Int) > 0 := by lia
  simp only [h1, if_true, Int.ediv_one]
  split <;> lia
theorem applied_run {A : Around} {E : Value → Shared → Prop} {s : Shared} {sl : Addr} {a b n : Nat} {t u : Tok} {R : Int × Int × Nat → Shared → Prop} (hs : s.heap.IsSliceOf sl (.int a t) (.int b u) .none) (ha : a ≤ b) (hb : b ≤ n) (h : R ((a : Int), 1, b - a) s) :
    wpAny (model X.prog X.w) A (Builtin.Slice.sliceApplied (.ref sl) (pure (n : Int))) R E s := by
  obtain ⟨os, hos, hcs, hds⟩ := id hs
  unfold Builtin.Slice.sliceApplied Builtin.Slice.sliceFields
  refine wpAny_bind (wpAny_bind (wpAny_field hos hds (x := .int a t) rfl (wpAny_bind (wpAny_field hos hds (x := .int b u) rfl (wpAny_bind (wpAny_field hos hds (x := .none) rfl (wpAny_pure ?_)))))))
  refine wpAny_bind (slicePart_none ?_)
  show wpAny _ _ (if ((1 : Int) == 0) = true then _ else _) _ _ s
  rw [if_neg (by decide)]
  refine wpAny_bind (slicePart_int (wpAny_bind (slicePart_int (wpAny_bind (wpAny_pure ?_)))))
  show wpAny _ _ (match Builtin.Slice.sliceAdjust (some (a : Int)) (some (b : Int)) 1 (n : Int) with | (lo, hi) => pure (lo, (1 : Int), Builtin.Slice.slicePlaces lo hi 1)) _ _ s
  rw [adjust_run a b n ha hb]
  show wpAny _ _ (pure ((a : Int), (1 : Int), Builtin.Slice.slicePlaces (a : Int) (b : Int) 1)) _ _ s
  rw [places_run a b ha]
  exact wpAny_pure h
theorem pick_runT (xs : Array Value) (a b : Nat) : ((List.range (b - a)).filterMap fun (k : Nat) => xs[((a : Int) + (k : Int) * 1).toNat]?).toArray = ((xs.toList.drop a).take (b - a)).toArray := by
  have e : (fun (k : Nat) => xs[((a : Int) + (k : Int) * 1).toNat]?) = fun k => xs[a + k]? := by
    funext k
    have : ((a : Int) + (k : Int) * 1).toNat = a + k := by lia
    rw [this]
  rw [e]
  have := pick_run xs a (b - a)
  rw [List.filterMap_map] at this
  have e2 : ((fun x => xs[x]?) ∘ fun x => a + x) = fun k => xs[a + k]? := rfl
  rw [e2] at this
  rw [this]
theorem getItem_run {A : Around} {E : Value → Shared → Prop} {s : Shared} {t sl : Addr} {items : Array Value} {a b : Nat} {u u' : Tok} {R : Value → Shared → Prop} (ht : IsTup s.heap t items) (hs : s.heap.IsSliceOf sl (.int a u) (.int b u') .none) (h1 : 1 ≤ a) (hab : a ≤ b) (hb : b ≤ items.size)
    (h : R (.ref s.heap.objs.size) { s with heap := s.heap.push { cls := .type "tuple", data := .seq ((items.toList.drop a).take (b - a)).toArray } })
    (hsz : items.size ≤ sizeLine) : wpAny (model X.prog X.w) A (getItem (.ref t) (.ref sl)) R E s := by
  have hdrop : sizeOk (.seq ((items.toList.drop a).take (b - a)).toArray) := by
    show ((items.toList.drop a).take (b - a)).toArray.size ≤ sizeLine
    rw [List.size_toArray, List.length_take, List.length_drop, Array.length_toList]
    lia
  obtain ⟨os, hos, hcs, hds⟩ := id hs
  have hTs : s.TypeIs (.ref sl) "slice" := ⟨os, hos, hcs⟩
  unfold getItem
  try with_reducible refine wpAny_holding ?_
  first | refine wpAny_bind (wpAny_pure ?_) | skip
  refine wpAny_bind (wpAny_sequenceKey ht.typeIs (by decide) ?_)
  refine wpAny_bind (wpAny_callSpecial?_slot (name := Str.ofString "__getitem__") ht.typeIs slot_tuple_getitem
    (wpAny_call_entry slot_tuple_getitem ht.typeIs entry_tuple_getitem ?_ (args_tuple_getitem _ _)))
  show wpAny _ _ (Builtin.Tuple.tupleItemsOf (.ref t) >>= _) _ _ s
  refine wpAny_bind (tupleItemsOf_ ht ?_)
  refine wpAny_bind (wpAny_typeOf hTs ?_)
  rw [if_pos (by decide)]
  refine wpAny_bind (applied_run hs hab hb ?_)
  have hno : ¬ (((a : Int) == 0 && (1 : Int) == 1 && (b - a) == items.size) = true) := by
    have : ((a : Int) == 0) = false := by rw [beq_eq_false_iff_ne]; lia
    rw [this]; simp
  show wpAny _ _ (if ((a : Int) == 0 && (1 : Int) == 1 && (b - a) == items.size) = true then _ else _) _ _ s
  rw [if_neg hno, pick_runT items a b]
  first
    | exact wpAny_bind (m := Builtin.Tuple.tupleExact _) (wpAny_newObj_type (wpAny_pure ⟨_, rfl, wpAny_pure h⟩) hdrop)
    | exact wpAny_bind (m := Builtin.Tuple.tupleExact _) (wpAny_newObj_type (wpAny_bind (wpAny_pure (wpAny_pure ⟨_, rfl, wpAny_pure h⟩))) hdrop)
    | exact wpAny_bind (wpAny_bind (m := Builtin.Tuple.tupleExact _) (wpAny_newObj_type (wpAny_pure (wpAny_pure ⟨_, rfl, wpAny_pure h⟩)) hdrop))
    | exact wpAny_bind (wpAny_bind (m := Builtin.Tuple.tupleExact _) (wpAny_newObj_type (wpAny_pure ⟨_, rfl, wpAny_pure h⟩) hdrop))
theorem WE_sliceT {v lo hi : Expr} {p : Pos} (h : WE X n env f st v (fun a st₁ => WE X n env f st₁ lo (fun x st₂ => WE X n env f st₂ hi (fun y st₃ => ∃ l i j, a = .tup l ∧ x = .int i ∧ y = .int j ∧ 1 ≤ i ∧ i ≤ j ∧ j ≤ l.length ∧ l.length ≤ 100000 ∧ Q (.tup ((l.drop i.toNat).take (j.toNat - i.toNat))) st₃))))
    (ht : ∀ o r, letTemporaryGo v o r = pure () := by intro _ _; rfl) : WE X n env f st (.Subscript v (.Slice (some lo) (some hi) none p) pos) Q := by
  intro K A rest s ok I
  refine wpAny_Subscript_Slice (T := "tuple") slot_tuple_getitem.lookup (wpAny_mono (h K A rest s ok I) ?_ fun _ _ e => e) ht
  rintro u s₁ ⟨K₁, a, st₁, hK₁, ra, I₁, S₁, h₁⟩
  refine wpAny_Slice ?_
  rw [evalPart_some]
  refine wpAny_mono (h₁ K₁ A rest s₁ ok I₁) ?_ fun _ _ e => e
  rintro vl s₂ ⟨K₂, x, st₂, hK₂, rx, I₂, S₂, h₂⟩
  rw [evalPart_some]
  refine wpAny_mono (h₂ K₂ A rest s₂ ok I₂) ?_ fun _ _ e => e
  rintro vu s₃ ⟨K₃, y, st₃, hK₃, ry, I₃, S₃, l, i, j, rfl, rfl, rfl, hi1, hij, hjl, hlen, hq⟩
  rw [evalPart_none]
  refine wpAny_pure ?_
  obtain ⟨t1, rfl⟩ := rx.int_inv
  obtain ⟨t2, rfl⟩ := ry.int_inv
  obtain ⟨q, items, m, rfl, e, rl⟩ := tup_rep I₃.inv (ra.mono (hK₂.trans hK₃))
  have hsz : items.size = l.length := by rw [← rl.length]; simp
  obtain ⟨i', rfl⟩ : ∃ i' : Nat, i = (i' : Int) := ⟨i.toNat, by lia⟩
  obtain ⟨j', rfl⟩ : ∃ j' : Nat, j = (j' : Int) := ⟨j.toNat, by lia⟩
  have ht' : IsTup s₃.heap q items := ⟨_, e, rfl, m, rfl⟩
  have hsub : ∀ b o, s₃.heap.get? b = some o → (s₃.heap.push { cls := .type "slice", data := .fields #[.int (i' : Int) t1, .int (j' : Int) t2, .none] }).get? b = some o := fun b o e => Heap.get?_push_of_some _ e
  refine ⟨(ht'.keeps hsub).typeIs, getItem_run (ht'.keeps hsub) (Heap.IsSliceOf.new ..) (by lia) (by lia) (by lia) ?_ (by rw [sizeLine_eq]; lia)⟩
  have hg := Heap.get?_push_size (s₃.heap.push { cls := .type "slice", data := .fields #[.int (i' : Int) t1, .int (j' : Int) t2, .none] }) (o := { cls := .type "tuple", data := .seq ((items.toList.drop i').take (j' - i')).toArray }) rfl
  obtain ⟨hK₄, I₄⟩ := I₃.newFrozen (h' := (s₃.heap.push { cls := .type "slice", data := .fields #[.int (i' : Int) t1, .int (j' : Int) t2, .none] }).push { cls := .type "tuple", data := .seq ((items.toList.drop i').take (j' - i')).toArray })
    (fun b o e => Heap.get?_push_of_some _ (hsub b o e)) (none_back hsub (new_none (Nat.le_refl _))) hg
  refine ⟨_, _, st₃, ((hK₁.trans hK₂).trans hK₃).trans hK₄, .tup kset_self ?_, I₄, ((S₁.trans S₂).trans S₃).trans (.of ..), hq⟩
  simpa using ((rl.mono hK₄).drop i').take (j' - i')

noncomputable def isort (l : List Int) : List Int := l.mergeSort (fun a b => decide (a ≤ b))
theorem isort_perm (l : List Int) : (isort l).Perm l := List.mergeSort_perm l _
theorem isort_sorted (l : List Int) : (isort l).Pairwise (· ≤ ·) := by
  have := List.pairwise_mergeSort (le := fun a b : Int => decide (a ≤ b)) (by intro a b c; simp; lia) (by intro a b; simp; lia) l
  simpa [isort] using this
theorem isort_of {l m : List Int} (hp : m.Perm l) (hs : m.Pairwise (· ≤ ·)) : m = isort l :=
  List.Perm.eq_of_pairwise (le := fun a b : Int => a ≤ b) (fun a b _ _ h1 h2 => Int.le_antisymm h1 h2) hs (isort_sorted l) (hp.trans (isort_perm l).symm)
theorem c_sortedL {x : V} {l : List Int} (hx : LV st x (vi l)) (hl : l.length < 64) (h : Q (.lst (vi (isort l))) st) : Call X n st (.builtin "sorted") [x] Q :=
  .one fun K u r => .fresh (x := V.lst (vi (isort l))) (fun A rest s R ok I kk => by
    obtain ⟨p, xs, m1, rfl, e1, q1⟩ := hx.rep I r
    have hi := ints_of q1
    have hxs : xs = xs.toList.toArray := by simp
    rw [hxs] at e1
    refine sorted_ints (isList e1) hi (by rw [ints_len hi]; exact hl) fun out ns' hout hperm hsort => ?_
    have hns := isort_of hperm hsort
    subst hns
    obtain ⟨e, hg⟩ := sortedAll_at s.heap xs.toList out
    exact kk _ _ _ s.toks (new_none (Nat.le_succ _)) (fun b o e => sortedAll_old e) hg fun _ => .lst kset_self (rep_of_ints hout)) h

theorem collect_range {prog : Program} {w : World} {A : Around} {E : Value → Shared → Prop} {s : Shared} {r : Addr} {a b : Int} {t u v : Tok} {k : Nat} {R : List Value → Shared → Prop} (hh : A.handled = none) (hr : s.heap.get? r = some ⟨.type "range", .none, .fields #[.int a t, .int b u, .int 1 v], #[]⟩)
    (hsmall : Builtin.Range.small a b 1 = true) (hn : Builtin.Range.rangeSize a b 1 = k) (hk : k ≤ 1000)
    (h : ∀ h' tk acc, (∀ b o, s.heap.get? b = some o → h'.get? b = some o) → ItemsOf (fun i v => ∃ t, v = .int (a + i * 1) t) acc k → R acc.toList { s with heap := h', toks := tk }) : wpAny (model prog w) A (collect (.ref r)) R E s := by
  unfold collect
  refine wpAny_bind (wpAny_runValue (codeAny_builtin F.entry_proto_collect ?_))
  rw [Around.under_plainId F.plain_proto_collect _]
  show wpAny _ A.in1 (newList [] >>= fun l => again (.builtin "list.__iadd__" ⟨[l, .ref r], []⟩)) _ _ s
  refine wpAny_bind (wpAny_newObj_type ?_)
  refine wpAny_pure ⟨plainId_quiet F.plain_list_iadd _, codeAny_builtin F.entry_list_iadd ?_⟩
  rw [Around.under_plainId F.plain_list_iadd _]
  show wpAny _ A.in1 (Builtin.List.listExtendWith (.ref s.heap.objs.size) (.ref r) (.ref s.heap.objs.size)) _ _ _
  have hS : (s.heap.push { cls := .type "list", data := .seq ([] : List Value).toArray }).get? s.heap.objs.size = some { cls := .type "list", data := .seq #[] 0 } := Heap.get?_push_size _ rfl
  have key := wpAny_extend_range (prog := prog) (w := w) (A := A) (s := { s with heap := s.heap.push { cls := .type "list", data := .seq ([] : List Value).toArray } })
    (R := fun (q : Result) (s' : Shared) => ∃ (h' : Heap) (tk : Nat) (acc' : Array Value) (c' : Nat), q = .ok (.ret (.ref s.heap.objs.size)) ∧ s' = { s with heap := h', toks := tk } ∧
      (∀ b o, s.heap.get? b = some o → h'.get? b = some o) ∧ h'.get? s.heap.objs.size = some { cls := .type "list", dict := none, data := .seq acc' c', slots := #[] } ∧ ItemsOf (fun i v => ∃ t, v = .int (a + i * 1) t) acc' k)
    hh (Heap.get?_push_of_some _ hr) hsmall hn (by lia) s.heap.objs.size (.ref s.heap.objs.size) 0 hS
    (fun h' tk acc' c' hk hS' hacc => ⟨h', tk, acc', c', rfl, rfl, fun b o e => hk b o (Nat.ne_of_lt (Heap.lt_size e)) (Heap.get?_push_of_some _ e), hS', hacc⟩)
  refine wpAny_mono key (fun fin s' x => ?_) fun e s' x => ?_
  · cases fin with
    | done f =>
      obtain ⟨h', tk, acc', c', e, rfl, hk, hS', hacc⟩ := x
      cases e
      show wpAny _ A (load s.heap.objs.size >>= _) _ _ _
      refine wpAny_bind (wpAny_load hS' ?_)
      exact wpAny_pure (h h' tk acc' hk hacc)
    | again c₁ =>
      refine ⟨x.1, codeAny_mono x.2 fun q s₂ y => ?_⟩
      obtain ⟨h', tk, acc', c', rfl, rfl, hk, hS', hacc⟩ := y
      show wpAny _ A (load s.heap.objs.size >>= _) _ _ _
      refine wpAny_bind (wpAny_load hS' ?_)
      exact wpAny_pure (h h' tk acc' hk hacc)
  · obtain ⟨_, _, _, _, e', _⟩ := x
    cases e'
end
section
variable {κ β : Type} [DecidableEq κ]
noncomputable def dget (l : List (κ × β)) (k : κ) : Option β := (l.find? fun p => decide (p.1 = k)).map (·.2)
noncomputable def dset (l : List (κ × β)) (k : κ) (v : β) : List (κ × β) := if l.any (fun p => decide (p.1 = k)) then l.map (fun p => if p.1 = k then (p.1, v) else p) else l ++ [(k, v)]
noncomputable def ddel (l : List (κ × β)) (k : κ) : List (κ × β) := l.filter fun p => decide (p.1 ≠ k)
noncomputable def dmerge (l m : List (κ × β)) : List (κ × β) := m.foldl (fun a p => dset a p.1 p.2) l
end

section
variable {X : Cx} {K : KM}
theorem RepD.get : ∀ {es : List (Int × Value)} {l : List (Int × V)}, RepD X K es l → ∀ (k : Int) (x : V), dget l k = some x → ∃ v, valueAt es k = some v ∧ RepV X K v x
  | _, _, .nil, k, x, e => by simp [dget] at e
  | (k', v) :: es, (_, y) :: l, .cons r t, k, x, e => by
    by_cases h : k' = k
    · subst h
      simp [dget] at e; subst e
      exact ⟨v, by simp [valueAt], r⟩
    · have e' : dget l k = some x := by simpa [dget, h] using e
      obtain ⟨u, hu, ru⟩ := RepD.get t k x e'
      exact ⟨u, by simpa [valueAt, h] using hu, ru⟩
theorem RepD.isSome : ∀ {es : List (Int × Value)} {l : List (Int × V)}, RepD X K es l → ∀ (k : Int), (valueAt es k).isSome = (dget l k).isSome
  | _, _, .nil, k => rfl
  | (k', v) :: es, (_, y) :: l, .cons r t, k => by
    by_cases h : k' = k
    · simp [dget, valueAt, h]
    · have := RepD.isSome t k
      simpa [dget, valueAt, h] using this
theorem RepD.anyK : ∀ {es : List (Int × Value)} {l : List (Int × V)}, RepD X K es l → ∀ (k : Int), es.any (fun p => decide (p.1 = k)) = l.any (fun p => decide (p.1 = k))
  | _, _, .nil, k => rfl
  | (k', v) :: es, (_, y) :: l, .cons r t, k => by rw [List.any_cons, List.any_cons, RepD.anyK t k]
theorem RepD.mapSet : ∀ {es : List (Int × Value)} {l : List (Int × V)}, RepD X K es l → ∀ (k : Int) {v : Value} {x : V}, RepV X K v x → RepD X K (es.map (fun p => if p.1 = k then (p.1, v) else p)) (l.map (fun p => if p.1 = k then (p.1, x) else p))
  | _, _, .nil, k, _, _, _ => .nil
  | (k', v) :: es, (_, y) :: l, .cons r t, k, _, _, rx => by
    rw [List.map_cons, List.map_cons]
    by_cases h : k' = k
    · simp only [h, if_true]; exact .cons rx (RepD.mapSet t k rx)
    · simp only [h, if_false]; exact .cons r (RepD.mapSet t k rx)
theorem RepD.snoc : ∀ {es : List (Int × Value)} {l : List (Int × V)}, RepD X K es l → ∀ (k : Int) {v : Value} {x : V}, RepV X K v x → RepD X K (es ++ [(k, v)]) (l ++ [(k, x)])
  | _, _, .nil, k, _, _, rx => .cons rx .nil
  | _, _, .cons r t, k, _, _, rx => .cons r (RepD.snoc t k rx)
theorem RepD.set {es : List (Int × Value)} {l : List (Int × V)} (h : RepD X K es l) (k : Int) {v : Value} {x : V} (rx : RepV X K v x) : RepD X K (stored es k v) (dset l k x) := by
  unfold stored dset
  rw [h.anyK k]
  split
  · exact h.mapSet k rx
  · exact h.snoc k rx
theorem RepD.del : ∀ {es : List (Int × Value)} {l : List (Int × V)}, RepD X K es l → ∀ (k : Int), RepD X K (without es k) (ddel l k)
  | _, _, .nil, k => .nil
  | (k', v) :: es, (_, y) :: l, .cons r t, k => by
    unfold without ddel
    rw [List.filter_cons, List.filter_cons]
    by_cases h : k' = k
    · rw [if_neg (by simpa using h), if_neg (by simpa using h)]; exact RepD.del t k
    · rw [if_pos (by simpa using h), if_pos (by simpa using h)]; exact .cons r (RepD.del t k)
theorem RepD.merge {m : List (Int × V)} : ∀ {fs : List (Int × Value)} {es : List (Int × Value)} {l : List (Int × V)}, RepD X K es l → RepD X K fs m → RepD X K (merged es fs) (dmerge l m) := by
  induction m with
  | nil => intro fs es l h r; cases r; exact h
  | cons p m ih =>
    intro fs es l h r
    cases r with
    | @cons k v x fs _ rx t => exact ih (es := stored es k v) (l := dset l k x) (h.set k rx) t

theorem RepS.get {es : List (Str × Value)} {l : List (Str × V)} (h : RepS X K es l) (k : Str) (x : V) (e : dget l k = some x) : ∃ v, valueAt es k = some v ∧ RepV X K v x := by
  induction h with
  | nil => simp [dget] at e
  | @cons k' v y es l r t ih =>
    by_cases h : k' = k
    · subst h
      simp [dget] at e; subst e
      exact ⟨v, by simp [valueAt], r⟩
    · obtain ⟨u, hu, ru⟩ := ih (by simpa [dget, h] using e)
      exact ⟨u, by simpa [valueAt, h] using hu, ru⟩
theorem RepS.anyK {es : List (Str × Value)} {l : List (Str × V)} (h : RepS X K es l) (k : Str) : es.any (fun p => decide (p.1 = k)) = l.any (fun p => decide (p.1 = k)) := by
  induction h with
  | nil => rfl
  | cons r t ih => rw [List.any_cons, List.any_cons, ih]
theorem RepS.mapSet {es : List (Str × Value)} {l : List (Str × V)} (h : RepS X K es l) (k : Str) {v : Value} {x : V} (rx : RepV X K v x) : RepS X K (es.map (fun p => if p.1 = k then (p.1, v) else p)) (l.map (fun p => if p.1 = k then (p.1, x) else p)) := by
  induction h with
  | nil => exact .nil
  | @cons k' v y es l r t ih =>
    rw [List.map_cons, List.map_cons]
    by_cases h : k' = k
    · simp only [h, if_true]; exact .cons rx ih
    · simp only [h, if_false]; exact .cons r ih
theorem RepS.snoc {es : List (Str × Value)} {l : List (Str × V)} (h : RepS X K es l) (k : Str) {v : Value} {x : V} (rx : RepV X K v x) : RepS X K (es ++ [(k, v)]) (l ++ [(k, x)]) := by
  induction h with
  | nil => exact .cons rx .nil
  | cons r t ih => exact .cons r ih
theorem RepS.set {es : List (Str × Value)} {l : List (Str × V)} (h : RepS X K es l) (k : Str) {v : Value} {x : V} (rx : RepV X K v x) : RepS X K (stored es k v) (dset l k x) := by
  unfold stored dset
  rw [h.anyK k]
  split
  · exact h.mapSet k rx
  · exact h.snoc k rx
theorem RepS.length {es : List (Str × Value)} {l : List (Str × V)} (h : RepS X K es l) : es.length = l.length := by
  induction h with
  | nil => rfl
  | cons _ _ ih => simp [ih]
theorem RepS.keys {es : List (Str × Value)} {l : List (Str × V)} (h : RepS X K es l) : es.map (·.1) = l.map (·.1) := by
  induction h with
  | nil => rfl
  | cons _ _ ih => simp [ih]

theorem RepT.get {es : List (V × Addr × Value)} {l : List (V × V)} (h : RepT X K es l) (k x : V) (e : dget l k = some x) : ∃ p, atKey es k = some p ∧ RepV X K p.2 x := by
  induction h with
  | nil => simp [dget] at e
  | @cons k' a v y es l kk ra r t ih =>
    by_cases h : k' = k
    · subst h
      simp [dget] at e; subst e
      exact ⟨(a, v), by simp [atKey], r⟩
    · obtain ⟨u, hu, ru⟩ := ih (by simpa [dget, h] using e)
      exact ⟨u, by simpa [atKey, h] using hu, ru⟩
theorem RepT.isSome {es : List (V × Addr × Value)} {l : List (V × V)} (h : RepT X K es l) (k : V) : (atKey es k).isSome = (dget l k).isSome := by
  induction h with
  | nil => rfl
  | @cons k' a v y es l kk ra r t ih =>
    by_cases h : k' = k
    · simp [dget, atKey, h]
    · simpa [dget, atKey, h] using ih
theorem dget_any {κ β : Type} [DecidableEq κ] (l : List (κ × β)) (k : κ) : (dget l k).isSome = l.any (fun p => decide (p.1 = k)) := by
  induction l with
  | nil => rfl
  | cons p l ih =>
    by_cases h : p.1 = k
    · simp [dget, h]
    · simpa [dget, h] using ih
theorem RepT.mapSet {es : List (V × Addr × Value)} {l : List (V × V)} (h : RepT X K es l) (k : V) {v : Value} {x : V} (rx : RepV X K v x) : RepT X K (es.map (putAt k v)) (l.map (fun p => if p.1 = k then (p.1, x) else p)) := by
  induction h with
  | nil => exact .nil
  | @cons k' a v y es l kk ra r t ih =>
    rw [List.map_cons, List.map_cons]
    by_cases h : k' = k
    · subst h; simp only [putAt, if_true]; exact .cons kk ra rx ih
    · simp only [putAt, h, if_false]; exact .cons kk ra r ih
theorem RepT.snoc {es : List (V × Addr × Value)} {l : List (V × V)} (h : RepT X K es l) {k : V} {a : Addr} {v : Value} {x : V} (kk : Key 7 k) (ra : RepV X K (.ref a) k) (rx : RepV X K v x) : RepT X K (es ++ [(k, a, v)]) (l ++ [(k, x)]) := by
  induction h with
  | nil => exact .cons kk ra rx .nil
  | cons k1 r1 r2 t ih => exact .cons k1 r1 r2 ih
theorem RepT.set {es : List (V × Addr × Value)} {l : List (V × V)} (h : RepT X K es l) {k : V} {a : Addr} {v : Value} {x : V} (kk : Key 7 k) (ra : RepV X K (.ref a) k) (rx : RepV X K v x) : RepT X K (storedH es k a v) (dset l k x) := by
  unfold storedH dset
  rw [h.isSome k, dget_any]
  split
  · exact h.mapSet k rx
  · exact h.snoc kk ra rx
theorem RepT.keysIn {es : List (V × Addr × Value)} {l : List (V × V)} (h : RepT X K es l) : ∀ x ∈ es, Key 7 x.1 ∧ RepV X K (.ref x.2.1) x.1 := by
  induction h with
  | nil => intro x hx; cases hx
  | cons k1 r1 r2 t ih => intro x hx; rcases List.mem_cons.mp hx with rfl | hx; exact ⟨k1, r1⟩; exact ih x hx
theorem RepT.length {es : List (V × Addr × Value)} {l : List (V × V)} (h : RepT X K es l) : es.length = l.length := by
  induction h with
  | nil => rfl
  | cons _ _ _ _ ih => simp [ih]
end

section
variable {X : Cx} {n : Nat} {env : Env} {f : Fm} {st st' : St} {Q : V → St → Prop} {pos : Pos}

theorem ref_rep {K : KM} {u : Value} {l : List V} (r : RepV X K u (.tup l)) : ∃ a, u = .ref a := by cases r; exact ⟨_, rfl⟩
theorem rep_heap {K : KM} {rest : St} {h : Heap} {u : Value} {x : V} (I : Inv X K (st ++ rest) h) (r : RepV X K u x) : RepV X h.get? u x := r.mono I.kept
inductive DV (st : St) : V → List (Int × V) → Prop
  | dct (l : List (Int × V)) : DV st (.dct l) l
  | obj {a : Addr} {l : List (Int × V)} : At a (.dictI l) st → DV st (.obj a) l
theorem DV.rep {K : KM} {rest : St} {h : Heap} {u : Value} {x : V} {l : List (Int × V)} (v : DV st x l) (I : Inv X K (st ++ rest) h) (r : RepV X K u x) :
    ∃ a kvs, u = .ref a ∧ (a == sysModules) = false ∧ h.DictOf (intKind X.prog X.w) a kvs ∧ RepD X K kvs l := by
  cases v with
  | dct => cases r with | dct e d r lo => exact ⟨_, _, rfl, lo, Heap.dictOf_iff.mpr ⟨_, I.kept _ _ e, d⟩, r⟩
  | obj hA =>
    cases r with
    | obj =>
      obtain ⟨o, ho, ⟨kvs, hd, rl⟩, lo⟩ := I.at hA
      exact ⟨_, _, rfl, lo, Heap.dictOf_iff.mpr ⟨_, ho, hd⟩, rl⟩

theorem op_inD {x : V} {i : Int} {l : List (Int × V)} (hx : DV st x l) (h : Q (.bool (dget l i).isSome) st) : Op X n st [.int i, x] (on2 (compareOp .In)) Q :=
  .two fun K u v r1 r2 => .read (x := V.bool (dget l i).isSome) (fun A rest s R ok I k => by
    obtain ⟨a, kvs, rfl, lo, hd, rl⟩ := hx.rep I r2
    obtain ⟨_, rfl⟩ := r1.int_inv
    refine wpAny_in_of (intKind_is _ _ _ _) lo hd.mapOf ?_
    rw [rl.isSome]; exact k _ _ (.bool _)) h
theorem op_ninD {x : V} {i : Int} {l : List (Int × V)} (hx : DV st x l) (h : Q (.bool (!(dget l i).isSome)) st) : Op X n st [.int i, x] (on2 (compareOp .NotIn)) Q :=
  .two fun K u v r1 r2 => .read (x := V.bool (!(dget l i).isSome)) (fun A rest s R ok I k => by
    obtain ⟨a, kvs, rfl, lo, hd, rl⟩ := hx.rep I r2
    obtain ⟨_, rfl⟩ := r1.int_inv
    refine wpAny_notIn_of (intKind_is _ _ _ _) lo hd.mapOf ?_
    rw [rl.isSome]; exact k _ _ (.bool _)) h
theorem op_itemD {v i : Expr} {x y : V} {l : List (Int × V)} {k : Int} (hx : DV st x l) (hy : dget l k = some y) (h : Q y st)
    (hs : ∀ o j, subscripted i false o j = operate [o, j] (getItem o j) := by intro _ _; with_unfolding_all rfl) : Op X n st [x, .int k] (on2 (subscriptTail v i)) Q :=
  .two fun K u w r1 r2 => .read (x := y) (fun A rest s R ok I kk => by
    obtain ⟨a, kvs, rfl, lo, hd, rl⟩ := hx.rep I r1
    obtain ⟨_, rfl⟩ := r2.int_inv
    obtain ⟨z, hz, rz⟩ := rl.get k y hy
    exact tail_any hd.typeIs slot_dict_getitem.lookup (wpAny_getItem_of (intKind_is _ _ _ _) hd.mapOf hz (kk z _ rz)) (hs _ _)) h
theorem c_lenD {x : V} {l : List (Int × V)} (hx : DV st x l) (hl : l.length ≤ 1000000) (h : Q (.int l.length) st) : Call X n st (.builtin "len") [x] Q :=
  .one fun K u r => .read (x := V.int l.length) (fun A rest s R ok I kk => by
    obtain ⟨a, kvs, rfl, lo, hd, rl⟩ := hx.rep I r
    refine call_len_dict lo hd (by rw [rl.length]; lia) ?_
    rw [rl.length]; exact kk _ _ (.int _ _)) h

theorem op_setD {a : Addr} {l : List (Int × V)} {k : Int} {z : V} {Q : St → Prop} (u : Up a (.dictI l) (.dictI (dset l k z)) st st') (hl : l.length ≤ 1000000) (h : Q st') : OpU X n st [.obj a, .int k, z] (on3 setItem) Q :=
  .three fun K x y w r1 r2 r3 => .upd (x := ()) (Q := fun _ st' => Q st') u (fun A rest s R o ok I hlo ho ro kk => by
    obtain rfl := r1.obj_inv; obtain ⟨_, rfl⟩ := r2.int_inv
    obtain ⟨kvs, hd, rl⟩ := ro
    refine wpAny_setItem_pairs (intKind_is _ _ _ _) (Heap.dictOf_iff.mpr ⟨o, ho, hd⟩) (fun h' hm hs => ?_) (by rw [rl.length, sizeLine_eq]; lia)
    obtain ⟨o', ho', hd'⟩ := Heap.dictOf_iff.mp hm
    exact kk () h' _ o' (fun b o hb e => (hs.2 b hb).trans e) ho' ⟨_, hd', rl.set k r3⟩ True.intro) h
theorem op_delD {a : Addr} {l : List (Int × V)} {k : Int} {Q : St → Prop} (u : Up a (.dictI l) (.dictI (ddel l k)) st st') (hk : (dget l k).isSome = true) (hl : l.length ≤ 1000000) (h : Q st') : OpU X n st [.obj a, .int k] (on2 delItem) Q :=
  .two fun K x y r1 r2 => .upd (x := ()) (Q := fun _ st' => Q st') u (fun A rest s R o ok I hlo ho ro kk => by
    obtain rfl := r1.obj_inv; obtain ⟨_, rfl⟩ := r2.int_inv
    obtain ⟨kvs, hd, rl⟩ := ro
    have hD : s.heap.DictOf (intKind X.prog X.w) a kvs := Heap.dictOf_iff.mpr ⟨o, ho, hd⟩
    unfold delItem
    try with_reducible refine wpAny_holding ?_
    refine wpAny_bind (wpAny_sequenceKey hD.typeIs (by decide) ?_)
    refine wpAny_bind (wpAny_callSpecial?_slot (name := Str.ofString "__delitem__") hD.typeIs PySem.F.slot_dict_delitem
      (call_meetsIn PySem.F.slot_dict_delitem hD.typeIs PySem.F.entry_dict_delitem (PySem.F.args_dict_delitem_2 _ _) (meets_dict_delitem_pairs (intKind X.prog X.w) a (intKind_is _ _ _ _)) ⟨kvs, hD, by rw [rl.length, sizeLine_eq]; lia, by rw [rl.isSome]; exact hk, fun h' hmm hs => ?_⟩))
    obtain ⟨o', ho', hd'⟩ := Heap.dictOf_iff.mp hmm
    exact wpAny_pure (kk () h' _ o' (fun b o hb e => (hs.2 b hb).trans e) ho' ⟨_, hd', rl.del k⟩ True.intro)) h
theorem c_update {a : Addr} {l m : List (Int × V)} (u : Up a (.dictI l) (.dictI (dmerge l m)) st st') (hl : l.length + m.length ≤ 1000000) (h : Q .none st') : Call X n st (.builtin "dict.update") [.obj a, .dct m] Q :=
  .two fun K x y r1 r2 => .upd (x := V.none) u (fun A rest s R o ok I hlo ho ro kk => by
    obtain rfl := r1.obj_inv
    obtain ⟨kvs, hd, rl⟩ := ro
    have hD : s.heap.DictOf (intKind X.prog X.w) a kvs := Heap.dictOf_iff.mpr ⟨o, ho, hd⟩
    cases r2 with
    | @dct b ob kvs' _ e d r lo =>
      have hne : a ≠ b := by
        rintro rfl
        obtain ⟨pre, post, rfl, rfl⟩ := u.split
        have := I.fr (a, .dictI l) (by simp)
        rw [e] at this; cases this
      refine call_meetsIn PySem.F.slot_dict_update hD.typeIs PySem.F.entry_dict_update (PySem.F.args_dict_update_2 _ _) (meets_dict_update (intKind X.prog X.w) a b hne lo)
        ⟨kvs, kvs', hD, Heap.dictOf_iff.mpr ⟨_, I.kept _ _ e, d⟩, by rw [rl.length, r.length, sizeLine_eq]; lia, fun h' hm _ hs => ?_⟩
      obtain ⟨o', ho', hd'⟩ := Heap.dictOf_iff.mp hm
      exact kk .none h' s.toks o' (fun b o hb e => (hs.2 b hb).trans e) ho' ⟨_, hd', rl.merge r⟩ .none) h

theorem op_itemS' {v i : Expr} {y : V} {a : Addr} {l : List (Str × V)} {k : Str} (hx : At a (.dictS l) st) (hy : dget l k = some y) (h : Q y st)
    (hs : ∀ o j, subscripted i false o j = operate [o, j] (getItem o j) := by intro _ _; with_unfolding_all rfl) : Op X n st [.obj a, .str k] (on2 (subscriptTail v i)) Q :=
  .two fun K u w r1 r2 => .read (x := y) (fun A rest s R ok I kk => by
    obtain rfl := r1.obj_inv; obtain ⟨_, rfl⟩ := r2.str_inv
    obtain ⟨o, ho, ⟨kvs, hd, rl⟩, lo⟩ := I.at hx
    have hD : s.heap.DictOf (PySem.strKind X.prog X.w) a kvs := Heap.dictOf_iff.mpr ⟨o, ho, hd⟩
    obtain ⟨z, hz, rz⟩ := rl.get k y hy
    exact tail_any hD.typeIs slot_dict_getitem.lookup (wpAny_getItem_of (strKind_is _ _ _ _) hD.mapOf hz (kk z _ rz)) (hs _ _)) h
theorem op_setS {a : Addr} {l : List (Str × V)} {k : Str} {z : V} {Q : St → Prop} (u : Up a (.dictS l) (.dictS (dset l k z)) st st') (hl : l.length ≤ 1000000) (h : Q st') : OpU X n st [.obj a, .str k, z] (on3 setItem) Q :=
  .three fun K x y w r1 r2 r3 => .upd (x := ()) (Q := fun _ st' => Q st') u (fun A rest s R o ok I hlo ho ro kk => by
    obtain rfl := r1.obj_inv; obtain ⟨_, rfl⟩ := r2.str_inv
    obtain ⟨kvs, hd, rl⟩ := ro
    refine wpAny_setItem_pairs (strKind_is _ _ _ _) (Heap.dictOf_iff.mpr ⟨o, ho, hd⟩) (fun h' hm hs => ?_) (by rw [rl.length, sizeLine_eq]; lia)
    obtain ⟨o', ho', hd'⟩ := Heap.dictOf_iff.mp hm
    exact kk () h' _ o' (fun b o hb e => (hs.2 b hb).trans e) ho' ⟨_, hd', rl.set k r3⟩ True.intro) h

theorem dictH {K : KM} {h : Heap} {a : Addr} {l : List (V × V)} {o : Obj} (hk : KLe K h.get?) (ho : h.get? a = some o) (ro : RepO X K o (.dictT l)) : ∃ xs, h.DictOfH (keyKind X) a xs ∧ RepT X K xs l := by
  obtain ⟨es, m, xs, rfl, hes, rt, hn⟩ := ro
  exact ⟨xs, ⟨_, es, m, ho, ⟨rfl, rfl, rfl⟩, rfl, hes, fun x hx => let ⟨a, b⟩ := rt.keysIn x hx; ⟨a, b.mono hk⟩, hn⟩, rt⟩
theorem op_inT {a : Addr} {k : List V} {l : List (V × V)} (hk : Keys 6 k) (hx : At a (.dictT l) st) (h : Q (.bool (dget l (.tup k)).isSome) st) : Op X n st [.tup k, .obj a] (on2 (compareOp .In)) Q :=
  .two fun K u v r1 r2 => .read (x := V.bool (dget l (.tup k)).isSome) (fun A rest s R ok I kk => by
    obtain rfl := r2.obj_inv
    obtain ⟨o, ho, ro, lo⟩ := I.at hx
    obtain ⟨xs, hd, rt⟩ := dictH I.kept ho ro
    obtain ⟨b, rfl⟩ := ref_rep r1
    refine wpAny_in_heap (knd := keyKind X) (by have := ok.units 41; show A.units + 1 + 40 < cLine; lia) (k := .tup k) ⟨.tup hk, rep_heap I r1⟩ lo hd ?_
    rw [rt.isSome]; exact kk _ _ (.bool _)) h
theorem op_itemT' {v i : Expr} {y : V} {a : Addr} {k : List V} {l : List (V × V)} (hk : Keys 6 k) (hx : At a (.dictT l) st) (hy : dget l (.tup k) = some y) (h : Q y st)
    (hs : ∀ o j, subscripted i false o j = operate [o, j] (getItem o j) := by intro _ _; with_unfolding_all rfl) : Op X n st [.obj a, .tup k] (on2 (subscriptTail v i)) Q :=
  .two fun K u w r1 r2 => .read (x := y) (fun A rest s R ok I kk => by
    obtain rfl := r1.obj_inv
    obtain ⟨o, ho, ro, lo⟩ := I.at hx
    obtain ⟨xs, hd, rt⟩ := dictH I.kept ho ro
    obtain ⟨b, rfl⟩ := ref_rep r2
    obtain ⟨p, hp, rp⟩ := rt.get _ y hy
    exact tail_any hd.typeIs slot_dict_getitem.lookup (wpAny_getItem_heap (knd := keyKind X) (by have := ok.units 41; show A.units + 1 + 40 < cLine; lia) (k := .tup k) ⟨.tup hk, rep_heap I r2⟩ hd hp (kk _ _ rp)) (hs _ _)) h
theorem op_setT {a : Addr} {k : List V} {l : List (V × V)} {z : V} {Q : St → Prop} (hk : Keys 6 k) (u : Up a (.dictT l) (.dictT (dset l (.tup k) z)) st st') (hl : l.length ≤ 1000000) (h : Q st') : OpU X n st [.obj a, .tup k, z] (on3 setItem) Q :=
  .three fun K x y w r1 r2 r3 => .upd (x := ()) (Q := fun _ st' => Q st') u (fun A rest s R o ok I hlo ho ro kk => by
    obtain rfl := r1.obj_inv
    obtain ⟨b, rfl⟩ := ref_rep r2
    obtain ⟨xs, hd, rt⟩ := dictH I.kept ho ro
    refine wpAny_setItem_heap (knd := keyKind X) (by have := ok.units 41; show A.units + 1 + 40 < cLine; lia) (k := .tup k) ⟨.tup hk, rep_heap I r2⟩ hd (fun h' hm hs => ?_) (by rw [rt.length, sizeLine_eq]; lia)
    obtain ⟨o', es, ep, ho', ⟨c1, c2, c3⟩, hda, hes, hks, hn⟩ := hm
    refine kk () h' _ o' (fun b o hb e => (hs.2 b hb).trans e) ho' ⟨es, ep, _, ?_, hes, rt.set (.tup hk) r2 r3, hn⟩ True.intro
    obtain ⟨o1, o2, o3, o4⟩ := o'
    simp only at c1 c2 c3 hda
    subst c1 c2 c3 hda
    rfl) h
end
section
variable {X : Cx} {n : Nat} {env : Env} {f : Fm} {st st' : St} {Q : V → St → Prop} {pos : Pos}

theorem IF.grow {K : KM} {rest : St} {h h' : Heap} {a : Addr} {o : Obj} {x : AObj} (I : IF X K env f (st ++ rest) h) (hk : ∀ b o, h.get? b = some o → h'.get? b = some o) (ha : @LE.le Nat _ h.objs.size a) (ho : h'.get? a = some o) (r : RepO X K o x) : IF X K env f (st ++ ((a, x) :: rest)) h' := by
  have g := I.inv.grow (h' := h') (x := x) ha (I.inv.newLo ha) hk ho r
  refine ⟨g.perm List.perm_middle, I.fr.move (.refl _) (fun a ha o ho => hk _ _ ho) (fun a ha => I.fr.noK ha), fun p hp hfr => ?_⟩
  rcases List.mem_append.mp hp with hp | hp
  · exact I.dj p (List.mem_append.mpr (.inl hp)) hfr
  · rcases List.mem_cons.mp hp with rfl | hp
    · obtain ⟨o, ho⟩ := I.fr.live hfr
      exact absurd (Heap.lt_size ho) (Nat.not_lt.mpr ha)
    · exact I.dj p (List.mem_append.mpr (.inr hp)) hfr

theorem WE_dict0 {x : AObj} (hx : ∀ K, RepO X K { cls := .type "dict", data := .dict #[] } x) (h : ∀ a, Q (.obj a) ((a, x) :: st)) : WE X n env f st (.Dict [] [] pos) Q := by
  intro K A rest s ok I
  refine wpAny_Dict_empty ?_
  have I' := I.grow (st := st) (h' := s.heap.push { cls := .type "dict", data := .dict #[] }) (x := x) (fun b o e => Heap.get?_push_of_some _ e) (Nat.le_refl _) (Heap.get?_push_size _ rfl) (hx K)
  refine ⟨K, .obj _, (_, x) :: st, .refl _, .obj s.heap.objs.size, ⟨I'.inv.perm List.perm_middle.symm, I'.fr, fun p hp => I'.dj p (List.perm_middle.symm.subset hp)⟩, .of s _ _, h _⟩
theorem empty_dictI (K : KM) : RepO X K { cls := .type "dict", data := .dict #[] } (.dictI []) := by
  obtain ⟨o, ho, hd⟩ := Heap.dictOf_iff.mp (Heap.DictOf.new (knd := intKind X.prog X.w) X.B)
  rw [Heap.get?_push_size _ rfl] at ho; cases ho
  exact ⟨[], hd, .nil⟩
theorem empty_dictS (K : KM) : RepO X K { cls := .type "dict", data := .dict #[] } (.dictS []) := by
  obtain ⟨o, ho, hd⟩ := Heap.dictOf_iff.mp (Heap.DictOf.new (knd := PySem.strKind X.prog X.w) X.B)
  rw [Heap.get?_push_size _ rfl] at ho; cases ho
  exact ⟨[], hd, .nil⟩
theorem empty_dictT (K : KM) : RepO X K { cls := .type "dict", data := .dict #[] } (.dictT []) := ⟨#[], 0, [], rfl, rfl, .nil, .nil⟩
theorem empty_ns (K : KM) : RepO X K { cls := .type "dict", data := .dict #[] } (.ns []) := ⟨[], 0, rfl, .nil⟩

inductive RepP (X : Cx) (K : KM) : List (Value × Value) → List (V × V) → Prop
  | nil : RepP X K [] []
  | cons {a b : Value} {x y : V} {vs : List (Value × Value)} {l : List (V × V)} : RepV X K a x → RepV X K b y → RepP X K vs l → RepP X K ((a, b) :: vs) ((x, y) :: l)
noncomputable def WD (X : Cx) (n : Nat) (env : Env) (f : Fm) (st : St) (ps : List (Sem Value × Sem Value)) (Q : List (V × V) → St → Prop) : Prop := ∀ K, TE X n env f K st (evalPairs ps) (RepP X) Q
theorem WD_nil {Q : List (V × V) → St → Prop} (h : Q [] st) : WD X n env f st [] Q := fun K A rest s ok I => evalPairs_nil ⟨K, [], st, .refl _, .nil, I, .refl s, h⟩
theorem WD_cons {k v : Expr} {ps : List (Sem Value × Sem Value)} {Q : List (V × V) → St → Prop} (h : WE X n env f st k (fun x st₁ => WE X n env f st₁ v (fun y st₂ => WD X n env f st₂ ps (fun l st₃ => Q ((x, y) :: l) st₃)))) :
    WD X n env f st ((eval k env, do let x ← eval v env; standAt pos; pure x) :: ps) Q := by
  intro K A rest s ok I
  refine evalPairs_cons (wpAny_mono (h K A rest s ok I) ?_ fun _ _ e => e)
  rintro a s₁ ⟨K₁, x, st₁, hK₁, hr₁, I₁, S₁, h₁⟩
  refine wpAny_bind (wpAny_mono (h₁ K₁ A rest s₁ ok I₁) ?_ fun _ _ e => e)
  rintro b s₂ ⟨K₂, y, st₂, hK₂, hr₂, I₂, S₂, h₂⟩
  refine wpAny_bind (wpAny_standAt (wpAny_pure ?_))
  refine wpAny_mono (h₂ K₂ A rest s₂ ok I₂) ?_ fun _ _ e => e
  rintro vs s₃ ⟨K₃, l, st₃, hK₃, hr₃, I₃, S₃, h₃⟩
  exact ⟨K₃, _, st₃, (hK₁.trans hK₂).trans hK₃, .cons (hr₁.mono (hK₂.trans hK₃)) (hr₂.mono hK₃) hr₃, I₃, (S₁.trans S₂).trans S₃, h₃⟩

theorem merged_new {κ : Type} [DecidableEq κ] : ∀ (kvs acc : List (κ × Value)), (∀ p ∈ kvs, p.1 ∉ acc.map (·.1)) → (kvs.map (·.1)).Nodup → merged acc kvs = acc ++ kvs
  | [], acc, _, _ => by simp [merged]
  | (k, v) :: r, acc, h, hn => by
    rw [List.map_cons, List.nodup_cons] at hn
    have h0 : k ∉ acc.map (·.1) := h (k, v) (.head _)
    have hs : stored acc k v = acc ++ [(k, v)] := by
      unfold stored
      rw [if_neg]
      intro ha
      obtain ⟨p, hp, e⟩ := List.any_eq_true.mp ha
      have e' : p.1 = k := by simpa using e
      exact h0 (e' ▸ List.mem_map_of_mem hp)
    show merged (stored acc k v) r = _
    rw [hs, merged_new r (acc ++ [(k, v)]) ?_ hn.2]
    · simp
    · intro p hp hm
      rw [List.map_append] at hm
      rcases List.mem_append.mp hm with hm | hm
      · exact h p (.tail _ hp) hm
      · have e' : p.1 = k := by simpa using hm
        exact hn.1 (e' ▸ List.mem_map_of_mem (f := (·.1)) hp)

theorem carriesS {K : KM} : ∀ {vs : List (Value × Value)} (l : List (Str × V)), RepP X K vs (l.map fun p => (V.str p.1, p.2)) → ∃ kvs, Carries (PySem.strKind X.prog X.w) vs kvs ∧ RepS X K kvs l
  | _, [], h => by cases h; exact ⟨[], True.intro, .nil⟩
  | _, (k, y) :: l, h => by
    cases h with
    | @cons a b _ _ vs _ ra rb t =>
      obtain ⟨tk, rfl⟩ := ra.str_inv
      obtain ⟨kvs, hc, hr⟩ := carriesS l t
      exact ⟨(k, b) :: kvs, ⟨strKind_is _ _ _ _, rfl, hc⟩, .cons rb hr⟩
theorem carriesI {K : KM} : ∀ {vs : List (Value × Value)} (l : List (Int × V)), RepP X K vs (l.map fun p => (V.int p.1, p.2)) → ∃ kvs, Carries (intKind X.prog X.w) vs kvs ∧ RepD X K kvs l
  | _, [], h => by cases h; exact ⟨[], True.intro, .nil⟩
  | _, (k, y) :: l, h => by
    cases h with
    | @cons a b _ _ vs _ ra rb t =>
      obtain ⟨tk, rfl⟩ := ra.int_inv
      obtain ⟨kvs, hc, hr⟩ := carriesI l t
      exact ⟨(k, b) :: kvs, ⟨intKind_is _ _ _ _, rfl, hc⟩, .cons rb hr⟩

theorem WE_dictS {keys : List (Option Expr)} {values : List Expr} {ps : List (Sem Value × Sem Value)}
    (hshape : (evalEachOpt keys env).zip ((evalEach values env).map fun v => do let x ← v; standAt pos; pure x) = ps.map fun p => (some p.1, p.2)) (h0 : ps ≠ []) (hlen : ps.length ≤ 15)
    (h : WD X n env f st ps (fun l' st₁ => ∃ l : List (Str × V), l' = l.map (fun p => (V.str p.1, p.2)) ∧ (l.map (·.1)).Nodup ∧ ∀ a, Q (.obj a) ((a, .dictS l) :: st₁))) : WE X n env f st (.Dict keys values pos) Q := by
  intro K A rest s ok I
  have I' := I.grow (st := st) (h' := s.heap.push { cls := .type "dict", data := .dict #[] }) (x := .raw { cls := .type "dict", data := .dict #[] }) (fun b o e => Heap.get?_push_of_some _ e) (Nat.le_refl _) (Heap.get?_push_size _ rfl) rfl
  refine wpAny_Dict_pairs (knd := PySem.strKind X.prog X.w) hshape h0 hlen (wpAny_mono (h K A ((s.heap.objs.size, .raw { cls := .type "dict", data := .dict #[] }) :: rest) { s with heap := s.heap.push { cls := .type "dict", data := .dict #[] } } ok I') ?_ fun _ _ e => e)
  rintro vs s₁ ⟨K₁, l', st₁, hK₁, hr₁, I₁, S₁, l, rfl, hn, hq⟩
  obtain ⟨kvs, hc, hr⟩ := carriesS l hr₁
  have hraw : s₁.heap.get? s.heap.objs.size = some { cls := .type "dict", data := .dict #[] } := by
    obtain ⟨o, ho, e⟩ := I₁.inv.objs (s.heap.objs.size, .raw { cls := .type "dict", data := .dict #[] }) (by simp)
    rw [ho]; exact congrArg some e
  have hnew : s₁.heap.DictOf (PySem.strKind X.prog X.w) s.heap.objs.size [] := by
    obtain ⟨o, ho, hd⟩ := Heap.dictOf_iff.mp (Heap.DictOf.new (knd := PySem.strKind X.prog X.w) s.heap)
    rw [Heap.get?_push_size _ rfl] at ho; cases ho
    exact Heap.dictOf_iff.mpr ⟨_, hraw, hd⟩
  refine ⟨kvs, hc, hnew, fun h' hm hs => ?_⟩
  rw [merged_new kvs [] (by simp) (by rw [hr.keys]; exact hn), List.nil_append] at hm
  obtain ⟨o', ho', hd'⟩ := Heap.dictOf_iff.mp hm
  have I₂ : IF X K₁ env f (st₁ ++ ((s.heap.objs.size, .dictS l) :: rest)) h' := by
    refine ⟨I₁.inv.changeE (fun b o hb e => (hs.2 b hb).trans e) ho' ⟨kvs, hd', hr⟩, I₁.fr.move (.refl _) (fun b hb o ho => (hs.2 b ?_).trans ho) (fun b hb => I₁.fr.noK hb), fun p hp => ?_⟩
    · rintro rfl; exact I₁.dj (s.heap.objs.size, .raw { cls := .type "dict", data := .dict #[] }) (by simp) hb
    · rcases List.mem_append.mp hp with hp | hp
      · exact I₁.dj p (List.mem_append.mpr (.inl hp))
      · rcases List.mem_cons.mp hp with rfl | hp
        · exact I₁.dj (s.heap.objs.size, .raw { cls := .type "dict", data := .dict #[] }) (by simp)
        · exact I₁.dj p (List.mem_append.mpr (.inr (.tail _ hp)))
  exact ⟨K₁, .obj _, (_, .dictS l) :: st₁, hK₁, .obj s.heap.objs.size, ⟨I₂.inv.perm List.perm_middle.symm, I₂.fr, fun p hp => I₂.dj p (List.perm_middle.symm.subset hp)⟩, (Same.of s _ _).trans (S₁.trans (.of ..)), hq _⟩
theorem WE_dictI {keys : List (Option Expr)} {values : List Expr} {ps : List (Sem Value × Sem Value)}
    (hshape : (evalEachOpt keys env).zip ((evalEach values env).map fun v => do let x ← v; standAt pos; pure x) = ps.map fun p => (some p.1, p.2)) (h0 : ps ≠ []) (hlen : ps.length ≤ 15)
    (h : WD X n env f st ps (fun l' st₁ => ∃ l : List (Int × V), l' = l.map (fun p => (V.int p.1, p.2)) ∧ (l.map (·.1)).Nodup ∧ ∀ a, Q (.obj a) ((a, .dictI l) :: st₁))) : WE X n env f st (.Dict keys values pos) Q := by
  intro K A rest s ok I
  have I' := I.grow (st := st) (h' := s.heap.push { cls := .type "dict", data := .dict #[] }) (x := .raw { cls := .type "dict", data := .dict #[] }) (fun b o e => Heap.get?_push_of_some _ e) (Nat.le_refl _) (Heap.get?_push_size _ rfl) rfl
  refine wpAny_Dict_pairs (knd := intKind X.prog X.w) hshape h0 hlen (wpAny_mono (h K A ((s.heap.objs.size, .raw { cls := .type "dict", data := .dict #[] }) :: rest) { s with heap := s.heap.push { cls := .type "dict", data := .dict #[] } } ok I') ?_ fun _ _ e => e)
  rintro vs s₁ ⟨K₁, l', st₁, hK₁, hr₁, I₁, S₁, l, rfl, hn, hq⟩
  obtain ⟨kvs, hc, hr⟩ := carriesI l hr₁
  have hraw : s₁.heap.get? s.heap.objs.size = some { cls := .type "dict", data := .dict #[] } := by
    obtain ⟨o, ho, e⟩ := I₁.inv.objs (s.heap.objs.size, .raw { cls := .type "dict", data := .dict #[] }) (by simp)
    rw [ho]; exact congrArg some e
  have hnew : s₁.heap.DictOf (intKind X.prog X.w) s.heap.objs.size [] := by
    obtain ⟨o, ho, hd⟩ := Heap.dictOf_iff.mp (Heap.DictOf.new (knd := intKind X.prog X.w) s.heap)
    rw [Heap.get?_push_size _ rfl] at ho; cases ho
    exact Heap.dictOf_iff.mpr ⟨_, hraw, hd⟩
  refine ⟨kvs, hc, hnew, fun h' hm hs => ?_⟩
  rw [merged_new kvs [] (by simp) (by rw [hr.keys]; exact hn), List.nil_append] at hm
  obtain ⟨o', ho', hd'⟩ := Heap.dictOf_iff.mp hm
  have I₂ : IF X K₁ env f (st₁ ++ ((s.heap.objs.size, .dictI l) :: rest)) h' := by
    refine ⟨I₁.inv.changeE (fun b o hb e => (hs.2 b hb).trans e) ho' ⟨kvs, hd', hr⟩, I₁.fr.move (.refl _) (fun b hb o ho => (hs.2 b ?_).trans ho) (fun b hb => I₁.fr.noK hb), fun p hp => ?_⟩
    · rintro rfl; exact I₁.dj (s.heap.objs.size, .raw { cls := .type "dict", data := .dict #[] }) (by simp) hb
    · rcases List.mem_append.mp hp with hp | hp
      · exact I₁.dj p (List.mem_append.mpr (.inl hp))
      · rcases List.mem_cons.mp hp with rfl | hp
        · exact I₁.dj (s.heap.objs.size, .raw { cls := .type "dict", data := .dict #[] }) (by simp)
        · exact I₁.dj p (List.mem_append.mpr (.inr (.tail _ hp)))
  exact ⟨K₁, .obj _, (_, .dictI l) :: st₁, hK₁, .obj s.heap.objs.size, ⟨I₂.inv.perm List.perm_middle.symm, I₂.fr, fun p hp => I₂.dj p (List.perm_middle.symm.subset hp)⟩, (Same.of s _ _).trans (S₁.trans (.of ..)), hq _⟩

theorem repL_of {K : KM} : ∀ {vs : List Value} {xs : List V}, vs.length = xs.length → (∀ (j : Nat) (v : Value) (x : V), vs[j]? = some v → xs[j]? = some x → RepV X K v x) → RepL X K vs xs
  | [], [], _, _ => .nil
  | [], _ :: _, h, _ => by simp at h
  | _ :: _, [], h, _ => by simp at h
  | v :: vs, x :: xs, h, hp => .cons (hp 0 v x rfl rfl) (repL_of (by simpa using h) fun j v x e1 e2 => hp (j + 1) v x (by simpa using e1) (by simpa using e2))

noncomputable def rngI (a b : Int) : List Int := (List.range (b - a).toNat).map fun (i : Nat) => a + (i : Int)
theorem rngItems_vi (a b : Int) : rngItems a b = vi (rngI a b) := by simp [rngItems, rngI, vi, List.map_map, Function.comp_def]
theorem tuple_new_range (r : Addr) (a b : Int) (t u v : Tok) (k : Nat) (hsmall : Builtin.Range.small a b 1 = true) (hn : Builtin.Range.rangeSize a b 1 = k) (hk : k ≤ 1000) :
    Meets (Builtin.«tuple.__new__» ⟨[.type "tuple", .ref r], []⟩)
      (fun A R s => A.handled = none ∧ s.heap.get? r = some ⟨.type "range", .none, .fields #[.int a t, .int b u, .int 1 v], #[]⟩ ∧ ∀ (h' : Heap) (tk : Nat) (acc : Array Value), (∀ b o', s.heap.get? b = some o' → h'.get? b = some o') → ItemsOf (fun i v => ∃ t, v = .int (a + i * 1) t) acc k →
        R (.ok (.ret (.ref h'.objs.size))) { s with heap := h'.push { cls := .type "tuple", data := .seq acc }, toks := tk }) :=
  .of_wp fun prog w A R s h => by
    obtain ⟨hp, g, d, tk, os⟩ := s; obtain ⟨hh, ht, h⟩ := h
    have hsub := sub_tuple_self
    have hinit := init_tuple_lookup
    have hmh := madeHere_tuple
    have hT : Shared.TypeIs ⟨hp, g, d, tk, os⟩ (.ref r) "range" := ⟨_, ht, rfl⟩
    wp_walk using wpAny_loadPart' ht, wpAny_typeOf hT, collect_range (A := A.in1) hh ht hsmall hn hk
    intro h' tk' acc hk hacc
    show wpAny _ _ (Builtin.Tuple.tupleExact acc.toList.toArray >>= fun v => ret v) _ _ _
    unfold Builtin.Tuple.tupleExact
    refine wpAny_bind (wpAny_newObj_type ?_ (by show acc.toList.toArray.size ≤ sizeLine; rw [sizeLine_eq]; have := hacc.1; simp; lia))
    refine wpAny_pure ⟨_, rfl, ?_⟩
    have e : acc.toList.toArray = acc := by simp
    rw [e]
    exact h h' tk' acc hk hacc
theorem c_tupleR {a b : Int} (hab : -1000 ≤ a ∧ a ≤ 1000 ∧ -1000 ≤ b ∧ b ≤ 1000 ∧ b - a ≤ 1000) (h : Q (.tup (rngItems a b)) st) : Call X n st (.type "tuple") [.rng a b] Q :=
  .one fun K u r => .fresh (x := V.tup (rngItems a b)) (fun A rest s R ok I kk => by
    cases r with
    | @rng p _ _ t1 t2 t3 e =>
    have e' := I.kept _ _ e
    have hsz : Builtin.Range.rangeSize a b 1 = (((b - a).toNat : Nat) : Int) := by rw [rangeSize_one]; split <;> lia
    refine callType_new F.called_tuple (by decide) (F.typeCall_tuple_1 _) (F.newCall_tuple_1 _) (fun obj => F.args_object_init_2 obj _) F.entry_tuple_new
      (tuple_new_range p a b t1 t2 t3 (b - a).toNat (small_of (by lia)) hsz (by lia)) ⟨ok.h, e', fun h' tk acc hk hacc => ⟨⟨_, Heap.get?_push_size _ rfl, rfl⟩, ?_⟩⟩
    refine kk _ _ _ tk (none_back hk (new_none (Nat.le_refl _))) (fun b o e => Heap.get?_push_of_some _ (hk b o e)) (Heap.get?_push_size _ rfl) fun hK => .tup kset_self ?_
    refine repL_of (by rw [rngItems_length, Array.length_toList]; exact hacc.1) fun j v x e1 e2 => ?_
    obtain ⟨t, rfl⟩ := hacc.2 j v (by simpa using e1)
    have hj : j < (b - a).toNat := by
      have := (List.getElem?_eq_some_iff.mp e2).1
      rwa [rngItems_length] at this
    have : x = .int (a + (j : Int)) := by
      rw [show (rngItems a b)[j]? = some (.int (a + (j : Int))) by simp [rngItems, hj]] at e2
      exact (Option.some.inj e2).symm
    subst this
    simpa using RepV.int (a + (j : Int)) t) h

theorem sorted_of {A : Around} {E : Value → Shared → Prop} {s : Shared} {r : Addr} {ns : List Int} {R : Value → Shared → Prop} (hl : ns.length < 64)
    (hc : ∀ R' : List Value → Shared → Prop, (∀ (h' : Heap) (tk : Nat) (vs : List Value), (∀ b o, s.heap.get? b = some o → h'.get? b = some o) → IntsAre vs ns → R' vs { s with heap := h', toks := tk }) → wpAny (model X.prog X.w) A.in1 (collect (.ref r)) R' E s)
    (h : ∀ (a : Addr) (out : Array Value) (h' : Heap) (tk : Nat) (e : Nat), s.heap.get? a = none → (∀ b o, s.heap.get? b = some o → h'.get? b = some o) → h'.get? a = some (seqObj "list" out e) → IntsAre out.toList (isort ns) → R (.ref a) { s with heap := h', toks := tk }) :
    wpAny (model X.prog X.w) A (call (.builtin "sorted") [.ref r]) R E s := by
  refine Calls.call_function_entry kind_sorted plain_sorted entry_sorted (args_sorted1 _) ?_
  unfold Builtin.«sorted»
  refine wpAny_bind (m := checkCount "sorted" 1 1 _) (wpAny_pure ?_)
  refine wpAny_bind (hc _ fun h' tk vs hk hi => ?_)
  have hvl := ints_len hi
  refine wpAny_bind (wpAny_newList ?_ (by rw [hvl, sizeLine_eq]; lia))
  have hoL : (h'.push (seqObj "list" vs.toArray 0)).get? h'.objs.size = some (seqObj "list" vs.toArray 0) := Heap.get?_push_size _ rfl
  show wpAny _ _ _ _ _ { s with heap := h'.push (seqObj "list" vs.toArray 0), toks := tk }
  refine wpAny_bind (wpAny_holding (wpAny_call_entry slot_list_sort ⟨_, hoL, rfl⟩ entry_list_sort (list_sort_tree hoL hi (by rw [hvl]; exact hl) fun out ns' a1 a2 a3 => ⟨_, rfl, ?_⟩) (args_list_sort _)))
  have hns := isort_of a2 a3
  subst hns
  obtain ⟨e, hg⟩ := sortedHeap_at (out := out) hoL
  refine wpAny_pure ⟨_, rfl, h _ out _ tk e (none_back hk (new_none (Nat.le_refl _))) (fun b o e => ?_) hg a1⟩
  have hb : @LT.lt Nat _ b h'.objs.size := Heap.lt_size (hk b o e)
  rw [sortedHeap_old (Nat.ne_of_lt hb) (by rw [size_push']; exact Nat.lt_succ_of_lt hb), Heap.get?_push_ne _ _ _ (Nat.ne_of_lt hb)]
  exact hk b o e
theorem c_sortedD {x : V} {l : List (Int × V)} (hx : DV st x l) (hl : l.length < 64) (h : Q (.lst (vi (isort (l.map (·.1))))) st) : Call X n st (.builtin "sorted") [x] Q :=
  .one fun K u r => .fresh (x := V.lst (vi (isort (l.map (·.1))))) (fun A rest s R ok I kk => by
    obtain ⟨a, kvs, rfl, lo, hd, rl⟩ := hx.rep I r
    obtain ⟨o, es, ep, ho, hdd⟩ := hd
    have hAt : s.heap.DictAt (intKind X.prog X.w) a kvs ep := ⟨o, es, ho, hdd⟩
    refine sorted_of (X := X) (ns := l.map (·.1)) (by simpa using hl) (fun R' hR' => kdu_collect (kdl_dict (knd := intKind X.prog X.w) (kvs := kvs) (ep := ep) lo) (A := A.in1) ok.h hAt (by rw [rl.length, sizeLine_eq]; lia) fun h' tk acc hk hacc => hR' h' tk acc.toList hk ?_) fun b out h' tk e hb hk hg hi => kk b _ h' tk hb hk hg fun _ => .lst kset_self (rep_of_ints hi)
    have : RepL X K acc.toList (vi (l.map (·.1))) := by
      refine repL_of (by rw [Array.length_toList, hacc.1, vi_length, List.length_map, rl.length]) fun j v x e1 e2 => ?_
      obtain ⟨k, y, hk, hi⟩ := hacc.2 j v (by simpa using e1)
      obtain ⟨t, rfl⟩ := Value.isInt_shape hi
      have : x = .int k := by
        have hkeys := rl.keys
        have h1 : (kvs.map (·.1))[j]? = some k := by rw [List.getElem?_map, hk]; rfl
        rw [hkeys] at h1
        unfold vi at e2
        rw [List.getElem?_map, h1] at e2
        exact (Option.some.inj e2).symm
      subst this
      exact .int k t
    exact ints_of this) h
end
theorem any_loop {prog : Program} {w : World} {A : Around} {I : Addr} {fp wr : List Addr} {n : Nat} {P : Nat → Value → Prop} {Sx : Nat → Heap → Prop} {R : Result → Shared → Prop} (W : Walks prog w A.in1 I fp wr n P Sx) (tr : Nat → Bool) (Hp : Heap → Prop)
    (hH : ∀ h h', Hp h → (∀ b o, b ∉ wr → h.get? b = some o → h'.get? b = some o) → Hp h')
    (htr : ∀ i v (s : Shared) (Q : Bool → Shared → Prop) (E : Value → Shared → Prop), i < n → P i v → Hp s.heap → (∀ tk, Q (tr i) { s with toks := tk }) → wpAny (model prog w) A.in1 (truthy v) Q E s) :
    ∀ (k i : Nat) (s : Shared), n - i = k → i ≤ n → Sx i s.heap → Hp s.heap →
    (∀ h' tk, (∀ b o, b ∉ wr → s.heap.get? b = some o → h'.get? b = some o) → R (.ok (.ret (.bool (((List.range n).drop i).any tr)))) { s with heap := h', toks := tk }) →
    codeAny (model prog w) A (.builtin "any.loop" ⟨[.ref I], []⟩) R s := by
  intro k
  induction k with
  | zero =>
    intro i s hk hi hst hHp hR
    have hin : i = n := by lia
    subst hin
    refine codeAny_builtin F.entry_any_loop ?_
    rw [Around.under_plainId F.plain_any_loop _]
    show wpAny _ A.in1 (pyNext (.ref I) >>= _) _ _ s
    refine wpAny_bind (W.done s _ _ hst fun h' tk hk' => ?_)
    refine wpAny_bind (wpAny_rule (wpAny_pure ?_))
    have := hR h' tk hk'
    rw [List.drop_of_length_le (by simp)] at this
    exact this
  | succ k ih =>
    intro i s hk hi hst hHp hR
    have hlt : i < n := by lia
    have hd : (List.range n).drop i = i :: (List.range n).drop (i + 1) := by
      rw [List.drop_eq_getElem_cons (by simpa using hlt)]; simp
    refine codeAny_builtin F.entry_any_loop ?_
    rw [Around.under_plainId F.plain_any_loop _]
    show wpAny _ A.in1 (pyNext (.ref I) >>= _) _ _ s
    refine wpAny_bind (W.item i s _ _ hlt hst fun v h' tk hP hst' hk' => ?_)
    refine wpAny_bind (wpAny_holding (htr i v _ _ _ hlt hP (hH _ _ hHp hk') fun tk₂ => ?_))
    refine wpAny_bind (wpAny_letGo ?_)
    cases hb : tr i with
    | false =>
      simp only [Bool.false_eq_true, if_false]
      refine wpAny_pure ⟨plainId_quiet F.plain_any_loop _, ih (i + 1) _ (by lia) hlt hst' (hH _ _ hHp hk') fun h'' tk'' hk'' => ?_⟩
      have := hR h'' tk'' fun b o hbw e => hk'' b o hbw (hk' b o hbw e)
      rw [hd, List.any_cons, hb, Bool.false_or] at this
      exact this
    | true =>
      simp only [if_true]
      refine wpAny_bind (wpAny_rule (wpAny_pure ?_))
      have := hR h' tk₂ hk'
      rw [hd, List.any_cons, hb, Bool.true_or] at this
      exact this

noncomputable def truthV : V → Bool
  | .bool b => b
  | .tup l => !l.isEmpty
  | _ => false
inductive TrOk : V → Prop
  | bool (b : Bool) : TrOk (.bool b)
  | tup (l : List V) : l.length ≤ 100000 → TrOk (.tup l)
theorem any_range {α : Type} (d : α) (p : α → Bool) : ∀ l : List α, (List.range l.length).any (fun i => p (l[i]?.getD d)) = l.any p
  | [] => rfl
  | a :: l => by
    rw [List.length_cons, List.range_succ_eq_map, List.any_cons, List.any_map, List.any_cons, ← any_range d p l]
    rfl

section
variable {X : Cx} {n : Nat} {env : Env} {f : Fm} {st st' : St} {Q : V → St → Prop} {pos : Pos}
theorem c_any {l : List V} (hl : ∀ x ∈ l, TrOk x) (h : Q (.bool (l.any truthV)) st) : Call X n st (.builtin "any") [.lst l] Q :=
  .one fun K u r => .keep (x := V.bool (l.any truthV)) (fun A rest s R ok I kk => by
    refine call_function_tree F.kind_any F.plain_any F.entry_any (F.args_any1 _) ?_
    unfold Builtin.«any»
    refine wpAny_bind (m := oneArg "any" _) (wpAny_pure ?_)
    refine wpAny_bind (iter_frozen (X := X) (A := A.in1) (st := st ++ rest) (rest := []) ok.h I r (.lst l) fun fp P Sx h' W hS hk => ?_)
    have hKI : K s.heap.objs.size = none := I.none_of_size (Nat.le_refl _)
    refine wpAny_pure ⟨plainId_quiet F.plain_any_loop _, any_loop (A := A) W.W (fun i => truthV (l[i]?.getD .none)) (fun h => ∀ b o, K b = some o → h.get? b = some o) (fun h₁ h₂ a b c o e => b c o (fun hm => ?_) (a c o e)) ?_ l.length 0 _ rfl (Nat.zero_le _) hS (fun b o e => hk b o (I.kept b o e)) fun h'' tk hk'' => ?_⟩
    · rw [List.mem_singleton.mp hm, hKI] at e; cases e
    · intro i v s₁ Q₁ E₁ hi hP hH hQ
      obtain ⟨x, hx, rx⟩ := W.rep i v hi hP
      rw [hx] at hQ
      have hx' : x ∈ l := List.mem_of_getElem? hx
      cases hl x hx' with
      | bool b => cases rx; exact wpAny_truthy_bool (hQ s₁.toks)
      | tup m hm =>
        cases rx with
        | @tup a items c _ e rl =>
          have e' := hH _ _ e
          have hsz : items.size = m.length := by rw [← rl.length]; simp
          refine truthy_tuple (show IsTup s₁.heap a items from ⟨_, e', rfl, c, rfl⟩) (by lia) ?_
          have : (!items.isEmpty) = truthV (.tup m) := by
            show (!items.isEmpty) = (!m.isEmpty)
            rw [Array.isEmpty, hsz]; cases m <;> simp
          rw [this]; exact hQ _
    · rw [List.drop_zero, any_range .none truthV l]
      exact kk _ h'' tk (fun b o e => hk'' b o (fun hm => by
        have hlt := Heap.lt_size e
        rw [List.mem_singleton.mp hm] at hlt
        exact Nat.lt_irrefl _ hlt) (hk b o e)) (.bool _)) h

theorem RepN.has {K : KM} {es : List DictEntry} {l : List (Str × V)} (h : RepN X K es l) : es.any (·.refKey) = false := by
  induction h with
  | nil => rfl
  | cons _ _ ih => rw [List.any_cons, ih]; rfl
theorem RepN.look {K : KM} {es : List DictEntry} {l : List (Str × V)} (h : RepN X K es l) (name : Str) : (∀ x, l.lookup name = some x → ∃ v, getL name es = some (some v) ∧ RepV X K v x) ∧ (l.lookup name = none → getL name es = some none) := by
  have hno := h.has
  unfold getL
  have key : (∀ x, l.lookup name = some x → ∃ e, es.find? (·.key.isStr name) = some e ∧ RepV X K e.val x) ∧ (l.lookup name = none → es.find? (·.key.isStr name) = none) := by
    clear hno
    induction h with
    | nil => exact ⟨fun x e => by simp at e, fun _ => rfl⟩
    | @cons g k t v y es l r _ ih =>
      rw [List.find?_cons, List.lookup_cons]
      have e1 : ({ hash := g, key := Value.str k t, val := v } : DictEntry).key.isStr name = (k == name) := rfl
      rw [e1]
      cases hb : (k == name) with
      | true =>
        have e := beq_iff_eq.mp hb; subst e
        simp only [beq_self_eq_true]
        exact ⟨fun x e => by cases e; exact ⟨_, rfl, r⟩, fun e => by cases e⟩
      | false =>
        have hb' : (name == k) = false := by rw [beq_eq_false_iff_ne] at hb ⊢; exact Ne.symm hb
        rw [hb']
        exact ih
  refine ⟨fun x e => ?_, fun e => ?_⟩
  · obtain ⟨en, h1, h2⟩ := key.1 x e; rw [h1]; exact ⟨_, rfl, h2⟩
  · rw [key.2 e, hno]; simp
theorem RepN.put {K : KM} {es : List DictEntry} {l : List (Str × V)} (h : RepN X K es l) (name : Str) (g : Int) (t : Tok) {v : Value} {x : V} (r : RepV X K v x) : RepN X K (putL name g (.str name t) v es) (fset name x l) := by
  induction h with
  | nil => exact .cons r .nil
  | @cons g' k t' v' y es l r' t ih =>
    unfold putL fset
    show RepN X K (if (k == name) = true then _ else _) (if (k == name) = true then _ else _)
    cases hb : (k == name) with
    | true =>
      have e := beq_iff_eq.mp hb; subst e
      simp only [if_true]
      exact .cons r t
    | false => simp only [Bool.false_eq_true, if_false]; exact .cons r' ih

theorem inst_of {K : KM} {rest : St} {h : Heap} {a C d : Addr} {l : List (Str × V)} (I : Inv X K (st ++ rest) h) (hx : At a (.inst C d) st) (hd : At d (.ns l) st) :
    ∃ es m, InstAt h a (instObj C d) C (some (PySem.W.dictOf es m)) ∧ h.get? d = some (PySem.W.dictOf es m) ∧ RepN X K es l := by
  obtain ⟨o, ho, rfl, _⟩ := I.at hx
  obtain ⟨o', ho', ⟨es, m, rfl, rn⟩, _⟩ := I.at hd
  exact ⟨es, m, ⟨ho, rfl, rfl, ho'⟩, ho', rn⟩

theorem WE_attr {e : Expr} {name : Str} (h : WE X n env f st e (fun a st₁ => Op X n st₁ [a] (on1 (fun v => getAttr v name true)) Q))
    (he : eval (.Attribute e name pos) env = (do
      let o ← eval e env
      standAt pos.atName
      let r ← holding [o] (getAttr o name true)
      letTemporaryGo e o r
      pure r) := by with_unfolding_all rfl) : WE X n env f st (.Attribute e name pos) Q := by
  intro K A rest s ok I
  refine Attribute_any_ (wpAny_mono (h K A rest s ok I) ?_ fun _ _ e => e) he
  rintro a s₁ ⟨K₁, x, st₁, hK₁, hr₁, I₁, S₁, h₁⟩
  refine wpAny_mono (TE.of (h₁ K₁ [a] (.one hr₁)) A rest s₁ ok I₁) ?_ fun _ _ e => e
  rintro c s₃ ⟨K₃, z, st₃, hK₃, hr₃, I₃, S₃, h₃⟩
  exact ⟨K₃, z, st₃, hK₁.trans hK₃, hr₃, I₃, S₁.trans S₃, h₃⟩

theorem op_get {Fk : Frag} (hF : Fk.In X.B) {a C d : Addr} {l : List (Str × V)} {name : Str} {y : V} {ex : Bool} (hg : plainGet Fk C name = true) (hh : hasDictIn Fk C = true) (ha : findIn Fk (.ref C) name = some none)
    (hx : At a (.inst C d) st) (hd : At d (.ns l) st) (hy : l.lookup name = some y) (hv : ∀ K v, RepV X K v y → handedIn v = true) (h : Q y st) : Op X n st [.obj a] (on1 (fun v => getAttr v name ex)) Q :=
  .one fun K u r => .read (x := y) (fun A rest s R ok I kk => by
    obtain rfl := r.obj_inv
    obtain ⟨es, m, J, ho, rn⟩ := inst_of I hx hd
    obtain ⟨v, hv1, rv⟩ := (rn.look name).1 y hy
    exact get_value (hF.keeps I.baseIn) J (plainGet_of hg).1 (findObj_own hh ha rfl hv1) (hv K v rv) (kk v _ rv)) h
theorem handed_rep {K : KM} {v : Value} {y : V} (r : RepV X K v y) : handedIn v = true := by cases r <;> rfl

theorem osa_ns {A : Around} {s : Shared} {Fk : Frag} {x C d : Addr} {es : List DictEntry} {m : Nat} {name : Str} {tk : Tok} {v : Value} {R : Result → Shared → Prop} (hX : Fk.In s.heap) (J : InstAt s.heap x (instObj C d) C (some (PySem.W.dictOf es m)))
    (hp : plainOver Fk C = true) (ht : takerIn Fk C name = some none) (hh : hasDictIn Fk C = true) (hno : es.any (·.refKey) = false) (hz : (putL name (PyData.keyHash X.w.params name) (.str name s.toks) v es).length ≤ 1000)
    (h : ∀ h', (∀ b o, b ≠ d → s.heap.get? b = some o → h'.get? b = some o) → h'.get? d = some (PySem.W.dictOf (putL name (PyData.keyHash X.w.params name) (.str name s.toks) v es) (putN name es m)) → R (.ok (.ret .none)) { s with heap := h', toks := s.toks + 1 }) :
    codeAny (model X.prog X.w) A (.call (.builtin "object.__setattr__") ⟨[.ref x, .str name tk, v], []⟩) R s := by
  refine osa_open hX J hp ht fun b => ?_
  obtain ⟨cd, hc, hd'⟩ := any_some hh
  have D : s.heap.get? d = some (PySem.W.dictOf es m) := J.dict
  obtain ⟨hx, hcl, hn, -⟩ := J
  refine wpAny_bind (wpAny_pure (wpAny_bind (wpAny_bind (wpAny_loadPart hx (wpAny_bind ((looks_clsIn hX hc).here ?_))))))
  rw [hd']
  refine wpAny_pure (a := some d) (wpAny_bind (wpAny_pure (wpAny_bind ?_)))
  unfold nsSet
  refine wpAny_bind (wpAny_bind (wpAny_askSetting (wpAny_pure (wpAny_bind (wpAny_mkText (wpAny_bind (wpAny_loadPart D ?_)))))))
  have c : (!es.toArray.any (·.key.isStr name) && es.toArray.any (·.refKey)) = false := by
    have : es.toArray.any (·.refKey) = false := by rw [← Array.any_toList]; exact hno
    rw [this, Bool.and_false]
  show wpAny _ _ (if aRefKeyMayBeTheName name es.toArray = true then _ else _) _ _ _
  rw [aRefKeyMayBeTheName_at, c, if_neg (by decide)]
  have hup : (s.heap.update d (Obj.putName name (PyData.keyHash X.w.params name) (.str name s.toks) v)).get? d = some (PySem.W.dictOf (putL name (PyData.keyHash X.w.params name) (.str name s.toks) v es) (putN name es m)) := by
    have := Heap.get?_update_self (Obj.putName name (PyData.keyHash X.w.params name) (.str name s.toks) v) D (by rw [putName_dict]; rfl)
    rwa [putName_dict] at this
  refine wpAny_updatePart D ?_
  refine wpAny_bind (wpAny_lookBehind hup (pastItsLine_dict (by rw [List.size_toArray, sizeLine_eq]; lia)) ?_)
  exact wpAny_pure (h _ (fun b o hb e => (Heap.get?_update_ne _ _ _ _ hb).trans e) hup)

theorem RepN.len {K : KM} {es : List DictEntry} {l : List (Str × V)} (h : RepN X K es l) : es.length = l.length := by
  induction h with
  | nil => rfl
  | cons _ _ ih => simp [ih]
theorem op_setattr {Fk : Frag} (hF : Fk.In X.B) {a C d : Addr} {l : List (Str × V)} {name : Str} {y : V} {Q : St → Prop} (hs : findIn Fk (.ref C) "__setattr__" = some (some (.builtin "object.__setattr__"))) (hp : plainOver Fk C = true) (ht : takerIn Fk C name = some none) (hh : hasDictIn Fk C = true)
    (hx : At a (.inst C d) st) (u : Up d (.ns l) (.ns (fset name y l)) st st') (hz : (fset name y l).length ≤ 1000) (h : Q st') : OpU X n st [.obj a, y] (on2 (fun v w => setAttr v name w)) Q :=
  .two fun K p q r1 r2 => .upd (x := ()) (Q := fun _ st' => Q st') u (fun A rest s R o ok I hlo ho ro kk => by
    obtain rfl := r1.obj_inv
    have hd : At d (.ns l) st := by
      have : ∀ {s₁ s₂ : St}, Up d (.ns l) (.ns (fset name y l)) s₁ s₂ → At d (.ns l) s₁ := by
        intro s₁ s₂ u
        induction u with
        | head => exact .head
        | tail _ ih => exact .tail ih
      exact this u
    obtain ⟨es, m, J, ho', rn⟩ := inst_of I hx hd
    refine set_plain (hF.keeps I.baseIn) J hs (osa_ns (s := { s with toks := s.toks + 1 }) (hF.keeps I.baseIn) J hp ht hh rn.has ?_ fun h' hk hd' => ?_)
    · rw [(rn.put name _ _ r2).len]; exact hz
    · exact kk () h' _ _ hk hd' ⟨_, _, rfl, rn.put name _ _ r2⟩ True.intro) h

noncomputable def Meth (X : Cx) (st : St) (x : V) (name : Str) (c : Value) : Prop := ∀ K u, RepV X K u x → ∀ (A : Around) (rest : St) (s : Shared) (pl : Sem Bool) (R : Value × List Value → Shared → Prop), Inv X K (st ++ rest) s.heap → R (c, [u]) s → wpAny (model X.prog X.w) A (getMethod u name pl) R NoE s
theorem Meth.own {Fk : Frag} (hF : Fk.In X.B) {a C d fa : Addr} {l : List (Str × V)} {name : Str} (hg : plainGet Fk C name = true) (hf : findIn Fk (.ref C) name = some (some (.ref fa))) (ht : isFn Fk (.ref fa) = true)
    (hx : At a (.inst C d) st) (hd : At d (.ns l) st) (hy : l.lookup name = none) : Meth X st (.obj a) name (.ref fa) := by
  intro K u r A rest s pl R I hR
  obtain rfl := r.obj_inv
  obtain ⟨es, m, J, ho, rn⟩ := inst_of I hx hd
  exact method_fn (hF.keeps I.baseIn) J (plainGet_of hg).1 (plainGet_of hg).2 hf (beq_iff_eq.mp ht) (by show (lookIn name (PySem.W.dictOf es m)).map _ = _; rw [lookIn_dict, (rn.look name).2 hy]; rfl) hR
theorem Meth.list {a : Addr} {l : List V} {name : Str} {id : String} (hx : At a (.list l) st) (pa : PlainAttrs "list") (slot : Slot "list" name id) (hty : typeOf (.builtin id) = pure (.type "method_descriptor")) : Meth X st (.obj a) name (.builtin id) := by
  intro K u r A rest s pl R I hR
  obtain rfl := r.obj_inv
  obtain ⟨o, ho, ⟨items, m, rfl, rl⟩, _⟩ := I.at hx
  exact getMethod_builtin ⟨_, ho, rfl⟩ pa slot hty (fun b e => by cases e; exact ⟨_, ho, rfl⟩) hR
theorem Meth.dict {a : Addr} {l : List (Int × V)} {name : Str} {id : String} (hx : At a (.dictI l) st) (pa : PlainAttrs "dict") (slot : Slot "dict" name id) (hty : typeOf (.builtin id) = pure (.type "method_descriptor")) : Meth X st (.obj a) name (.builtin id) := by
  intro K u r A rest s pl R I hR
  obtain rfl := r.obj_inv
  obtain ⟨o, ho, ⟨kvs, hd, rl⟩, _⟩ := I.at hx
  obtain ⟨es, ep, ⟨c1, c2, c3⟩, _⟩ := hd
  exact getMethod_builtin ⟨_, ho, c1⟩ pa slot hty (fun b e => by cases e; exact ⟨_, ho, c2⟩) hR

theorem WE_meth {o : Expr} {name : Str} {apos : Pos} {args : List Expr} (h : WE X n env f st o (fun x st₁ => ∃ c, Meth X st₁ x name c ∧ Kp X c ∧ WL X n env f st₁ args (fun xs st₂ => Call X n st₂ c (x :: xs) Q)))
    (pl : Sem Bool) (he : eval (.Call (.Attribute o name apos) args [] pos) env = (do
      let ov ← eval o env
      standAt apos.atName
      let (f, first) ← holding [ov] (getMethod ov name pl)
      callWith pos f first (backTo pos (starEach args env)) (backToKw pos (keywordEach [] env)))) (hstar : (starEach args env).any (·.1) = false := by rfl) :
    WE X n env f st (.Call (.Attribute o name apos) args [] pos) Q := by
  intro K A rest s ok I
  refine methodCall_KW (pl := pl) (wpAny_mono (h K A rest s ok I) ?_ fun _ _ e => e) he
  rintro u s₁ ⟨K₁, x, st₁, hK₁, r₁, I₁, S₁, c, hm, hk, h₁⟩
  refine hm K₁ u r₁ A rest s₁ pl _ I₁.inv ?_
  refine wpAny_mono (callWith_args ok hk I₁ (.one r₁) h₁ hstar) ?_ fun _ _ e => e
  rintro v s₃ ⟨K₃, z, st₃, hK₃, hr₃, I₃, S₃, h₃⟩
  exact ⟨K₃, z, st₃, hK₁.trans hK₃, hr₃, I₃, S₁.trans S₃, h₃⟩

theorem okUnder {n : Nat} {A : Around} (ok : Ok (n + 1) A) (args : Args) : Ok n (A.under (.builtin "type.__call__" args)) := by
  refine ⟨ok.h, ?_, ?_⟩
  · have h := ok.d
    show A.depth + (Code.builtin "type.__call__" args).weight + 8 * n + 100 ≤ 1000
    have : (Code.builtin "type.__call__" args).weight ≤ 2 := by 
      have e1 : (Code.builtin "type.__call__" args).frames = 0 := by kernel_rfl
      have e2 : (Code.builtin "type.__call__" args).isGuard = false := by show guardIds.contains "type.__call__" = false; decide +kernel
      have e3 : (Code.builtin "type.__call__" args).isCaller = false := by kernel_rfl
      unfold Code.weight
      rw [e1, e2, e3]
      split <;> simp
    lia
  · have h := ok.u
    show A.units + (Code.builtin "type.__call__" args).cUnits + 64 * n + 500 ≤ 9900
    have : (Code.builtin "type.__call__" args).cUnits ≤ 10 := by 
      have e1 : (Code.builtin "type.__call__" args).frames = 0 := by kernel_rfl
      show 1 + 3 * (Code.builtin "type.__call__" args).frames ≤ 10
      rw [e1]; decide
    lia
theorem c_class {Fk : Frag} (hF : Fk.In X.B) {C fI : Addr} {xs : List V} (hm : makesIn Fk C = true) (hi : findIn Fk (.ref C) "__init__" = some (some (.ref fI))) (hf : typeIn Fk (.ref fI) = some (.type "function"))
    (h : ∀ x dx, CallC X n ((x, .inst C dx) :: (dx, .ns []) :: st) (.ref fI) (.obj x :: xs) (fun v st' => v = .none ∧ Q (.obj x) st')) : Call X (n + 1) st (.ref C) xs Q := by
  intro K vs r A rest s ok I
  have hX := hF.keeps I.baseIn
  obtain ⟨hh, g, dd, t, os⟩ := s
  refine wpAny_call (make_core (makes_of hX hm) (looks_findIn hX hi) (fun self => bind_fn hX self hf) (.inl rfl) ?_)
  have I₁ : Inv X K ((hh.objs.size, .ns []) :: (st ++ rest)) (hh.push emptyDict) := I.grow (Nat.le_refl _) (I.newLo (Nat.le_refl _)) (fun b o e => Heap.get?_push_of_some _ e) (Heap.get?_push_size _ rfl) (empty_ns K)
  have I₂ : Inv X K ((hh.objs.size + 1, .inst C hh.objs.size) :: (hh.objs.size, .ns []) :: (st ++ rest)) ((hh.push emptyDict).push (instObj C hh.objs.size)) := by
    have hs : (hh.push emptyDict).objs.size = hh.objs.size + 1 := Heap.size_push _ _
    have hg := Heap.get?_push_size (hh.push emptyDict) (o := instObj C hh.objs.size) rfl
    rw [hs] at hg
    exact I₁.grow (Nat.le_of_eq hs) (I₁.newLo (Nat.le_of_eq hs)) (fun b o e => Heap.get?_push_of_some _ e) hg rfl
  refine h (hh.objs.size + 1) hh.objs.size K (.ref (hh.objs.size + 1) :: vs) (.cons (.obj _) r) _ rest _ _ (okUnder ok _) I₂ ?_
  rintro v s' K' x st' hK rv I' S ⟨rfl, hq⟩
  obtain rfl := rv.none_inv
  refine ⟨rfl, K', _, st', hK, .obj _, I', ?_, hq⟩
  obtain ⟨h', t', rfl⟩ := S
  exact ⟨h', t', rfl⟩
end
section
variable {X : Cx} {n : Nat} {env : Env} {f : Fm} {st : St} {pos : Pos}

theorem WS_assignCM {Q : Fl → Fm → St → Prop} {elt iter : Expr} {x y : Str} {px py : Pos} {ifs : List Expr} {scope : Scope} {cl : List (Str × Addr)} {cpos : Pos}
    (h : WE X n env f st iter (fun v st₁ => ∃ items, Its v items ∧ items.length ≤ 100000 ∧ ∃ I : List V → List V → List V → St → Prop, I [] items [] st₁ ∧
      (∀ C done y todo acc st₂, items = done ++ y :: todo → I done (y :: todo) acc st₂ → CStep X n (compEnvC scope cl C env) (fset x y (cap (cl.map (·.1)) f)) st₂ ifs elt (fun st₃ => I (done ++ [y]) todo acc st₃) (fun r st₃ => I (done ++ [y]) todo (acc ++ [r]) st₃)) ∧
      (∀ acc st₂, I items [] acc st₂ → ∀ D, Q .next (fset y (.obj D) f) ((D, .list acc) :: st₂))))
    (hcl : ClOk env scope cl) (hy : Sto env y) (hsw : swapsWith (.ListComp elt [⟨.Name x px, iter, ifs, 0⟩] scope cpos) (some (.Name y py)) pos.line env = pure true := by rfl)
    (hclos : closureFor scope env = pure cl := by rfl) (hcell : ∀ y ∈ scope.names, y.2 ≠ .cell := by decide) (hkind : scope.kind = .function := by rfl)
    (hnames : ∀ y ∈ scope.names, y.2 = .local → scope.names.lookup y.1 = some .local := by decide) (hx : scope.names.lookup x = some .local := by rfl)
    (hs : ∀ x, foldedSetIterable iter env x = pure x := by intro _; rfl) :
    WS X n env f st (.Assign [.Name y py] (.ListComp elt [⟨.Name x px, iter, ifs, 0⟩] scope cpos) pos) Q := by
  intro K A rest s ok I₀
  rw [exec_Assign_Name_used _ _ _ _ hsw]
  refine wpAny_bind (wpAny_standAt (wpAny_bind ?_))
  show wpAny _ A (do let _ ← comprehension (.ListComp elt [⟨.Name x px, iter, ifs, 0⟩] scope cpos) scope env _ (newList []) false (eval iter env) (some (assign (.Name y py) env))) _ _ s
  refine wpAny_bind (wpAny_mono (wpAny_comprehension_free (use := some (assign (.Name y py) env)) (Q := fun _ s' => PS X K env rest s Q .next s') rfl hs hclos hkind hnames
    (wpAny_mono (h K A rest s ok I₀) ?_ fun _ _ e => e)) (fun _ s' hq => wpAny_pure (wpAny_pure hq)) fun _ _ e => e)
  rintro u s₁ ⟨K₁, v, st₁, hK₁, hr, I₁, S₁, items, hits, hlen, I, h0, step, fin⟩
  refine comp_core (RR := fun acc C => compPost (model X.prog X.w) A NoE (some (assign (.Name y py) env)) _ acc C) (Qfin := fun acc st₂ => ∀ D, Q .next (fset y (.obj D) f) ((D, .list acc) :: st₂)) ok I₁ hr hits hlen hcl hcell hkind hx I h0 step fin ?_
  intro D C s' K' st'₀ acc m' S hK' I'₀ hm hKC hn₀ hf hlo hq'
  have hq := hq' D
  have hn : C ∉ ((((D, AObj.list acc) :: st'₀) ++ rest : St)).map (·.1) := hn₀
  have I' : IF X K' env f (((D, .list acc) :: st'₀) ++ rest) s'.heap := I'₀
  have rD : RepV X K' (.ref D) (.obj D) := .obj D
  show wpAny _ A (assign (.Name y py) env (.ref D)) _ _ _
  have hCL : C ≠ env.locals := fun e => hf (.inl e)
  -- the name is stored, C's own frame stands
  have I₂ : IF X K' env f ((C, .raw ((s'.heap.get? C).getD default)) :: (((D, .list acc) :: st'₀) ++ rest)) s'.heap := by
    obtain ⟨oC, _, _, hoC, _⟩ := hm
    have g : Inv X K' ((C, .raw ((s'.heap.get? C).getD default)) :: (((D, .list acc) :: st'₀) ++ rest)) s'.heap := by
      refine ⟨I'.inv.base, I'.inv.kept, fun p hp => ?_, ?_, fun p hp => ?_, fun p hp => ?_⟩
      · rcases List.mem_cons.mp hp with rfl | hp
        · exact ⟨oC, hoC, by show oC = _; rw [hoC]; rfl⟩
        · exact I'.inv.objs p hp
      · rw [List.map_cons, List.nodup_cons]; exact ⟨hn, I'.inv.nd⟩
      · rcases List.mem_cons.mp hp with rfl | hp
        · exact hKC
        · exact I'.inv.fr p hp
      · rcases List.mem_cons.mp hp with rfl | hp
        · exact hlo
        · exact I'.inv.lo p hp
    exact ⟨g, I'.fr, fun p hp => by
      rcases List.mem_cons.mp hp with rfl | hp
      · exact hf
      · exact I'.dj p hp⟩
  refine wpAny_assign_Name (I₂.store hy rD fun h' t I₃ => ?_)
  have hCsame : h'.get? C = s'.heap.get? C := by
    obtain ⟨oC, _, _, hoC, _⟩ := hm
    obtain ⟨o, ho, e⟩ := I₃.inv.objs (C, .raw ((s'.heap.get? C).getD default)) (.head _)
    have e' : o = (s'.heap.get? C).getD default := e
    rw [ho, e', hoC]; rfl
  refine ⟨m', hm.at fun o ho => hCsame.trans ho, fun h'' hs' => ?_⟩
  have I₄ : IF X K' env (fset y (.obj D) f) (((D, .list acc) :: st'₀) ++ rest) h'' := by
    have hno : ¬ frAddr env C := hf
    refine ⟨(I₃.inv.sub (List.sublist_cons_self ..)).off hKC hn fun b o hb e => (hs'.2 b hb).trans e, I₃.fr.move (.refl _) (fun a ha o ho => (hs'.2 a (fun e => hf (e ▸ ha))).trans ho) (fun a ha => I₃.fr.noK ha), I'.dj⟩
  exact ⟨K', _, _, ((D, .list acc) :: st'₀), hK₁.trans hK', .next, I₄, ((S₁.trans S).trans (.of ..)), hq⟩

theorem op_addLF {Q : V → St → Prop} {x y : V} {a b : List V} (hx : LV st x a) (hy : LV st y b) (hl : a.length + b.length ≤ 1000000) (h : Q (.lst (a ++ b)) st) : Op X n st [x, y] (on2 (binaryOp .Add)) Q :=
  .two fun K u v r1 r2 => .fresh (x := .lst (a ++ b)) (fun A rest s R ok I kk => by
    obtain ⟨p, xs, m1, rfl, e1, q1⟩ := hx.rep I r1
    obtain ⟨q, ys, m2, rfl, e2, q2⟩ := hy.rep I r2
    have l1 : xs.size = a.length := by rw [← q1.length]; simp
    have l2 : ys.size = b.length := by rw [← q2.length]; simp
    refine concat_meets (isList e1).typeIs (isList e2).typeIs noFill_list seqs_list F.slot_list_add F.entry_list_add (F.args_list_add_2 _ _) (AutoSeq1.list___add___list_list_0 p xs m1 q ys m2 (by rw [sizeLine_eq]; lia)) ⟨e1, e2, ?_⟩
    exact kk _ _ _ s.toks (new_none (Nat.le_refl _)) (fun b o e => Heap.get?_push_of_some _ e) (Heap.get?_push_size _ rfl) fun hK => .lst kset_self (by simpa using (q1.append q2).mono hK)) h
theorem c_listF {Q : V → St → Prop} {l : List V} (hl : l.length ≤ 100000) (h : Q (.lst l) st) : Call X n st (.type "list") [.tup l] Q :=
  .one fun K u r => .fresh (x := .lst l) (fun A rest s R ok I kk => by
    obtain ⟨p, xs, m1, rfl, e1, q1⟩ := tup_rep I r
    have l1 : xs.size = l.length := by rw [← q1.length]; simp
    refine call_list_seq p (.inr rfl) e1 rfl rfl (fun h' c' hk hg => ?_) (by rw [sizeLine_eq]; lia)
    exact kk _ _ _ s.toks (new_none (Nat.le_refl _)) hk hg fun hK => .lst kset_self (q1.mono hK)) h

noncomputable def Less (st₁ st₂ : St) : Prop := ∃ st₃, st₁.Sublist st₃ ∧ st₃.Perm st₂
theorem Less.refl (st : St) : Less st st := ⟨st, .refl _, .refl _⟩
theorem Less.perm {st₁ st₂ : St} (h : st₁.Perm st₂) : Less st₁ st₂ := ⟨st₁, .refl _, h⟩
theorem Less.sub {st₁ st₂ : St} (h : st₁.Sublist st₂) : Less st₁ st₂ := ⟨st₂, h, .refl _⟩
theorem Less.cons {st₁ st₂ : St} (p : Addr × AObj) (h : Less st₁ st₂) : Less (p :: st₁) (p :: st₂) := let ⟨a, b, c⟩ := h; ⟨p :: a, b.cons_cons p, c.cons p⟩
theorem Less.skip {st₁ st₂ : St} (p : Addr × AObj) (h : Less st₁ st₂) : Less st₁ (p :: st₂) := let ⟨a, b, c⟩ := h; ⟨p :: a, b.cons p, c.cons p⟩
theorem Less.inv {K : KM} {st₁ st₂ rest : St} {h : Heap} (l : Less st₁ st₂) (I : Inv X K (st₂ ++ rest) h) : Inv X K (st₁ ++ rest) h :=
  let ⟨st₃, a, b⟩ := l; (I.perm (b.append_right rest)).sub (a.append_right rest)
noncomputable abbrev Ls (Q : V → St → Prop) (v : V) (st' : St) : Prop := ∃ st'', Less st'' st' ∧ Q v st''
theorem CallC.less {c : Value} {xs : List V} {Q : V → St → Prop} (h : CallC X n st c xs (Ls Q)) : CallC X n st c xs Q :=
  fun K vs r A rest s R ok I hR => h K vs r A rest s R ok I fun v s' K' x st' a b d e ⟨st'', hl, q⟩ => hR v s' K' x st'' a b (hl.inv d) e q
theorem CallC.mono {c : Value} {xs : List V} {Q Q' : V → St → Prop} (h : CallC X n st c xs Q) (hq : ∀ v st', Q v st' → Q' v st') : CallC X n st c xs Q' :=
  fun K vs r A rest s R ok I hR => h K vs r A rest s R ok I fun v s' K' x st' a b d e q => hR v s' K' x st' a b d e (hq _ _ q)
theorem CallC.push {c : Value} {xs : List V} {Q : V → St → Prop} {p : Addr × AObj} (h : CallC X n st c xs (fun v st' => Q v (p :: st'))) : CallC X n (p :: st) c xs Q :=
  fun K vs r A rest s R ok I hR => h K vs r A (p :: rest) s R ok (I.perm List.perm_middle) fun v s' K' x st' a b d e q =>
    hR v s' K' x (p :: st') a b (d.perm (List.perm_middle (l₁ := st') (a := p) (l₂ := rest)).symm) e q
theorem Call.push {c : Value} {xs : List V} {Q : V → St → Prop} {p : Addr × AObj} (h : Call X n st c xs (fun v st' => Q v (p :: st'))) : Call X n (p :: st) c xs Q := by
  intro K vs r A rest s ok I
  refine wpAny_mono (h K vs r A (p :: rest) s ok (I.perm List.perm_middle)) (fun v s' ⟨K', x, st', a, b, d, e, q⟩ => ?_) fun _ _ e => e
  exact ⟨K', x, p :: st', a, b, d.perm (List.perm_middle (l₁ := st') (a := p) (l₂ := rest)).symm, e, q⟩
theorem Call.less {c : Value} {xs : List V} {Q : V → St → Prop} (h : Call X n st c xs (Ls Q)) : Call X n st c xs Q := by
  intro K vs r A rest s ok I
  refine wpAny_mono (h K vs r A rest s ok I) (fun v s' ⟨K', x, st', a, b, d, e, st'', hl, q⟩ => ?_) fun _ _ e => e
  exact ⟨K', x, st'', a, b, hl.inv d, e, q⟩
theorem WB.less {Q : Fl → Fm → St → Prop} {c : List Stmt} {st' : St} (hl : Less st' st) (h : WB X n env f st' c Q) : WB X n env f st c Q := by
  obtain ⟨st₃, a, b⟩ := hl
  exact WB.perm b (WB.sub a h)
theorem CallC.level {m : Nat} {c : Value} {xs : List V} {Q : V → St → Prop} (h : CallC X n st c xs Q) (hm : n ≤ m) : CallC X m st c xs Q :=
  fun K vs r A rest s R ok I hR => h K vs r A rest s R (ok.mono hm) I hR
theorem CallC.at {m : Nat} {c : Value} {xs : List V} {Q : V → St → Prop} (h : CallC X n st c xs Q) (hm : n ≤ m) : Call X m st c xs Q := (h.level hm).call

theorem WS_forM {Q : Fl → Fm → St → Prop} {x : Str} {px : Pos} {iter : Expr} {body : List Stmt} (h : WE X n env f st iter (fun v st₁ => ∃ a items st₀, v = .obj a ∧ Dr a (.list items) st₁ st₀ ∧ ∃ I : List V → List V → Fm → St → Prop,
      (∃ f', FSub f' f ∧ I [] items f' st₀) ∧
      (∀ done y todo f₁ st₂, items = done ++ y :: todo → I done (y :: todo) f₁ st₂ → WB X n env (fset x y f₁) st₂ body (LpM (a, .list items) (I (done ++ [y]) todo) Q)) ∧
      (∀ f₁ st₂, I items [] f₁ st₂ → Q .next f₁ ((a, .list items) :: st₂)))) (hx : Sto env x)
    (hs : ∀ x, foldedSetIterable iter env x = pure x := by intro _; rfl) :
    WS X n env f st (.For (.Name x px) iter body [] pos) Q := by
  intro K A rest s ok I₀
  refine wpAny_For (wpAny_mono (h K A rest s ok I₀) ?_ fun _ _ e => e) hs
  rintro u s₁ ⟨K₁, v, st₁, hK₁, hr, I₁, S₁, a, items, st₀, rfl, hdr, I, ⟨f', hf', hI0⟩, turn, fin⟩
  obtain ⟨pre, post, rfl, rfl⟩ := hdr.split
  cases hr with
  | obj =>
  have Ia : IF X K₁ env f ((pre ++ post) ++ ((a, .list items) :: rest)) s₁.heap := by
    have hp : ((pre ++ post) ++ ((a, AObj.list items) :: rest)).Perm (pre ++ (a, AObj.list items) :: post ++ rest) := by
      rw [List.append_assoc, List.append_assoc]
      refine List.Perm.append_left pre ?_
      exact List.perm_middle
    exact ⟨I₁.inv.perm hp, I₁.fr, fun p hp' => I₁.dj p (hp.subset hp')⟩
  obtain ⟨o, ho, hro⟩ := Ia.inv.objs (a, .list items) (by simp)
  have hro' : RepO X K₁ o (.list items) := hro
  obtain ⟨its, m, rfl, rl⟩ := hro
  have hlen : its.size = items.length := by rw [← Array.length_toList, rl.length]
  have hlist : s₁.heap.IsList a its := ⟨_, ho, rfl, m, rfl⟩
  have hne : a ≠ s₁.heap.objs.size := Nat.ne_of_lt (Heap.lt_size ho)
  have W := Walks.list (prog := X.prog) (w := X.w) ok.h s₁.heap.objs.size a hne its
  rw [hlen] at W
  refine wpAny_pyIter_list hlist ?_
  have Ib : IF X K₁ env f ((pre ++ post) ++ ((a, .raw ⟨.type "list", .none, .seq its m, #[]⟩) :: rest)) s₁.heap := Ia.swap (fun b o _ e => e) ho
  have I₂ := (Ib.weaken hf').grow (st := pre ++ post) (h' := s₁.heap.push { cls := .type "list_iterator", data := .fields #[.ref a, .int 0 0] }) (x := .raw { cls := .type "list_iterator", data := .fields #[.ref a, .int 0 0] }) (fun b o e => Heap.get?_push_of_some _ e) (Nat.le_refl _) (Heap.get?_push_size _ rfl) rfl
  have hS0 : (s₁.heap.push { cls := .type "list_iterator", data := .fields #[.ref a, .int 0 0] }).IsListIter s₁.heap.objs.size a 0 ∧ (s₁.heap.push { cls := .type "list_iterator", data := .fields #[.ref a, .int 0 0] }).IsList a its :=
    ⟨⟨_, Heap.get?_push_size _ rfl, rfl, rfl⟩, hlist.push _⟩
  generalize hi : (s₁.heap.objs.size : Nat) = i₀ at W hne I₂ hS0 ⊢
  generalize hsx : (fun (i : Nat) (h : Heap) => h.IsListIter i₀ a i ∧ h.IsList a its) = Sx at W
  have hS : Sx 0 (s₁.heap.push { cls := .type "list_iterator", data := .fields #[.ref a, .int 0 0] }) := by rw [← hsx]; exact hS0
  have hlive : ∀ i h, Sx i h → ∃ o, h.get? i₀ = some o := by
    intro i h hh; rw [← hsx] at hh; obtain ⟨⟨o, ho, _⟩, _⟩ := hh; exact ⟨o, ho⟩
  have back : ∀ {K' : KM} {f₂ : Fm} {st₃ : St} {h : Heap}, KLe K₁ K' → IF X K' env f₂ (st₃ ++ ((a, .raw ⟨.type "list", .none, .seq its m, #[]⟩) :: rest)) h → IF X K' env f₂ (((a, .list items) :: st₃) ++ rest) h := by
    intro K' f₂ st₃ h hK' I'
    have hdj : ¬ frAddr env a := I'.dj (a, .raw ⟨.type "list", .none, .seq its m, #[]⟩) (by simp)
    obtain ⟨o', ho', e'⟩ := I'.inv.objs (a, .raw ⟨.type "list", .none, .seq its m, #[]⟩) (by simp)
    have e'' : o' = ⟨.type "list", .none, .seq its m, #[]⟩ := e'
    subst e''
    have B := I'.inv.changeE (h' := h) (y := .list items) (fun b o _ e => e) ho' (hro'.mono hK')
    refine ⟨B.perm List.perm_middle.symm, I'.fr, fun p hp => ?_⟩
    rcases List.mem_cons.mp hp with rfl | hp
    · exact hdj
    · rcases List.mem_append.mp hp with hp | hp
      · exact I'.dj p (List.mem_append.mpr (.inl hp))
      · exact I'.dj p (List.mem_append.mpr (.inr (.tail _ hp)))
  refine codeAny_forLoop (fun k s' => ∃ K' done todo f₁ st₂ oI, items = done ++ todo ∧ k = todo.length ∧ KLe K₁ K' ∧ IF X K' env f₁ (st₂ ++ ((i₀, .raw oI) :: (a, .raw ⟨.type "list", .none, .seq its m, #[]⟩) :: rest)) s'.heap ∧ Sx done.length s'.heap ∧ Same s s' ∧ I done todo f₁ st₂)
    ?_ items.length ⟨K₁, [], items, f', pre ++ post, _, rfl, rfl, .refl _, I₂, hS, S₁.trans (.of ..), hI0⟩
  rintro k s' ⟨K', done, todo, f₁, st₂, oI, e, rfl, hK', I', hS', S', hI'⟩
  cases todo with
  | nil =>
    rw [List.append_nil] at e; subst e
    refine W.done s' _ _ hS' fun h₂ tk hk₂ => ?_
    refine wpAny_execs_nil ?_
    exact ⟨K', _, f₁, (a, .list items) :: st₂, hK₁.trans hK', .next, back hK' (I'.drop (fun b o hb => hk₂ b o (by simpa using hb))), S'.trans (.of ..), fin f₁ st₂ hI'⟩
  | cons y todo =>
    have hlt : done.length < items.length := by rw [e]; simp
    refine W.item done.length s' _ _ hlt hS' fun v h₂ tk hP hS₂ hk₂ => ?_
    obtain ⟨y', hy, ry⟩ := rl.get' done.length v (by simpa using hP)
    obtain rfl : y' = y := by rw [e] at hy; simpa using hy.symm
    obtain ⟨o₂, ho₂⟩ := hlive _ _ hS₂
    have I₂ : IF X K' env f₁ (st₂ ++ ((i₀, .raw o₂) :: (a, .raw ⟨.type "list", .none, .seq its m, #[]⟩) :: rest)) h₂ := I'.swap (fun b o hb => hk₂ b o (by simpa using hb)) ho₂
    refine wpAny_assign_Name (I₂.store (s := { s' with heap := h₂, toks := tk }) hx (ry.mono hK') fun h₃ t₃ I₃ => ?_)
    refine wpAny_mono (turn done y' todo f₁ st₂ e hI' K' A ((i₀, .raw o₂) :: (a, .raw ⟨.type "list", .none, .seq its m, #[]⟩) :: rest) _ ok I₃) ?_ fun _ _ e => e.elim
    rintro fl s₄ ⟨K₄, z, f₂, st₃, hK₄, hr₄, I₄, S₄, hq⟩
    have hS₄ : Sx (done ++ [y']).length s₄.heap := by
      rw [List.length_append, List.length_singleton]
      refine W.frame _ _ _ hS₂ fun b hb o ho9 => ?_
      rcases List.mem_cons.mp hb with rfl | hb
      · obtain ⟨o₅, h5, e5⟩ := I₄.inv.objs (b, .raw o₂) (by simp)
        rw [ho₂] at ho9; cases ho9; rw [h5]; exact congrArg some e5
      · have hb' := List.mem_singleton.mp hb; subst hb'
        obtain ⟨o₅, h5, e5⟩ := I₄.inv.objs (b, .raw ⟨.type "list", .none, .seq its m, #[]⟩) (by simp)
        obtain ⟨o₆, h6, e6⟩ := I₂.inv.objs (b, .raw ⟨.type "list", .none, .seq its m, #[]⟩) (by simp)
        have e5' : o₅ = ⟨.type "list", .none, .seq its m, #[]⟩ := e5
        have e6' : o₆ = ⟨.type "list", .none, .seq its m, #[]⟩ := e6
        subst e5' e6'
        rw [h6] at ho9; cases ho9; exact h5
    have e' : items = (done ++ [y']) ++ todo := by rw [e]; simp
    have S₅ : Same s s₄ := (S'.trans (.of ..)).trans S₄
    cases hr₄ with
    | next => obtain ⟨f₃, hs, hI₃⟩ := hq; exact ⟨todo.length, by simp, K₄, _, todo, f₃, st₃, o₂, e', rfl, hK'.trans hK₄, I₄.weaken hs, hS₄, S₅, hI₃⟩
    | cont => obtain ⟨f₃, hs, hI₃⟩ := hq; exact ⟨todo.length, by simp, K₄, _, todo, f₃, st₃, o₂, e', rfl, hK'.trans hK₄, I₄.weaken hs, hS₄, S₅, hI₃⟩
    | brk => exact ⟨K₄, _, f₂, (a, .list items) :: st₃, (hK₁.trans hK').trans hK₄, .next, back (hK'.trans hK₄) (I₄.drop (fun b o _ e => e)), S₅, hq⟩
    | ret r => exact ⟨K₄, _, f₂, (a, .list items) :: st₃, (hK₁.trans hK').trans hK₄, .ret r, back (hK'.trans hK₄) (I₄.drop (fun b o _ e => e)), S₅, hq⟩

noncomputable def CInv {α : Type} (L : List α) (g e : α → V) (p : α → Bool) (st : St) (done todo acc : List V) (st₂ : St) : Prop :=
  st₂ = st ∧ ∃ L₁ L₂, L = L₁ ++ L₂ ∧ done = L₁.map g ∧ todo = L₂.map g ∧ acc = (L₁.filter p).map e
theorem CInv.start {α : Type} (L : List α) (g e : α → V) (p : α → Bool) (st : St) : CInv L g e p st [] (L.map g) [] st := ⟨rfl, [], L, rfl, rfl, rfl, rfl⟩
theorem CInv.fin {α : Type} {L : List α} {g e : α → V} {p : α → Bool} {st : St} {acc : List V} {st₂ : St} (h : CInv L g e p st (L.map g) [] acc st₂) : st₂ = st ∧ acc = (L.filter p).map e := by
  obtain ⟨h1, L₁, L₂, h2, h3, h4, h5⟩ := h
  cases L₂ with
  | nil => rw [List.append_nil] at h2; subst h2; exact ⟨h1, h5⟩
  | cons a L₂ => cases h4
theorem CInv.step {α : Type} {L : List α} {g e : α → V} {p : α → Bool} {st : St} {done todo acc : List V} {y : V} {st₂ : St} (h : CInv L g e p st done (y :: todo) acc st₂) :
    ∃ a ∈ L, y = g a ∧ st₂ = st ∧ (p a = false → CInv L g e p st (done ++ [y]) todo acc st) ∧ (p a = true → CInv L g e p st (done ++ [y]) todo (acc ++ [e a]) st) := by
  obtain ⟨h1, L₁, L₂, h2, h3, h4, h5⟩ := h
  cases L₂ with
  | nil => cases h4
  | cons a L₂ =>
    rw [List.map_cons] at h4
    obtain ⟨rfl, rfl⟩ := List.cons.inj h4
    refine ⟨a, by rw [h2]; simp, rfl, h1, fun hp => ⟨rfl, L₁ ++ [a], L₂, by rw [h2]; simp, by rw [h3]; simp, rfl, ?_⟩, fun hp => ⟨rfl, L₁ ++ [a], L₂, by rw [h2]; simp, by rw [h3]; simp, rfl, ?_⟩⟩
    · rw [h5, List.filter_append]; simp [hp]
    · rw [h5, List.filter_append]; simp [hp]
theorem CStep.mono {cenv : Env} {f : Fm} {ifs : List Expr} {elt : Expr} {Qno Qno' : St → Prop} {Q Q' : V → St → Prop} (h : CStep X n cenv f st ifs elt Qno Q) (h1 : ∀ s, Qno s → Qno' s) (h2 : ∀ v s, Q v s → Q' v s) : CStep X n cenv f st ifs elt Qno' Q' := by
  match ifs, h with
  | [], h => exact WE.mono h h2
  | [t], h => exact WT.mono h fun b s h => ⟨fun e => WE.mono (h.1 e) h2, fun e => h1 _ (h.2 e)⟩

theorem WE_compP {Q : V → St → Prop} {elt iter : Expr} {x : Str} {px : Pos} {ifs : List Expr} {scope : Scope} {cl : List (Str × Addr)} {α : Type}
    (h : WE X n env f st iter (fun v st₁ => ∃ (L : List α) (g e : α → V) (p : α → Bool), Its v (L.map g) ∧ L.length ≤ 100000 ∧
      (∀ C a, a ∈ L → CStep X n (compEnvC scope cl C env) (fset x (g a) (cap (cl.map (·.1)) f)) st₁ ifs elt (fun st₃ => p a = false ∧ st₃ = st₁) (fun r st₃ => p a = true ∧ r = e a ∧ st₃ = st₁)) ∧ Q (.lst ((L.filter p).map e)) st₁))
    (hcl : ClOk env scope cl) (hclos : closureFor scope env = pure cl) (hcell : ∀ y ∈ scope.names, y.2 ≠ .cell) (hkind : scope.kind = .function)
    (hnames : ∀ y ∈ scope.names, y.2 = .local → scope.names.lookup y.1 = some .local) (hx : scope.names.lookup x = some .local)
    (hs : ∀ x, foldedSetIterable iter env x = pure x) :
    WE X n env f st (.ListComp elt [⟨.Name x px, iter, ifs, 0⟩] scope pos) Q := by
  refine WE_comp (h.mono ?_) hcl hclos hcell hkind hnames hx hs
  rintro v st₁ ⟨L, g, e, p, hi, hl, hstep, hq⟩
  refine ⟨L.map g, hi, by simpa using hl, CInv L g e p st₁, .start .., fun C done y todo acc st₂ _ hI => ?_, fun acc st₂ hI => ?_⟩
  · obtain ⟨a, ha, rfl, rfl, h1, h2⟩ := hI.step
    exact (hstep C a ha).mono (fun s ⟨hp, hs⟩ => hs ▸ h1 hp) fun v s ⟨hp, hv, hs⟩ => by rw [hv, hs]; exact h2 hp
  · obtain ⟨rfl, rfl⟩ := hI.fin; exact hq
theorem WE_compPM {Q : V → St → Prop} {elt iter : Expr} {x : Str} {px : Pos} {ifs : List Expr} {scope : Scope} {cl : List (Str × Addr)} {α : Type}
    (h : WE X n env f st iter (fun v st₁ => ∃ (L : List α) (g e : α → V) (p : α → Bool), Its v (L.map g) ∧ L.length ≤ 100000 ∧
      (∀ C a, a ∈ L → CStep X n (compEnvC scope cl C env) (fset x (g a) (cap (cl.map (·.1)) f)) st₁ ifs elt (fun st₃ => p a = false ∧ st₃ = st₁) (fun r st₃ => p a = true ∧ r = e a ∧ st₃ = st₁)) ∧ ∀ D, Q (.obj D) ((D, .list ((L.filter p).map e)) :: st₁)))
    (hcl : ClOk env scope cl) (hclos : closureFor scope env = pure cl) (hcell : ∀ y ∈ scope.names, y.2 ≠ .cell) (hkind : scope.kind = .function)
    (hnames : ∀ y ∈ scope.names, y.2 = .local → scope.names.lookup y.1 = some .local) (hx : scope.names.lookup x = some .local)
    (hs : ∀ x, foldedSetIterable iter env x = pure x) :
    WE X n env f st (.ListComp elt [⟨.Name x px, iter, ifs, 0⟩] scope pos) Q := by
  refine WE_compM (h.mono ?_) hcl hclos hcell hkind hnames hx hs
  rintro v st₁ ⟨L, g, e, p, hi, hl, hstep, hq⟩
  refine ⟨L.map g, hi, by simpa using hl, CInv L g e p st₁, .start .., fun C done y todo acc st₂ _ hI => ?_, fun acc st₂ hI => ?_⟩
  · obtain ⟨a, ha, rfl, rfl, h1, h2⟩ := hI.step
    exact (hstep C a ha).mono (fun s ⟨hp, hs⟩ => hs ▸ h1 hp) fun v s ⟨hp, hv, hs⟩ => by rw [hv, hs]; exact h2 hp
  · obtain ⟨rfl, rfl⟩ := hI.fin; exact hq
theorem WS_compP {Q : Fl → Fm → St → Prop} {elt iter : Expr} {x y : Str} {px py : Pos} {ifs : List Expr} {scope : Scope} {cl : List (Str × Addr)} {cpos : Pos} {α : Type}
    (h : WE X n env f st iter (fun v st₁ => ∃ (L : List α) (g e : α → V) (p : α → Bool), Its v (L.map g) ∧ L.length ≤ 100000 ∧
      (∀ C a, a ∈ L → CStep X n (compEnvC scope cl C env) (fset x (g a) (cap (cl.map (·.1)) f)) st₁ ifs elt (fun st₃ => p a = false ∧ st₃ = st₁) (fun r st₃ => p a = true ∧ r = e a ∧ st₃ = st₁)) ∧ Q .next (fset y (.lst ((L.filter p).map e)) f) st₁))
    (hcl : ClOk env scope cl) (hy : Sto env y) (hsw : swapsWith (.ListComp elt [⟨.Name x px, iter, ifs, 0⟩] scope cpos) (some (.Name y py)) pos.line env = pure true)
    (hclos : closureFor scope env = pure cl) (hcell : ∀ y ∈ scope.names, y.2 ≠ .cell) (hkind : scope.kind = .function)
    (hnames : ∀ y ∈ scope.names, y.2 = .local → scope.names.lookup y.1 = some .local) (hx : scope.names.lookup x = some .local)
    (hs : ∀ x, foldedSetIterable iter env x = pure x) :
    WS X n env f st (.Assign [.Name y py] (.ListComp elt [⟨.Name x px, iter, ifs, 0⟩] scope cpos) pos) Q := by
  refine WS_assignC (h.mono ?_) hcl hy hsw hclos hcell hkind hnames hx hs
  rintro v st₁ ⟨L, g, e, p, hi, hl, hstep, hq⟩
  refine ⟨L.map g, hi, by simpa using hl, CInv L g e p st₁, .start .., fun C done y todo acc st₂ _ hI => ?_, fun acc st₂ hI => ?_⟩
  · obtain ⟨a, ha, rfl, rfl, h1, h2⟩ := hI.step
    exact (hstep C a ha).mono (fun s ⟨hp, hs⟩ => hs ▸ h1 hp) fun v s ⟨hp, hv, hs⟩ => by rw [hv, hs]; exact h2 hp
  · obtain ⟨rfl, rfl⟩ := hI.fin; exact hq
theorem WS_compPM {Q : Fl → Fm → St → Prop} {elt iter : Expr} {x y : Str} {px py : Pos} {ifs : List Expr} {scope : Scope} {cl : List (Str × Addr)} {cpos : Pos} {α : Type}
    (h : WE X n env f st iter (fun v st₁ => ∃ (L : List α) (g e : α → V) (p : α → Bool), Its v (L.map g) ∧ L.length ≤ 100000 ∧
      (∀ C a, a ∈ L → CStep X n (compEnvC scope cl C env) (fset x (g a) (cap (cl.map (·.1)) f)) st₁ ifs elt (fun st₃ => p a = false ∧ st₃ = st₁) (fun r st₃ => p a = true ∧ r = e a ∧ st₃ = st₁)) ∧ ∀ D, Q .next (fset y (.obj D) f) ((D, .list ((L.filter p).map e)) :: st₁)))
    (hcl : ClOk env scope cl) (hy : Sto env y) (hsw : swapsWith (.ListComp elt [⟨.Name x px, iter, ifs, 0⟩] scope cpos) (some (.Name y py)) pos.line env = pure true)
    (hclos : closureFor scope env = pure cl) (hcell : ∀ y ∈ scope.names, y.2 ≠ .cell) (hkind : scope.kind = .function)
    (hnames : ∀ y ∈ scope.names, y.2 = .local → scope.names.lookup y.1 = some .local) (hx : scope.names.lookup x = some .local)
    (hs : ∀ x, foldedSetIterable iter env x = pure x) :
    WS X n env f st (.Assign [.Name y py] (.ListComp elt [⟨.Name x px, iter, ifs, 0⟩] scope cpos) pos) Q := by
  refine WS_assignCM (h.mono ?_) hcl hy hsw hclos hcell hkind hnames hx hs
  rintro v st₁ ⟨L, g, e, p, hi, hl, hstep, hq⟩
  refine ⟨L.map g, hi, by simpa using hl, CInv L g e p st₁, .start .., fun C done y todo acc st₂ _ hI => ?_, fun acc st₂ hI => ?_⟩
  · obtain ⟨a, ha, rfl, rfl, h1, h2⟩ := hI.step
    exact (hstep C a ha).mono (fun s ⟨hp, hs⟩ => hs ▸ h1 hp) fun v s ⟨hp, hv, hs⟩ => by rw [hv, hs]; exact h2 hp
  · obtain ⟨rfl, rfl⟩ := hI.fin; exact hq
end
section
variable {X : Cx} {n : Nat} {env : Env} {f : Fm} {st : St} {pos : Pos}
theorem map_cut {α β : Type} {g : α → β} {L : List α} {done todo : List β} {y : β} (h : L.map g = done ++ y :: todo) : ∃ L₁ a L₂, L = L₁ ++ a :: L₂ ∧ done = L₁.map g ∧ y = g a ∧ todo = L₂.map g := by
  obtain ⟨L₁, L', rfl, rfl, h2⟩ := List.map_eq_append_iff.mp h
  obtain ⟨a, L₂, rfl, rfl, rfl⟩ := List.map_eq_cons_iff.mp h2
  exact ⟨L₁, a, L₂, rfl, rfl, rfl, rfl⟩
theorem map_inj_take {α β : Type} {g : α → β} {L L₁ L₂ : List α} {M : List α} (h : L = L₁ ++ L₂) (hl : M.length = L₁.length) (hM : ∃ M₂, L = M ++ M₂) : M = L₁ := by
  obtain ⟨M₂, hM⟩ := hM
  have := List.append_inj_left (hM.symm.trans h) hl
  exact this
noncomputable def LInv {α : Type} (L : List α) (g : α → V) (I : List α → Fm → St → Prop) (done todo : List V) (f : Fm) (st : St) : Prop := ∃ L₁ L₂, L = L₁ ++ L₂ ∧ done = L₁.map g ∧ todo = L₂.map g ∧ I L₁ f st
theorem LInv.start {α : Type} {L : List α} {g : α → V} {I : List α → Fm → St → Prop} {f : Fm} {st : St} (h : I [] f st) : LInv L g I [] (L.map g) f st := ⟨[], L, rfl, rfl, rfl, h⟩
theorem LInv.fin {α : Type} {L : List α} {g : α → V} {I : List α → Fm → St → Prop} {f : Fm} {st : St} (h : LInv L g I (L.map g) [] f st) : I L f st := by
  obtain ⟨L₁, L₂, h1, h2, h3, h4⟩ := h
  cases L₂ with
  | nil => rw [List.append_nil] at h1; exact h1 ▸ h4
  | cons a L₂ => cases h3
theorem LInv.step {α : Type} {L : List α} {g : α → V} {I : List α → Fm → St → Prop} {f : Fm} {st : St} {done todo : List V} {y : V} (h : LInv L g I done (y :: todo) f st) :
    ∃ L₁ a L₂, L = L₁ ++ a :: L₂ ∧ y = g a ∧ I L₁ f st ∧ ∀ f' st', I (L₁ ++ [a]) f' st' → LInv L g I (done ++ [y]) todo f' st' := by
  obtain ⟨L₁, L₂, h1, h2, h3, h4⟩ := h
  cases L₂ with
  | nil => cases h3
  | cons a L₂ =>
    rw [List.map_cons] at h3
    obtain ⟨rfl, rfl⟩ := List.cons.inj h3
    exact ⟨L₁, a, L₂, h1, rfl, h4, fun f' st' hI => ⟨L₁ ++ [a], L₂, by rw [h1]; simp, by rw [h2]; simp, rfl, hI⟩⟩
theorem WS_forL {α : Type} {Q : Fl → Fm → St → Prop} {x : Str} {px : Pos} {iter : Expr} {body : List Stmt} (h : WE X n env f st iter (fun v st₁ => ∃ (L : List α) (g : α → V), Its v (L.map g) ∧ ∃ I : List α → Fm → St → Prop,
      (∃ f', FSub f' f ∧ I [] f' st₁) ∧
      (∀ L₁ a L₂ f₁ st₂, L = L₁ ++ a :: L₂ → I L₁ f₁ st₂ → WB X n env (fset x (g a) f₁) st₂ body (Lp (I (L₁ ++ [a])) Q)) ∧
      (∀ f₁ st₂, I L f₁ st₂ → Q .next f₁ st₂))) (hx : Sto env x) (hs : ∀ x, foldedSetIterable iter env x = pure x) :
    WS X n env f st (.For (.Name x px) iter body [] pos) Q := by
  refine WS_for (h.mono ?_) hx hs
  rintro v st₁ ⟨L, g, hi, I, ⟨f', hf, h0⟩, turn, fin⟩
  refine ⟨L.map g, hi, LInv L g I, ⟨f', hf, .start h0⟩, fun done y todo f₁ st₂ he hI => ?_, fun f₁ st₂ hI => fin _ _ hI.fin⟩
  obtain ⟨L₁, a, L₂, h1, rfl, h4, h5⟩ := hI.step
  refine (turn L₁ a L₂ f₁ st₂ h1 h4).mono fun fl f₂ st₃ hq => ?_
  cases fl with
  | next => obtain ⟨f₃, hs, hI⟩ := hq; exact ⟨f₃, hs, h5 _ _ hI⟩
  | cont => obtain ⟨f₃, hs, hI⟩ := hq; exact ⟨f₃, hs, h5 _ _ hI⟩
  | brk => exact hq
  | ret v => exact hq
theorem WS_forLM {α : Type} {Q : Fl → Fm → St → Prop} {x : Str} {px : Pos} {iter : Expr} {body : List Stmt} (h : WE X n env f st iter (fun v st₁ => ∃ (a : Addr) (L : List α) (g : α → V) (st₀ : St), v = .obj a ∧ Dr a (.list (L.map g)) st₁ st₀ ∧ ∃ I : List α → Fm → St → Prop,
      (∃ f', FSub f' f ∧ I [] f' st₀) ∧
      (∀ L₁ y L₂ f₁ st₂, L = L₁ ++ y :: L₂ → I L₁ f₁ st₂ → WB X n env (fset x (g y) f₁) st₂ body (LpM (a, .list (L.map g)) (I (L₁ ++ [y])) Q)) ∧
      (∀ f₁ st₂, I L f₁ st₂ → Q .next f₁ ((a, .list (L.map g)) :: st₂)))) (hx : Sto env x) (hs : ∀ x, foldedSetIterable iter env x = pure x) :
    WS X n env f st (.For (.Name x px) iter body [] pos) Q := by
  refine WS_forM (h.mono ?_) hx hs
  rintro v st₁ ⟨a, L, g, st₀, rfl, hd, I, ⟨f', hf, h0⟩, turn, fin⟩
  refine ⟨a, L.map g, st₀, rfl, hd, LInv L g I, ⟨f', hf, .start h0⟩, fun done y todo f₁ st₂ he hI => ?_, fun f₁ st₂ hI => fin _ _ hI.fin⟩
  obtain ⟨L₁, a', L₂, h1, rfl, h4, h5⟩ := hI.step
  refine (turn L₁ a' L₂ f₁ st₂ h1 h4).mono fun fl f₂ st₃ hq => ?_
  cases fl with
  | next => obtain ⟨f₃, hs, hI⟩ := hq; exact ⟨f₃, hs, h5 _ _ hI⟩
  | cont => obtain ⟨f₃, hs, hI⟩ := hq; exact ⟨f₃, hs, h5 _ _ hI⟩
  | brk => exact hq
  | ret v => exact hq
theorem WT.less {Q : Bool → St → Prop} {e : Expr} {st' : St} (hl : Less st' st) (h : WT X n env f st' e Q) : WT X n env f st e Q := by
  obtain ⟨st₃, a, b⟩ := hl
  intro K A rest s ok I
  refine h K A rest s ok ⟨(I.inv.perm (b.append_right rest)).sub (a.append_right rest), I.fr, fun p hp => I.dj p ((b.append_right rest).subset ((a.append_right rest).subset hp))⟩
theorem WE.less {Q : V → St → Prop} {e : Expr} {st' : St} (hl : Less st' st) (h : WE X n env f st' e Q) : WE X n env f st e Q := by
  obtain ⟨st₃, a, b⟩ := hl
  intro K A rest s ok I
  refine h K A rest s ok ⟨(I.inv.perm (b.append_right rest)).sub (a.append_right rest), I.fr, fun p hp => I.dj p ((b.append_right rest).subset ((a.append_right rest).subset hp))⟩

noncomputable def ones (S : List Int) : List (Int × V) := S.map fun x => (x, V.int 1)
theorem ones_length (S : List Int) : (ones S).length = S.length := by simp [ones]
theorem ones_keys (S : List Int) : (ones S).map (·.1) = S := by simp [ones, Function.comp_def]
theorem ones_get (S : List Int) (x : Int) : (dget (ones S) x).isSome = decide (x ∈ S) := by
  rw [dget_any]
  induction S with
  | nil => rfl
  | cons a S ih =>
    show (decide (a = x) || (ones S).any _) = _
    rw [ih]
    by_cases h : a = x
    · simp [h]
    · have : ¬ x = a := fun e => h e.symm
      simp [h, this]
theorem dset_new {β : Type} {l : List (Int × β)} {k : Int} {v : β} (h : k ∉ l.map (·.1)) : dset l k v = l ++ [(k, v)] := by
  unfold dset
  rw [if_neg]
  intro ha
  obtain ⟨p, hp, e⟩ := List.any_eq_true.mp ha
  have e' : p.1 = k := by simpa using e
  exact h (e' ▸ List.mem_map_of_mem hp)
theorem ones_set {S : List Int} {x : Int} (h : x ∉ S) : dset (ones S) x (V.int 1) = ones (S ++ [x]) := by
  rw [dset_new (by rw [ones_keys]; exact h)]; simp [ones]
theorem nodup_len : ∀ (N : Nat) (l : List Int), l.Nodup → (∀ x ∈ l, 0 ≤ x ∧ x < N) → l.length ≤ N
  | 0, [], _, _ => Nat.le_refl _
  | 0, a :: l, _, h => by have := h a (.head _); lia
  | N + 1, l, hn, h => by
    by_cases hm : (N : Int) ∈ l
    · have h1 := nodup_len N (l.erase (N : Int)) (hn.erase _) (fun x hx => by
        obtain ⟨h2, h3⟩ := (hn.mem_erase_iff).mp hx
        have := h x h3; lia)
      rw [List.length_erase_of_mem hm] at h1; lia
    · have h1 := nodup_len N l hn (fun x hx => by
        have := h x hx
        have : x ≠ (N : Int) := fun e => hm (e ▸ hx)
        lia)
      lia
theorem isort_lt {l : List Int} (h : l.Nodup) : (isort l).Pairwise (· < ·) := by
  have h1 := isort_sorted l
  have h2 : (isort l).Nodup := (isort_perm l).nodup_iff.mpr h
  have := h1.and h2
  exact this.imp fun ⟨a, b⟩ => by lia
theorem isort_mem {l : List Int} {x : Int} : x ∈ isort l ↔ x ∈ l := (isort_perm l).mem_iff

noncomputable def mergeO (S T : List Int) : List Int := T.foldl (fun S x => if x ∈ S then S else S ++ [x]) S
theorem mergeO_mem : ∀ (T S : List Int) (x : Int), x ∈ mergeO S T ↔ x ∈ S ∨ x ∈ T
  | [], S, x => by simp [mergeO]
  | a :: T, S, x => by
    show x ∈ mergeO (if a ∈ S then S else S ++ [a]) T ↔ _
    rw [mergeO_mem T]
    by_cases h : a ∈ S
    · rw [if_pos h, List.mem_cons]
      constructor
      · rintro (h1 | h1); exact .inl h1; exact .inr (.inr h1)
      · rintro (h1 | rfl | h1); exact .inl h1; exact .inl h; exact .inr h1
    · rw [if_neg h, List.mem_cons, List.mem_append, List.mem_singleton]
      constructor
      · rintro ((h1 | h1) | h1); exact .inl h1; exact .inr (.inl h1); exact .inr (.inr h1)
      · rintro (h1 | h1 | h1); exact .inl (.inl h1); exact .inl (.inr h1); exact .inr h1
theorem mergeO_nodup : ∀ (T S : List Int), S.Nodup → (mergeO S T).Nodup
  | [], S, h => h
  | a :: T, S, h => by
    show (mergeO (if a ∈ S then S else S ++ [a]) T).Nodup
    refine mergeO_nodup T _ ?_
    by_cases ha : a ∈ S
    · rw [if_pos ha]; exact h
    · rw [if_neg ha, List.nodup_append]
      refine ⟨h, by simp, fun x hx y hy e => ha ?_⟩
      have : y = a := by simpa using hy
      rw [← this, ← e]; exact hx
theorem ones_old {S : List Int} {x : Int} (h : x ∈ S) : dset (ones S) x (V.int 1) = ones S := by
  unfold dset
  have hany : (ones S).any (fun p => decide (p.1 = x)) = true := by
    rw [← dget_any, ones_get]; simpa using h
  rw [if_pos hany]
  unfold ones
  rw [List.map_map]
  refine List.map_congr_left fun y _ => ?_
  by_cases hy : y = x
  · subst hy; simp
  · simp [hy]
theorem ones_merge : ∀ (T S : List Int), dmerge (ones S) (ones T) = ones (mergeO S T)
  | [], S => rfl
  | a :: T, S => by
    show dmerge (dset (ones S) a (V.int 1)) (ones T) = ones (mergeO (if a ∈ S then S else S ++ [a]) T)
    by_cases h : a ∈ S
    · rw [if_pos h, ones_old h]; exact ones_merge T S
    · rw [if_neg h, ones_set h]; exact ones_merge T _
theorem ones_del (S : List Int) (p : Int) : ddel (ones S) p = ones (S.filter fun x => decide (x ≠ p)) := by
  unfold ddel ones
  rw [List.filter_map]; rfl
theorem mergeO_len : ∀ (T S : List Int), (mergeO S T).length ≤ S.length + T.length
  | [], S => Nat.le_refl _
  | a :: T, S => by
    show (mergeO (if a ∈ S then S else S ++ [a]) T).length ≤ _
    refine Nat.le_trans (mergeO_len T _) ?_
    split <;> simp <;> lia

noncomputable def fd (fr : List (Int × List Int)) : List (Int × V) := fr.map fun p => (p.1, V.dct (ones p.2))
theorem fd_length (fr : List (Int × List Int)) : (fd fr).length = fr.length := by simp [fd]
theorem fd_get (fr : List (Int × List Int)) (k : Int) : dget (fd fr) k = (dget fr k).map fun T => V.dct (ones T) := by
  induction fr with
  | nil => rfl
  | cons p fr ih =>
    by_cases h : p.1 = k
    · simp [fd, dget, h]
    · have e1 : dget (fd (p :: fr)) k = dget (fd fr) k := by simp [fd, dget, h]
      have e2 : dget (p :: fr) k = dget fr k := by simp [dget, h]
      rw [e1, e2, ih]
theorem fd_set (fr : List (Int × List Int)) (k : Int) (T : List Int) : dset (fd fr) k (V.dct (ones T)) = fd (dset fr k T) := by
  unfold dset
  have : (fd fr).any (fun p => decide (p.1 = k)) = fr.any (fun p => decide (p.1 = k)) := by simp [fd, List.any_map, Function.comp_def]
  rw [this]
  split
  · unfold fd
    rw [List.map_map, List.map_map]
    refine List.map_congr_left fun p _ => ?_
    by_cases h : p.1 = k <;> simp [h]
  · simp [fd]
theorem dget_dset {β : Type} (fr : List (Int × β)) (k : Int) (T : β) (x : Int) : dget (dset fr k T) x = if x = k then some T else dget fr x := by
  unfold dset
  by_cases hk : fr.any (fun p => decide (p.1 = k)) = true
  · rw [if_pos hk]
    induction fr with
    | nil => simp at hk
    | cons p fr ih =>
      by_cases hp : p.1 = k
      · by_cases hx : x = k
        · subst hx; simp [dget, hp]
        · have hx' : ¬ k = x := fun e => hx e.symm
          have hpx : ¬ p.1 = x := fun e => hx (e ▸ hp)
          rw [if_neg hx]
          have e1 : dget (List.map (fun p => if p.1 = k then (p.1, T) else p) (p :: fr)) x = dget (List.map (fun p => if p.1 = k then (p.1, T) else p) fr) x := by simp [dget, hp, hx']
          have e2 : dget (p :: fr) x = dget fr x := by simp [dget, hpx]
          rw [e1, e2]
          by_cases hk2 : fr.any (fun p => decide (p.1 = k)) = true
          · rw [ih hk2, if_neg hx]
          · congr 1
            have : ∀ q ∈ fr, (if q.1 = k then (q.1, T) else q) = q := by
              intro q hq
              rw [if_neg]
              intro e
              exact hk2 (List.any_eq_true.mpr ⟨q, hq, by simpa using e⟩)
            rw [List.map_congr_left this, List.map_id']
      · have hk2 : fr.any (fun p => decide (p.1 = k)) = true := by simpa [hp] using hk
        have e1 : List.map (fun p => if p.1 = k then (p.1, T) else p) (p :: fr) = p :: List.map (fun p => if p.1 = k then (p.1, T) else p) fr := by simp [hp]
        rw [e1]
        by_cases hpx : p.1 = x
        · have hxk : ¬ x = k := fun e => hp (hpx.trans e)
          rw [if_neg hxk]; simp [dget, hpx]
        · have e2 : dget (p :: fr) x = dget fr x := by simp [dget, hpx]
          have e3 : ∀ l : List (Int × β), dget (p :: l) x = dget l x := fun l => by simp [dget, hpx]
          rw [e3, ih hk2, e2]
  · rw [if_neg hk]
    induction fr with
    | nil =>
      by_cases hx : x = k
      · simp [dget, hx]
      · have : ¬ k = x := fun e => hx e.symm
        simp [dget, hx, this]
    | cons p fr ih =>
      have hp : ¬ p.1 = k := fun e => hk (by simp [e])
      have hk2 : ¬ fr.any (fun p => decide (p.1 = k)) = true := fun h => hk (by simp [h])
      by_cases hpx : p.1 = x
      · have hxk : ¬ x = k := fun e => hp (hpx.trans e)
        rw [if_neg hxk]; simp [dget, hpx]
      · have e3 : ∀ l : List (Int × β), dget (p :: l) x = dget l x := fun l => by simp [dget, hpx]
        rw [List.cons_append, e3, ih hk2, e3]
theorem dset_keys {β : Type} (fr : List (Int × β)) (k : Int) (T : β) : (dset fr k T).map (·.1) = if k ∈ fr.map (·.1) then fr.map (·.1) else fr.map (·.1) ++ [k] := by
  unfold dset
  have : fr.any (fun p => decide (p.1 = k)) = decide (k ∈ fr.map (·.1)) := by
    clear T
    induction fr with
    | nil => rfl
    | cons p fr ih =>
      rw [List.any_cons, ih]
      by_cases hp : p.1 = k
      · simp [hp]
      · have : ¬ k = p.1 := fun e => hp e.symm
        simp [hp, this]
  rw [this]
  by_cases h : k ∈ fr.map (·.1)
  · rw [if_pos (by simpa using h), if_pos h, List.map_map]
    refine List.map_congr_left fun p _ => ?_
    by_cases hp : p.1 = k <;> simp [hp]
  · rw [if_neg (by simpa using h), if_neg h]; simp
theorem dget_some_key {β : Type} {fr : List (Int × β)} {k : Int} {T : β} (h : dget fr k = some T) : k ∈ fr.map (·.1) := by
  unfold dget at h
  obtain ⟨p, hp, rfl⟩ := Option.map_eq_some_iff.mp h
  have h1 := List.mem_of_find?_eq_some hp
  have h2 := List.find?_some hp
  have h3 : p.1 = k := by simpa using h2
  exact h3 ▸ List.mem_map_of_mem h1

noncomputable def dictTrees (env : Env) (pos : Pos) (kvs : List (Expr × Expr)) : List (Sem Value × Sem Value) := kvs.map fun p => (eval p.1 env, do let x ← eval p.2 env; standAt pos; pure x)
theorem dict_shape (env : Env) (pos : Pos) : ∀ kvs : List (Expr × Expr), (evalEachOpt (kvs.map fun p => some p.1) env).zip ((evalEach (kvs.map (·.2)) env).map fun v => do let x ← v; standAt pos; pure x) = (dictTrees env pos kvs).map fun p => (some p.1, p.2)
  | [] => rfl
  | (k, v) :: r => by
    have ih := dict_shape env pos r
    show (some (eval k env), (do let x ← eval v env; standAt pos; pure x)) :: _ = (some (eval k env), _) :: _
    exact congrArg (List.cons _) ih
theorem WD_step {k v : Expr} {kvs : List (Expr × Expr)} {Q : List (V × V) → St → Prop} (h : WE X n env f st k (fun x st₁ => WE X n env f st₁ v (fun y st₂ => WD X n env f st₂ (dictTrees env pos kvs) (fun l st₃ => Q ((x, y) :: l) st₃)))) :
    WD X n env f st (dictTrees env pos ((k, v) :: kvs)) Q := WD_cons h
theorem WD_end {Q : List (V × V) → St → Prop} (h : Q [] st) : WD X n env f st (dictTrees env pos []) Q := WD_nil h
theorem WE_dictSx {keys : List (Option Expr)} {values : List Expr} {Q : V → St → Prop} (kvs : List (Expr × Expr)) (hk : keys = kvs.map fun p => some p.1) (hv : values = kvs.map (·.2)) (h0 : kvs.isEmpty = false) (hl : kvs.length ≤ 15)
    (h : WD X n env f st (dictTrees env pos kvs) (fun l' st₁ => ∃ l : List (Str × V), l' = l.map (fun p => (V.str p.1, p.2)) ∧ (l.map (·.1)).Nodup ∧ ∀ a, Q (.obj a) ((a, .dictS l) :: st₁))) : WE X n env f st (.Dict keys values pos) Q := by
  subst hk hv
  refine WE_dictS (ps := dictTrees env pos kvs) (dict_shape env pos kvs) ?_ (by simpa [dictTrees] using hl) h
  cases kvs with
  | nil => cases h0
  | cons p r => simp [dictTrees]
theorem WE_dictIx {keys : List (Option Expr)} {values : List Expr} {Q : V → St → Prop} (kvs : List (Expr × Expr)) (hk : keys = kvs.map fun p => some p.1) (hv : values = kvs.map (·.2)) (h0 : kvs.isEmpty = false) (hl : kvs.length ≤ 15)
    (h : WD X n env f st (dictTrees env pos kvs) (fun l' st₁ => ∃ l : List (Int × V), l' = l.map (fun p => (V.int p.1, p.2)) ∧ (l.map (·.1)).Nodup ∧ ∀ a, Q (.obj a) ((a, .dictI l) :: st₁))) : WE X n env f st (.Dict keys values pos) Q := by
  subst hk hv
  refine WE_dictI (ps := dictTrees env pos kvs) (dict_shape env pos kvs) ?_ (by simpa [dictTrees] using hl) h
  cases kvs with
  | nil => cases h0
  | cons p r => simp [dictTrees]

theorem Op.hardenX {Q : V → St → Prop} {xs : List V} {t : List Value → Sem Value} (h : Op X n st xs t (fun v st₁ => ∃ (a : Addr) (l : List V) (st₂ : St), v = .obj a ∧ Dr a (.list l) st₁ st₂ ∧ Q (.lst l) st₂)) : Op X n st xs t Q := by
  intro K vs r A rest s ok I
  refine wpAny_mono (h K vs r A rest s ok I) ?_ fun _ _ e => e
  rintro u s₁ ⟨K₁, v, st₁, hK, rv, I₁, S, a, l, st₂, rfl, hd, hq⟩
  obtain ⟨pre, post, rfl, rfl⟩ := hd.split
  have I₁' : Inv X K₁ (pre ++ (a, .list l) :: (post ++ rest)) s₁.heap := by simpa using I₁
  obtain ⟨o, ho, ⟨items, m, rfl, rl⟩, hKa, I₂⟩ := I₁'.harden
  obtain rfl := rv.obj_inv
  exact ⟨_, .lst l, pre ++ post, hK.trans (kle_set _ hKa), .lst kset_self (rl.mono (kle_set _ hKa)), by simpa using I₂, S, hq⟩
theorem Op.hardenDX {Q : V → St → Prop} {xs : List V} {t : List Value → Sem Value} (h : Op X n st xs t (fun v st₁ => ∃ (a : Addr) (l : List (Int × V)) (st₂ : St), v = .obj a ∧ Dr a (.dictI l) st₁ st₂ ∧ Q (.dct l) st₂)) : Op X n st xs t Q := by
  intro K vs r A rest s ok I
  refine wpAny_mono (h K vs r A rest s ok I) ?_ fun _ _ e => e
  rintro u s₁ ⟨K₁, v, st₁, hK, rv, I₁, S, a, l, st₂, rfl, hd, hq⟩
  obtain ⟨pre, post, rfl, rfl⟩ := hd.split
  have I₁' : Inv X K₁ (pre ++ (a, .dictI l) :: (post ++ rest)) s₁.heap := by simpa using I₁
  have hlo : (a == sysModules) = false := I₁'.lo (a, .dictI l) (by simp)
  obtain ⟨o, ho, ⟨kvs, hdict, rl⟩, hKa, I₂⟩ := I₁'.harden
  obtain rfl := rv.obj_inv
  exact ⟨_, .dct l, pre ++ post, hK.trans (kle_set _ hKa), .dct kset_self hdict (rl.mono (kle_set _ hKa)) hlo, by simpa using I₂, S, hq⟩
end
structure Is {α : Type} (x : α) : Prop where
noncomputable abbrev pick {α : Type} {x : α} (_ : Is x) : α := x
noncomputable abbrev pg : Program := PySem.Challenge.pw_xm0497_01
noncomputable def stN (i : Nat) : Stmt := (pg.main.body[i]?).getD (.Pass ⟨0, 0, 0, 0⟩)
noncomputable def inN (i j : Nat) : Stmt := match stN i with
  | .ClassDef _ _ _ b .. => (b[j]?).getD (.Pass ⟨0, 0, 0, 0⟩)
  | s => s
noncomputable def fP (s : Stmt) : Arguments := match s with | .FunctionDef _ a .. => a | _ => ⟨[], [], none, [], [], none, []⟩
noncomputable def fB (s : Stmt) : List Stmt := match s with | .FunctionDef _ _ b .. => b | _ => []
noncomputable def fS (s : Stmt) : Scope := match s with | .FunctionDef _ _ _ _ _ _ sc .. => sc | _ => pg.main.scope
noncomputable abbrev pa_TypeTable___init__ : Arguments := by
  have H : Is (fP (inN 24 0)) := ⟨⟩
  conv at H => arg 1; whnf
  exact pick H
noncomputable abbrev bo_TypeTable___init__ : List Stmt := by
  have H : Is (fB (inN 24 0)) := ⟨⟩
  conv at H => arg 1; whnf
  exact pick H
noncomputable abbrev sc_TypeTable___init__ : Scope := by
  have H : Is (fS (inN 24 0)) := ⟨⟩
  conv at H => arg 1; whnf
  exact pick H
noncomputable abbrev pa_TypeTable_row : Arguments := by
  have H : Is (fP (inN 24 1)) := ⟨⟩
  conv at H => arg 1; whnf
  exact pick H
noncomputable abbrev bo_TypeTable_row : List Stmt := by
  have H : Is (fB (inN 24 1)) := ⟨⟩
  conv at H => arg 1; whnf
  exact pick H
noncomputable abbrev sc_TypeTable_row : Scope := by
  have H : Is (fS (inN 24 1)) := ⟨⟩
  conv at H => arg 1; whnf
  exact pick H
noncomputable abbrev pa_TypeTable_put : Arguments := by
  have H : Is (fP (inN 24 2)) := ⟨⟩
  conv at H => arg 1; whnf
  exact pick H
noncomputable abbrev bo_TypeTable_put : List Stmt := by
  have H : Is (fB (inN 24 2)) := ⟨⟩
  conv at H => arg 1; whnf
  exact pick H
noncomputable abbrev sc_TypeTable_put : Scope := by
  have H : Is (fS (inN 24 2)) := ⟨⟩
  conv at H => arg 1; whnf
  exact pick H
noncomputable abbrev pa_Decl___init__ : Arguments := by
  have H : Is (fP (inN 25 0)) := ⟨⟩
  conv at H => arg 1; whnf
  exact pick H
noncomputable abbrev bo_Decl___init__ : List Stmt := by
  have H : Is (fB (inN 25 0)) := ⟨⟩
  conv at H => arg 1; whnf
  exact pick H
noncomputable abbrev sc_Decl___init__ : Scope := by
  have H : Is (fS (inN 25 0)) := ⟨⟩
  conv at H => arg 1; whnf
  exact pick H
noncomputable abbrev pa_new_param : Arguments := by
  have H : Is (fP (stN 26)) := ⟨⟩
  conv at H => arg 1; whnf
  exact pick H
noncomputable abbrev bo_new_param : List Stmt := by
  have H : Is (fB (stN 26)) := ⟨⟩
  conv at H => arg 1; whnf
  exact pick H
noncomputable abbrev sc_new_param : Scope := by
  have H : Is (fS (stN 26)) := ⟨⟩
  conv at H => arg 1; whnf
  exact pick H
noncomputable abbrev pa_new_decl : Arguments := by
  have H : Is (fP (stN 27)) := ⟨⟩
  conv at H => arg 1; whnf
  exact pick H
noncomputable abbrev bo_new_decl : List Stmt := by
  have H : Is (fB (stN 27)) := ⟨⟩
  conv at H => arg 1; whnf
  exact pick H
noncomputable abbrev sc_new_decl : Scope := by
  have H : Is (fS (stN 27)) := ⟨⟩
  conv at H => arg 1; whnf
  exact pick H
noncomputable abbrev pa_index_kids : Arguments := by
  have H : Is (fP (stN 28)) := ⟨⟩
  conv at H => arg 1; whnf
  exact pick H
noncomputable abbrev bo_index_kids : List Stmt := by
  have H : Is (fB (stN 28)) := ⟨⟩
  conv at H => arg 1; whnf
  exact pick H
noncomputable abbrev sc_index_kids : Scope := by
  have H : Is (fS (stN 28)) := ⟨⟩
  conv at H => arg 1; whnf
  exact pick H
noncomputable abbrev pa_sig_kids : Arguments := by
  have H : Is (fP (stN 29)) := ⟨⟩
  conv at H => arg 1; whnf
  exact pick H
noncomputable abbrev bo_sig_kids : List Stmt := by
  have H : Is (fB (stN 29)) := ⟨⟩
  conv at H => arg 1; whnf
  exact pick H
noncomputable abbrev sc_sig_kids : Scope := by
  have H : Is (fS (stN 29)) := ⟨⟩
  conv at H => arg 1; whnf
  exact pick H
noncomputable abbrev pa_object_kids : Arguments := by
  have H : Is (fP (stN 30)) := ⟨⟩
  conv at H => arg 1; whnf
  exact pick H
noncomputable abbrev bo_object_kids : List Stmt := by
  have H : Is (fB (stN 30)) := ⟨⟩
  conv at H => arg 1; whnf
  exact pick H
noncomputable abbrev sc_object_kids : Scope := by
  have H : Is (fS (stN 30)) := ⟨⟩
  conv at H => arg 1; whnf
  exact pick H
noncomputable abbrev pa_row_kids : Arguments := by
  have H : Is (fP (stN 31)) := ⟨⟩
  conv at H => arg 1; whnf
  exact pick H
noncomputable abbrev bo_row_kids : List Stmt := by
  have H : Is (fB (stN 31)) := ⟨⟩
  conv at H => arg 1; whnf
  exact pick H
noncomputable abbrev sc_row_kids : Scope := by
  have H : Is (fS (stN 31)) := ⟨⟩
  conv at H => arg 1; whnf
  exact pick H
noncomputable abbrev pa_row_binds : Arguments := by
  have H : Is (fP (stN 32)) := ⟨⟩
  conv at H => arg 1; whnf
  exact pick H
noncomputable abbrev bo_row_binds : List Stmt := by
  have H : Is (fB (stN 32)) := ⟨⟩
  conv at H => arg 1; whnf
  exact pick H
noncomputable abbrev sc_row_binds : Scope := by
  have H : Is (fS (stN 32)) := ⟨⟩
  conv at H => arg 1; whnf
  exact pick H
noncomputable abbrev pa_inner_kids : Arguments := by
  have H : Is (fP (stN 33)) := ⟨⟩
  conv at H => arg 1; whnf
  exact pick H
noncomputable abbrev bo_inner_kids : List Stmt := by
  have H : Is (fB (stN 33)) := ⟨⟩
  conv at H => arg 1; whnf
  exact pick H
noncomputable abbrev sc_inner_kids : Scope := by
  have H : Is (fS (stN 33)) := ⟨⟩
  conv at H => arg 1; whnf
  exact pick H
noncomputable abbrev pa_reached : Arguments := by
  have H : Is (fP (stN 34)) := ⟨⟩
  conv at H => arg 1; whnf
  exact pick H
noncomputable abbrev bo_reached : List Stmt := by
  have H : Is (fB (stN 34)) := ⟨⟩
  conv at H => arg 1; whnf
  exact pick H
noncomputable abbrev sc_reached : Scope := by
  have H : Is (fS (stN 34)) := ⟨⟩
  conv at H => arg 1; whnf
  exact pick H
noncomputable abbrev pa_row_free : Arguments := by
  have H : Is (fP (stN 35)) := ⟨⟩
  conv at H => arg 1; whnf
  exact pick H
noncomputable abbrev bo_row_free : List Stmt := by
  have H : Is (fB (stN 35)) := ⟨⟩
  conv at H => arg 1; whnf
  exact pick H
noncomputable abbrev sc_row_free : Scope := by
  have H : Is (fS (stN 35)) := ⟨⟩
  conv at H => arg 1; whnf
  exact pick H
noncomputable abbrev pa_free_round : Arguments := by
  have H : Is (fP (stN 36)) := ⟨⟩
  conv at H => arg 1; whnf
  exact pick H
noncomputable abbrev bo_free_round : List Stmt := by
  have H : Is (fB (stN 36)) := ⟨⟩
  conv at H => arg 1; whnf
  exact pick H
noncomputable abbrev sc_free_round : Scope := by
  have H : Is (fS (stN 36)) := ⟨⟩
  conv at H => arg 1; whnf
  exact pick H
noncomputable abbrev pa_free_params : Arguments := by
  have H : Is (fP (stN 37)) := ⟨⟩
  conv at H => arg 1; whnf
  exact pick H
noncomputable abbrev bo_free_params : List Stmt := by
  have H : Is (fB (stN 37)) := ⟨⟩
  conv at H => arg 1; whnf
  exact pick H
noncomputable abbrev sc_free_params : Scope := by
  have H : Is (fS (stN 37)) := ⟨⟩
  conv at H => arg 1; whnf
  exact pick H
noncomputable abbrev pa_has_params : Arguments := by
  have H : Is (fP (stN 38)) := ⟨⟩
  conv at H => arg 1; whnf
  exact pick H
noncomputable abbrev bo_has_params : List Stmt := by
  have H : Is (fB (stN 38)) := ⟨⟩
  conv at H => arg 1; whnf
  exact pick H
noncomputable abbrev sc_has_params : Scope := by
  have H : Is (fS (stN 38)) := ⟨⟩
  conv at H => arg 1; whnf
  exact pick H
noncomputable abbrev pa__law_take : Arguments := by
  have H : Is (fP (stN 40)) := ⟨⟩
  conv at H => arg 1; whnf
  exact pick H
noncomputable abbrev bo__law_take : List Stmt := by
  have H : Is (fB (stN 40)) := ⟨⟩
  conv at H => arg 1; whnf
  exact pick H
noncomputable abbrev sc__law_take : Scope := by
  have H : Is (fS (stN 40)) := ⟨⟩
  conv at H => arg 1; whnf
  exact pick H
noncomputable abbrev pa__law_pick : Arguments := by
  have H : Is (fP (stN 41)) := ⟨⟩
  conv at H => arg 1; whnf
  exact pick H
noncomputable abbrev bo__law_pick : List Stmt := by
  have H : Is (fB (stN 41)) := ⟨⟩
  conv at H => arg 1; whnf
  exact pick H
noncomputable abbrev sc__law_pick : Scope := by
  have H : Is (fS (stN 41)) := ⟨⟩
  conv at H => arg 1; whnf
  exact pick H
noncomputable abbrev pa__law_maybe : Arguments := by
  have H : Is (fP (stN 42)) := ⟨⟩
  conv at H => arg 1; whnf
  exact pick H
noncomputable abbrev bo__law_maybe : List Stmt := by
  have H : Is (fB (stN 42)) := ⟨⟩
  conv at H => arg 1; whnf
  exact pick H
noncomputable abbrev sc__law_maybe : Scope := by
  have H : Is (fS (stN 42)) := ⟨⟩
  conv at H => arg 1; whnf
  exact pick H
noncomputable abbrev pa__law_lay : Arguments := by
  have H : Is (fP (stN 43)) := ⟨⟩
  conv at H => arg 1; whnf
  exact pick H
noncomputable abbrev bo__law_lay : List Stmt := by
  have H : Is (fB (stN 43)) := ⟨⟩
  conv at H => arg 1; whnf
  exact pick H
noncomputable abbrev sc__law_lay : Scope := by
  have H : Is (fS (stN 43)) := ⟨⟩
  conv at H => arg 1; whnf
  exact pick H
noncomputable abbrev pa__law_world : Arguments := by
  have H : Is (fP (stN 44)) := ⟨⟩
  conv at H => arg 1; whnf
  exact pick H
noncomputable abbrev bo__law_world : List Stmt := by
  have H : Is (fB (stN 44)) := ⟨⟩
  conv at H => arg 1; whnf
  exact pick H
noncomputable abbrev sc__law_world : Scope := by
  have H : Is (fS (stN 44)) := ⟨⟩
  conv at H => arg 1; whnf
  exact pick H
noncomputable abbrev pa__law_sig : Arguments := by
  have H : Is (fP (stN 45)) := ⟨⟩
  conv at H => arg 1; whnf
  exact pick H
noncomputable abbrev bo__law_sig : List Stmt := by
  have H : Is (fB (stN 45)) := ⟨⟩
  conv at H => arg 1; whnf
  exact pick H
noncomputable abbrev sc__law_sig : Scope := by
  have H : Is (fS (stN 45)) := ⟨⟩
  conv at H => arg 1; whnf
  exact pick H
noncomputable abbrev pa__law_cond : Arguments := by
  have H : Is (fP (stN 46)) := ⟨⟩
  conv at H => arg 1; whnf
  exact pick H
noncomputable abbrev bo__law_cond : List Stmt := by
  have H : Is (fB (stN 46)) := ⟨⟩
  conv at H => arg 1; whnf
  exact pick H
noncomputable abbrev sc__law_cond : Scope := by
  have H : Is (fS (stN 46)) := ⟨⟩
  conv at H => arg 1; whnf
  exact pick H
noncomputable abbrev pa__law_mapped : Arguments := by
  have H : Is (fP (stN 47)) := ⟨⟩
  conv at H => arg 1; whnf
  exact pick H
noncomputable abbrev bo__law_mapped : List Stmt := by
  have H : Is (fB (stN 47)) := ⟨⟩
  conv at H => arg 1; whnf
  exact pick H
noncomputable abbrev sc__law_mapped : Scope := by
  have H : Is (fS (stN 47)) := ⟨⟩
  conv at H => arg 1; whnf
  exact pick H
noncomputable abbrev pa__law_object : Arguments := by
  have H : Is (fP (stN 48)) := ⟨⟩
  conv at H => arg 1; whnf
  exact pick H
noncomputable abbrev bo__law_object : List Stmt := by
  have H : Is (fB (stN 48)) := ⟨⟩
  conv at H => arg 1; whnf
  exact pick H
noncomputable abbrev sc__law_object : Scope := by
  have H : Is (fS (stN 48)) := ⟨⟩
  conv at H => arg 1; whnf
  exact pick H
noncomputable abbrev pa__law_list : Arguments := by
  have H : Is (fP (stN 49)) := ⟨⟩
  conv at H => arg 1; whnf
  exact pick H
noncomputable abbrev bo__law_list : List Stmt := by
  have H : Is (fB (stN 49)) := ⟨⟩
  conv at H => arg 1; whnf
  exact pick H
noncomputable abbrev sc__law_list : Scope := by
  have H : Is (fS (stN 49)) := ⟨⟩
  conv at H => arg 1; whnf
  exact pick H
noncomputable abbrev pa__law_single : Arguments := by
  have H : Is (fP (stN 50)) := ⟨⟩
  conv at H => arg 1; whnf
  exact pick H
noncomputable abbrev bo__law_single : List Stmt := by
  have H : Is (fB (stN 50)) := ⟨⟩
  conv at H => arg 1; whnf
  exact pick H
noncomputable abbrev sc__law_single : Scope := by
  have H : Is (fS (stN 50)) := ⟨⟩
  conv at H => arg 1; whnf
  exact pick H
noncomputable abbrev pa__law_joined : Arguments := by
  have H : Is (fP (stN 51)) := ⟨⟩
  conv at H => arg 1; whnf
  exact pick H
noncomputable abbrev bo__law_joined : List Stmt := by
  have H : Is (fB (stN 51)) := ⟨⟩
  conv at H => arg 1; whnf
  exact pick H
noncomputable abbrev sc__law_joined : Scope := by
  have H : Is (fS (stN 51)) := ⟨⟩
  conv at H => arg 1; whnf
  exact pick H
noncomputable abbrev pa__law_other : Arguments := by
  have H : Is (fP (stN 52)) := ⟨⟩
  conv at H => arg 1; whnf
  exact pick H
noncomputable abbrev bo__law_other : List Stmt := by
  have H : Is (fB (stN 52)) := ⟨⟩
  conv at H => arg 1; whnf
  exact pick H
noncomputable abbrev sc__law_other : Scope := by
  have H : Is (fS (stN 52)) := ⟨⟩
  conv at H => arg 1; whnf
  exact pick H
noncomputable abbrev pa__law_some_pid : Arguments := by
  have H : Is (fP (stN 53)) := ⟨⟩
  conv at H => arg 1; whnf
  exact pick H
noncomputable abbrev bo__law_some_pid : List Stmt := by
  have H : Is (fB (stN 53)) := ⟨⟩
  conv at H => arg 1; whnf
  exact pick H
noncomputable abbrev sc__law_some_pid : Scope := by
  have H : Is (fS (stN 53)) := ⟨⟩
  conv at H => arg 1; whnf
  exact pick H
noncomputable abbrev pa__law_some : Arguments := by
  have H : Is (fP (stN 54)) := ⟨⟩
  conv at H => arg 1; whnf
  exact pick H
noncomputable abbrev bo__law_some : List Stmt := by
  have H : Is (fB (stN 54)) := ⟨⟩
  conv at H => arg 1; whnf
  exact pick H
noncomputable abbrev sc__law_some : Scope := by
  have H : Is (fS (stN 54)) := ⟨⟩
  conv at H => arg 1; whnf
  exact pick H
noncomputable abbrev pa__law_ladder : Arguments := by
  have H : Is (fP (stN 55)) := ⟨⟩
  conv at H => arg 1; whnf
  exact pick H
noncomputable abbrev bo__law_ladder : List Stmt := by
  have H : Is (fB (stN 55)) := ⟨⟩
  conv at H => arg 1; whnf
  exact pick H
noncomputable abbrev sc__law_ladder : Scope := by
  have H : Is (fS (stN 55)) := ⟨⟩
  conv at H => arg 1; whnf
  exact pick H
noncomputable abbrev pa__law_bound : Arguments := by
  have H : Is (fP (stN 56)) := ⟨⟩
  conv at H => arg 1; whnf
  exact pick H
noncomputable abbrev bo__law_bound : List Stmt := by
  have H : Is (fB (stN 56)) := ⟨⟩
  conv at H => arg 1; whnf
  exact pick H
noncomputable abbrev sc__law_bound : Scope := by
  have H : Is (fS (stN 56)) := ⟨⟩
  conv at H => arg 1; whnf
  exact pick H
noncomputable abbrev pa__law_lead : Arguments := by
  have H : Is (fP (stN 57)) := ⟨⟩
  conv at H => arg 1; whnf
  exact pick H
noncomputable abbrev bo__law_lead : List Stmt := by
  have H : Is (fB (stN 57)) := ⟨⟩
  conv at H => arg 1; whnf
  exact pick H
noncomputable abbrev sc__law_lead : Scope := by
  have H : Is (fS (stN 57)) := ⟨⟩
  conv at H => arg 1; whnf
  exact pick H
noncomputable abbrev pa__law_inside : Arguments := by
  have H : Is (fP (stN 58)) := ⟨⟩
  conv at H => arg 1; whnf
  exact pick H
noncomputable abbrev bo__law_inside : List Stmt := by
  have H : Is (fB (stN 58)) := ⟨⟩
  conv at H => arg 1; whnf
  exact pick H
noncomputable abbrev sc__law_inside : Scope := by
  have H : Is (fS (stN 58)) := ⟨⟩
  conv at H => arg 1; whnf
  exact pick H
noncomputable abbrev pa__law_roads : Arguments := by
  have H : Is (fP (stN 59)) := ⟨⟩
  conv at H => arg 1; whnf
  exact pick H
noncomputable abbrev bo__law_roads : List Stmt := by
  have H : Is (fB (stN 59)) := ⟨⟩
  conv at H => arg 1; whnf
  exact pick H
noncomputable abbrev sc__law_roads : Scope := by
  have H : Is (fS (stN 59)) := ⟨⟩
  conv at H => arg 1; whnf
  exact pick H
noncomputable abbrev pa__law_free : Arguments := by
  have H : Is (fP (stN 60)) := ⟨⟩
  conv at H => arg 1; whnf
  exact pick H
noncomputable abbrev bo__law_free : List Stmt := by
  have H : Is (fB (stN 60)) := ⟨⟩
  conv at H => arg 1; whnf
  exact pick H
noncomputable abbrev sc__law_free : Scope := by
  have H : Is (fS (stN 60)) := ⟨⟩
  conv at H => arg 1; whnf
  exact pick H
noncomputable abbrev pa__law_rows_right : Arguments := by
  have H : Is (fP (stN 61)) := ⟨⟩
  conv at H => arg 1; whnf
  exact pick H
noncomputable abbrev bo__law_rows_right : List Stmt := by
  have H : Is (fB (stN 61)) := ⟨⟩
  conv at H => arg 1; whnf
  exact pick H
noncomputable abbrev sc__law_rows_right : Scope := by
  have H : Is (fS (stN 61)) := ⟨⟩
  conv at H => arg 1; whnf
  exact pick H
noncomputable abbrev pa_law : Arguments := by
  have H : Is (fP (stN 62)) := ⟨⟩
  conv at H => arg 1; whnf
  exact pick H
noncomputable abbrev bo_law : List Stmt := by
  have H : Is (fB (stN 62)) := ⟨⟩
  conv at H => arg 1; whnf
  exact pick H
noncomputable abbrev sc_law : Scope := by
  have H : Is (fS (stN 62)) := ⟨⟩
  conv at H => arg 1; whnf
  exact pick H
noncomputable def ob_43 (P : Params) : Obj := ⟨(.type "tuple"), .none, (.seq #[] 0), #[]⟩
noncomputable def ob_44 (P : Params) : Obj := ⟨.none, .none, (.fields #[]), #[]⟩
noncomputable def ob_45 (P : Params) : Obj := ⟨(.type "code"), .none, (.fields #[(.str (.ofString "<module>") 182), (.str (.ofString "<module>") 183), (.str (.ofString "/claim/cut.py") 184), (.int 1 0), (.int 0 0), (.int 0 0), (.int 0 0), (.int 0 0), (.ref 11), (.bool .false), (.int 181 0), (.ref 12), .none, .none, .none, .none, (.int 185 0), (.int 1 0), (.str (.ofString "/claim/cut.py") 186)]), #[]⟩
noncomputable def ob_46 (P : Params) : Obj := ⟨(.type "frame"), .none, .plain, #[(.some (.ref 13)), (.some (.ref 3)), (.some (.ref 3)), .none, (.some (.str (.ofString "__main__") 164)), .none, (.some (.ref 0))]⟩
noncomputable def ob_49 (P : Params) : Obj := ⟨(.type "dict"), .none, (.dict #[⟨PyData.keyHash P (.ofString "__name__"), (.str (.ofString "__name__") 165), (.str (.ofString "kindkeep.types") 187)⟩, ⟨PyData.keyHash P (.ofString "__doc__"), (.str (.ofString "__doc__") 166), .none⟩, ⟨PyData.keyHash P (.ofString "__package__"), (.str (.ofString "__package__") 167), .none⟩, ⟨PyData.keyHash P (.ofString "__loader__"), (.str (.ofString "__loader__") 168), (.builtin "__main__.__loader__#opaque")⟩, ⟨PyData.keyHash P (.ofString "__spec__"), (.str (.ofString "__spec__") 169), .none⟩, ⟨PyData.keyHash P (.ofString "__annotations__"), (.str (.ofString "__annotations__") 170), (.ref 6)⟩, ⟨PyData.keyHash P (.ofString "__builtins__"), (.str (.ofString "__builtins__") 171), (.ref 4)⟩, ⟨PyData.keyHash P (.ofString "__file__"), (.str (.ofString "__file__") 173), (.str (.ofString "/claim/cut.py") 172)⟩, ⟨PyData.keyHash P (.ofString "__cached__"), (.str (.ofString "__cached__") 174), .none⟩, ⟨PyData.keyHash P (.ofString "Y_KEY"), (.str (.ofString "Y_KEY") 190), (.int 1 189)⟩, ⟨PyData.keyHash P (.ofString "Y_BOOL"), (.str (.ofString "Y_BOOL") 192), (.int 2 191)⟩, ⟨PyData.keyHash P (.ofString "Y_UNION"), (.str (.ofString "Y_UNION") 194), (.int 6 193)⟩, ⟨PyData.keyHash P (.ofString "Y_INTER"), (.str (.ofString "Y_INTER") 196), (.int 7 195)⟩, ⟨PyData.keyHash P (.ofString "Y_OBJ"), (.str (.ofString "Y_OBJ") 198), (.int 8 197)⟩, ⟨PyData.keyHash P (.ofString "Y_REF"), (.str (.ofString "Y_REF") 200), (.int 9 199)⟩, ⟨PyData.keyHash P (.ofString "Y_PARAM"), (.str (.ofString "Y_PARAM") 202), (.int 10 201)⟩, ⟨PyData.keyHash P (.ofString "Y_ARRAY"), (.str (.ofString "Y_ARRAY") 204), (.int 11 203)⟩, ⟨PyData.keyHash P (.ofString "Y_TUPLE"), (.str (.ofString "Y_TUPLE") 206), (.int 12 205)⟩, ⟨PyData.keyHash P (.ofString "Y_SIG"), (.str (.ofString "Y_SIG") 208), (.int 13 207)⟩, ⟨PyData.keyHash P (.ofString "Y_KEYOF"), (.str (.ofString "Y_KEYOF") 210), (.int 14 209)⟩, ⟨PyData.keyHash P (.ofString "Y_INDEX"), (.str (.ofString "Y_INDEX") 212), (.int 15 211)⟩, ⟨PyData.keyHash P (.ofString "Y_COND"), (.str (.ofString "Y_COND") 214), (.int 16 213)⟩, ⟨PyData.keyHash P (.ofString "Y_MAPPED"), (.str (.ofString "Y_MAPPED") 216), (.int 17 215)⟩, ⟨PyData.keyHash P (.ofString "Y_TPL"), (.str (.ofString "Y_TPL") 218), (.int 18 217)⟩, ⟨PyData.keyHash P (.ofString "Y_ALIAS"), (.str (.ofString "Y_ALIAS") 220), (.int 19 219)⟩, ⟨PyData.keyHash P (.ofString "UNDEF"), (.str (.ofString "UNDEF") 222), (.int 4 221)⟩, ⟨PyData.keyHash P (.ofString "STRING"), (.str (.ofString "STRING") 224), (.int 6 223)⟩, ⟨PyData.keyHash P (.ofString "NUMBER"), (.str (.ofString "NUMBER") 226), (.int 7 225)⟩, ⟨PyData.keyHash P (.ofString "EMPTY"), (.str (.ofString "EMPTY") 228), (.int 11 227)⟩, ⟨PyData.keyHash P (.ofString "D_INTERFACE"), (.str (.ofString "D_INTERFACE") 230), (.int 2 229)⟩, ⟨PyData.keyHash P (.ofString "FIRST_ROWS"), (.str (.ofString "FIRST_ROWS") 252), (.ref 37)⟩, ⟨PyData.keyHash P (.ofString "KID_SPANS"), (.str (.ofString "KID_SPANS") 268), (.ref 38)⟩] 32), #[]⟩
noncomputable def ob_50 (P : Params) : Obj := ⟨(.type "tuple"), .none, (.seq #[(.int 1 189), (.str (.ofString "any") 231)] 0), #[]⟩
noncomputable def ob_51 (P : Params) : Obj := ⟨(.type "tuple"), .none, (.seq #[(.int 1 189), (.str (.ofString "unknown") 232)] 0), #[]⟩
noncomputable def ob_52 (P : Params) : Obj := ⟨(.type "tuple"), .none, (.seq #[(.int 1 189), (.str (.ofString "never") 233)] 0), #[]⟩
noncomputable def ob_53 (P : Params) : Obj := ⟨(.type "tuple"), .none, (.seq #[(.int 1 189), (.str (.ofString "void") 234)] 0), #[]⟩
noncomputable def ob_54 (P : Params) : Obj := ⟨(.type "tuple"), .none, (.seq #[(.int 1 189), (.str (.ofString "undefined") 235)] 0), #[]⟩
noncomputable def ob_55 (P : Params) : Obj := ⟨(.type "tuple"), .none, (.seq #[(.int 1 189), (.str (.ofString "null") 236)] 0), #[]⟩
noncomputable def ob_56 (P : Params) : Obj := ⟨(.type "tuple"), .none, (.seq #[(.int 1 189), (.str (.ofString "string") 237)] 0), #[]⟩
noncomputable def ob_57 (P : Params) : Obj := ⟨(.type "tuple"), .none, (.seq #[(.int 1 189), (.str (.ofString "number") 238)] 0), #[]⟩
noncomputable def ob_58 (P : Params) : Obj := ⟨(.type "tuple"), .none, (.seq #[(.int 2 191), (.int 0 239), (.int 0 240)] 0), #[]⟩
noncomputable def ob_59 (P : Params) : Obj := ⟨(.type "tuple"), .none, (.seq #[(.int 2 191), (.int 1 241), (.int 0 242)] 0), #[]⟩
noncomputable def ob_60 (P : Params) : Obj := ⟨(.type "tuple"), .none, (.seq #[(.int 1 189), (.str (.ofString "object") 243)] 0), #[]⟩
noncomputable def ob_61 (P : Params) : Obj := ⟨(.type "tuple"), .none, (.seq #[] 0), #[]⟩
noncomputable def ob_62 (P : Params) : Obj := ⟨(.type "tuple"), .none, (.seq #[] 0), #[]⟩
noncomputable def ob_63 (P : Params) : Obj := ⟨(.type "tuple"), .none, (.seq #[] 0), #[]⟩
noncomputable def ob_64 (P : Params) : Obj := ⟨(.type "tuple"), .none, (.seq #[] 0), #[]⟩
noncomputable def ob_65 (P : Params) : Obj := ⟨(.type "tuple"), .none, (.seq #[] 0), #[]⟩
noncomputable def ob_66 (P : Params) : Obj := ⟨(.type "tuple"), .none, (.seq #[(.int 8 197), (.ref 26), (.ref 27), (.ref 28), (.ref 29), (.ref 30), (.int 0 244)] 0), #[]⟩
noncomputable def ob_67 (P : Params) : Obj := ⟨(.type "tuple"), .none, (.seq #[(.int 8 245), (.int 9 246)] 0), #[]⟩
noncomputable def ob_68 (P : Params) : Obj := ⟨(.type "tuple"), .none, (.seq #[(.int 6 193), (.ref 32)] 0), #[]⟩
noncomputable def ob_69 (P : Params) : Obj := ⟨(.type "tuple"), .none, (.seq #[(.int 1 189), (.str (.ofString "error") 247)] 0), #[]⟩
noncomputable def ob_70 (P : Params) : Obj := ⟨(.type "tuple"), .none, (.seq #[(.int 2 191), (.int 0 248), (.int 1 249)] 0), #[]⟩
noncomputable def ob_71 (P : Params) : Obj := ⟨(.type "tuple"), .none, (.seq #[(.int 2 191), (.int 1 250), (.int 1 251)] 0), #[]⟩
noncomputable def ob_72 (P : Params) : Obj := ⟨(.type "tuple"), .none, (.seq #[(.ref 15), (.ref 16), (.ref 17), (.ref 18), (.ref 19), (.ref 20), (.ref 21), (.ref 22), (.ref 23), (.ref 24), (.ref 25), (.ref 31), (.ref 33), (.ref 34), (.ref 35), (.ref 36)] 0), #[]⟩
noncomputable def ob_73 (P : Params) : Obj := ⟨(.type "dict"), .none, (.dict #[⟨11, (.int 11 203), (.ref 39)⟩, ⟨14, (.int 14 209), (.ref 40)⟩, ⟨15, (.int 15 211), (.ref 41)⟩, ⟨16, (.int 16 213), (.ref 42)⟩, ⟨17, (.int 17 215), (.ref 43)⟩] 5), #[]⟩
noncomputable def ob_74 (P : Params) : Obj := ⟨(.type "tuple"), .none, (.seq #[(.int 1 253), (.int 2 254)] 0), #[]⟩
noncomputable def ob_75 (P : Params) : Obj := ⟨(.type "tuple"), .none, (.seq #[(.int 1 255), (.int 2 256)] 0), #[]⟩
noncomputable def ob_76 (P : Params) : Obj := ⟨(.type "tuple"), .none, (.seq #[(.int 1 257), (.int 3 258)] 0), #[]⟩
noncomputable def ob_77 (P : Params) : Obj := ⟨(.type "tuple"), .none, (.seq #[(.int 1 259), (.int 5 260)] 0), #[]⟩
noncomputable def ob_78 (P : Params) : Obj := ⟨(.type "tuple"), .none, (.seq #[(.int 2 261), (.int 5 262)] 0), #[]⟩
noncomputable def ob_81 (P : Params) : Obj := ⟨(.type "dict"), .none, (.dict #[⟨PyData.keyHash P (.ofString "__name__"), (.str (.ofString "__name__") 165), (.str (.ofString "kindkeep.types") 187)⟩, ⟨PyData.keyHash P (.ofString "__doc__"), (.str (.ofString "__doc__") 166), .none⟩, ⟨PyData.keyHash P (.ofString "__package__"), (.str (.ofString "__package__") 167), .none⟩, ⟨PyData.keyHash P (.ofString "__loader__"), (.str (.ofString "__loader__") 168), (.builtin "__main__.__loader__#opaque")⟩, ⟨PyData.keyHash P (.ofString "__spec__"), (.str (.ofString "__spec__") 169), .none⟩, ⟨PyData.keyHash P (.ofString "__annotations__"), (.str (.ofString "__annotations__") 170), (.ref 6)⟩, ⟨PyData.keyHash P (.ofString "__builtins__"), (.str (.ofString "__builtins__") 171), (.ref 4)⟩, ⟨PyData.keyHash P (.ofString "__file__"), (.str (.ofString "__file__") 173), (.str (.ofString "/claim/cut.py") 172)⟩, ⟨PyData.keyHash P (.ofString "__cached__"), (.str (.ofString "__cached__") 174), .none⟩, ⟨PyData.keyHash P (.ofString "Y_KEY"), (.str (.ofString "Y_KEY") 190), (.int 1 189)⟩, ⟨PyData.keyHash P (.ofString "Y_BOOL"), (.str (.ofString "Y_BOOL") 192), (.int 2 191)⟩, ⟨PyData.keyHash P (.ofString "Y_UNION"), (.str (.ofString "Y_UNION") 194), (.int 6 193)⟩, ⟨PyData.keyHash P (.ofString "Y_INTER"), (.str (.ofString "Y_INTER") 196), (.int 7 195)⟩, ⟨PyData.keyHash P (.ofString "Y_OBJ"), (.str (.ofString "Y_OBJ") 198), (.int 8 197)⟩, ⟨PyData.keyHash P (.ofString "Y_REF"), (.str (.ofString "Y_REF") 200), (.int 9 199)⟩, ⟨PyData.keyHash P (.ofString "Y_PARAM"), (.str (.ofString "Y_PARAM") 202), (.int 10 201)⟩, ⟨PyData.keyHash P (.ofString "Y_ARRAY"), (.str (.ofString "Y_ARRAY") 204), (.int 11 203)⟩, ⟨PyData.keyHash P (.ofString "Y_TUPLE"), (.str (.ofString "Y_TUPLE") 206), (.int 12 205)⟩, ⟨PyData.keyHash P (.ofString "Y_SIG"), (.str (.ofString "Y_SIG") 208), (.int 13 207)⟩, ⟨PyData.keyHash P (.ofString "Y_KEYOF"), (.str (.ofString "Y_KEYOF") 210), (.int 14 209)⟩, ⟨PyData.keyHash P (.ofString "Y_INDEX"), (.str (.ofString "Y_INDEX") 212), (.int 15 211)⟩, ⟨PyData.keyHash P (.ofString "Y_COND"), (.str (.ofString "Y_COND") 214), (.int 16 213)⟩, ⟨PyData.keyHash P (.ofString "Y_MAPPED"), (.str (.ofString "Y_MAPPED") 216), (.int 17 215)⟩, ⟨PyData.keyHash P (.ofString "Y_TPL"), (.str (.ofString "Y_TPL") 218), (.int 18 217)⟩, ⟨PyData.keyHash P (.ofString "Y_ALIAS"), (.str (.ofString "Y_ALIAS") 220), (.int 19 219)⟩, ⟨PyData.keyHash P (.ofString "UNDEF"), (.str (.ofString "UNDEF") 222), (.int 4 221)⟩, ⟨PyData.keyHash P (.ofString "STRING"), (.str (.ofString "STRING") 224), (.int 6 223)⟩, ⟨PyData.keyHash P (.ofString "NUMBER"), (.str (.ofString "NUMBER") 226), (.int 7 225)⟩, ⟨PyData.keyHash P (.ofString "EMPTY"), (.str (.ofString "EMPTY") 228), (.int 11 227)⟩, ⟨PyData.keyHash P (.ofString "D_INTERFACE"), (.str (.ofString "D_INTERFACE") 230), (.int 2 229)⟩, ⟨PyData.keyHash P (.ofString "FIRST_ROWS"), (.str (.ofString "FIRST_ROWS") 252), (.ref 37)⟩, ⟨PyData.keyHash P (.ofString "KID_SPANS"), (.str (.ofString "KID_SPANS") 268), (.ref 38)⟩, ⟨PyData.keyHash P (.ofString "TypeTable"), (.str (.ofString "TypeTable") 323), (.ref 74)⟩] 33), #[]⟩
noncomputable def ob_82 (P : Params) : Obj := ⟨.none, .none, (.fields #[(.int 25 0), (.int 0 0), (.ref 49)]), #[]⟩
noncomputable def ob_83 (P : Params) : Obj := ⟨(.type "tuple"), .none, (.seq #[] 0), #[]⟩
noncomputable def ob_84 (P : Params) : Obj := ⟨(.type "builtin_function_or_method"), .none, (.fields #[(.builtin "type.__prepare__"), (.type "type")]), #[]⟩
noncomputable def ob_85 (P : Params) : Obj := ⟨(.type "dict"), .none, (.dict #[⟨PyData.keyHash P (.ofString "__module__"), (.str (.ofString "__module__") 276), (.str (.ofString "kindkeep.types") 187)⟩, ⟨PyData.keyHash P (.ofString "__qualname__"), (.str (.ofString "__qualname__") 278), (.str (.ofString "TypeTable") 277)⟩, ⟨PyData.keyHash P (.ofString "__firstlineno__"), (.str (.ofString "__firstlineno__") 280), (.int 25 279)⟩, ⟨PyData.keyHash P (.ofString "__init__"), (.str (.ofString "__init__") 288), (.ref 57)⟩, ⟨PyData.keyHash P (.ofString "row"), (.str (.ofString "row") 296), (.ref 64)⟩, ⟨PyData.keyHash P (.ofString "put"), (.str (.ofString "put") 305), (.ref 71)⟩, ⟨PyData.keyHash P (.ofString "__static_attributes__"), (.str (.ofString "__static_attributes__") 316), (.ref 72)⟩] 7), #[]⟩
noncomputable def ob_86 (P : Params) : Obj := ⟨(.type "tuple"), .none, (.seq #[] 0), #[]⟩
noncomputable def ob_87 (P : Params) : Obj := ⟨.none, .none, (.fields #[(.int 27 0), (.int 4 0), (.ref 56), (.int 41 0), (.int 4 0), (.ref 63), (.int 44 0), (.int 4 0), (.ref 70)]), #[]⟩
noncomputable def ob_88 (P : Params) : Obj := ⟨(.type "code"), .none, (.fields #[(.str (.ofString "TypeTable") 271), (.str (.ofString "TypeTable") 272), (.str (.ofString "/claim/cut.py") 273), (.int 25 0), (.int 0 0), (.int 0 0), (.int 0 0), (.int 0 0), (.ref 47), (.bool .false), (.int 181 0), (.ref 48), .none, .none, .none, .none, (.int 274 0), (.int 25 0), (.str (.ofString "/claim/cut.py") 275)]), #[]⟩
noncomputable def ob_89 (P : Params) : Obj := ⟨(.type "frame"), .none, .plain, #[(.some (.ref 49)), (.some (.ref 3)), (.some (.ref 46)), .none, (.some (.str (.ofString "kindkeep.types") 187)), .none, (.some (.ref 0))]⟩
noncomputable def ob_90 (P : Params) : Obj := ⟨(.type "tuple"), .none, (.seq #[] 0), #[]⟩
noncomputable def ob_91 (P : Params) : Obj := ⟨.none, .none, (.fields #[]), #[]⟩
noncomputable def ob_92 (P : Params) : Obj := ⟨(.type "tuple"), .none, (.seq #[(.str (.ofString "self") 284), (.str (.ofString "row") 285)] 0), #[]⟩
noncomputable def ob_93 (P : Params) : Obj := ⟨(.type "tuple"), .none, (.seq #[] 0), #[]⟩
noncomputable def ob_94 (P : Params) : Obj := ⟨.none, .none, (.func ⟨(.ofString "__init__"), (.ofString "TypeTable.__init__"), pa_TypeTable___init__, .stmts bo_TypeTable___init__, sc_TypeTable___init__, 0, [], .none, .none, .none, .none, .none, .none, .none, 0⟩), #[]⟩
noncomputable def ob_95 (P : Params) : Obj := ⟨(.type "code"), .none, (.fields #[(.str (.ofString "__init__") 281), (.str (.ofString "TypeTable.__init__") 282), (.str (.ofString "/claim/cut.py") 283), (.int 27 0), (.int 1 0), (.int 0 0), (.int 0 0), (.int 3 0), (.ref 51), (.bool .true), (.int 181 0), (.ref 52), .none, (.ref 53), (.ref 54), (.ref 55), (.int 286 0), (.int 27 0), (.str (.ofString "/claim/cut.py") 287)]), #[]⟩
noncomputable def ob_96 (P : Params) : Obj := ⟨(.type "function"), .none, (.func ⟨(.ofString "__init__"), (.ofString "TypeTable.__init__"), pa_TypeTable___init__, .stmts bo_TypeTable___init__, sc_TypeTable___init__, 3, [], .none, .none, .none, (.str (.ofString "kindkeep.types") 187), .none, (.ref 56), .none, 0⟩), #[]⟩
noncomputable def ob_97 (P : Params) : Obj := ⟨(.type "tuple"), .none, (.seq #[] 0), #[]⟩
noncomputable def ob_98 (P : Params) : Obj := ⟨.none, .none, (.fields #[]), #[]⟩
noncomputable def ob_99 (P : Params) : Obj := ⟨(.type "tuple"), .none, (.seq #[(.str (.ofString "self") 292), (.str (.ofString "t") 293)] 0), #[]⟩
noncomputable def ob_100 (P : Params) : Obj := ⟨(.type "tuple"), .none, (.seq #[] 0), #[]⟩
noncomputable def ob_101 (P : Params) : Obj := ⟨.none, .none, (.func ⟨(.ofString "row"), (.ofString "TypeTable.row"), pa_TypeTable_row, .stmts bo_TypeTable_row, sc_TypeTable_row, 0, [], .none, .none, .none, .none, .none, .none, .none, 0⟩), #[]⟩
noncomputable def ob_102 (P : Params) : Obj := ⟨(.type "code"), .none, (.fields #[(.str (.ofString "row") 289), (.str (.ofString "TypeTable.row") 290), (.str (.ofString "/claim/cut.py") 291), (.int 41 0), (.int 2 0), (.int 0 0), (.int 0 0), (.int 3 0), (.ref 58), (.bool .true), (.int 181 0), (.ref 59), .none, (.ref 60), (.ref 61), (.ref 62), (.int 294 0), (.int 41 0), (.str (.ofString "/claim/cut.py") 295)]), #[]⟩
noncomputable def ob_103 (P : Params) : Obj := ⟨(.type "function"), .none, (.func ⟨(.ofString "row"), (.ofString "TypeTable.row"), pa_TypeTable_row, .stmts bo_TypeTable_row, sc_TypeTable_row, 3, [], .none, .none, .none, (.str (.ofString "kindkeep.types") 187), .none, (.ref 63), .none, 0⟩), #[]⟩
noncomputable def ob_104 (P : Params) : Obj := ⟨(.type "tuple"), .none, (.seq #[] 0), #[]⟩
noncomputable def ob_105 (P : Params) : Obj := ⟨.none, .none, (.fields #[]), #[]⟩
noncomputable def ob_106 (P : Params) : Obj := ⟨(.type "tuple"), .none, (.seq #[(.str (.ofString "self") 300), (.str (.ofString "row") 301), (.str (.ofString "t") 302)] 0), #[]⟩
noncomputable def ob_107 (P : Params) : Obj := ⟨(.type "tuple"), .none, (.seq #[] 0), #[]⟩
noncomputable def ob_108 (P : Params) : Obj := ⟨.none, .none, (.func ⟨(.ofString "put"), (.ofString "TypeTable.put"), pa_TypeTable_put, .stmts bo_TypeTable_put, sc_TypeTable_put, 0, [], .none, .none, .none, .none, .none, .none, .none, 0⟩), #[]⟩
noncomputable def ob_109 (P : Params) : Obj := ⟨(.type "code"), .none, (.fields #[(.str (.ofString "put") 297), (.str (.ofString "TypeTable.put") 298), (.str (.ofString "/claim/cut.py") 299), (.int 44 0), (.int 2 0), (.int 0 0), (.int 0 0), (.int 3 0), (.ref 65), (.bool .true), (.int 181 0), (.ref 66), .none, (.ref 67), (.ref 68), (.ref 69), (.int 303 0), (.int 44 0), (.str (.ofString "/claim/cut.py") 304)]), #[]⟩
noncomputable def ob_110 (P : Params) : Obj := ⟨(.type "function"), .none, (.func ⟨(.ofString "put"), (.ofString "TypeTable.put"), pa_TypeTable_put, .stmts bo_TypeTable_put, sc_TypeTable_put, 3, [], .none, .none, .none, (.str (.ofString "kindkeep.types") 187), .none, (.ref 70), .none, 0⟩), #[]⟩
noncomputable def ob_111 (P : Params) : Obj := ⟨(.type "tuple"), .none, (.seq #[(.str (.ofString "bounds") 306), (.str (.ofString "decls") 307), (.str (.ofString "defaults") 308), (.str (.ofString "index") 309), (.str (.ofString "names") 310), (.str (.ofString "origins") 311), (.str (.ofString "putting") 312), (.str (.ofString "renamed") 313), (.str (.ofString "rows") 314), (.str (.ofString "shaping") 315)] 0), #[]⟩
noncomputable def ob_112 (P : Params) : Obj := ⟨(.type "dict"), .none, (.dict #[⟨PyData.keyHash P (.ofString "__module__"), (.str (.ofString "__module__") 276), (.str (.ofString "kindkeep.types") 187)⟩, ⟨PyData.keyHash P (.ofString "__firstlineno__"), (.str (.ofString "__firstlineno__") 280), (.int 25 279)⟩, ⟨PyData.keyHash P (.ofString "__init__"), (.str (.ofString "__init__") 288), (.ref 57)⟩, ⟨PyData.keyHash P (.ofString "row"), (.str (.ofString "row") 296), (.ref 64)⟩, ⟨PyData.keyHash P (.ofString "put"), (.str (.ofString "put") 305), (.ref 71)⟩, ⟨PyData.keyHash P (.ofString "__static_attributes__"), (.str (.ofString "__static_attributes__") 316), (.ref 72)⟩, ⟨PyData.keyHash P (.ofString "__dict__"), (.str (.ofString "__dict__") 318), (.ref 75)⟩, ⟨PyData.keyHash P (.ofString "__weakref__"), (.str (.ofString "__weakref__") 320), (.ref 76)⟩, ⟨PyData.keyHash P (.ofString "__doc__"), (.str (.ofString "__doc__") 321), .none⟩] 4), #[]⟩
noncomputable def ob_113 (P : Params) : Obj := ⟨(.type "type"), .none, (.cls ⟨(.ofString "TypeTable"), [(.type "object")], [(.ref 74), (.type "object")], 73, (.ofString "TypeTable"), .true, [], [], .false, .none, .false⟩), #[.none, .none, (.some (.str (.ofString "TypeTable") 269)), (.some (.str (.ofString "TypeTable") 277)), (.some (.builtin "object.__new__")), (.some (.bool .true))]⟩
noncomputable def ob_114 (P : Params) : Obj := ⟨(.type "getset_descriptor"), .none, (.fields #[(.str (.ofString "__dict__") 317), (.ref 74), (.builtin "function.__dict__"), (.builtin "function.__dict__#set")]), #[]⟩
noncomputable def ob_115 (P : Params) : Obj := ⟨(.type "getset_descriptor"), .none, (.fields #[(.str (.ofString "__weakref__") 319), (.ref 74), (.builtin "ExceptionGroup.__weakref__"), .none]), #[]⟩
noncomputable def ob_116 (P : Params) : Obj := ⟨(.type "super"), .none, (.fields #[(.ref 74), (.ref 74), (.ref 74)]), #[]⟩
noncomputable def ob_117 (P : Params) : Obj := ⟨(.type "builtin_function_or_method"), .none, (.fields #[(.builtin "object.__init_subclass__"), (.ref 74)]), #[]⟩
noncomputable def ob_118 (P : Params) : Obj := ⟨(.type "dict"), .none, (.dict #[⟨PyData.keyHash P (.ofString "__name__"), (.str (.ofString "__name__") 165), (.str (.ofString "kindkeep.types") 187)⟩, ⟨PyData.keyHash P (.ofString "__doc__"), (.str (.ofString "__doc__") 166), .none⟩, ⟨PyData.keyHash P (.ofString "__package__"), (.str (.ofString "__package__") 167), .none⟩, ⟨PyData.keyHash P (.ofString "__loader__"), (.str (.ofString "__loader__") 168), (.builtin "__main__.__loader__#opaque")⟩, ⟨PyData.keyHash P (.ofString "__spec__"), (.str (.ofString "__spec__") 169), .none⟩, ⟨PyData.keyHash P (.ofString "__annotations__"), (.str (.ofString "__annotations__") 170), (.ref 6)⟩, ⟨PyData.keyHash P (.ofString "__builtins__"), (.str (.ofString "__builtins__") 171), (.ref 4)⟩, ⟨PyData.keyHash P (.ofString "__file__"), (.str (.ofString "__file__") 173), (.str (.ofString "/claim/cut.py") 172)⟩, ⟨PyData.keyHash P (.ofString "__cached__"), (.str (.ofString "__cached__") 174), .none⟩, ⟨PyData.keyHash P (.ofString "Y_KEY"), (.str (.ofString "Y_KEY") 190), (.int 1 189)⟩, ⟨PyData.keyHash P (.ofString "Y_BOOL"), (.str (.ofString "Y_BOOL") 192), (.int 2 191)⟩, ⟨PyData.keyHash P (.ofString "Y_UNION"), (.str (.ofString "Y_UNION") 194), (.int 6 193)⟩, ⟨PyData.keyHash P (.ofString "Y_INTER"), (.str (.ofString "Y_INTER") 196), (.int 7 195)⟩, ⟨PyData.keyHash P (.ofString "Y_OBJ"), (.str (.ofString "Y_OBJ") 198), (.int 8 197)⟩, ⟨PyData.keyHash P (.ofString "Y_REF"), (.str (.ofString "Y_REF") 200), (.int 9 199)⟩, ⟨PyData.keyHash P (.ofString "Y_PARAM"), (.str (.ofString "Y_PARAM") 202), (.int 10 201)⟩, ⟨PyData.keyHash P (.ofString "Y_ARRAY"), (.str (.ofString "Y_ARRAY") 204), (.int 11 203)⟩, ⟨PyData.keyHash P (.ofString "Y_TUPLE"), (.str (.ofString "Y_TUPLE") 206), (.int 12 205)⟩, ⟨PyData.keyHash P (.ofString "Y_SIG"), (.str (.ofString "Y_SIG") 208), (.int 13 207)⟩, ⟨PyData.keyHash P (.ofString "Y_KEYOF"), (.str (.ofString "Y_KEYOF") 210), (.int 14 209)⟩, ⟨PyData.keyHash P (.ofString "Y_INDEX"), (.str (.ofString "Y_INDEX") 212), (.int 15 211)⟩, ⟨PyData.keyHash P (.ofString "Y_COND"), (.str (.ofString "Y_COND") 214), (.int 16 213)⟩, ⟨PyData.keyHash P (.ofString "Y_MAPPED"), (.str (.ofString "Y_MAPPED") 216), (.int 17 215)⟩, ⟨PyData.keyHash P (.ofString "Y_TPL"), (.str (.ofString "Y_TPL") 218), (.int 18 217)⟩, ⟨PyData.keyHash P (.ofString "Y_ALIAS"), (.str (.ofString "Y_ALIAS") 220), (.int 19 219)⟩, ⟨PyData.keyHash P (.ofString "UNDEF"), (.str (.ofString "UNDEF") 222), (.int 4 221)⟩, ⟨PyData.keyHash P (.ofString "STRING"), (.str (.ofString "STRING") 224), (.int 6 223)⟩, ⟨PyData.keyHash P (.ofString "NUMBER"), (.str (.ofString "NUMBER") 226), (.int 7 225)⟩, ⟨PyData.keyHash P (.ofString "EMPTY"), (.str (.ofString "EMPTY") 228), (.int 11 227)⟩, ⟨PyData.keyHash P (.ofString "D_INTERFACE"), (.str (.ofString "D_INTERFACE") 230), (.int 2 229)⟩, ⟨PyData.keyHash P (.ofString "FIRST_ROWS"), (.str (.ofString "FIRST_ROWS") 252), (.ref 37)⟩, ⟨PyData.keyHash P (.ofString "KID_SPANS"), (.str (.ofString "KID_SPANS") 268), (.ref 38)⟩, ⟨PyData.keyHash P (.ofString "TypeTable"), (.str (.ofString "TypeTable") 323), (.ref 74)⟩, ⟨PyData.keyHash P (.ofString "Decl"), (.str (.ofString "Decl") 368), (.ref 95)⟩, ⟨PyData.keyHash P (.ofString "new_param"), (.str (.ofString "new_param") 383), (.ref 107)⟩, ⟨PyData.keyHash P (.ofString "new_decl"), (.str (.ofString "new_decl") 393), (.ref 114)⟩, ⟨PyData.keyHash P (.ofString "index_kids"), (.str (.ofString "index_kids") 400), (.ref 121)⟩, ⟨PyData.keyHash P (.ofString "sig_kids"), (.str (.ofString "sig_kids") 406), (.ref 126)⟩, ⟨PyData.keyHash P (.ofString "object_kids"), (.str (.ofString "object_kids") 412), (.ref 131)⟩] 39), #[]⟩
noncomputable def ob_119 (P : Params) : Obj := ⟨.none, .none, (.fields #[(.int 25 0), (.int 0 0), (.ref 49), (.int 51 0), (.int 0 0), (.ref 84), (.int 69 0), (.int 0 0), (.ref 106), (.int 75 0), (.int 0 0), (.ref 113), (.int 79 0), (.int 0 0), (.ref 120), (.int 81 0), (.int 0 0), (.ref 125), (.int 87 0), (.int 0 0), (.ref 130)]), #[]⟩
noncomputable def ob_120 (P : Params) : Obj := ⟨(.type "tuple"), .none, (.seq #[] 0), #[]⟩
noncomputable def ob_121 (P : Params) : Obj := ⟨(.type "builtin_function_or_method"), .none, (.fields #[(.builtin "type.__prepare__"), (.type "type")]), #[]⟩
noncomputable def ob_122 (P : Params) : Obj := ⟨(.type "dict"), .none, (.dict #[⟨PyData.keyHash P (.ofString "__module__"), (.str (.ofString "__module__") 331), (.str (.ofString "kindkeep.types") 187)⟩, ⟨PyData.keyHash P (.ofString "__qualname__"), (.str (.ofString "__qualname__") 333), (.str (.ofString "Decl") 332)⟩, ⟨PyData.keyHash P (.ofString "__firstlineno__"), (.str (.ofString "__firstlineno__") 335), (.int 51 334)⟩, ⟨PyData.keyHash P (.ofString "__init__"), (.str (.ofString "__init__") 345), (.ref 92)⟩, ⟨PyData.keyHash P (.ofString "__static_attributes__"), (.str (.ofString "__static_attributes__") 361), (.ref 93)⟩] 5), #[]⟩
noncomputable def ob_123 (P : Params) : Obj := ⟨(.type "tuple"), .none, (.seq #[] 0), #[]⟩
noncomputable def ob_124 (P : Params) : Obj := ⟨.none, .none, (.fields #[(.int 53 0), (.int 4 0), (.ref 91)]), #[]⟩
noncomputable def ob_125 (P : Params) : Obj := ⟨(.type "code"), .none, (.fields #[(.str (.ofString "Decl") 326), (.str (.ofString "Decl") 327), (.str (.ofString "/claim/cut.py") 328), (.int 51 0), (.int 0 0), (.int 0 0), (.int 0 0), (.int 0 0), (.ref 82), (.bool .false), (.int 181 0), (.ref 83), .none, .none, .none, .none, (.int 329 0), (.int 51 0), (.str (.ofString "/claim/cut.py") 330)]), #[]⟩
noncomputable def ob_126 (P : Params) : Obj := ⟨(.type "frame"), .none, .plain, #[(.some (.ref 84)), (.some (.ref 3)), (.some (.ref 81)), .none, (.some (.str (.ofString "kindkeep.types") 187)), .none, (.some (.ref 0))]⟩
noncomputable def ob_127 (P : Params) : Obj := ⟨(.type "tuple"), .none, (.seq #[] 0), #[]⟩
noncomputable def ob_128 (P : Params) : Obj := ⟨.none, .none, (.fields #[]), #[]⟩
noncomputable def ob_129 (P : Params) : Obj := ⟨(.type "tuple"), .none, (.seq #[(.str (.ofString "self") 339), (.str (.ofString "did") 340), (.str (.ofString "kind") 341), (.str (.ofString "name") 342)] 0), #[]⟩
noncomputable def ob_130 (P : Params) : Obj := ⟨(.type "tuple"), .none, (.seq #[] 0), #[]⟩
noncomputable def ob_131 (P : Params) : Obj := ⟨.none, .none, (.func ⟨(.ofString "__init__"), (.ofString "Decl.__init__"), pa_Decl___init__, .stmts bo_Decl___init__, sc_Decl___init__, 0, [], .none, .none, .none, .none, .none, .none, .none, 0⟩), #[]⟩
noncomputable def ob_132 (P : Params) : Obj := ⟨(.type "code"), .none, (.fields #[(.str (.ofString "__init__") 336), (.str (.ofString "Decl.__init__") 337), (.str (.ofString "/claim/cut.py") 338), (.int 53 0), (.int 4 0), (.int 0 0), (.int 0 0), (.int 3 0), (.ref 86), (.bool .true), (.int 181 0), (.ref 87), .none, (.ref 88), (.ref 89), (.ref 90), (.int 343 0), (.int 53 0), (.str (.ofString "/claim/cut.py") 344)]), #[]⟩
noncomputable def ob_133 (P : Params) : Obj := ⟨(.type "function"), .none, (.func ⟨(.ofString "__init__"), (.ofString "Decl.__init__"), pa_Decl___init__, .stmts bo_Decl___init__, sc_Decl___init__, 3, [], .none, .none, .none, (.str (.ofString "kindkeep.types") 187), .none, (.ref 91), .none, 0⟩), #[]⟩
noncomputable def ob_134 (P : Params) : Obj := ⟨(.type "tuple"), .none, (.seq #[(.str (.ofString "abstract") 346), (.str (.ofString "at") 347), (.str (.ofString "bases") 348), (.str (.ofString "body") 349), (.str (.ofString "busy") 350), (.str (.ofString "did") 351), (.str (.ofString "extends_class") 352), (.str (.ofString "file") 353), (.str (.ofString "kind") 354), (.str (.ofString "members") 355), (.str (.ofString "name") 356), (.str (.ofString "nid") 357), (.str (.ofString "params") 358), (.str (.ofString "static") 359), (.str (.ofString "variances") 360)] 0), #[]⟩
noncomputable def ob_135 (P : Params) : Obj := ⟨(.type "dict"), .none, (.dict #[⟨PyData.keyHash P (.ofString "__module__"), (.str (.ofString "__module__") 331), (.str (.ofString "kindkeep.types") 187)⟩, ⟨PyData.keyHash P (.ofString "__firstlineno__"), (.str (.ofString "__firstlineno__") 335), (.int 51 334)⟩, ⟨PyData.keyHash P (.ofString "__init__"), (.str (.ofString "__init__") 345), (.ref 92)⟩, ⟨PyData.keyHash P (.ofString "__static_attributes__"), (.str (.ofString "__static_attributes__") 361), (.ref 93)⟩, ⟨PyData.keyHash P (.ofString "__dict__"), (.str (.ofString "__dict__") 363), (.ref 96)⟩, ⟨PyData.keyHash P (.ofString "__weakref__"), (.str (.ofString "__weakref__") 365), (.ref 97)⟩, ⟨PyData.keyHash P (.ofString "__doc__"), (.str (.ofString "__doc__") 366), .none⟩] 4), #[]⟩
noncomputable def ob_136 (P : Params) : Obj := ⟨(.type "type"), .none, (.cls ⟨(.ofString "Decl"), [(.type "object")], [(.ref 95), (.type "object")], 94, (.ofString "Decl"), .true, [], [], .false, .none, .false⟩), #[.none, .none, (.some (.str (.ofString "Decl") 324)), (.some (.str (.ofString "Decl") 332)), (.some (.builtin "object.__new__")), (.some (.bool .true))]⟩
noncomputable def ob_137 (P : Params) : Obj := ⟨(.type "getset_descriptor"), .none, (.fields #[(.str (.ofString "__dict__") 362), (.ref 95), (.builtin "function.__dict__"), (.builtin "function.__dict__#set")]), #[]⟩
noncomputable def ob_138 (P : Params) : Obj := ⟨(.type "getset_descriptor"), .none, (.fields #[(.str (.ofString "__weakref__") 364), (.ref 95), (.builtin "ExceptionGroup.__weakref__"), .none]), #[]⟩
noncomputable def ob_139 (P : Params) : Obj := ⟨(.type "super"), .none, (.fields #[(.ref 95), (.ref 95), (.ref 95)]), #[]⟩
noncomputable def ob_140 (P : Params) : Obj := ⟨(.type "builtin_function_or_method"), .none, (.fields #[(.builtin "object.__init_subclass__"), (.ref 95)]), #[]⟩
noncomputable def ob_141 (P : Params) : Obj := ⟨(.type "tuple"), .none, (.seq #[(.int (-1) 370), (.int (-1) 372)] 0), #[]⟩
noncomputable def ob_142 (P : Params) : Obj := ⟨(.type "tuple"), .none, (.seq #[] 0), #[]⟩
noncomputable def ob_143 (P : Params) : Obj := ⟨.none, .none, (.fields #[]), #[]⟩
noncomputable def ob_144 (P : Params) : Obj := ⟨(.type "tuple"), .none, (.seq #[(.str (.ofString "tab") 376), (.str (.ofString "name") 377), (.str (.ofString "bound") 378), (.str (.ofString "default") 379), (.str (.ofString "pid") 380)] 0), #[]⟩
noncomputable def ob_145 (P : Params) : Obj := ⟨(.type "tuple"), .none, (.seq #[] 0), #[]⟩
noncomputable def ob_146 (P : Params) : Obj := ⟨.none, .none, (.func ⟨(.ofString "new_param"), (.ofString "new_param"), pa_new_param, .stmts bo_new_param, sc_new_param, 0, [], .none, .none, .none, .none, .none, .none, .none, 0⟩), #[]⟩
noncomputable def ob_147 (P : Params) : Obj := ⟨(.type "code"), .none, (.fields #[(.str (.ofString "new_param") 373), (.str (.ofString "new_param") 374), (.str (.ofString "/claim/cut.py") 375), (.int 69 0), (.int 4 0), (.int 0 0), (.int 0 0), (.int 3 0), (.ref 101), (.bool .true), (.int 181 0), (.ref 102), .none, (.ref 103), (.ref 104), (.ref 105), (.int 381 0), (.int 69 0), (.str (.ofString "/claim/cut.py") 382)]), #[]⟩
noncomputable def ob_148 (P : Params) : Obj := ⟨(.type "function"), .none, (.func ⟨(.ofString "new_param"), (.ofString "new_param"), pa_new_param, .stmts bo_new_param, sc_new_param, 3, [], (.ref 100), .none, .none, (.str (.ofString "kindkeep.types") 187), .none, (.ref 106), .none, 0⟩), #[]⟩
noncomputable def ob_149 (P : Params) : Obj := ⟨(.type "tuple"), .none, (.seq #[] 0), #[]⟩
noncomputable def ob_150 (P : Params) : Obj := ⟨.none, .none, (.fields #[]), #[]⟩
noncomputable def ob_151 (P : Params) : Obj := ⟨(.type "tuple"), .none, (.seq #[(.str (.ofString "tab") 387), (.str (.ofString "kind") 388), (.str (.ofString "name") 389), (.str (.ofString "decl") 390)] 0), #[]⟩
noncomputable def ob_152 (P : Params) : Obj := ⟨(.type "tuple"), .none, (.seq #[] 0), #[]⟩
noncomputable def ob_153 (P : Params) : Obj := ⟨.none, .none, (.func ⟨(.ofString "new_decl"), (.ofString "new_decl"), pa_new_decl, .stmts bo_new_decl, sc_new_decl, 0, [], .none, .none, .none, .none, .none, .none, .none, 0⟩), #[]⟩
noncomputable def ob_154 (P : Params) : Obj := ⟨(.type "code"), .none, (.fields #[(.str (.ofString "new_decl") 384), (.str (.ofString "new_decl") 385), (.str (.ofString "/claim/cut.py") 386), (.int 75 0), (.int 3 0), (.int 0 0), (.int 0 0), (.int 3 0), (.ref 108), (.bool .true), (.int 181 0), (.ref 109), .none, (.ref 110), (.ref 111), (.ref 112), (.int 391 0), (.int 75 0), (.str (.ofString "/claim/cut.py") 392)]), #[]⟩
noncomputable def ob_155 (P : Params) : Obj := ⟨(.type "function"), .none, (.func ⟨(.ofString "new_decl"), (.ofString "new_decl"), pa_new_decl, .stmts bo_new_decl, sc_new_decl, 3, [], .none, .none, .none, (.str (.ofString "kindkeep.types") 187), .none, (.ref 113), .none, 0⟩), #[]⟩
noncomputable def ob_156 (P : Params) : Obj := ⟨(.type "tuple"), .none, (.seq #[] 0), #[]⟩
noncomputable def ob_157 (P : Params) : Obj := ⟨.none, .none, (.fields #[]), #[]⟩
noncomputable def ob_158 (P : Params) : Obj := ⟨(.type "tuple"), .none, (.seq #[(.str (.ofString "cell") 397)] 0), #[]⟩
noncomputable def ob_159 (P : Params) : Obj := ⟨(.type "tuple"), .none, (.seq #[] 0), #[]⟩
noncomputable def ob_160 (P : Params) : Obj := ⟨.none, .none, (.func ⟨(.ofString "index_kids"), (.ofString "index_kids"), pa_index_kids, .stmts bo_index_kids, sc_index_kids, 0, [], .none, .none, .none, .none, .none, .none, .none, 0⟩), #[]⟩
noncomputable def ob_161 (P : Params) : Obj := ⟨(.type "code"), .none, (.fields #[(.str (.ofString "index_kids") 394), (.str (.ofString "index_kids") 395), (.str (.ofString "/claim/cut.py") 396), (.int 79 0), (.int 1 0), (.int 0 0), (.int 0 0), (.int 3 0), (.ref 115), (.bool .true), (.int 181 0), (.ref 116), .none, (.ref 117), (.ref 118), (.ref 119), (.int 398 0), (.int 79 0), (.str (.ofString "/claim/cut.py") 399)]), #[]⟩
noncomputable def ob_162 (P : Params) : Obj := ⟨(.type "function"), .none, (.func ⟨(.ofString "index_kids"), (.ofString "index_kids"), pa_index_kids, .stmts bo_index_kids, sc_index_kids, 3, [], .none, .none, .none, (.str (.ofString "kindkeep.types") 187), .none, (.ref 120), .none, 0⟩), #[]⟩
noncomputable def ob_163 (P : Params) : Obj := ⟨(.type "tuple"), .none, (.seq #[] 0), #[]⟩
noncomputable def ob_164 (P : Params) : Obj := ⟨.none, .none, (.fields #[]), #[]⟩
noncomputable def ob_165 (P : Params) : Obj := ⟨.none, .none, (.func ⟨(.ofString "sig_kids"), (.ofString "sig_kids"), pa_sig_kids, .stmts bo_sig_kids, sc_sig_kids, 0, [], .none, .none, .none, .none, .none, .none, .none, 0⟩), #[]⟩
noncomputable def ob_166 (P : Params) : Obj := ⟨(.type "code"), .none, (.fields #[(.str (.ofString "sig_kids") 401), (.str (.ofString "sig_kids") 402), (.str (.ofString "/claim/cut.py") 403), (.int 81 0), (.int 1 0), (.int 0 0), (.int 0 0), (.int 3 0), (.ref 122), (.bool .true), (.int 181 0), (.ref 123), .none, .none, .none, (.ref 124), (.int 404 0), (.int 81 0), (.str (.ofString "/claim/cut.py") 405)]), #[]⟩
noncomputable def ob_167 (P : Params) : Obj := ⟨(.type "function"), .none, (.func ⟨(.ofString "sig_kids"), (.ofString "sig_kids"), pa_sig_kids, .stmts bo_sig_kids, sc_sig_kids, 3, [], .none, .none, .none, (.str (.ofString "kindkeep.types") 187), .none, (.ref 125), .none, 0⟩), #[]⟩
noncomputable def ob_168 (P : Params) : Obj := ⟨(.type "tuple"), .none, (.seq #[] 0), #[]⟩
noncomputable def ob_169 (P : Params) : Obj := ⟨.none, .none, (.fields #[]), #[]⟩
noncomputable def ob_170 (P : Params) : Obj := ⟨.none, .none, (.func ⟨(.ofString "object_kids"), (.ofString "object_kids"), pa_object_kids, .stmts bo_object_kids, sc_object_kids, 0, [], .none, .none, .none, .none, .none, .none, .none, 0⟩), #[]⟩
noncomputable def ob_171 (P : Params) : Obj := ⟨(.type "code"), .none, (.fields #[(.str (.ofString "object_kids") 407), (.str (.ofString "object_kids") 408), (.str (.ofString "/claim/cut.py") 409), (.int 87 0), (.int 1 0), (.int 0 0), (.int 0 0), (.int 3 0), (.ref 127), (.bool .true), (.int 181 0), (.ref 128), .none, .none, .none, (.ref 129), (.int 410 0), (.int 87 0), (.str (.ofString "/claim/cut.py") 411)]), #[]⟩
noncomputable def ob_172 (P : Params) : Obj := ⟨(.type "function"), .none, (.func ⟨(.ofString "object_kids"), (.ofString "object_kids"), pa_object_kids, .stmts bo_object_kids, sc_object_kids, 3, [], .none, .none, .none, (.str (.ofString "kindkeep.types") 187), .none, (.ref 130), .none, 0⟩), #[]⟩
noncomputable def ob_173 (P : Params) : Obj := ⟨(.type "dict"), .none, (.dict #[⟨PyData.keyHash P (.ofString "__name__"), (.str (.ofString "__name__") 165), (.str (.ofString "law_xm0497_01") 479)⟩, ⟨PyData.keyHash P (.ofString "__doc__"), (.str (.ofString "__doc__") 166), .none⟩, ⟨PyData.keyHash P (.ofString "__package__"), (.str (.ofString "__package__") 167), .none⟩, ⟨PyData.keyHash P (.ofString "__loader__"), (.str (.ofString "__loader__") 168), (.builtin "__main__.__loader__#opaque")⟩, ⟨PyData.keyHash P (.ofString "__spec__"), (.str (.ofString "__spec__") 169), .none⟩, ⟨PyData.keyHash P (.ofString "__annotations__"), (.str (.ofString "__annotations__") 170), (.ref 6)⟩, ⟨PyData.keyHash P (.ofString "__builtins__"), (.str (.ofString "__builtins__") 171), (.ref 4)⟩, ⟨PyData.keyHash P (.ofString "__file__"), (.str (.ofString "__file__") 173), (.str (.ofString "/claim/cut.py") 172)⟩, ⟨PyData.keyHash P (.ofString "__cached__"), (.str (.ofString "__cached__") 174), .none⟩, ⟨PyData.keyHash P (.ofString "Y_KEY"), (.str (.ofString "Y_KEY") 190), (.int 1 189)⟩, ⟨PyData.keyHash P (.ofString "Y_BOOL"), (.str (.ofString "Y_BOOL") 192), (.int 2 191)⟩, ⟨PyData.keyHash P (.ofString "Y_UNION"), (.str (.ofString "Y_UNION") 194), (.int 6 193)⟩, ⟨PyData.keyHash P (.ofString "Y_INTER"), (.str (.ofString "Y_INTER") 196), (.int 7 195)⟩, ⟨PyData.keyHash P (.ofString "Y_OBJ"), (.str (.ofString "Y_OBJ") 198), (.int 8 197)⟩, ⟨PyData.keyHash P (.ofString "Y_REF"), (.str (.ofString "Y_REF") 200), (.int 9 199)⟩, ⟨PyData.keyHash P (.ofString "Y_PARAM"), (.str (.ofString "Y_PARAM") 202), (.int 10 201)⟩, ⟨PyData.keyHash P (.ofString "Y_ARRAY"), (.str (.ofString "Y_ARRAY") 204), (.int 11 203)⟩, ⟨PyData.keyHash P (.ofString "Y_TUPLE"), (.str (.ofString "Y_TUPLE") 206), (.int 12 205)⟩, ⟨PyData.keyHash P (.ofString "Y_SIG"), (.str (.ofString "Y_SIG") 208), (.int 13 207)⟩, ⟨PyData.keyHash P (.ofString "Y_KEYOF"), (.str (.ofString "Y_KEYOF") 210), (.int 14 209)⟩, ⟨PyData.keyHash P (.ofString "Y_INDEX"), (.str (.ofString "Y_INDEX") 212), (.int 15 211)⟩, ⟨PyData.keyHash P (.ofString "Y_COND"), (.str (.ofString "Y_COND") 214), (.int 16 213)⟩, ⟨PyData.keyHash P (.ofString "Y_MAPPED"), (.str (.ofString "Y_MAPPED") 216), (.int 17 215)⟩, ⟨PyData.keyHash P (.ofString "Y_TPL"), (.str (.ofString "Y_TPL") 218), (.int 18 217)⟩, ⟨PyData.keyHash P (.ofString "Y_ALIAS"), (.str (.ofString "Y_ALIAS") 220), (.int 19 219)⟩, ⟨PyData.keyHash P (.ofString "UNDEF"), (.str (.ofString "UNDEF") 222), (.int 4 221)⟩, ⟨PyData.keyHash P (.ofString "STRING"), (.str (.ofString "STRING") 224), (.int 6 223)⟩, ⟨PyData.keyHash P (.ofString "NUMBER"), (.str (.ofString "NUMBER") 226), (.int 7 225)⟩, ⟨PyData.keyHash P (.ofString "EMPTY"), (.str (.ofString "EMPTY") 228), (.int 11 227)⟩, ⟨PyData.keyHash P (.ofString "D_INTERFACE"), (.str (.ofString "D_INTERFACE") 230), (.int 2 229)⟩, ⟨PyData.keyHash P (.ofString "FIRST_ROWS"), (.str (.ofString "FIRST_ROWS") 252), (.ref 37)⟩, ⟨PyData.keyHash P (.ofString "KID_SPANS"), (.str (.ofString "KID_SPANS") 268), (.ref 38)⟩, ⟨PyData.keyHash P (.ofString "TypeTable"), (.str (.ofString "TypeTable") 323), (.ref 74)⟩, ⟨PyData.keyHash P (.ofString "Decl"), (.str (.ofString "Decl") 368), (.ref 95)⟩, ⟨PyData.keyHash P (.ofString "new_param"), (.str (.ofString "new_param") 383), (.ref 107)⟩, ⟨PyData.keyHash P (.ofString "new_decl"), (.str (.ofString "new_decl") 393), (.ref 114)⟩, ⟨PyData.keyHash P (.ofString "index_kids"), (.str (.ofString "index_kids") 400), (.ref 121)⟩, ⟨PyData.keyHash P (.ofString "sig_kids"), (.str (.ofString "sig_kids") 406), (.ref 126)⟩, ⟨PyData.keyHash P (.ofString "object_kids"), (.str (.ofString "object_kids") 412), (.ref 131)⟩, ⟨PyData.keyHash P (.ofString "row_kids"), (.str (.ofString "row_kids") 418), (.ref 136)⟩, ⟨PyData.keyHash P (.ofString "row_binds"), (.str (.ofString "row_binds") 425), (.ref 143)⟩, ⟨PyData.keyHash P (.ofString "inner_kids"), (.str (.ofString "inner_kids") 435), (.ref 150)⟩, ⟨PyData.keyHash P (.ofString "reached"), (.str (.ofString "reached") 446), (.ref 157)⟩, ⟨PyData.keyHash P (.ofString "row_free"), (.str (.ofString "row_free") 458), (.ref 164)⟩, ⟨PyData.keyHash P (.ofString "free_round"), (.str (.ofString "free_round") 464), (.ref 169)⟩, ⟨PyData.keyHash P (.ofString "free_params"), (.str (.ofString "free_params") 470), (.ref 174)⟩, ⟨PyData.keyHash P (.ofString "has_params"), (.str (.ofString "has_params") 478), (.ref 181)⟩, ⟨PyData.keyHash P (.ofString "_law_take"), (.str (.ofString "_law_take") 490), (.ref 188)⟩, ⟨PyData.keyHash P (.ofString "_law_pick"), (.str (.ofString "_law_pick") 497), (.ref 195)⟩, ⟨PyData.keyHash P (.ofString "_law_maybe"), (.str (.ofString "_law_maybe") 504), (.ref 202)⟩, ⟨PyData.keyHash P (.ofString "_law_lay"), (.str (.ofString "_law_lay") 510), (.ref 207)⟩, ⟨PyData.keyHash P (.ofString "_law_world"), (.str (.ofString "_law_world") 521), (.ref 214)⟩] 52), #[]⟩
noncomputable def ob_174 (P : Params) : Obj := ⟨.none, .none, (.fields #[(.int 25 0), (.int 0 0), (.ref 49), (.int 51 0), (.int 0 0), (.ref 84), (.int 69 0), (.int 0 0), (.ref 106), (.int 75 0), (.int 0 0), (.ref 113), (.int 79 0), (.int 0 0), (.ref 120), (.int 81 0), (.int 0 0), (.ref 125), (.int 87 0), (.int 0 0), (.ref 130), (.int 92 0), (.int 0 0), (.ref 135), (.int 108 0), (.int 0 0), (.ref 142), (.int 116 0), (.int 0 0), (.ref 149), (.int 122 0), (.int 0 0), (.ref 156), (.int 131 0), (.int 0 0), (.ref 163), (.int 142 0), (.int 0 0), (.ref 168), (.int 149 0), (.int 0 0), (.ref 173), (.int 165 0), (.int 0 0), (.ref 180), (.int 168 0), (.int 0 0), (.ref 187), (.int 173 0), (.int 0 0), (.ref 194), (.int 175 0), (.int 0 0), (.ref 201), (.int 177 0), (.int 0 0), (.ref 206), (.int 184 0), (.int 0 0), (.ref 213)]), #[]⟩
noncomputable def ob_175 (P : Params) : Obj := ⟨(.type "tuple"), .none, (.seq #[] 0), #[]⟩
noncomputable def ob_176 (P : Params) : Obj := ⟨.none, .none, (.fields #[]), #[]⟩
noncomputable def ob_177 (P : Params) : Obj := ⟨.none, .none, (.func ⟨(.ofString "row_kids"), (.ofString "row_kids"), pa_row_kids, .stmts bo_row_kids, sc_row_kids, 0, [], .none, .none, .none, .none, .none, .none, .none, 0⟩), #[]⟩
noncomputable def ob_178 (P : Params) : Obj := ⟨(.type "code"), .none, (.fields #[(.str (.ofString "row_kids") 413), (.str (.ofString "row_kids") 414), (.str (.ofString "/claim/cut.py") 415), (.int 92 0), (.int 1 0), (.int 0 0), (.int 0 0), (.int 3 0), (.ref 132), (.bool .true), (.int 181 0), (.ref 133), .none, .none, .none, (.ref 134), (.int 416 0), (.int 92 0), (.str (.ofString "/claim/cut.py") 417)]), #[]⟩
noncomputable def ob_179 (P : Params) : Obj := ⟨(.type "function"), .none, (.func ⟨(.ofString "row_kids"), (.ofString "row_kids"), pa_row_kids, .stmts bo_row_kids, sc_row_kids, 3, [], .none, .none, .none, (.str (.ofString "kindkeep.types") 187), .none, (.ref 135), .none, 0⟩), #[]⟩
noncomputable def ob_180 (P : Params) : Obj := ⟨(.type "tuple"), .none, (.seq #[] 0), #[]⟩
noncomputable def ob_181 (P : Params) : Obj := ⟨.none, .none, (.fields #[]), #[]⟩
noncomputable def ob_182 (P : Params) : Obj := ⟨(.type "tuple"), .none, (.seq #[(.str (.ofString "row") 422)] 0), #[]⟩
noncomputable def ob_183 (P : Params) : Obj := ⟨(.type "tuple"), .none, (.seq #[] 0), #[]⟩
noncomputable def ob_184 (P : Params) : Obj := ⟨.none, .none, (.func ⟨(.ofString "row_binds"), (.ofString "row_binds"), pa_row_binds, .stmts bo_row_binds, sc_row_binds, 0, [], .none, .none, .none, .none, .none, .none, .none, 0⟩), #[]⟩
noncomputable def ob_185 (P : Params) : Obj := ⟨(.type "code"), .none, (.fields #[(.str (.ofString "row_binds") 419), (.str (.ofString "row_binds") 420), (.str (.ofString "/claim/cut.py") 421), (.int 108 0), (.int 1 0), (.int 0 0), (.int 0 0), (.int 3 0), (.ref 137), (.bool .true), (.int 181 0), (.ref 138), .none, (.ref 139), (.ref 140), (.ref 141), (.int 423 0), (.int 108 0), (.str (.ofString "/claim/cut.py") 424)]), #[]⟩
noncomputable def ob_186 (P : Params) : Obj := ⟨(.type "function"), .none, (.func ⟨(.ofString "row_binds"), (.ofString "row_binds"), pa_row_binds, .stmts bo_row_binds, sc_row_binds, 3, [], .none, .none, .none, (.str (.ofString "kindkeep.types") 187), .none, (.ref 142), .none, 0⟩), #[]⟩
noncomputable def ob_187 (P : Params) : Obj := ⟨(.type "tuple"), .none, (.seq #[] 0), #[]⟩
noncomputable def ob_188 (P : Params) : Obj := ⟨.none, .none, (.fields #[]), #[]⟩
noncomputable def ob_189 (P : Params) : Obj := ⟨(.type "tuple"), .none, (.seq #[(.str (.ofString "tab") 429), (.str (.ofString "row") 430), (.str (.ofString "out") 431), (.str (.ofString "pid") 432)] 0), #[]⟩
noncomputable def ob_190 (P : Params) : Obj := ⟨(.type "tuple"), .none, (.seq #[] 0), #[]⟩
noncomputable def ob_191 (P : Params) : Obj := ⟨.none, .none, (.func ⟨(.ofString "inner_kids"), (.ofString "inner_kids"), pa_inner_kids, .stmts bo_inner_kids, sc_inner_kids, 0, [], .none, .none, .none, .none, .none, .none, .none, 0⟩), #[]⟩
noncomputable def ob_192 (P : Params) : Obj := ⟨(.type "code"), .none, (.fields #[(.str (.ofString "inner_kids") 426), (.str (.ofString "inner_kids") 427), (.str (.ofString "/claim/cut.py") 428), (.int 116 0), (.int 2 0), (.int 0 0), (.int 0 0), (.int 3 0), (.ref 144), (.bool .true), (.int 181 0), (.ref 145), .none, (.ref 146), (.ref 147), (.ref 148), (.int 433 0), (.int 116 0), (.str (.ofString "/claim/cut.py") 434)]), #[]⟩
noncomputable def ob_193 (P : Params) : Obj := ⟨(.type "function"), .none, (.func ⟨(.ofString "inner_kids"), (.ofString "inner_kids"), pa_inner_kids, .stmts bo_inner_kids, sc_inner_kids, 3, [], .none, .none, .none, (.str (.ofString "kindkeep.types") 187), .none, (.ref 149), .none, 0⟩), #[]⟩
noncomputable def ob_194 (P : Params) : Obj := ⟨(.type "tuple"), .none, (.seq #[] 0), #[]⟩
noncomputable def ob_195 (P : Params) : Obj := ⟨.none, .none, (.fields #[]), #[]⟩
noncomputable def ob_196 (P : Params) : Obj := ⟨(.type "tuple"), .none, (.seq #[(.str (.ofString "tab") 439), (.str (.ofString "t") 440), (.str (.ofString "seen") 441), (.str (.ofString "waiting") 442), (.str (.ofString "at") 443)] 0), #[]⟩
noncomputable def ob_197 (P : Params) : Obj := ⟨(.type "tuple"), .none, (.seq #[] 0), #[]⟩
noncomputable def ob_198 (P : Params) : Obj := ⟨.none, .none, (.func ⟨(.ofString "reached"), (.ofString "reached"), pa_reached, .stmts bo_reached, sc_reached, 0, [], .none, .none, .none, .none, .none, .none, .none, 0⟩), #[]⟩
noncomputable def ob_199 (P : Params) : Obj := ⟨(.type "code"), .none, (.fields #[(.str (.ofString "reached") 436), (.str (.ofString "reached") 437), (.str (.ofString "/claim/cut.py") 438), (.int 122 0), (.int 2 0), (.int 0 0), (.int 0 0), (.int 3 0), (.ref 151), (.bool .true), (.int 181 0), (.ref 152), .none, (.ref 153), (.ref 154), (.ref 155), (.int 444 0), (.int 122 0), (.str (.ofString "/claim/cut.py") 445)]), #[]⟩
noncomputable def ob_200 (P : Params) : Obj := ⟨(.type "function"), .none, (.func ⟨(.ofString "reached"), (.ofString "reached"), pa_reached, .stmts bo_reached, sc_reached, 3, [], .none, .none, .none, (.str (.ofString "kindkeep.types") 187), .none, (.ref 156), .none, 0⟩), #[]⟩
noncomputable def ob_201 (P : Params) : Obj := ⟨(.type "tuple"), .none, (.seq #[] 0), #[]⟩
noncomputable def ob_202 (P : Params) : Obj := ⟨.none, .none, (.fields #[]), #[]⟩
noncomputable def ob_203 (P : Params) : Obj := ⟨(.type "tuple"), .none, (.seq #[(.str (.ofString "row") 450), (.str (.ofString "free") 451), (.str (.ofString "kids") 452), (.str (.ofString "out") 453), (.str (.ofString "kid") 454), (.str (.ofString "pid") 455)] 0), #[]⟩
noncomputable def ob_204 (P : Params) : Obj := ⟨(.type "tuple"), .none, (.seq #[] 0), #[]⟩
noncomputable def ob_205 (P : Params) : Obj := ⟨.none, .none, (.func ⟨(.ofString "row_free"), (.ofString "row_free"), pa_row_free, .stmts bo_row_free, sc_row_free, 0, [], .none, .none, .none, .none, .none, .none, .none, 0⟩), #[]⟩
noncomputable def ob_206 (P : Params) : Obj := ⟨(.type "code"), .none, (.fields #[(.str (.ofString "row_free") 447), (.str (.ofString "row_free") 448), (.str (.ofString "/claim/cut.py") 449), (.int 131 0), (.int 3 0), (.int 0 0), (.int 0 0), (.int 3 0), (.ref 158), (.bool .true), (.int 181 0), (.ref 159), .none, (.ref 160), (.ref 161), (.ref 162), (.int 456 0), (.int 131 0), (.str (.ofString "/claim/cut.py") 457)]), #[]⟩
noncomputable def ob_207 (P : Params) : Obj := ⟨(.type "function"), .none, (.func ⟨(.ofString "row_free"), (.ofString "row_free"), pa_row_free, .stmts bo_row_free, sc_row_free, 3, [], .none, .none, .none, (.str (.ofString "kindkeep.types") 187), .none, (.ref 163), .none, 0⟩), #[]⟩
noncomputable def ob_208 (P : Params) : Obj := ⟨(.type "tuple"), .none, (.seq #[] 0), #[]⟩
noncomputable def ob_209 (P : Params) : Obj := ⟨.none, .none, (.fields #[]), #[]⟩
noncomputable def ob_210 (P : Params) : Obj := ⟨.none, .none, (.func ⟨(.ofString "free_round"), (.ofString "free_round"), pa_free_round, .stmts bo_free_round, sc_free_round, 0, [], .none, .none, .none, .none, .none, .none, .none, 0⟩), #[]⟩
noncomputable def ob_211 (P : Params) : Obj := ⟨(.type "code"), .none, (.fields #[(.str (.ofString "free_round") 459), (.str (.ofString "free_round") 460), (.str (.ofString "/claim/cut.py") 461), (.int 142 0), (.int 3 0), (.int 0 0), (.int 0 0), (.int 3 0), (.ref 165), (.bool .true), (.int 181 0), (.ref 166), .none, .none, .none, (.ref 167), (.int 462 0), (.int 142 0), (.str (.ofString "/claim/cut.py") 463)]), #[]⟩
noncomputable def ob_212 (P : Params) : Obj := ⟨(.type "function"), .none, (.func ⟨(.ofString "free_round"), (.ofString "free_round"), pa_free_round, .stmts bo_free_round, sc_free_round, 3, [], .none, .none, .none, (.str (.ofString "kindkeep.types") 187), .none, (.ref 168), .none, 0⟩), #[]⟩
noncomputable def ob_213 (P : Params) : Obj := ⟨(.type "tuple"), .none, (.seq #[] 0), #[]⟩
noncomputable def ob_214 (P : Params) : Obj := ⟨.none, .none, (.fields #[]), #[]⟩
noncomputable def ob_215 (P : Params) : Obj := ⟨.none, .none, (.func ⟨(.ofString "free_params"), (.ofString "free_params"), pa_free_params, .stmts bo_free_params, sc_free_params, 0, [], .none, .none, .none, .none, .none, .none, .none, 0⟩), #[]⟩
noncomputable def ob_216 (P : Params) : Obj := ⟨(.type "code"), .none, (.fields #[(.str (.ofString "free_params") 465), (.str (.ofString "free_params") 466), (.str (.ofString "/claim/cut.py") 467), (.int 149 0), (.int 2 0), (.int 0 0), (.int 0 0), (.int 3 0), (.ref 170), (.bool .true), (.int 181 0), (.ref 171), .none, .none, .none, (.ref 172), (.int 468 0), (.int 149 0), (.str (.ofString "/claim/cut.py") 469)]), #[]⟩
noncomputable def ob_217 (P : Params) : Obj := ⟨(.type "function"), .none, (.func ⟨(.ofString "free_params"), (.ofString "free_params"), pa_free_params, .stmts bo_free_params, sc_free_params, 3, [], .none, .none, .none, (.str (.ofString "kindkeep.types") 187), .none, (.ref 173), .none, 0⟩), #[]⟩
noncomputable def ob_218 (P : Params) : Obj := ⟨(.type "tuple"), .none, (.seq #[] 0), #[]⟩
noncomputable def ob_219 (P : Params) : Obj := ⟨.none, .none, (.fields #[]), #[]⟩
noncomputable def ob_220 (P : Params) : Obj := ⟨(.type "tuple"), .none, (.seq #[(.str (.ofString "tab") 474), (.str (.ofString "t") 475)] 0), #[]⟩
noncomputable def ob_221 (P : Params) : Obj := ⟨(.type "tuple"), .none, (.seq #[] 0), #[]⟩
noncomputable def ob_222 (P : Params) : Obj := ⟨.none, .none, (.func ⟨(.ofString "has_params"), (.ofString "has_params"), pa_has_params, .stmts bo_has_params, sc_has_params, 0, [], .none, .none, .none, .none, .none, .none, .none, 0⟩), #[]⟩
noncomputable def ob_223 (P : Params) : Obj := ⟨(.type "code"), .none, (.fields #[(.str (.ofString "has_params") 471), (.str (.ofString "has_params") 472), (.str (.ofString "/claim/cut.py") 473), (.int 165 0), (.int 2 0), (.int 0 0), (.int 0 0), (.int 3 0), (.ref 175), (.bool .true), (.int 181 0), (.ref 176), .none, (.ref 177), (.ref 178), (.ref 179), (.int 476 0), (.int 165 0), (.str (.ofString "/claim/cut.py") 477)]), #[]⟩
noncomputable def ob_224 (P : Params) : Obj := ⟨(.type "function"), .none, (.func ⟨(.ofString "has_params"), (.ofString "has_params"), pa_has_params, .stmts bo_has_params, sc_has_params, 3, [], .none, .none, .none, (.str (.ofString "kindkeep.types") 187), .none, (.ref 180), .none, 0⟩), #[]⟩
noncomputable def ob_225 (P : Params) : Obj := ⟨(.type "tuple"), .none, (.seq #[] 0), #[]⟩
noncomputable def ob_226 (P : Params) : Obj := ⟨.none, .none, (.fields #[]), #[]⟩
noncomputable def ob_227 (P : Params) : Obj := ⟨(.type "tuple"), .none, (.seq #[(.str (.ofString "w") 484), (.str (.ofString "n") 485), (.str (.ofString "at") 486), (.str (.ofString "size") 487)] 0), #[]⟩
noncomputable def ob_228 (P : Params) : Obj := ⟨(.type "tuple"), .none, (.seq #[] 0), #[]⟩
noncomputable def ob_229 (P : Params) : Obj := ⟨.none, .none, (.func ⟨(.ofString "_law_take"), (.ofString "_law_take"), pa__law_take, .stmts bo__law_take, sc__law_take, 0, [], .none, .none, .none, .none, .none, .none, .none, 0⟩), #[]⟩
noncomputable def ob_230 (P : Params) : Obj := ⟨(.type "code"), .none, (.fields #[(.str (.ofString "_law_take") 481), (.str (.ofString "_law_take") 482), (.str (.ofString "/claim/cut.py") 483), (.int 168 0), (.int 2 0), (.int 0 0), (.int 0 0), (.int 3 0), (.ref 182), (.bool .true), (.int 181 0), (.ref 183), .none, (.ref 184), (.ref 185), (.ref 186), (.int 488 0), (.int 168 0), (.str (.ofString "/claim/cut.py") 489)]), #[]⟩
noncomputable def ob_231 (P : Params) : Obj := ⟨(.type "function"), .none, (.func ⟨(.ofString "_law_take"), (.ofString "_law_take"), pa__law_take, .stmts bo__law_take, sc__law_take, 3, [], .none, .none, .none, (.str (.ofString "law_xm0497_01") 479), .none, (.ref 187), .none, 0⟩), #[]⟩
noncomputable def ob_232 (P : Params) : Obj := ⟨(.type "tuple"), .none, (.seq #[] 0), #[]⟩
noncomputable def ob_233 (P : Params) : Obj := ⟨.none, .none, (.fields #[]), #[]⟩
noncomputable def ob_234 (P : Params) : Obj := ⟨(.type "tuple"), .none, (.seq #[(.str (.ofString "w") 494)] 0), #[]⟩
noncomputable def ob_235 (P : Params) : Obj := ⟨(.type "tuple"), .none, (.seq #[] 0), #[]⟩
noncomputable def ob_236 (P : Params) : Obj := ⟨.none, .none, (.func ⟨(.ofString "_law_pick"), (.ofString "_law_pick"), pa__law_pick, .stmts bo__law_pick, sc__law_pick, 0, [], .none, .none, .none, .none, .none, .none, .none, 0⟩), #[]⟩
noncomputable def ob_237 (P : Params) : Obj := ⟨(.type "code"), .none, (.fields #[(.str (.ofString "_law_pick") 491), (.str (.ofString "_law_pick") 492), (.str (.ofString "/claim/cut.py") 493), (.int 173 0), (.int 1 0), (.int 0 0), (.int 0 0), (.int 3 0), (.ref 189), (.bool .true), (.int 181 0), (.ref 190), .none, (.ref 191), (.ref 192), (.ref 193), (.int 495 0), (.int 173 0), (.str (.ofString "/claim/cut.py") 496)]), #[]⟩
noncomputable def ob_238 (P : Params) : Obj := ⟨(.type "function"), .none, (.func ⟨(.ofString "_law_pick"), (.ofString "_law_pick"), pa__law_pick, .stmts bo__law_pick, sc__law_pick, 3, [], .none, .none, .none, (.str (.ofString "law_xm0497_01") 479), .none, (.ref 194), .none, 0⟩), #[]⟩
noncomputable def ob_239 (P : Params) : Obj := ⟨(.type "tuple"), .none, (.seq #[] 0), #[]⟩
noncomputable def ob_240 (P : Params) : Obj := ⟨.none, .none, (.fields #[]), #[]⟩
noncomputable def ob_241 (P : Params) : Obj := ⟨(.type "tuple"), .none, (.seq #[(.str (.ofString "w") 501)] 0), #[]⟩
noncomputable def ob_242 (P : Params) : Obj := ⟨(.type "tuple"), .none, (.seq #[] 0), #[]⟩
noncomputable def ob_243 (P : Params) : Obj := ⟨.none, .none, (.func ⟨(.ofString "_law_maybe"), (.ofString "_law_maybe"), pa__law_maybe, .stmts bo__law_maybe, sc__law_maybe, 0, [], .none, .none, .none, .none, .none, .none, .none, 0⟩), #[]⟩
noncomputable def ob_244 (P : Params) : Obj := ⟨(.type "code"), .none, (.fields #[(.str (.ofString "_law_maybe") 498), (.str (.ofString "_law_maybe") 499), (.str (.ofString "/claim/cut.py") 500), (.int 175 0), (.int 1 0), (.int 0 0), (.int 0 0), (.int 3 0), (.ref 196), (.bool .true), (.int 181 0), (.ref 197), .none, (.ref 198), (.ref 199), (.ref 200), (.int 502 0), (.int 175 0), (.str (.ofString "/claim/cut.py") 503)]), #[]⟩
noncomputable def ob_245 (P : Params) : Obj := ⟨(.type "function"), .none, (.func ⟨(.ofString "_law_maybe"), (.ofString "_law_maybe"), pa__law_maybe, .stmts bo__law_maybe, sc__law_maybe, 3, [], .none, .none, .none, (.str (.ofString "law_xm0497_01") 479), .none, (.ref 201), .none, 0⟩), #[]⟩
noncomputable def ob_246 (P : Params) : Obj := ⟨(.type "tuple"), .none, (.seq #[] 0), #[]⟩
noncomputable def ob_247 (P : Params) : Obj := ⟨.none, .none, (.fields #[]), #[]⟩
noncomputable def ob_248 (P : Params) : Obj := ⟨.none, .none, (.func ⟨(.ofString "_law_lay"), (.ofString "_law_lay"), pa__law_lay, .stmts bo__law_lay, sc__law_lay, 0, [], .none, .none, .none, .none, .none, .none, .none, 0⟩), #[]⟩
noncomputable def ob_249 (P : Params) : Obj := ⟨(.type "code"), .none, (.fields #[(.str (.ofString "_law_lay") 505), (.str (.ofString "_law_lay") 506), (.str (.ofString "/claim/cut.py") 507), (.int 177 0), (.int 4 0), (.int 0 0), (.int 0 0), (.int 3 0), (.ref 203), (.bool .true), (.int 181 0), (.ref 204), .none, .none, .none, (.ref 205), (.int 508 0), (.int 177 0), (.str (.ofString "/claim/cut.py") 509)]), #[]⟩
noncomputable def ob_250 (P : Params) : Obj := ⟨(.type "function"), .none, (.func ⟨(.ofString "_law_lay"), (.ofString "_law_lay"), pa__law_lay, .stmts bo__law_lay, sc__law_lay, 3, [], .none, .none, .none, (.str (.ofString "law_xm0497_01") 479), .none, (.ref 206), .none, 0⟩), #[]⟩
noncomputable def ob_251 (P : Params) : Obj := ⟨(.type "tuple"), .none, (.seq #[] 0), #[]⟩
noncomputable def ob_252 (P : Params) : Obj := ⟨.none, .none, (.fields #[]), #[]⟩
noncomputable def ob_253 (P : Params) : Obj := ⟨(.type "tuple"), .none, (.seq #[(.str (.ofString "nums") 514), (.str (.ofString "tab") 515), (.str (.ofString "w") 516), (.str (.ofString "t") 517), (.str (.ofString "pid") 518)] 0), #[]⟩
noncomputable def ob_254 (P : Params) : Obj := ⟨(.type "tuple"), .none, (.seq #[] 0), #[]⟩
noncomputable def ob_255 (P : Params) : Obj := ⟨.none, .none, (.func ⟨(.ofString "_law_world"), (.ofString "_law_world"), pa__law_world, .stmts bo__law_world, sc__law_world, 0, [], .none, .none, .none, .none, .none, .none, .none, 0⟩), #[]⟩
noncomputable def ob_256 (P : Params) : Obj := ⟨(.type "code"), .none, (.fields #[(.str (.ofString "_law_world") 511), (.str (.ofString "_law_world") 512), (.str (.ofString "/claim/cut.py") 513), (.int 184 0), (.int 1 0), (.int 0 0), (.int 0 0), (.int 3 0), (.ref 208), (.bool .true), (.int 181 0), (.ref 209), .none, (.ref 210), (.ref 211), (.ref 212), (.int 519 0), (.int 184 0), (.str (.ofString "/claim/cut.py") 520)]), #[]⟩
noncomputable def ob_257 (P : Params) : Obj := ⟨(.type "function"), .none, (.func ⟨(.ofString "_law_world"), (.ofString "_law_world"), pa__law_world, .stmts bo__law_world, sc__law_world, 3, [], .none, .none, .none, (.str (.ofString "law_xm0497_01") 479), .none, (.ref 213), .none, 0⟩), #[]⟩
noncomputable def ob_258 (P : Params) : Obj := ⟨(.type "dict"), .none, (.dict #[⟨PyData.keyHash P (.ofString "__name__"), (.str (.ofString "__name__") 165), (.str (.ofString "law_xm0497_01") 479)⟩, ⟨PyData.keyHash P (.ofString "__doc__"), (.str (.ofString "__doc__") 166), .none⟩, ⟨PyData.keyHash P (.ofString "__package__"), (.str (.ofString "__package__") 167), .none⟩, ⟨PyData.keyHash P (.ofString "__loader__"), (.str (.ofString "__loader__") 168), (.builtin "__main__.__loader__#opaque")⟩, ⟨PyData.keyHash P (.ofString "__spec__"), (.str (.ofString "__spec__") 169), .none⟩, ⟨PyData.keyHash P (.ofString "__annotations__"), (.str (.ofString "__annotations__") 170), (.ref 6)⟩, ⟨PyData.keyHash P (.ofString "__builtins__"), (.str (.ofString "__builtins__") 171), (.ref 4)⟩, ⟨PyData.keyHash P (.ofString "__file__"), (.str (.ofString "__file__") 173), (.str (.ofString "/claim/cut.py") 172)⟩, ⟨PyData.keyHash P (.ofString "__cached__"), (.str (.ofString "__cached__") 174), .none⟩, ⟨PyData.keyHash P (.ofString "Y_KEY"), (.str (.ofString "Y_KEY") 190), (.int 1 189)⟩, ⟨PyData.keyHash P (.ofString "Y_BOOL"), (.str (.ofString "Y_BOOL") 192), (.int 2 191)⟩, ⟨PyData.keyHash P (.ofString "Y_UNION"), (.str (.ofString "Y_UNION") 194), (.int 6 193)⟩, ⟨PyData.keyHash P (.ofString "Y_INTER"), (.str (.ofString "Y_INTER") 196), (.int 7 195)⟩, ⟨PyData.keyHash P (.ofString "Y_OBJ"), (.str (.ofString "Y_OBJ") 198), (.int 8 197)⟩, ⟨PyData.keyHash P (.ofString "Y_REF"), (.str (.ofString "Y_REF") 200), (.int 9 199)⟩, ⟨PyData.keyHash P (.ofString "Y_PARAM"), (.str (.ofString "Y_PARAM") 202), (.int 10 201)⟩, ⟨PyData.keyHash P (.ofString "Y_ARRAY"), (.str (.ofString "Y_ARRAY") 204), (.int 11 203)⟩, ⟨PyData.keyHash P (.ofString "Y_TUPLE"), (.str (.ofString "Y_TUPLE") 206), (.int 12 205)⟩, ⟨PyData.keyHash P (.ofString "Y_SIG"), (.str (.ofString "Y_SIG") 208), (.int 13 207)⟩, ⟨PyData.keyHash P (.ofString "Y_KEYOF"), (.str (.ofString "Y_KEYOF") 210), (.int 14 209)⟩, ⟨PyData.keyHash P (.ofString "Y_INDEX"), (.str (.ofString "Y_INDEX") 212), (.int 15 211)⟩, ⟨PyData.keyHash P (.ofString "Y_COND"), (.str (.ofString "Y_COND") 214), (.int 16 213)⟩, ⟨PyData.keyHash P (.ofString "Y_MAPPED"), (.str (.ofString "Y_MAPPED") 216), (.int 17 215)⟩, ⟨PyData.keyHash P (.ofString "Y_TPL"), (.str (.ofString "Y_TPL") 218), (.int 18 217)⟩, ⟨PyData.keyHash P (.ofString "Y_ALIAS"), (.str (.ofString "Y_ALIAS") 220), (.int 19 219)⟩, ⟨PyData.keyHash P (.ofString "UNDEF"), (.str (.ofString "UNDEF") 222), (.int 4 221)⟩, ⟨PyData.keyHash P (.ofString "STRING"), (.str (.ofString "STRING") 224), (.int 6 223)⟩, ⟨PyData.keyHash P (.ofString "NUMBER"), (.str (.ofString "NUMBER") 226), (.int 7 225)⟩, ⟨PyData.keyHash P (.ofString "EMPTY"), (.str (.ofString "EMPTY") 228), (.int 11 227)⟩, ⟨PyData.keyHash P (.ofString "D_INTERFACE"), (.str (.ofString "D_INTERFACE") 230), (.int 2 229)⟩, ⟨PyData.keyHash P (.ofString "FIRST_ROWS"), (.str (.ofString "FIRST_ROWS") 252), (.ref 37)⟩, ⟨PyData.keyHash P (.ofString "KID_SPANS"), (.str (.ofString "KID_SPANS") 268), (.ref 38)⟩, ⟨PyData.keyHash P (.ofString "TypeTable"), (.str (.ofString "TypeTable") 323), (.ref 74)⟩, ⟨PyData.keyHash P (.ofString "Decl"), (.str (.ofString "Decl") 368), (.ref 95)⟩, ⟨PyData.keyHash P (.ofString "new_param"), (.str (.ofString "new_param") 383), (.ref 107)⟩, ⟨PyData.keyHash P (.ofString "new_decl"), (.str (.ofString "new_decl") 393), (.ref 114)⟩, ⟨PyData.keyHash P (.ofString "index_kids"), (.str (.ofString "index_kids") 400), (.ref 121)⟩, ⟨PyData.keyHash P (.ofString "sig_kids"), (.str (.ofString "sig_kids") 406), (.ref 126)⟩, ⟨PyData.keyHash P (.ofString "object_kids"), (.str (.ofString "object_kids") 412), (.ref 131)⟩, ⟨PyData.keyHash P (.ofString "row_kids"), (.str (.ofString "row_kids") 418), (.ref 136)⟩, ⟨PyData.keyHash P (.ofString "row_binds"), (.str (.ofString "row_binds") 425), (.ref 143)⟩, ⟨PyData.keyHash P (.ofString "inner_kids"), (.str (.ofString "inner_kids") 435), (.ref 150)⟩, ⟨PyData.keyHash P (.ofString "reached"), (.str (.ofString "reached") 446), (.ref 157)⟩, ⟨PyData.keyHash P (.ofString "row_free"), (.str (.ofString "row_free") 458), (.ref 164)⟩, ⟨PyData.keyHash P (.ofString "free_round"), (.str (.ofString "free_round") 464), (.ref 169)⟩, ⟨PyData.keyHash P (.ofString "free_params"), (.str (.ofString "free_params") 470), (.ref 174)⟩, ⟨PyData.keyHash P (.ofString "has_params"), (.str (.ofString "has_params") 478), (.ref 181)⟩, ⟨PyData.keyHash P (.ofString "_law_take"), (.str (.ofString "_law_take") 490), (.ref 188)⟩, ⟨PyData.keyHash P (.ofString "_law_pick"), (.str (.ofString "_law_pick") 497), (.ref 195)⟩, ⟨PyData.keyHash P (.ofString "_law_maybe"), (.str (.ofString "_law_maybe") 504), (.ref 202)⟩, ⟨PyData.keyHash P (.ofString "_law_lay"), (.str (.ofString "_law_lay") 510), (.ref 207)⟩, ⟨PyData.keyHash P (.ofString "_law_world"), (.str (.ofString "_law_world") 521), (.ref 214)⟩, ⟨PyData.keyHash P (.ofString "_law_sig"), (.str (.ofString "_law_sig") 527), (.ref 219)⟩, ⟨PyData.keyHash P (.ofString "_law_cond"), (.str (.ofString "_law_cond") 533), (.ref 224)⟩, ⟨PyData.keyHash P (.ofString "_law_mapped"), (.str (.ofString "_law_mapped") 545), (.ref 231)⟩, ⟨PyData.keyHash P (.ofString "_law_object"), (.str (.ofString "_law_object") 551), (.ref 236)⟩, ⟨PyData.keyHash P (.ofString "_law_list"), (.str (.ofString "_law_list") 561), (.ref 243)⟩, ⟨PyData.keyHash P (.ofString "_law_single"), (.str (.ofString "_law_single") 569), (.ref 250)⟩, ⟨PyData.keyHash P (.ofString "_law_joined"), (.str (.ofString "_law_joined") 578), (.ref 257)⟩, ⟨PyData.keyHash P (.ofString "_law_other"), (.str (.ofString "_law_other") 588), (.ref 264)⟩, ⟨PyData.keyHash P (.ofString "_law_some_pid"), (.str (.ofString "_law_some_pid") 595), (.ref 271)⟩, ⟨PyData.keyHash P (.ofString "_law_some"), (.str (.ofString "_law_some") 603), (.ref 278)⟩, ⟨PyData.keyHash P (.ofString "_law_ladder"), (.str (.ofString "_law_ladder") 613), (.ref 285)⟩, ⟨PyData.keyHash P (.ofString "_law_bound"), (.str (.ofString "_law_bound") 623), (.ref 292)⟩, ⟨PyData.keyHash P (.ofString "_law_lead"), (.str (.ofString "_law_lead") 634), (.ref 299)⟩] 65), #[]⟩
noncomputable def ob_259 (P : Params) : Obj := ⟨.none, .none, (.fields #[(.int 25 0), (.int 0 0), (.ref 49), (.int 51 0), (.int 0 0), (.ref 84), (.int 69 0), (.int 0 0), (.ref 106), (.int 75 0), (.int 0 0), (.ref 113), (.int 79 0), (.int 0 0), (.ref 120), (.int 81 0), (.int 0 0), (.ref 125), (.int 87 0), (.int 0 0), (.ref 130), (.int 92 0), (.int 0 0), (.ref 135), (.int 108 0), (.int 0 0), (.ref 142), (.int 116 0), (.int 0 0), (.ref 149), (.int 122 0), (.int 0 0), (.ref 156), (.int 131 0), (.int 0 0), (.ref 163), (.int 142 0), (.int 0 0), (.ref 168), (.int 149 0), (.int 0 0), (.ref 173), (.int 165 0), (.int 0 0), (.ref 180), (.int 168 0), (.int 0 0), (.ref 187), (.int 173 0), (.int 0 0), (.ref 194), (.int 175 0), (.int 0 0), (.ref 201), (.int 177 0), (.int 0 0), (.ref 206), (.int 184 0), (.int 0 0), (.ref 213), (.int 197 0), (.int 0 0), (.ref 218), (.int 204 0), (.int 0 0), (.ref 223), (.int 207 0), (.int 0 0), (.ref 230), (.int 213 0), (.int 0 0), (.ref 235), (.int 222 0), (.int 0 0), (.ref 242), (.int 233 0), (.int 0 0), (.ref 249), (.int 235 0), (.int 0 0), (.ref 256), (.int 239 0), (.int 0 0), (.ref 263), (.int 252 0), (.int 0 0), (.ref 270), (.int 254 0), (.int 0 0), (.ref 277), (.int 267 0), (.int 0 0), (.ref 284), (.int 278 0), (.int 0 0), (.ref 291), (.int 281 0), (.int 0 0), (.ref 298)]), #[]⟩
noncomputable def ob_260 (P : Params) : Obj := ⟨(.type "tuple"), .none, (.seq #[] 0), #[]⟩
noncomputable def ob_261 (P : Params) : Obj := ⟨.none, .none, (.fields #[]), #[]⟩
noncomputable def ob_262 (P : Params) : Obj := ⟨.none, .none, (.func ⟨(.ofString "_law_sig"), (.ofString "_law_sig"), pa__law_sig, .stmts bo__law_sig, sc__law_sig, 0, [], .none, .none, .none, .none, .none, .none, .none, 0⟩), #[]⟩
noncomputable def ob_263 (P : Params) : Obj := ⟨(.type "code"), .none, (.fields #[(.str (.ofString "_law_sig") 522), (.str (.ofString "_law_sig") 523), (.str (.ofString "/claim/cut.py") 524), (.int 197 0), (.int 2 0), (.int 0 0), (.int 0 0), (.int 3 0), (.ref 215), (.bool .true), (.int 181 0), (.ref 216), .none, .none, .none, (.ref 217), (.int 525 0), (.int 197 0), (.str (.ofString "/claim/cut.py") 526)]), #[]⟩
noncomputable def ob_264 (P : Params) : Obj := ⟨(.type "function"), .none, (.func ⟨(.ofString "_law_sig"), (.ofString "_law_sig"), pa__law_sig, .stmts bo__law_sig, sc__law_sig, 3, [], .none, .none, .none, (.str (.ofString "law_xm0497_01") 479), .none, (.ref 218), .none, 0⟩), #[]⟩
noncomputable def ob_265 (P : Params) : Obj := ⟨(.type "tuple"), .none, (.seq #[] 0), #[]⟩
noncomputable def ob_266 (P : Params) : Obj := ⟨.none, .none, (.fields #[]), #[]⟩
noncomputable def ob_267 (P : Params) : Obj := ⟨.none, .none, (.func ⟨(.ofString "_law_cond"), (.ofString "_law_cond"), pa__law_cond, .stmts bo__law_cond, sc__law_cond, 0, [], .none, .none, .none, .none, .none, .none, .none, 0⟩), #[]⟩
noncomputable def ob_268 (P : Params) : Obj := ⟨(.type "code"), .none, (.fields #[(.str (.ofString "_law_cond") 528), (.str (.ofString "_law_cond") 529), (.str (.ofString "/claim/cut.py") 530), (.int 204 0), (.int 2 0), (.int 0 0), (.int 0 0), (.int 3 0), (.ref 220), (.bool .true), (.int 181 0), (.ref 221), .none, .none, .none, (.ref 222), (.int 531 0), (.int 204 0), (.str (.ofString "/claim/cut.py") 532)]), #[]⟩
noncomputable def ob_269 (P : Params) : Obj := ⟨(.type "function"), .none, (.func ⟨(.ofString "_law_cond"), (.ofString "_law_cond"), pa__law_cond, .stmts bo__law_cond, sc__law_cond, 3, [], .none, .none, .none, (.str (.ofString "law_xm0497_01") 479), .none, (.ref 223), .none, 0⟩), #[]⟩
noncomputable def ob_270 (P : Params) : Obj := ⟨(.type "tuple"), .none, (.seq #[] 0), #[]⟩
noncomputable def ob_271 (P : Params) : Obj := ⟨.none, .none, (.fields #[]), #[]⟩
noncomputable def ob_272 (P : Params) : Obj := ⟨(.type "tuple"), .none, (.seq #[(.str (.ofString "w") 537), (.str (.ofString "pid") 538), (.str (.ofString "keys") 539), (.str (.ofString "named") 540), (.str (.ofString "given") 541), (.str (.ofString "marks") 542)] 0), #[]⟩
noncomputable def ob_273 (P : Params) : Obj := ⟨(.type "tuple"), .none, (.seq #[] 0), #[]⟩
noncomputable def ob_274 (P : Params) : Obj := ⟨.none, .none, (.func ⟨(.ofString "_law_mapped"), (.ofString "_law_mapped"), pa__law_mapped, .stmts bo__law_mapped, sc__law_mapped, 0, [], .none, .none, .none, .none, .none, .none, .none, 0⟩), #[]⟩
noncomputable def ob_275 (P : Params) : Obj := ⟨(.type "code"), .none, (.fields #[(.str (.ofString "_law_mapped") 534), (.str (.ofString "_law_mapped") 535), (.str (.ofString "/claim/cut.py") 536), (.int 207 0), (.int 2 0), (.int 0 0), (.int 0 0), (.int 3 0), (.ref 225), (.bool .true), (.int 181 0), (.ref 226), .none, (.ref 227), (.ref 228), (.ref 229), (.int 543 0), (.int 207 0), (.str (.ofString "/claim/cut.py") 544)]), #[]⟩
noncomputable def ob_276 (P : Params) : Obj := ⟨(.type "function"), .none, (.func ⟨(.ofString "_law_mapped"), (.ofString "_law_mapped"), pa__law_mapped, .stmts bo__law_mapped, sc__law_mapped, 3, [], .none, .none, .none, (.str (.ofString "law_xm0497_01") 479), .none, (.ref 230), .none, 0⟩), #[]⟩
noncomputable def ob_277 (P : Params) : Obj := ⟨(.type "tuple"), .none, (.seq #[] 0), #[]⟩
noncomputable def ob_278 (P : Params) : Obj := ⟨.none, .none, (.fields #[]), #[]⟩
noncomputable def ob_279 (P : Params) : Obj := ⟨.none, .none, (.func ⟨(.ofString "_law_object"), (.ofString "_law_object"), pa__law_object, .stmts bo__law_object, sc__law_object, 0, [], .none, .none, .none, .none, .none, .none, .none, 0⟩), #[]⟩
noncomputable def ob_280 (P : Params) : Obj := ⟨(.type "code"), .none, (.fields #[(.str (.ofString "_law_object") 546), (.str (.ofString "_law_object") 547), (.str (.ofString "/claim/cut.py") 548), (.int 213 0), (.int 1 0), (.int 0 0), (.int 0 0), (.int 3 0), (.ref 232), (.bool .true), (.int 181 0), (.ref 233), .none, .none, .none, (.ref 234), (.int 549 0), (.int 213 0), (.str (.ofString "/claim/cut.py") 550)]), #[]⟩
noncomputable def ob_281 (P : Params) : Obj := ⟨(.type "function"), .none, (.func ⟨(.ofString "_law_object"), (.ofString "_law_object"), pa__law_object, .stmts bo__law_object, sc__law_object, 3, [], .none, .none, .none, (.str (.ofString "law_xm0497_01") 479), .none, (.ref 235), .none, 0⟩), #[]⟩
noncomputable def ob_282 (P : Params) : Obj := ⟨(.type "tuple"), .none, (.seq #[] 0), #[]⟩
noncomputable def ob_283 (P : Params) : Obj := ⟨.none, .none, (.fields #[]), #[]⟩
noncomputable def ob_284 (P : Params) : Obj := ⟨(.type "tuple"), .none, (.seq #[(.str (.ofString "w") 555), (.str (.ofString "pick") 556), (.str (.ofString "one") 557), (.str (.ofString "two") 558)] 0), #[]⟩
noncomputable def ob_285 (P : Params) : Obj := ⟨(.type "tuple"), .none, (.seq #[] 0), #[]⟩
noncomputable def ob_286 (P : Params) : Obj := ⟨.none, .none, (.func ⟨(.ofString "_law_list"), (.ofString "_law_list"), pa__law_list, .stmts bo__law_list, sc__law_list, 0, [], .none, .none, .none, .none, .none, .none, .none, 0⟩), #[]⟩
noncomputable def ob_287 (P : Params) : Obj := ⟨(.type "code"), .none, (.fields #[(.str (.ofString "_law_list") 552), (.str (.ofString "_law_list") 553), (.str (.ofString "/claim/cut.py") 554), (.int 222 0), (.int 1 0), (.int 0 0), (.int 0 0), (.int 3 0), (.ref 237), (.bool .true), (.int 181 0), (.ref 238), .none, (.ref 239), (.ref 240), (.ref 241), (.int 559 0), (.int 222 0), (.str (.ofString "/claim/cut.py") 560)]), #[]⟩
noncomputable def ob_288 (P : Params) : Obj := ⟨(.type "function"), .none, (.func ⟨(.ofString "_law_list"), (.ofString "_law_list"), pa__law_list, .stmts bo__law_list, sc__law_list, 3, [], .none, .none, .none, (.str (.ofString "law_xm0497_01") 479), .none, (.ref 242), .none, 0⟩), #[]⟩
noncomputable def ob_289 (P : Params) : Obj := ⟨(.type "tuple"), .none, (.seq #[] 0), #[]⟩
noncomputable def ob_290 (P : Params) : Obj := ⟨.none, .none, (.fields #[]), #[]⟩
noncomputable def ob_291 (P : Params) : Obj := ⟨(.type "tuple"), .none, (.seq #[(.str (.ofString "w") 565), (.str (.ofString "t") 566)] 0), #[]⟩
noncomputable def ob_292 (P : Params) : Obj := ⟨(.type "tuple"), .none, (.seq #[] 0), #[]⟩
noncomputable def ob_293 (P : Params) : Obj := ⟨.none, .none, (.func ⟨(.ofString "_law_single"), (.ofString "_law_single"), pa__law_single, .stmts bo__law_single, sc__law_single, 0, [], .none, .none, .none, .none, .none, .none, .none, 0⟩), #[]⟩
noncomputable def ob_294 (P : Params) : Obj := ⟨(.type "code"), .none, (.fields #[(.str (.ofString "_law_single") 562), (.str (.ofString "_law_single") 563), (.str (.ofString "/claim/cut.py") 564), (.int 233 0), (.int 2 0), (.int 0 0), (.int 0 0), (.int 3 0), (.ref 244), (.bool .true), (.int 181 0), (.ref 245), .none, (.ref 246), (.ref 247), (.ref 248), (.int 567 0), (.int 233 0), (.str (.ofString "/claim/cut.py") 568)]), #[]⟩
noncomputable def ob_295 (P : Params) : Obj := ⟨(.type "function"), .none, (.func ⟨(.ofString "_law_single"), (.ofString "_law_single"), pa__law_single, .stmts bo__law_single, sc__law_single, 3, [], .none, .none, .none, (.str (.ofString "law_xm0497_01") 479), .none, (.ref 249), .none, 0⟩), #[]⟩
noncomputable def ob_296 (P : Params) : Obj := ⟨(.type "tuple"), .none, (.seq #[] 0), #[]⟩
noncomputable def ob_297 (P : Params) : Obj := ⟨.none, .none, (.fields #[]), #[]⟩
noncomputable def ob_298 (P : Params) : Obj := ⟨(.type "tuple"), .none, (.seq #[(.str (.ofString "w") 573), (.str (.ofString "one") 574), (.str (.ofString "two") 575)] 0), #[]⟩
noncomputable def ob_299 (P : Params) : Obj := ⟨(.type "tuple"), .none, (.seq #[] 0), #[]⟩
noncomputable def ob_300 (P : Params) : Obj := ⟨.none, .none, (.func ⟨(.ofString "_law_joined"), (.ofString "_law_joined"), pa__law_joined, .stmts bo__law_joined, sc__law_joined, 0, [], .none, .none, .none, .none, .none, .none, .none, 0⟩), #[]⟩
noncomputable def ob_301 (P : Params) : Obj := ⟨(.type "code"), .none, (.fields #[(.str (.ofString "_law_joined") 570), (.str (.ofString "_law_joined") 571), (.str (.ofString "/claim/cut.py") 572), (.int 235 0), (.int 3 0), (.int 0 0), (.int 0 0), (.int 3 0), (.ref 251), (.bool .true), (.int 181 0), (.ref 252), .none, (.ref 253), (.ref 254), (.ref 255), (.int 576 0), (.int 235 0), (.str (.ofString "/claim/cut.py") 577)]), #[]⟩
noncomputable def ob_302 (P : Params) : Obj := ⟨(.type "function"), .none, (.func ⟨(.ofString "_law_joined"), (.ofString "_law_joined"), pa__law_joined, .stmts bo__law_joined, sc__law_joined, 3, [], .none, .none, .none, (.str (.ofString "law_xm0497_01") 479), .none, (.ref 256), .none, 0⟩), #[]⟩
noncomputable def ob_303 (P : Params) : Obj := ⟨(.type "tuple"), .none, (.seq #[] 0), #[]⟩
noncomputable def ob_304 (P : Params) : Obj := ⟨.none, .none, (.fields #[]), #[]⟩
noncomputable def ob_305 (P : Params) : Obj := ⟨(.type "tuple"), .none, (.seq #[(.str (.ofString "w") 582), (.str (.ofString "pick") 583), (.str (.ofString "one") 584), (.str (.ofString "two") 585)] 0), #[]⟩
noncomputable def ob_306 (P : Params) : Obj := ⟨(.type "tuple"), .none, (.seq #[] 0), #[]⟩
noncomputable def ob_307 (P : Params) : Obj := ⟨.none, .none, (.func ⟨(.ofString "_law_other"), (.ofString "_law_other"), pa__law_other, .stmts bo__law_other, sc__law_other, 0, [], .none, .none, .none, .none, .none, .none, .none, 0⟩), #[]⟩
noncomputable def ob_308 (P : Params) : Obj := ⟨(.type "code"), .none, (.fields #[(.str (.ofString "_law_other") 579), (.str (.ofString "_law_other") 580), (.str (.ofString "/claim/cut.py") 581), (.int 239 0), (.int 1 0), (.int 0 0), (.int 0 0), (.int 3 0), (.ref 258), (.bool .true), (.int 181 0), (.ref 259), .none, (.ref 260), (.ref 261), (.ref 262), (.int 586 0), (.int 239 0), (.str (.ofString "/claim/cut.py") 587)]), #[]⟩
noncomputable def ob_309 (P : Params) : Obj := ⟨(.type "function"), .none, (.func ⟨(.ofString "_law_other"), (.ofString "_law_other"), pa__law_other, .stmts bo__law_other, sc__law_other, 3, [], .none, .none, .none, (.str (.ofString "law_xm0497_01") 479), .none, (.ref 263), .none, 0⟩), #[]⟩
noncomputable def ob_310 (P : Params) : Obj := ⟨(.type "tuple"), .none, (.seq #[] 0), #[]⟩
noncomputable def ob_311 (P : Params) : Obj := ⟨.none, .none, (.fields #[]), #[]⟩
noncomputable def ob_312 (P : Params) : Obj := ⟨(.type "tuple"), .none, (.seq #[(.str (.ofString "w") 592)] 0), #[]⟩
noncomputable def ob_313 (P : Params) : Obj := ⟨(.type "tuple"), .none, (.seq #[] 0), #[]⟩
noncomputable def ob_314 (P : Params) : Obj := ⟨.none, .none, (.func ⟨(.ofString "_law_some_pid"), (.ofString "_law_some_pid"), pa__law_some_pid, .stmts bo__law_some_pid, sc__law_some_pid, 0, [], .none, .none, .none, .none, .none, .none, .none, 0⟩), #[]⟩
noncomputable def ob_315 (P : Params) : Obj := ⟨(.type "code"), .none, (.fields #[(.str (.ofString "_law_some_pid") 589), (.str (.ofString "_law_some_pid") 590), (.str (.ofString "/claim/cut.py") 591), (.int 252 0), (.int 1 0), (.int 0 0), (.int 0 0), (.int 3 0), (.ref 265), (.bool .true), (.int 181 0), (.ref 266), .none, (.ref 267), (.ref 268), (.ref 269), (.int 593 0), (.int 252 0), (.str (.ofString "/claim/cut.py") 594)]), #[]⟩
noncomputable def ob_316 (P : Params) : Obj := ⟨(.type "function"), .none, (.func ⟨(.ofString "_law_some_pid"), (.ofString "_law_some_pid"), pa__law_some_pid, .stmts bo__law_some_pid, sc__law_some_pid, 3, [], .none, .none, .none, (.str (.ofString "law_xm0497_01") 479), .none, (.ref 270), .none, 0⟩), #[]⟩
noncomputable def ob_317 (P : Params) : Obj := ⟨(.type "tuple"), .none, (.seq #[] 0), #[]⟩
noncomputable def ob_318 (P : Params) : Obj := ⟨.none, .none, (.fields #[]), #[]⟩
noncomputable def ob_319 (P : Params) : Obj := ⟨(.type "tuple"), .none, (.seq #[(.str (.ofString "w") 599), (.str (.ofString "pick") 600)] 0), #[]⟩
noncomputable def ob_320 (P : Params) : Obj := ⟨(.type "tuple"), .none, (.seq #[] 0), #[]⟩
noncomputable def ob_321 (P : Params) : Obj := ⟨.none, .none, (.func ⟨(.ofString "_law_some"), (.ofString "_law_some"), pa__law_some, .stmts bo__law_some, sc__law_some, 0, [], .none, .none, .none, .none, .none, .none, .none, 0⟩), #[]⟩
noncomputable def ob_322 (P : Params) : Obj := ⟨(.type "code"), .none, (.fields #[(.str (.ofString "_law_some") 596), (.str (.ofString "_law_some") 597), (.str (.ofString "/claim/cut.py") 598), (.int 254 0), (.int 1 0), (.int 0 0), (.int 0 0), (.int 3 0), (.ref 272), (.bool .true), (.int 181 0), (.ref 273), .none, (.ref 274), (.ref 275), (.ref 276), (.int 601 0), (.int 254 0), (.str (.ofString "/claim/cut.py") 602)]), #[]⟩
noncomputable def ob_323 (P : Params) : Obj := ⟨(.type "function"), .none, (.func ⟨(.ofString "_law_some"), (.ofString "_law_some"), pa__law_some, .stmts bo__law_some, sc__law_some, 3, [], .none, .none, .none, (.str (.ofString "law_xm0497_01") 479), .none, (.ref 277), .none, 0⟩), #[]⟩
noncomputable def ob_324 (P : Params) : Obj := ⟨(.type "tuple"), .none, (.seq #[] 0), #[]⟩
noncomputable def ob_325 (P : Params) : Obj := ⟨.none, .none, (.fields #[]), #[]⟩
noncomputable def ob_326 (P : Params) : Obj := ⟨(.type "tuple"), .none, (.seq #[(.str (.ofString "w") 607), (.str (.ofString "out") 608), (.str (.ofString "pid") 609), (.str (.ofString "pick") 610)] 0), #[]⟩
noncomputable def ob_327 (P : Params) : Obj := ⟨(.type "tuple"), .none, (.seq #[] 0), #[]⟩
noncomputable def ob_328 (P : Params) : Obj := ⟨.none, .none, (.func ⟨(.ofString "_law_ladder"), (.ofString "_law_ladder"), pa__law_ladder, .stmts bo__law_ladder, sc__law_ladder, 0, [], .none, .none, .none, .none, .none, .none, .none, 0⟩), #[]⟩
noncomputable def ob_329 (P : Params) : Obj := ⟨(.type "code"), .none, (.fields #[(.str (.ofString "_law_ladder") 604), (.str (.ofString "_law_ladder") 605), (.str (.ofString "/claim/cut.py") 606), (.int 267 0), (.int 1 0), (.int 0 0), (.int 0 0), (.int 3 0), (.ref 279), (.bool .true), (.int 181 0), (.ref 280), .none, (.ref 281), (.ref 282), (.ref 283), (.int 611 0), (.int 267 0), (.str (.ofString "/claim/cut.py") 612)]), #[]⟩
noncomputable def ob_330 (P : Params) : Obj := ⟨(.type "function"), .none, (.func ⟨(.ofString "_law_ladder"), (.ofString "_law_ladder"), pa__law_ladder, .stmts bo__law_ladder, sc__law_ladder, 3, [], .none, .none, .none, (.str (.ofString "law_xm0497_01") 479), .none, (.ref 284), .none, 0⟩), #[]⟩
noncomputable def ob_331 (P : Params) : Obj := ⟨(.type "tuple"), .none, (.seq #[] 0), #[]⟩
noncomputable def ob_332 (P : Params) : Obj := ⟨.none, .none, (.fields #[]), #[]⟩
noncomputable def ob_333 (P : Params) : Obj := ⟨(.type "tuple"), .none, (.seq #[(.str (.ofString "w") 617), (.str (.ofString "pid") 618), (.str (.ofString "t") 619), (.str (.ofString "held") 620)] 0), #[]⟩
noncomputable def ob_334 (P : Params) : Obj := ⟨(.type "tuple"), .none, (.seq #[] 0), #[]⟩
noncomputable def ob_335 (P : Params) : Obj := ⟨.none, .none, (.func ⟨(.ofString "_law_bound"), (.ofString "_law_bound"), pa__law_bound, .stmts bo__law_bound, sc__law_bound, 0, [], .none, .none, .none, .none, .none, .none, .none, 0⟩), #[]⟩
noncomputable def ob_336 (P : Params) : Obj := ⟨(.type "code"), .none, (.fields #[(.str (.ofString "_law_bound") 614), (.str (.ofString "_law_bound") 615), (.str (.ofString "/claim/cut.py") 616), (.int 278 0), (.int 3 0), (.int 0 0), (.int 0 0), (.int 3 0), (.ref 286), (.bool .true), (.int 181 0), (.ref 287), .none, (.ref 288), (.ref 289), (.ref 290), (.int 621 0), (.int 278 0), (.str (.ofString "/claim/cut.py") 622)]), #[]⟩
noncomputable def ob_337 (P : Params) : Obj := ⟨(.type "function"), .none, (.func ⟨(.ofString "_law_bound"), (.ofString "_law_bound"), pa__law_bound, .stmts bo__law_bound, sc__law_bound, 3, [], .none, .none, .none, (.str (.ofString "law_xm0497_01") 479), .none, (.ref 291), .none, 0⟩), #[]⟩
noncomputable def ob_338 (P : Params) : Obj := ⟨(.type "tuple"), .none, (.seq #[] 0), #[]⟩
noncomputable def ob_339 (P : Params) : Obj := ⟨.none, .none, (.fields #[]), #[]⟩
noncomputable def ob_340 (P : Params) : Obj := ⟨(.type "tuple"), .none, (.seq #[(.str (.ofString "w") 627), (.str (.ofString "ladder") 628), (.str (.ofString "last") 629), (.str (.ofString "pid") 630), (.str (.ofString "end") 631)] 0), #[]⟩
noncomputable def ob_341 (P : Params) : Obj := ⟨(.type "tuple"), .none, (.seq #[] 0), #[]⟩
noncomputable def ob_342 (P : Params) : Obj := ⟨.none, .none, (.func ⟨(.ofString "_law_lead"), (.ofString "_law_lead"), pa__law_lead, .stmts bo__law_lead, sc__law_lead, 0, [], .none, .none, .none, .none, .none, .none, .none, 0⟩), #[]⟩
noncomputable def ob_343 (P : Params) : Obj := ⟨(.type "code"), .none, (.fields #[(.str (.ofString "_law_lead") 624), (.str (.ofString "_law_lead") 625), (.str (.ofString "/claim/cut.py") 626), (.int 281 0), (.int 2 0), (.int 0 0), (.int 0 0), (.int 3 0), (.ref 293), (.bool .true), (.int 181 0), (.ref 294), .none, (.ref 295), (.ref 296), (.ref 297), (.int 632 0), (.int 281 0), (.str (.ofString "/claim/cut.py") 633)]), #[]⟩
noncomputable def ob_344 (P : Params) : Obj := ⟨(.type "function"), .none, (.func ⟨(.ofString "_law_lead"), (.ofString "_law_lead"), pa__law_lead, .stmts bo__law_lead, sc__law_lead, 3, [], .none, .none, .none, (.str (.ofString "law_xm0497_01") 479), .none, (.ref 298), .none, 0⟩), #[]⟩
noncomputable def ob_345 (P : Params) : Obj := ⟨(.type "dict"), .none, (.dict #[⟨PyData.keyHash P (.ofString "__name__"), (.str (.ofString "__name__") 165), (.str (.ofString "law_xm0497_01") 479)⟩, ⟨PyData.keyHash P (.ofString "__doc__"), (.str (.ofString "__doc__") 166), .none⟩, ⟨PyData.keyHash P (.ofString "__package__"), (.str (.ofString "__package__") 167), .none⟩, ⟨PyData.keyHash P (.ofString "__loader__"), (.str (.ofString "__loader__") 168), (.builtin "__main__.__loader__#opaque")⟩, ⟨PyData.keyHash P (.ofString "__spec__"), (.str (.ofString "__spec__") 169), .none⟩, ⟨PyData.keyHash P (.ofString "__annotations__"), (.str (.ofString "__annotations__") 170), (.ref 6)⟩, ⟨PyData.keyHash P (.ofString "__builtins__"), (.str (.ofString "__builtins__") 171), (.ref 4)⟩, ⟨PyData.keyHash P (.ofString "__file__"), (.str (.ofString "__file__") 173), (.str (.ofString "/claim/cut.py") 172)⟩, ⟨PyData.keyHash P (.ofString "__cached__"), (.str (.ofString "__cached__") 174), .none⟩, ⟨PyData.keyHash P (.ofString "Y_KEY"), (.str (.ofString "Y_KEY") 190), (.int 1 189)⟩, ⟨PyData.keyHash P (.ofString "Y_BOOL"), (.str (.ofString "Y_BOOL") 192), (.int 2 191)⟩, ⟨PyData.keyHash P (.ofString "Y_UNION"), (.str (.ofString "Y_UNION") 194), (.int 6 193)⟩, ⟨PyData.keyHash P (.ofString "Y_INTER"), (.str (.ofString "Y_INTER") 196), (.int 7 195)⟩, ⟨PyData.keyHash P (.ofString "Y_OBJ"), (.str (.ofString "Y_OBJ") 198), (.int 8 197)⟩, ⟨PyData.keyHash P (.ofString "Y_REF"), (.str (.ofString "Y_REF") 200), (.int 9 199)⟩, ⟨PyData.keyHash P (.ofString "Y_PARAM"), (.str (.ofString "Y_PARAM") 202), (.int 10 201)⟩, ⟨PyData.keyHash P (.ofString "Y_ARRAY"), (.str (.ofString "Y_ARRAY") 204), (.int 11 203)⟩, ⟨PyData.keyHash P (.ofString "Y_TUPLE"), (.str (.ofString "Y_TUPLE") 206), (.int 12 205)⟩, ⟨PyData.keyHash P (.ofString "Y_SIG"), (.str (.ofString "Y_SIG") 208), (.int 13 207)⟩, ⟨PyData.keyHash P (.ofString "Y_KEYOF"), (.str (.ofString "Y_KEYOF") 210), (.int 14 209)⟩, ⟨PyData.keyHash P (.ofString "Y_INDEX"), (.str (.ofString "Y_INDEX") 212), (.int 15 211)⟩, ⟨PyData.keyHash P (.ofString "Y_COND"), (.str (.ofString "Y_COND") 214), (.int 16 213)⟩, ⟨PyData.keyHash P (.ofString "Y_MAPPED"), (.str (.ofString "Y_MAPPED") 216), (.int 17 215)⟩, ⟨PyData.keyHash P (.ofString "Y_TPL"), (.str (.ofString "Y_TPL") 218), (.int 18 217)⟩, ⟨PyData.keyHash P (.ofString "Y_ALIAS"), (.str (.ofString "Y_ALIAS") 220), (.int 19 219)⟩, ⟨PyData.keyHash P (.ofString "UNDEF"), (.str (.ofString "UNDEF") 222), (.int 4 221)⟩, ⟨PyData.keyHash P (.ofString "STRING"), (.str (.ofString "STRING") 224), (.int 6 223)⟩, ⟨PyData.keyHash P (.ofString "NUMBER"), (.str (.ofString "NUMBER") 226), (.int 7 225)⟩, ⟨PyData.keyHash P (.ofString "EMPTY"), (.str (.ofString "EMPTY") 228), (.int 11 227)⟩, ⟨PyData.keyHash P (.ofString "D_INTERFACE"), (.str (.ofString "D_INTERFACE") 230), (.int 2 229)⟩, ⟨PyData.keyHash P (.ofString "FIRST_ROWS"), (.str (.ofString "FIRST_ROWS") 252), (.ref 37)⟩, ⟨PyData.keyHash P (.ofString "KID_SPANS"), (.str (.ofString "KID_SPANS") 268), (.ref 38)⟩, ⟨PyData.keyHash P (.ofString "TypeTable"), (.str (.ofString "TypeTable") 323), (.ref 74)⟩, ⟨PyData.keyHash P (.ofString "Decl"), (.str (.ofString "Decl") 368), (.ref 95)⟩, ⟨PyData.keyHash P (.ofString "new_param"), (.str (.ofString "new_param") 383), (.ref 107)⟩, ⟨PyData.keyHash P (.ofString "new_decl"), (.str (.ofString "new_decl") 393), (.ref 114)⟩, ⟨PyData.keyHash P (.ofString "index_kids"), (.str (.ofString "index_kids") 400), (.ref 121)⟩, ⟨PyData.keyHash P (.ofString "sig_kids"), (.str (.ofString "sig_kids") 406), (.ref 126)⟩, ⟨PyData.keyHash P (.ofString "object_kids"), (.str (.ofString "object_kids") 412), (.ref 131)⟩, ⟨PyData.keyHash P (.ofString "row_kids"), (.str (.ofString "row_kids") 418), (.ref 136)⟩, ⟨PyData.keyHash P (.ofString "row_binds"), (.str (.ofString "row_binds") 425), (.ref 143)⟩, ⟨PyData.keyHash P (.ofString "inner_kids"), (.str (.ofString "inner_kids") 435), (.ref 150)⟩, ⟨PyData.keyHash P (.ofString "reached"), (.str (.ofString "reached") 446), (.ref 157)⟩, ⟨PyData.keyHash P (.ofString "row_free"), (.str (.ofString "row_free") 458), (.ref 164)⟩, ⟨PyData.keyHash P (.ofString "free_round"), (.str (.ofString "free_round") 464), (.ref 169)⟩, ⟨PyData.keyHash P (.ofString "free_params"), (.str (.ofString "free_params") 470), (.ref 174)⟩, ⟨PyData.keyHash P (.ofString "has_params"), (.str (.ofString "has_params") 478), (.ref 181)⟩, ⟨PyData.keyHash P (.ofString "_law_take"), (.str (.ofString "_law_take") 490), (.ref 188)⟩, ⟨PyData.keyHash P (.ofString "_law_pick"), (.str (.ofString "_law_pick") 497), (.ref 195)⟩, ⟨PyData.keyHash P (.ofString "_law_maybe"), (.str (.ofString "_law_maybe") 504), (.ref 202)⟩, ⟨PyData.keyHash P (.ofString "_law_lay"), (.str (.ofString "_law_lay") 510), (.ref 207)⟩, ⟨PyData.keyHash P (.ofString "_law_world"), (.str (.ofString "_law_world") 521), (.ref 214)⟩, ⟨PyData.keyHash P (.ofString "_law_sig"), (.str (.ofString "_law_sig") 527), (.ref 219)⟩, ⟨PyData.keyHash P (.ofString "_law_cond"), (.str (.ofString "_law_cond") 533), (.ref 224)⟩, ⟨PyData.keyHash P (.ofString "_law_mapped"), (.str (.ofString "_law_mapped") 545), (.ref 231)⟩, ⟨PyData.keyHash P (.ofString "_law_object"), (.str (.ofString "_law_object") 551), (.ref 236)⟩, ⟨PyData.keyHash P (.ofString "_law_list"), (.str (.ofString "_law_list") 561), (.ref 243)⟩, ⟨PyData.keyHash P (.ofString "_law_single"), (.str (.ofString "_law_single") 569), (.ref 250)⟩, ⟨PyData.keyHash P (.ofString "_law_joined"), (.str (.ofString "_law_joined") 578), (.ref 257)⟩, ⟨PyData.keyHash P (.ofString "_law_other"), (.str (.ofString "_law_other") 588), (.ref 264)⟩, ⟨PyData.keyHash P (.ofString "_law_some_pid"), (.str (.ofString "_law_some_pid") 595), (.ref 271)⟩, ⟨PyData.keyHash P (.ofString "_law_some"), (.str (.ofString "_law_some") 603), (.ref 278)⟩, ⟨PyData.keyHash P (.ofString "_law_ladder"), (.str (.ofString "_law_ladder") 613), (.ref 285)⟩, ⟨PyData.keyHash P (.ofString "_law_bound"), (.str (.ofString "_law_bound") 623), (.ref 292)⟩, ⟨PyData.keyHash P (.ofString "_law_lead"), (.str (.ofString "_law_lead") 634), (.ref 299)⟩, ⟨PyData.keyHash P (.ofString "_law_inside"), (.str (.ofString "_law_inside") 645), (.ref 306)⟩, ⟨PyData.keyHash P (.ofString "_law_roads"), (.str (.ofString "_law_roads") 657), (.ref 313)⟩, ⟨PyData.keyHash P (.ofString "_law_free"), (.str (.ofString "_law_free") 663), (.ref 318)⟩, ⟨PyData.keyHash P (.ofString "_law_rows_right"), (.str (.ofString "_law_rows_right") 669), (.ref 323)⟩, ⟨PyData.keyHash P (.ofString "law"), (.str (.ofString "law") 675), (.ref 328)⟩] 70), #[]⟩
noncomputable def ob_346 (P : Params) : Obj := ⟨.none, .none, (.fields #[(.int 25 0), (.int 0 0), (.ref 49), (.int 51 0), (.int 0 0), (.ref 84), (.int 69 0), (.int 0 0), (.ref 106), (.int 75 0), (.int 0 0), (.ref 113), (.int 79 0), (.int 0 0), (.ref 120), (.int 81 0), (.int 0 0), (.ref 125), (.int 87 0), (.int 0 0), (.ref 130), (.int 92 0), (.int 0 0), (.ref 135), (.int 108 0), (.int 0 0), (.ref 142), (.int 116 0), (.int 0 0), (.ref 149), (.int 122 0), (.int 0 0), (.ref 156), (.int 131 0), (.int 0 0), (.ref 163), (.int 142 0), (.int 0 0), (.ref 168), (.int 149 0), (.int 0 0), (.ref 173), (.int 165 0), (.int 0 0), (.ref 180), (.int 168 0), (.int 0 0), (.ref 187), (.int 173 0), (.int 0 0), (.ref 194), (.int 175 0), (.int 0 0), (.ref 201), (.int 177 0), (.int 0 0), (.ref 206), (.int 184 0), (.int 0 0), (.ref 213), (.int 197 0), (.int 0 0), (.ref 218), (.int 204 0), (.int 0 0), (.ref 223), (.int 207 0), (.int 0 0), (.ref 230), (.int 213 0), (.int 0 0), (.ref 235), (.int 222 0), (.int 0 0), (.ref 242), (.int 233 0), (.int 0 0), (.ref 249), (.int 235 0), (.int 0 0), (.ref 256), (.int 239 0), (.int 0 0), (.ref 263), (.int 252 0), (.int 0 0), (.ref 270), (.int 254 0), (.int 0 0), (.ref 277), (.int 267 0), (.int 0 0), (.ref 284), (.int 278 0), (.int 0 0), (.ref 291), (.int 281 0), (.int 0 0), (.ref 298), (.int 290 0), (.int 0 0), (.ref 305), (.int 297 0), (.int 0 0), (.ref 312), (.int 306 0), (.int 0 0), (.ref 317), (.int 308 0), (.int 0 0), (.ref 322), (.int 316 0), (.int 0 0), (.ref 327)]), #[]⟩
noncomputable def ob_347 (P : Params) : Obj := ⟨(.type "tuple"), .none, (.seq #[] 0), #[]⟩
noncomputable def ob_348 (P : Params) : Obj := ⟨.none, .none, (.fields #[]), #[]⟩
noncomputable def ob_349 (P : Params) : Obj := ⟨(.type "tuple"), .none, (.seq #[(.str (.ofString "w") 638), (.str (.ofString "t") 639), (.str (.ofString "out") 640), (.str (.ofString "pid") 641), (.str (.ofString "kid") 642)] 0), #[]⟩
noncomputable def ob_350 (P : Params) : Obj := ⟨(.type "tuple"), .none, (.seq #[] 0), #[]⟩
noncomputable def ob_351 (P : Params) : Obj := ⟨.none, .none, (.func ⟨(.ofString "_law_inside"), (.ofString "_law_inside"), pa__law_inside, .stmts bo__law_inside, sc__law_inside, 0, [], .none, .none, .none, .none, .none, .none, .none, 0⟩), #[]⟩
noncomputable def ob_352 (P : Params) : Obj := ⟨(.type "code"), .none, (.fields #[(.str (.ofString "_law_inside") 635), (.str (.ofString "_law_inside") 636), (.str (.ofString "/claim/cut.py") 637), (.int 290 0), (.int 2 0), (.int 0 0), (.int 0 0), (.int 3 0), (.ref 300), (.bool .true), (.int 181 0), (.ref 301), .none, (.ref 302), (.ref 303), (.ref 304), (.int 643 0), (.int 290 0), (.str (.ofString "/claim/cut.py") 644)]), #[]⟩
noncomputable def ob_353 (P : Params) : Obj := ⟨(.type "function"), .none, (.func ⟨(.ofString "_law_inside"), (.ofString "_law_inside"), pa__law_inside, .stmts bo__law_inside, sc__law_inside, 3, [], .none, .none, .none, (.str (.ofString "law_xm0497_01") 479), .none, (.ref 305), .none, 0⟩), #[]⟩
noncomputable def ob_354 (P : Params) : Obj := ⟨(.type "tuple"), .none, (.seq #[] 0), #[]⟩
noncomputable def ob_355 (P : Params) : Obj := ⟨.none, .none, (.fields #[]), #[]⟩
noncomputable def ob_356 (P : Params) : Obj := ⟨(.type "tuple"), .none, (.seq #[(.str (.ofString "w") 649), (.str (.ofString "t") 650), (.str (.ofString "pid") 651), (.str (.ofString "seen") 652), (.str (.ofString "todo") 653), (.str (.ofString "at") 654)] 0), #[]⟩
noncomputable def ob_357 (P : Params) : Obj := ⟨(.type "tuple"), .none, (.seq #[] 0), #[]⟩
noncomputable def ob_358 (P : Params) : Obj := ⟨.none, .none, (.func ⟨(.ofString "_law_roads"), (.ofString "_law_roads"), pa__law_roads, .stmts bo__law_roads, sc__law_roads, 0, [], .none, .none, .none, .none, .none, .none, .none, 0⟩), #[]⟩
noncomputable def ob_359 (P : Params) : Obj := ⟨(.type "code"), .none, (.fields #[(.str (.ofString "_law_roads") 646), (.str (.ofString "_law_roads") 647), (.str (.ofString "/claim/cut.py") 648), (.int 297 0), (.int 3 0), (.int 0 0), (.int 0 0), (.int 3 0), (.ref 307), (.bool .true), (.int 181 0), (.ref 308), .none, (.ref 309), (.ref 310), (.ref 311), (.int 655 0), (.int 297 0), (.str (.ofString "/claim/cut.py") 656)]), #[]⟩
noncomputable def ob_360 (P : Params) : Obj := ⟨(.type "function"), .none, (.func ⟨(.ofString "_law_roads"), (.ofString "_law_roads"), pa__law_roads, .stmts bo__law_roads, sc__law_roads, 3, [], .none, .none, .none, (.str (.ofString "law_xm0497_01") 479), .none, (.ref 312), .none, 0⟩), #[]⟩
noncomputable def ob_361 (P : Params) : Obj := ⟨(.type "tuple"), .none, (.seq #[] 0), #[]⟩
noncomputable def ob_362 (P : Params) : Obj := ⟨.none, .none, (.fields #[]), #[]⟩
noncomputable def ob_363 (P : Params) : Obj := ⟨.none, .none, (.func ⟨(.ofString "_law_free"), (.ofString "_law_free"), pa__law_free, .stmts bo__law_free, sc__law_free, 0, [], .none, .none, .none, .none, .none, .none, .none, 0⟩), #[]⟩
noncomputable def ob_364 (P : Params) : Obj := ⟨(.type "code"), .none, (.fields #[(.str (.ofString "_law_free") 658), (.str (.ofString "_law_free") 659), (.str (.ofString "/claim/cut.py") 660), (.int 306 0), (.int 2 0), (.int 0 0), (.int 0 0), (.int 3 0), (.ref 314), (.bool .true), (.int 181 0), (.ref 315), .none, .none, .none, (.ref 316), (.int 661 0), (.int 306 0), (.str (.ofString "/claim/cut.py") 662)]), #[]⟩
noncomputable def ob_365 (P : Params) : Obj := ⟨(.type "function"), .none, (.func ⟨(.ofString "_law_free"), (.ofString "_law_free"), pa__law_free, .stmts bo__law_free, sc__law_free, 3, [], .none, .none, .none, (.str (.ofString "law_xm0497_01") 479), .none, (.ref 317), .none, 0⟩), #[]⟩
noncomputable def ob_366 (P : Params) : Obj := ⟨(.type "tuple"), .none, (.seq #[] 0), #[]⟩
noncomputable def ob_367 (P : Params) : Obj := ⟨.none, .none, (.fields #[]), #[]⟩
noncomputable def ob_368 (P : Params) : Obj := ⟨.none, .none, (.func ⟨(.ofString "_law_rows_right"), (.ofString "_law_rows_right"), pa__law_rows_right, .stmts bo__law_rows_right, sc__law_rows_right, 0, [], .none, .none, .none, .none, .none, .none, .none, 0⟩), #[]⟩
noncomputable def ob_369 (P : Params) : Obj := ⟨(.type "code"), .none, (.fields #[(.str (.ofString "_law_rows_right") 664), (.str (.ofString "_law_rows_right") 665), (.str (.ofString "/claim/cut.py") 666), (.int 308 0), (.int 1 0), (.int 0 0), (.int 0 0), (.int 3 0), (.ref 319), (.bool .true), (.int 181 0), (.ref 320), .none, .none, .none, (.ref 321), (.int 667 0), (.int 308 0), (.str (.ofString "/claim/cut.py") 668)]), #[]⟩
noncomputable def ob_370 (P : Params) : Obj := ⟨(.type "function"), .none, (.func ⟨(.ofString "_law_rows_right"), (.ofString "_law_rows_right"), pa__law_rows_right, .stmts bo__law_rows_right, sc__law_rows_right, 3, [], .none, .none, .none, (.str (.ofString "law_xm0497_01") 479), .none, (.ref 322), .none, 0⟩), #[]⟩
noncomputable def ob_371 (P : Params) : Obj := ⟨(.type "tuple"), .none, (.seq #[] 0), #[]⟩
noncomputable def ob_372 (P : Params) : Obj := ⟨.none, .none, (.fields #[]), #[]⟩
noncomputable def ob_373 (P : Params) : Obj := ⟨.none, .none, (.func ⟨(.ofString "law"), (.ofString "law"), pa_law, .stmts bo_law, sc_law, 0, [], .none, .none, .none, .none, .none, .none, .none, 0⟩), #[]⟩
noncomputable def ob_374 (P : Params) : Obj := ⟨(.type "code"), .none, (.fields #[(.str (.ofString "law") 670), (.str (.ofString "law") 671), (.str (.ofString "/claim/cut.py") 672), (.int 316 0), (.int 1 0), (.int 0 0), (.int 0 0), (.int 3 0), (.ref 324), (.bool .true), (.int 181 0), (.ref 325), .none, .none, .none, (.ref 326), (.int 673 0), (.int 316 0), (.str (.ofString "/claim/cut.py") 674)]), #[]⟩
noncomputable def ob_375 (P : Params) : Obj := ⟨(.type "function"), .none, (.func ⟨(.ofString "law"), (.ofString "law"), pa_law, .stmts bo_law, sc_law, 3, [], .none, .none, .none, (.str (.ofString "law_xm0497_01") 479), .none, (.ref 327), .none, 0⟩), #[]⟩
noncomputable def K : Params → Frag := fun P =>
  (nat_lit 2, boot_o_2 P) ::
  (nat_lit 3, ob_345 P) ::
  (nat_lit 15, ob_50 P) ::
  (nat_lit 16, ob_51 P) ::
  (nat_lit 17, ob_52 P) ::
  (nat_lit 18, ob_53 P) ::
  (nat_lit 19, ob_54 P) ::
  (nat_lit 20, ob_55 P) ::
  (nat_lit 21, ob_56 P) ::
  (nat_lit 22, ob_57 P) ::
  (nat_lit 23, ob_58 P) ::
  (nat_lit 24, ob_59 P) ::
  (nat_lit 25, ob_60 P) ::
  (nat_lit 26, ob_61 P) ::
  (nat_lit 27, ob_62 P) ::
  (nat_lit 28, ob_63 P) ::
  (nat_lit 29, ob_64 P) ::
  (nat_lit 30, ob_65 P) ::
  (nat_lit 31, ob_66 P) ::
  (nat_lit 32, ob_67 P) ::
  (nat_lit 33, ob_68 P) ::
  (nat_lit 34, ob_69 P) ::
  (nat_lit 35, ob_70 P) ::
  (nat_lit 36, ob_71 P) ::
  (nat_lit 37, ob_72 P) ::
  (nat_lit 38, ob_73 P) ::
  (nat_lit 39, ob_74 P) ::
  (nat_lit 40, ob_75 P) ::
  (nat_lit 41, ob_76 P) ::
  (nat_lit 42, ob_77 P) ::
  (nat_lit 43, ob_78 P) ::
  (nat_lit 51, ob_90 P) ::
  (nat_lit 53, ob_92 P) ::
  (nat_lit 54, ob_93 P) ::
  (nat_lit 56, ob_95 P) ::
  (nat_lit 57, ob_96 P) ::
  (nat_lit 58, ob_97 P) ::
  (nat_lit 60, ob_99 P) ::
  (nat_lit 61, ob_100 P) ::
  (nat_lit 63, ob_102 P) ::
  (nat_lit 64, ob_103 P) ::
  (nat_lit 65, ob_104 P) ::
  (nat_lit 67, ob_106 P) ::
  (nat_lit 68, ob_107 P) ::
  (nat_lit 70, ob_109 P) ::
  (nat_lit 71, ob_110 P) ::
  (nat_lit 72, ob_111 P) ::
  (nat_lit 73, ob_112 P) ::
  (nat_lit 74, ob_113 P) ::
  (nat_lit 75, ob_114 P) ::
  (nat_lit 76, ob_115 P) ::
  (nat_lit 86, ob_127 P) ::
  (nat_lit 88, ob_129 P) ::
  (nat_lit 89, ob_130 P) ::
  (nat_lit 91, ob_132 P) ::
  (nat_lit 92, ob_133 P) ::
  (nat_lit 93, ob_134 P) ::
  (nat_lit 94, ob_135 P) ::
  (nat_lit 95, ob_136 P) ::
  (nat_lit 96, ob_137 P) ::
  (nat_lit 97, ob_138 P) ::
  (nat_lit 100, ob_141 P) ::
  (nat_lit 101, ob_142 P) ::
  (nat_lit 103, ob_144 P) ::
  (nat_lit 104, ob_145 P) ::
  (nat_lit 106, ob_147 P) ::
  (nat_lit 107, ob_148 P) ::
  (nat_lit 108, ob_149 P) ::
  (nat_lit 110, ob_151 P) ::
  (nat_lit 111, ob_152 P) ::
  (nat_lit 113, ob_154 P) ::
  (nat_lit 114, ob_155 P) ::
  (nat_lit 115, ob_156 P) ::
  (nat_lit 117, ob_158 P) ::
  (nat_lit 118, ob_159 P) ::
  (nat_lit 120, ob_161 P) ::
  (nat_lit 121, ob_162 P) ::
  (nat_lit 122, ob_163 P) ::
  (nat_lit 125, ob_166 P) ::
  (nat_lit 126, ob_167 P) ::
  (nat_lit 127, ob_168 P) ::
  (nat_lit 130, ob_171 P) ::
  (nat_lit 131, ob_172 P) ::
  (nat_lit 132, ob_175 P) ::
  (nat_lit 135, ob_178 P) ::
  (nat_lit 136, ob_179 P) ::
  (nat_lit 137, ob_180 P) ::
  (nat_lit 139, ob_182 P) ::
  (nat_lit 140, ob_183 P) ::
  (nat_lit 142, ob_185 P) ::
  (nat_lit 143, ob_186 P) ::
  (nat_lit 144, ob_187 P) ::
  (nat_lit 146, ob_189 P) ::
  (nat_lit 147, ob_190 P) ::
  (nat_lit 149, ob_192 P) ::
  (nat_lit 150, ob_193 P) ::
  (nat_lit 151, ob_194 P) ::
  (nat_lit 153, ob_196 P) ::
  (nat_lit 154, ob_197 P) ::
  (nat_lit 156, ob_199 P) ::
  (nat_lit 157, ob_200 P) ::
  (nat_lit 158, ob_201 P) ::
  (nat_lit 160, ob_203 P) ::
  (nat_lit 161, ob_204 P) ::
  (nat_lit 163, ob_206 P) ::
  (nat_lit 164, ob_207 P) ::
  (nat_lit 165, ob_208 P) ::
  (nat_lit 168, ob_211 P) ::
  (nat_lit 169, ob_212 P) ::
  (nat_lit 170, ob_213 P) ::
  (nat_lit 173, ob_216 P) ::
  (nat_lit 174, ob_217 P) ::
  (nat_lit 175, ob_218 P) ::
  (nat_lit 177, ob_220 P) ::
  (nat_lit 178, ob_221 P) ::
  (nat_lit 180, ob_223 P) ::
  (nat_lit 181, ob_224 P) ::
  (nat_lit 182, ob_225 P) ::
  (nat_lit 184, ob_227 P) ::
  (nat_lit 185, ob_228 P) ::
  (nat_lit 187, ob_230 P) ::
  (nat_lit 188, ob_231 P) ::
  (nat_lit 189, ob_232 P) ::
  (nat_lit 191, ob_234 P) ::
  (nat_lit 192, ob_235 P) ::
  (nat_lit 194, ob_237 P) ::
  (nat_lit 195, ob_238 P) ::
  (nat_lit 196, ob_239 P) ::
  (nat_lit 198, ob_241 P) ::
  (nat_lit 199, ob_242 P) ::
  (nat_lit 201, ob_244 P) ::
  (nat_lit 202, ob_245 P) ::
  (nat_lit 203, ob_246 P) ::
  (nat_lit 206, ob_249 P) ::
  (nat_lit 207, ob_250 P) ::
  (nat_lit 208, ob_251 P) ::
  (nat_lit 210, ob_253 P) ::
  (nat_lit 211, ob_254 P) ::
  (nat_lit 213, ob_256 P) ::
  (nat_lit 214, ob_257 P) ::
  (nat_lit 215, ob_260 P) ::
  (nat_lit 218, ob_263 P) ::
  (nat_lit 219, ob_264 P) ::
  (nat_lit 220, ob_265 P) ::
  (nat_lit 223, ob_268 P) ::
  (nat_lit 224, ob_269 P) ::
  (nat_lit 225, ob_270 P) ::
  (nat_lit 227, ob_272 P) ::
  (nat_lit 228, ob_273 P) ::
  (nat_lit 230, ob_275 P) ::
  (nat_lit 231, ob_276 P) ::
  (nat_lit 232, ob_277 P) ::
  (nat_lit 235, ob_280 P) ::
  (nat_lit 236, ob_281 P) ::
  (nat_lit 237, ob_282 P) ::
  (nat_lit 239, ob_284 P) ::
  (nat_lit 240, ob_285 P) ::
  (nat_lit 242, ob_287 P) ::
  (nat_lit 243, ob_288 P) ::
  (nat_lit 244, ob_289 P) ::
  (nat_lit 246, ob_291 P) ::
  (nat_lit 247, ob_292 P) ::
  (nat_lit 249, ob_294 P) ::
  (nat_lit 250, ob_295 P) ::
  (nat_lit 251, ob_296 P) ::
  (nat_lit 253, ob_298 P) ::
  (nat_lit 254, ob_299 P) ::
  (nat_lit 256, ob_301 P) ::
  (nat_lit 257, ob_302 P) ::
  (nat_lit 258, ob_303 P) ::
  (nat_lit 260, ob_305 P) ::
  (nat_lit 261, ob_306 P) ::
  (nat_lit 263, ob_308 P) ::
  (nat_lit 264, ob_309 P) ::
  (nat_lit 265, ob_310 P) ::
  (nat_lit 267, ob_312 P) ::
  (nat_lit 268, ob_313 P) ::
  (nat_lit 270, ob_315 P) ::
  (nat_lit 271, ob_316 P) ::
  (nat_lit 272, ob_317 P) ::
  (nat_lit 274, ob_319 P) ::
  (nat_lit 275, ob_320 P) ::
  (nat_lit 277, ob_322 P) ::
  (nat_lit 278, ob_323 P) ::
  (nat_lit 279, ob_324 P) ::
  (nat_lit 281, ob_326 P) ::
  (nat_lit 282, ob_327 P) ::
  (nat_lit 284, ob_329 P) ::
  (nat_lit 285, ob_330 P) ::
  (nat_lit 286, ob_331 P) ::
  (nat_lit 288, ob_333 P) ::
  (nat_lit 289, ob_334 P) ::
  (nat_lit 291, ob_336 P) ::
  (nat_lit 292, ob_337 P) ::
  (nat_lit 293, ob_338 P) ::
  (nat_lit 295, ob_340 P) ::
  (nat_lit 296, ob_341 P) ::
  (nat_lit 298, ob_343 P) ::
  (nat_lit 299, ob_344 P) ::
  (nat_lit 300, ob_347 P) ::
  (nat_lit 302, ob_349 P) ::
  (nat_lit 303, ob_350 P) ::
  (nat_lit 305, ob_352 P) ::
  (nat_lit 306, ob_353 P) ::
  (nat_lit 307, ob_354 P) ::
  (nat_lit 309, ob_356 P) ::
  (nat_lit 310, ob_357 P) ::
  (nat_lit 312, ob_359 P) ::
  (nat_lit 313, ob_360 P) ::
  (nat_lit 314, ob_361 P) ::
  (nat_lit 317, ob_364 P) ::
  (nat_lit 318, ob_365 P) ::
  (nat_lit 319, ob_366 P) ::
  (nat_lit 322, ob_369 P) ::
  (nat_lit 323, ob_370 P) ::
  (nat_lit 324, ob_371 P) ::
  (nat_lit 327, ob_374 P) ::
  (nat_lit 328, ob_375 P) :: []
noncomputable def Ka : List Addr := [2, 3, 15, 16, 17, 18, 19, 20, 21, 22, 23, 24, 25, 26, 27, 28, 29, 30, 31, 32, 33, 34, 35, 36, 37, 38, 39, 40, 41, 42, 43, 51, 53, 54, 56, 57, 58, 60, 61, 63, 64, 65, 67, 68, 70, 71, 72, 73, 74, 75, 76, 86, 88, 89, 91, 92, 93, 94, 95, 96, 97, 100, 101, 103, 104, 106, 107, 108, 110, 111, 113, 114, 115, 117, 118, 120, 121, 122, 125, 126, 127, 130, 131, 132, 135, 136, 137, 139, 140, 142, 143, 144, 146, 147, 149, 150, 151, 153, 154, 156, 157, 158, 160, 161, 163, 164, 165, 168, 169, 170, 173, 174, 175, 177, 178, 180, 181, 182, 184, 185, 187, 188, 189, 191, 192, 194, 195, 196, 198, 199, 201, 202, 203, 206, 207, 208, 210, 211, 213, 214, 215, 218, 219, 220, 223, 224, 225, 227, 228, 230, 231, 232, 235, 236, 237, 239, 240, 242, 243, 244, 246, 247, 249, 250, 251, 253, 254, 256, 257, 258, 260, 261, 263, 264, 265, 267, 268, 270, 271, 272, 274, 275, 277, 278, 279, 281, 282, 284, 285, 286, 288, 289, 291, 292, 293, 295, 296, 298, 299, 300, 302, 303, 305, 306, 307, 309, 310, 312, 313, 314, 317, 318, 319, 322, 323, 324, 327, 328]
noncomputable def tt_47 (P : Params) : BT :=
  (.node (boot_o_0 P) (.node (boot_o_1 P) (.node (boot_o_3 P) (.node (boot_o_7 P) .nil .nil) (.node (ob_43 P) .nil .nil)) (.node (boot_o_5 P) (.node (boot_o_9 P) .nil .nil) (.node (ob_45 P) .nil .nil))) (.node (boot_o_2 P) (.node (boot_o_4 P) (.node (boot_o_8 P) .nil .nil) (.node (ob_44 P) .nil .nil)) (.node (boot_o_6 P) (.node (boot_o_10 P) .nil .nil) (.node (ob_46 P) .nil .nil))))
noncomputable def tt_78 (P : Params) : BT :=
  (.node (boot_o_0 P) (.node (boot_o_1 P) (.node (ob_49 P) (.node (boot_o_7 P) (.node (ob_50 P) (.node (ob_66 P) .nil .nil) .nil) (.node (ob_58 P) (.node (ob_74 P) .nil .nil) .nil)) (.node (ob_43 P) (.node (ob_54 P) (.node (ob_70 P) .nil .nil) .nil) (.node (ob_62 P) (.node (ob_78 P) .nil .nil) .nil))) (.node (boot_o_5 P) (.node (boot_o_9 P) (.node (ob_52 P) (.node (ob_68 P) .nil .nil) .nil) (.node (ob_60 P) (.node (ob_76 P) .nil .nil) .nil)) (.node (ob_45 P) (.node (ob_56 P) (.node (ob_72 P) .nil .nil) .nil) (.node (ob_64 P) .nil .nil)))) (.node (boot_o_2 P) (.node (boot_o_4 P) (.node (boot_o_8 P) (.node (ob_51 P) (.node (ob_67 P) .nil .nil) .nil) (.node (ob_59 P) (.node (ob_75 P) .nil .nil) .nil)) (.node (ob_44 P) (.node (ob_55 P) (.node (ob_71 P) .nil .nil) .nil) (.node (ob_63 P) .nil .nil))) (.node (boot_o_6 P) (.node (boot_o_10 P) (.node (ob_53 P) (.node (ob_69 P) .nil .nil) .nil) (.node (ob_61 P) (.node (ob_77 P) .nil .nil) .nil)) (.node (ob_46 P) (.node (ob_57 P) (.node (ob_73 P) .nil .nil) .nil) (.node (ob_65 P) .nil .nil)))))
noncomputable def tt_117 (P : Params) : BT :=
  (.node (boot_o_0 P) (.node (boot_o_1 P) (.node (ob_81 P) (.node (boot_o_7 P) (.node (ob_50 P) (.node (ob_66 P) (.node (ob_102 P) .nil .nil) .nil) (.node (ob_86 P) .nil .nil)) (.node (ob_58 P) (.node (ob_74 P) (.node (ob_110 P) .nil .nil) .nil) (.node (ob_94 P) .nil .nil))) (.node (ob_43 P) (.node (ob_54 P) (.node (ob_70 P) (.node (ob_106 P) .nil .nil) .nil) (.node (ob_90 P) .nil .nil)) (.node (ob_62 P) (.node (ob_78 P) (.node (ob_114 P) .nil .nil) .nil) (.node (ob_98 P) .nil .nil)))) (.node (boot_o_5 P) (.node (boot_o_9 P) (.node (ob_52 P) (.node (ob_68 P) (.node (ob_104 P) .nil .nil) .nil) (.node (ob_88 P) .nil .nil)) (.node (ob_60 P) (.node (ob_76 P) (.node (ob_112 P) .nil .nil) .nil) (.node (ob_96 P) .nil .nil))) (.node (ob_45 P) (.node (ob_56 P) (.node (ob_72 P) (.node (ob_108 P) .nil .nil) .nil) (.node (ob_92 P) .nil .nil)) (.node (ob_64 P) (.node (ob_84 P) (.node (ob_116 P) .nil .nil) .nil) (.node (ob_100 P) .nil .nil))))) (.node (boot_o_2 P) (.node (boot_o_4 P) (.node (boot_o_8 P) (.node (ob_51 P) (.node (ob_67 P) (.node (ob_103 P) .nil .nil) .nil) (.node (ob_87 P) .nil .nil)) (.node (ob_59 P) (.node (ob_75 P) (.node (ob_111 P) .nil .nil) .nil) (.node (ob_95 P) .nil .nil))) (.node (ob_82 P) (.node (ob_55 P) (.node (ob_71 P) (.node (ob_107 P) .nil .nil) .nil) (.node (ob_91 P) .nil .nil)) (.node (ob_63 P) (.node (ob_83 P) (.node (ob_115 P) .nil .nil) .nil) (.node (ob_99 P) .nil .nil)))) (.node (boot_o_6 P) (.node (boot_o_10 P) (.node (ob_53 P) (.node (ob_69 P) (.node (ob_105 P) .nil .nil) .nil) (.node (ob_89 P) .nil .nil)) (.node (ob_61 P) (.node (ob_77 P) (.node (ob_113 P) .nil .nil) .nil) (.node (ob_97 P) .nil .nil))) (.node (ob_46 P) (.node (ob_57 P) (.node (ob_73 P) (.node (ob_109 P) .nil .nil) .nil) (.node (ob_93 P) .nil .nil)) (.node (ob_65 P) (.node (ob_85 P) (.node (ob_117 P) .nil .nil) .nil) (.node (ob_101 P) .nil .nil))))))
noncomputable def tt_172 (P : Params) : BT :=
  (.node (boot_o_0 P) (.node (boot_o_1 P) (.node (ob_118 P) (.node (boot_o_7 P) (.node (ob_50 P) (.node (ob_66 P) (.node (ob_102 P) (.node (ob_168 P) .nil .nil) .nil) (.node (ob_136 P) .nil .nil)) (.node (ob_86 P) (.node (ob_120 P) .nil .nil) (.node (ob_152 P) .nil .nil))) (.node (ob_58 P) (.node (ob_74 P) (.node (ob_110 P) .nil .nil) (.node (ob_144 P) .nil .nil)) (.node (ob_94 P) (.node (ob_128 P) .nil .nil) (.node (ob_160 P) .nil .nil)))) (.node (ob_43 P) (.node (ob_54 P) (.node (ob_70 P) (.node (ob_106 P) (.node (ob_172 P) .nil .nil) .nil) (.node (ob_140 P) .nil .nil)) (.node (ob_90 P) (.node (ob_124 P) .nil .nil) (.node (ob_156 P) .nil .nil))) (.node (ob_62 P) (.node (ob_78 P) (.node (ob_114 P) .nil .nil) (.node (ob_148 P) .nil .nil)) (.node (ob_98 P) (.node (ob_132 P) .nil .nil) (.node (ob_164 P) .nil .nil))))) (.node (boot_o_5 P) (.node (boot_o_9 P) (.node (ob_52 P) (.node (ob_68 P) (.node (ob_104 P) (.node (ob_170 P) .nil .nil) .nil) (.node (ob_138 P) .nil .nil)) (.node (ob_88 P) (.node (ob_122 P) .nil .nil) (.node (ob_154 P) .nil .nil))) (.node (ob_60 P) (.node (ob_76 P) (.node (ob_112 P) .nil .nil) (.node (ob_146 P) .nil .nil)) (.node (ob_96 P) (.node (ob_130 P) .nil .nil) (.node (ob_162 P) .nil .nil)))) (.node (ob_45 P) (.node (ob_56 P) (.node (ob_72 P) (.node (ob_108 P) .nil .nil) (.node (ob_142 P) .nil .nil)) (.node (ob_92 P) (.node (ob_126 P) .nil .nil) (.node (ob_158 P) .nil .nil))) (.node (ob_64 P) (.node (ob_84 P) (.node (ob_116 P) .nil .nil) (.node (ob_150 P) .nil .nil)) (.node (ob_100 P) (.node (ob_134 P) .nil .nil) (.node (ob_166 P) .nil .nil)))))) (.node (boot_o_2 P) (.node (boot_o_4 P) (.node (boot_o_8 P) (.node (ob_51 P) (.node (ob_67 P) (.node (ob_103 P) (.node (ob_169 P) .nil .nil) .nil) (.node (ob_137 P) .nil .nil)) (.node (ob_87 P) (.node (ob_121 P) .nil .nil) (.node (ob_153 P) .nil .nil))) (.node (ob_59 P) (.node (ob_75 P) (.node (ob_111 P) .nil .nil) (.node (ob_145 P) .nil .nil)) (.node (ob_95 P) (.node (ob_129 P) .nil .nil) (.node (ob_161 P) .nil .nil)))) (.node (ob_119 P) (.node (ob_55 P) (.node (ob_71 P) (.node (ob_107 P) .nil .nil) (.node (ob_141 P) .nil .nil)) (.node (ob_91 P) (.node (ob_125 P) .nil .nil) (.node (ob_157 P) .nil .nil))) (.node (ob_63 P) (.node (ob_83 P) (.node (ob_115 P) .nil .nil) (.node (ob_149 P) .nil .nil)) (.node (ob_99 P) (.node (ob_133 P) .nil .nil) (.node (ob_165 P) .nil .nil))))) (.node (boot_o_6 P) (.node (boot_o_10 P) (.node (ob_53 P) (.node (ob_69 P) (.node (ob_105 P) (.node (ob_171 P) .nil .nil) .nil) (.node (ob_139 P) .nil .nil)) (.node (ob_89 P) (.node (ob_123 P) .nil .nil) (.node (ob_155 P) .nil .nil))) (.node (ob_61 P) (.node (ob_77 P) (.node (ob_113 P) .nil .nil) (.node (ob_147 P) .nil .nil)) (.node (ob_97 P) (.node (ob_131 P) .nil .nil) (.node (ob_163 P) .nil .nil)))) (.node (ob_46 P) (.node (ob_57 P) (.node (ob_73 P) (.node (ob_109 P) .nil .nil) (.node (ob_143 P) .nil .nil)) (.node (ob_93 P) (.node (ob_127 P) .nil .nil) (.node (ob_159 P) .nil .nil))) (.node (ob_65 P) (.node (ob_85 P) (.node (ob_117 P) .nil .nil) (.node (ob_151 P) .nil .nil)) (.node (ob_101 P) (.node (ob_135 P) .nil .nil) (.node (ob_167 P) .nil .nil)))))))
noncomputable def tt_257 (P : Params) : BT :=
  (.node (boot_o_0 P) (.node (boot_o_1 P) (.node (ob_173 P) (.node (boot_o_7 P) (.node (ob_50 P) (.node (ob_66 P) (.node (ob_102 P) (.node (ob_168 P) .nil .nil) (.node (ob_234 P) .nil .nil)) (.node (ob_136 P) (.node (ob_202 P) .nil .nil) .nil)) (.node (ob_86 P) (.node (ob_120 P) (.node (ob_186 P) .nil .nil) (.node (ob_250 P) .nil .nil)) (.node (ob_152 P) (.node (ob_218 P) .nil .nil) .nil))) (.node (ob_58 P) (.node (ob_74 P) (.node (ob_110 P) (.node (ob_178 P) .nil .nil) (.node (ob_242 P) .nil .nil)) (.node (ob_144 P) (.node (ob_210 P) .nil .nil) .nil)) (.node (ob_94 P) (.node (ob_128 P) (.node (ob_194 P) .nil .nil) .nil) (.node (ob_160 P) (.node (ob_226 P) .nil .nil) .nil)))) (.node (ob_43 P) (.node (ob_54 P) (.node (ob_70 P) (.node (ob_106 P) (.node (ob_172 P) .nil .nil) (.node (ob_238 P) .nil .nil)) (.node (ob_140 P) (.node (ob_206 P) .nil .nil) .nil)) (.node (ob_90 P) (.node (ob_124 P) (.node (ob_190 P) .nil .nil) (.node (ob_254 P) .nil .nil)) (.node (ob_156 P) (.node (ob_222 P) .nil .nil) .nil))) (.node (ob_62 P) (.node (ob_78 P) (.node (ob_114 P) (.node (ob_182 P) .nil .nil) (.node (ob_246 P) .nil .nil)) (.node (ob_148 P) (.node (ob_214 P) .nil .nil) .nil)) (.node (ob_98 P) (.node (ob_132 P) (.node (ob_198 P) .nil .nil) .nil) (.node (ob_164 P) (.node (ob_230 P) .nil .nil) .nil))))) (.node (boot_o_5 P) (.node (boot_o_9 P) (.node (ob_52 P) (.node (ob_68 P) (.node (ob_104 P) (.node (ob_170 P) .nil .nil) (.node (ob_236 P) .nil .nil)) (.node (ob_138 P) (.node (ob_204 P) .nil .nil) .nil)) (.node (ob_88 P) (.node (ob_122 P) (.node (ob_188 P) .nil .nil) (.node (ob_252 P) .nil .nil)) (.node (ob_154 P) (.node (ob_220 P) .nil .nil) .nil))) (.node (ob_60 P) (.node (ob_76 P) (.node (ob_112 P) (.node (ob_180 P) .nil .nil) (.node (ob_244 P) .nil .nil)) (.node (ob_146 P) (.node (ob_212 P) .nil .nil) .nil)) (.node (ob_96 P) (.node (ob_130 P) (.node (ob_196 P) .nil .nil) .nil) (.node (ob_162 P) (.node (ob_228 P) .nil .nil) .nil)))) (.node (ob_45 P) (.node (ob_56 P) (.node (ob_72 P) (.node (ob_108 P) (.node (ob_176 P) .nil .nil) (.node (ob_240 P) .nil .nil)) (.node (ob_142 P) (.node (ob_208 P) .nil .nil) .nil)) (.node (ob_92 P) (.node (ob_126 P) (.node (ob_192 P) .nil .nil) (.node (ob_256 P) .nil .nil)) (.node (ob_158 P) (.node (ob_224 P) .nil .nil) .nil))) (.node (ob_64 P) (.node (ob_84 P) (.node (ob_116 P) (.node (ob_184 P) .nil .nil) (.node (ob_248 P) .nil .nil)) (.node (ob_150 P) (.node (ob_216 P) .nil .nil) .nil)) (.node (ob_100 P) (.node (ob_134 P) (.node (ob_200 P) .nil .nil) .nil) (.node (ob_166 P) (.node (ob_232 P) .nil .nil) .nil)))))) (.node (boot_o_2 P) (.node (boot_o_4 P) (.node (boot_o_8 P) (.node (ob_51 P) (.node (ob_67 P) (.node (ob_103 P) (.node (ob_169 P) .nil .nil) (.node (ob_235 P) .nil .nil)) (.node (ob_137 P) (.node (ob_203 P) .nil .nil) .nil)) (.node (ob_87 P) (.node (ob_121 P) (.node (ob_187 P) .nil .nil) (.node (ob_251 P) .nil .nil)) (.node (ob_153 P) (.node (ob_219 P) .nil .nil) .nil))) (.node (ob_59 P) (.node (ob_75 P) (.node (ob_111 P) (.node (ob_179 P) .nil .nil) (.node (ob_243 P) .nil .nil)) (.node (ob_145 P) (.node (ob_211 P) .nil .nil) .nil)) (.node (ob_95 P) (.node (ob_129 P) (.node (ob_195 P) .nil .nil) .nil) (.node (ob_161 P) (.node (ob_227 P) .nil .nil) .nil)))) (.node (ob_174 P) (.node (ob_55 P) (.node (ob_71 P) (.node (ob_107 P) (.node (ob_175 P) .nil .nil) (.node (ob_239 P) .nil .nil)) (.node (ob_141 P) (.node (ob_207 P) .nil .nil) .nil)) (.node (ob_91 P) (.node (ob_125 P) (.node (ob_191 P) .nil .nil) (.node (ob_255 P) .nil .nil)) (.node (ob_157 P) (.node (ob_223 P) .nil .nil) .nil))) (.node (ob_63 P) (.node (ob_83 P) (.node (ob_115 P) (.node (ob_183 P) .nil .nil) (.node (ob_247 P) .nil .nil)) (.node (ob_149 P) (.node (ob_215 P) .nil .nil) .nil)) (.node (ob_99 P) (.node (ob_133 P) (.node (ob_199 P) .nil .nil) .nil) (.node (ob_165 P) (.node (ob_231 P) .nil .nil) .nil))))) (.node (boot_o_6 P) (.node (boot_o_10 P) (.node (ob_53 P) (.node (ob_69 P) (.node (ob_105 P) (.node (ob_171 P) .nil .nil) (.node (ob_237 P) .nil .nil)) (.node (ob_139 P) (.node (ob_205 P) .nil .nil) .nil)) (.node (ob_89 P) (.node (ob_123 P) (.node (ob_189 P) .nil .nil) (.node (ob_253 P) .nil .nil)) (.node (ob_155 P) (.node (ob_221 P) .nil .nil) .nil))) (.node (ob_61 P) (.node (ob_77 P) (.node (ob_113 P) (.node (ob_181 P) .nil .nil) (.node (ob_245 P) .nil .nil)) (.node (ob_147 P) (.node (ob_213 P) .nil .nil) .nil)) (.node (ob_97 P) (.node (ob_131 P) (.node (ob_197 P) .nil .nil) .nil) (.node (ob_163 P) (.node (ob_229 P) .nil .nil) .nil)))) (.node (ob_46 P) (.node (ob_57 P) (.node (ob_73 P) (.node (ob_109 P) (.node (ob_177 P) .nil .nil) (.node (ob_241 P) .nil .nil)) (.node (ob_143 P) (.node (ob_209 P) .nil .nil) .nil)) (.node (ob_93 P) (.node (ob_127 P) (.node (ob_193 P) .nil .nil) (.node (ob_257 P) .nil .nil)) (.node (ob_159 P) (.node (ob_225 P) .nil .nil) .nil))) (.node (ob_65 P) (.node (ob_85 P) (.node (ob_117 P) (.node (ob_185 P) .nil .nil) (.node (ob_249 P) .nil .nil)) (.node (ob_151 P) (.node (ob_217 P) .nil .nil) .nil)) (.node (ob_101 P) (.node (ob_135 P) (.node (ob_201 P) .nil .nil) .nil) (.node (ob_167 P) (.node (ob_233 P) .nil .nil) .nil)))))))
noncomputable def tt_344 (P : Params) : BT :=
  (.node (boot_o_0 P) (.node (boot_o_1 P) (.node (ob_258 P) (.node (boot_o_7 P) (.node (ob_50 P) (.node (ob_66 P) (.node (ob_102 P) (.node (ob_168 P) (.node (ob_300 P) .nil .nil) .nil) (.node (ob_234 P) .nil .nil)) (.node (ob_136 P) (.node (ob_202 P) (.node (ob_332 P) .nil .nil) .nil) (.node (ob_268 P) .nil .nil))) (.node (ob_86 P) (.node (ob_120 P) (.node (ob_186 P) (.node (ob_316 P) .nil .nil) .nil) (.node (ob_250 P) .nil .nil)) (.node (ob_152 P) (.node (ob_218 P) .nil .nil) (.node (ob_284 P) .nil .nil)))) (.node (ob_58 P) (.node (ob_74 P) (.node (ob_110 P) (.node (ob_178 P) (.node (ob_308 P) .nil .nil) .nil) (.node (ob_242 P) .nil .nil)) (.node (ob_144 P) (.node (ob_210 P) (.node (ob_340 P) .nil .nil) .nil) (.node (ob_276 P) .nil .nil))) (.node (ob_94 P) (.node (ob_128 P) (.node (ob_194 P) (.node (ob_324 P) .nil .nil) .nil) (.node (ob_260 P) .nil .nil)) (.node (ob_160 P) (.node (ob_226 P) .nil .nil) (.node (ob_292 P) .nil .nil))))) (.node (ob_43 P) (.node (ob_54 P) (.node (ob_70 P) (.node (ob_106 P) (.node (ob_172 P) (.node (ob_304 P) .nil .nil) .nil) (.node (ob_238 P) .nil .nil)) (.node (ob_140 P) (.node (ob_206 P) (.node (ob_336 P) .nil .nil) .nil) (.node (ob_272 P) .nil .nil))) (.node (ob_90 P) (.node (ob_124 P) (.node (ob_190 P) (.node (ob_320 P) .nil .nil) .nil) (.node (ob_254 P) .nil .nil)) (.node (ob_156 P) (.node (ob_222 P) .nil .nil) (.node (ob_288 P) .nil .nil)))) (.node (ob_62 P) (.node (ob_78 P) (.node (ob_114 P) (.node (ob_182 P) (.node (ob_312 P) .nil .nil) .nil) (.node (ob_246 P) .nil .nil)) (.node (ob_148 P) (.node (ob_214 P) (.node (ob_344 P) .nil .nil) .nil) (.node (ob_280 P) .nil .nil))) (.node (ob_98 P) (.node (ob_132 P) (.node (ob_198 P) (.node (ob_328 P) .nil .nil) .nil) (.node (ob_264 P) .nil .nil)) (.node (ob_164 P) (.node (ob_230 P) .nil .nil) (.node (ob_296 P) .nil .nil)))))) (.node (boot_o_5 P) (.node (boot_o_9 P) (.node (ob_52 P) (.node (ob_68 P) (.node (ob_104 P) (.node (ob_170 P) (.node (ob_302 P) .nil .nil) .nil) (.node (ob_236 P) .nil .nil)) (.node (ob_138 P) (.node (ob_204 P) (.node (ob_334 P) .nil .nil) .nil) (.node (ob_270 P) .nil .nil))) (.node (ob_88 P) (.node (ob_122 P) (.node (ob_188 P) (.node (ob_318 P) .nil .nil) .nil) (.node (ob_252 P) .nil .nil)) (.node (ob_154 P) (.node (ob_220 P) .nil .nil) (.node (ob_286 P) .nil .nil)))) (.node (ob_60 P) (.node (ob_76 P) (.node (ob_112 P) (.node (ob_180 P) (.node (ob_310 P) .nil .nil) .nil) (.node (ob_244 P) .nil .nil)) (.node (ob_146 P) (.node (ob_212 P) (.node (ob_342 P) .nil .nil) .nil) (.node (ob_278 P) .nil .nil))) (.node (ob_96 P) (.node (ob_130 P) (.node (ob_196 P) (.node (ob_326 P) .nil .nil) .nil) (.node (ob_262 P) .nil .nil)) (.node (ob_162 P) (.node (ob_228 P) .nil .nil) (.node (ob_294 P) .nil .nil))))) (.node (ob_45 P) (.node (ob_56 P) (.node (ob_72 P) (.node (ob_108 P) (.node (ob_176 P) (.node (ob_306 P) .nil .nil) .nil) (.node (ob_240 P) .nil .nil)) (.node (ob_142 P) (.node (ob_208 P) (.node (ob_338 P) .nil .nil) .nil) (.node (ob_274 P) .nil .nil))) (.node (ob_92 P) (.node (ob_126 P) (.node (ob_192 P) (.node (ob_322 P) .nil .nil) .nil) (.node (ob_256 P) .nil .nil)) (.node (ob_158 P) (.node (ob_224 P) .nil .nil) (.node (ob_290 P) .nil .nil)))) (.node (ob_64 P) (.node (ob_84 P) (.node (ob_116 P) (.node (ob_184 P) (.node (ob_314 P) .nil .nil) .nil) (.node (ob_248 P) .nil .nil)) (.node (ob_150 P) (.node (ob_216 P) .nil .nil) (.node (ob_282 P) .nil .nil))) (.node (ob_100 P) (.node (ob_134 P) (.node (ob_200 P) (.node (ob_330 P) .nil .nil) .nil) (.node (ob_266 P) .nil .nil)) (.node (ob_166 P) (.node (ob_232 P) .nil .nil) (.node (ob_298 P) .nil .nil))))))) (.node (boot_o_2 P) (.node (boot_o_4 P) (.node (boot_o_8 P) (.node (ob_51 P) (.node (ob_67 P) (.node (ob_103 P) (.node (ob_169 P) (.node (ob_301 P) .nil .nil) .nil) (.node (ob_235 P) .nil .nil)) (.node (ob_137 P) (.node (ob_203 P) (.node (ob_333 P) .nil .nil) .nil) (.node (ob_269 P) .nil .nil))) (.node (ob_87 P) (.node (ob_121 P) (.node (ob_187 P) (.node (ob_317 P) .nil .nil) .nil) (.node (ob_251 P) .nil .nil)) (.node (ob_153 P) (.node (ob_219 P) .nil .nil) (.node (ob_285 P) .nil .nil)))) (.node (ob_59 P) (.node (ob_75 P) (.node (ob_111 P) (.node (ob_179 P) (.node (ob_309 P) .nil .nil) .nil) (.node (ob_243 P) .nil .nil)) (.node (ob_145 P) (.node (ob_211 P) (.node (ob_341 P) .nil .nil) .nil) (.node (ob_277 P) .nil .nil))) (.node (ob_95 P) (.node (ob_129 P) (.node (ob_195 P) (.node (ob_325 P) .nil .nil) .nil) (.node (ob_261 P) .nil .nil)) (.node (ob_161 P) (.node (ob_227 P) .nil .nil) (.node (ob_293 P) .nil .nil))))) (.node (ob_259 P) (.node (ob_55 P) (.node (ob_71 P) (.node (ob_107 P) (.node (ob_175 P) (.node (ob_305 P) .nil .nil) .nil) (.node (ob_239 P) .nil .nil)) (.node (ob_141 P) (.node (ob_207 P) (.node (ob_337 P) .nil .nil) .nil) (.node (ob_273 P) .nil .nil))) (.node (ob_91 P) (.node (ob_125 P) (.node (ob_191 P) (.node (ob_321 P) .nil .nil) .nil) (.node (ob_255 P) .nil .nil)) (.node (ob_157 P) (.node (ob_223 P) .nil .nil) (.node (ob_289 P) .nil .nil)))) (.node (ob_63 P) (.node (ob_83 P) (.node (ob_115 P) (.node (ob_183 P) (.node (ob_313 P) .nil .nil) .nil) (.node (ob_247 P) .nil .nil)) (.node (ob_149 P) (.node (ob_215 P) .nil .nil) (.node (ob_281 P) .nil .nil))) (.node (ob_99 P) (.node (ob_133 P) (.node (ob_199 P) (.node (ob_329 P) .nil .nil) .nil) (.node (ob_265 P) .nil .nil)) (.node (ob_165 P) (.node (ob_231 P) .nil .nil) (.node (ob_297 P) .nil .nil)))))) (.node (boot_o_6 P) (.node (boot_o_10 P) (.node (ob_53 P) (.node (ob_69 P) (.node (ob_105 P) (.node (ob_171 P) (.node (ob_303 P) .nil .nil) .nil) (.node (ob_237 P) .nil .nil)) (.node (ob_139 P) (.node (ob_205 P) (.node (ob_335 P) .nil .nil) .nil) (.node (ob_271 P) .nil .nil))) (.node (ob_89 P) (.node (ob_123 P) (.node (ob_189 P) (.node (ob_319 P) .nil .nil) .nil) (.node (ob_253 P) .nil .nil)) (.node (ob_155 P) (.node (ob_221 P) .nil .nil) (.node (ob_287 P) .nil .nil)))) (.node (ob_61 P) (.node (ob_77 P) (.node (ob_113 P) (.node (ob_181 P) (.node (ob_311 P) .nil .nil) .nil) (.node (ob_245 P) .nil .nil)) (.node (ob_147 P) (.node (ob_213 P) (.node (ob_343 P) .nil .nil) .nil) (.node (ob_279 P) .nil .nil))) (.node (ob_97 P) (.node (ob_131 P) (.node (ob_197 P) (.node (ob_327 P) .nil .nil) .nil) (.node (ob_263 P) .nil .nil)) (.node (ob_163 P) (.node (ob_229 P) .nil .nil) (.node (ob_295 P) .nil .nil))))) (.node (ob_46 P) (.node (ob_57 P) (.node (ob_73 P) (.node (ob_109 P) (.node (ob_177 P) (.node (ob_307 P) .nil .nil) .nil) (.node (ob_241 P) .nil .nil)) (.node (ob_143 P) (.node (ob_209 P) (.node (ob_339 P) .nil .nil) .nil) (.node (ob_275 P) .nil .nil))) (.node (ob_93 P) (.node (ob_127 P) (.node (ob_193 P) (.node (ob_323 P) .nil .nil) .nil) (.node (ob_257 P) .nil .nil)) (.node (ob_159 P) (.node (ob_225 P) .nil .nil) (.node (ob_291 P) .nil .nil)))) (.node (ob_65 P) (.node (ob_85 P) (.node (ob_117 P) (.node (ob_185 P) (.node (ob_315 P) .nil .nil) .nil) (.node (ob_249 P) .nil .nil)) (.node (ob_151 P) (.node (ob_217 P) .nil .nil) (.node (ob_283 P) .nil .nil))) (.node (ob_101 P) (.node (ob_135 P) (.node (ob_201 P) (.node (ob_331 P) .nil .nil) .nil) (.node (ob_267 P) .nil .nil)) (.node (ob_167 P) (.node (ob_233 P) .nil .nil) (.node (ob_299 P) .nil .nil))))))))
noncomputable def tt_375 (P : Params) : BT :=
  (.node (boot_o_0 P) (.node (boot_o_1 P) (.node (ob_345 P) (.node (boot_o_7 P) (.node (ob_50 P) (.node (ob_66 P) (.node (ob_102 P) (.node (ob_168 P) (.node (ob_300 P) .nil .nil) .nil) (.node (ob_234 P) (.node (ob_366 P) .nil .nil) .nil)) (.node (ob_136 P) (.node (ob_202 P) (.node (ob_332 P) .nil .nil) .nil) (.node (ob_268 P) .nil .nil))) (.node (ob_86 P) (.node (ob_120 P) (.node (ob_186 P) (.node (ob_316 P) .nil .nil) .nil) (.node (ob_250 P) .nil .nil)) (.node (ob_152 P) (.node (ob_218 P) (.node (ob_350 P) .nil .nil) .nil) (.node (ob_284 P) .nil .nil)))) (.node (ob_58 P) (.node (ob_74 P) (.node (ob_110 P) (.node (ob_178 P) (.node (ob_308 P) .nil .nil) .nil) (.node (ob_242 P) (.node (ob_374 P) .nil .nil) .nil)) (.node (ob_144 P) (.node (ob_210 P) (.node (ob_340 P) .nil .nil) .nil) (.node (ob_276 P) .nil .nil))) (.node (ob_94 P) (.node (ob_128 P) (.node (ob_194 P) (.node (ob_324 P) .nil .nil) .nil) (.node (ob_260 P) .nil .nil)) (.node (ob_160 P) (.node (ob_226 P) (.node (ob_358 P) .nil .nil) .nil) (.node (ob_292 P) .nil .nil))))) (.node (ob_43 P) (.node (ob_54 P) (.node (ob_70 P) (.node (ob_106 P) (.node (ob_172 P) (.node (ob_304 P) .nil .nil) .nil) (.node (ob_238 P) (.node (ob_370 P) .nil .nil) .nil)) (.node (ob_140 P) (.node (ob_206 P) (.node (ob_336 P) .nil .nil) .nil) (.node (ob_272 P) .nil .nil))) (.node (ob_90 P) (.node (ob_124 P) (.node (ob_190 P) (.node (ob_320 P) .nil .nil) .nil) (.node (ob_254 P) .nil .nil)) (.node (ob_156 P) (.node (ob_222 P) (.node (ob_354 P) .nil .nil) .nil) (.node (ob_288 P) .nil .nil)))) (.node (ob_62 P) (.node (ob_78 P) (.node (ob_114 P) (.node (ob_182 P) (.node (ob_312 P) .nil .nil) .nil) (.node (ob_246 P) .nil .nil)) (.node (ob_148 P) (.node (ob_214 P) (.node (ob_344 P) .nil .nil) .nil) (.node (ob_280 P) .nil .nil))) (.node (ob_98 P) (.node (ob_132 P) (.node (ob_198 P) (.node (ob_328 P) .nil .nil) .nil) (.node (ob_264 P) .nil .nil)) (.node (ob_164 P) (.node (ob_230 P) (.node (ob_362 P) .nil .nil) .nil) (.node (ob_296 P) .nil .nil)))))) (.node (boot_o_5 P) (.node (boot_o_9 P) (.node (ob_52 P) (.node (ob_68 P) (.node (ob_104 P) (.node (ob_170 P) (.node (ob_302 P) .nil .nil) .nil) (.node (ob_236 P) (.node (ob_368 P) .nil .nil) .nil)) (.node (ob_138 P) (.node (ob_204 P) (.node (ob_334 P) .nil .nil) .nil) (.node (ob_270 P) .nil .nil))) (.node (ob_88 P) (.node (ob_122 P) (.node (ob_188 P) (.node (ob_318 P) .nil .nil) .nil) (.node (ob_252 P) .nil .nil)) (.node (ob_154 P) (.node (ob_220 P) (.node (ob_352 P) .nil .nil) .nil) (.node (ob_286 P) .nil .nil)))) (.node (ob_60 P) (.node (ob_76 P) (.node (ob_112 P) (.node (ob_180 P) (.node (ob_310 P) .nil .nil) .nil) (.node (ob_244 P) .nil .nil)) (.node (ob_146 P) (.node (ob_212 P) (.node (ob_342 P) .nil .nil) .nil) (.node (ob_278 P) .nil .nil))) (.node (ob_96 P) (.node (ob_130 P) (.node (ob_196 P) (.node (ob_326 P) .nil .nil) .nil) (.node (ob_262 P) .nil .nil)) (.node (ob_162 P) (.node (ob_228 P) (.node (ob_360 P) .nil .nil) .nil) (.node (ob_294 P) .nil .nil))))) (.node (ob_45 P) (.node (ob_56 P) (.node (ob_72 P) (.node (ob_108 P) (.node (ob_176 P) (.node (ob_306 P) .nil .nil) .nil) (.node (ob_240 P) (.node (ob_372 P) .nil .nil) .nil)) (.node (ob_142 P) (.node (ob_208 P) (.node (ob_338 P) .nil .nil) .nil) (.node (ob_274 P) .nil .nil))) (.node (ob_92 P) (.node (ob_126 P) (.node (ob_192 P) (.node (ob_322 P) .nil .nil) .nil) (.node (ob_256 P) .nil .nil)) (.node (ob_158 P) (.node (ob_224 P) (.node (ob_356 P) .nil .nil) .nil) (.node (ob_290 P) .nil .nil)))) (.node (ob_64 P) (.node (ob_84 P) (.node (ob_116 P) (.node (ob_184 P) (.node (ob_314 P) .nil .nil) .nil) (.node (ob_248 P) .nil .nil)) (.node (ob_150 P) (.node (ob_216 P) (.node (ob_348 P) .nil .nil) .nil) (.node (ob_282 P) .nil .nil))) (.node (ob_100 P) (.node (ob_134 P) (.node (ob_200 P) (.node (ob_330 P) .nil .nil) .nil) (.node (ob_266 P) .nil .nil)) (.node (ob_166 P) (.node (ob_232 P) (.node (ob_364 P) .nil .nil) .nil) (.node (ob_298 P) .nil .nil))))))) (.node (boot_o_2 P) (.node (boot_o_4 P) (.node (boot_o_8 P) (.node (ob_51 P) (.node (ob_67 P) (.node (ob_103 P) (.node (ob_169 P) (.node (ob_301 P) .nil .nil) .nil) (.node (ob_235 P) (.node (ob_367 P) .nil .nil) .nil)) (.node (ob_137 P) (.node (ob_203 P) (.node (ob_333 P) .nil .nil) .nil) (.node (ob_269 P) .nil .nil))) (.node (ob_87 P) (.node (ob_121 P) (.node (ob_187 P) (.node (ob_317 P) .nil .nil) .nil) (.node (ob_251 P) .nil .nil)) (.node (ob_153 P) (.node (ob_219 P) (.node (ob_351 P) .nil .nil) .nil) (.node (ob_285 P) .nil .nil)))) (.node (ob_59 P) (.node (ob_75 P) (.node (ob_111 P) (.node (ob_179 P) (.node (ob_309 P) .nil .nil) .nil) (.node (ob_243 P) (.node (ob_375 P) .nil .nil) .nil)) (.node (ob_145 P) (.node (ob_211 P) (.node (ob_341 P) .nil .nil) .nil) (.node (ob_277 P) .nil .nil))) (.node (ob_95 P) (.node (ob_129 P) (.node (ob_195 P) (.node (ob_325 P) .nil .nil) .nil) (.node (ob_261 P) .nil .nil)) (.node (ob_161 P) (.node (ob_227 P) (.node (ob_359 P) .nil .nil) .nil) (.node (ob_293 P) .nil .nil))))) (.node (ob_346 P) (.node (ob_55 P) (.node (ob_71 P) (.node (ob_107 P) (.node (ob_175 P) (.node (ob_305 P) .nil .nil) .nil) (.node (ob_239 P) (.node (ob_371 P) .nil .nil) .nil)) (.node (ob_141 P) (.node (ob_207 P) (.node (ob_337 P) .nil .nil) .nil) (.node (ob_273 P) .nil .nil))) (.node (ob_91 P) (.node (ob_125 P) (.node (ob_191 P) (.node (ob_321 P) .nil .nil) .nil) (.node (ob_255 P) .nil .nil)) (.node (ob_157 P) (.node (ob_223 P) (.node (ob_355 P) .nil .nil) .nil) (.node (ob_289 P) .nil .nil)))) (.node (ob_63 P) (.node (ob_83 P) (.node (ob_115 P) (.node (ob_183 P) (.node (ob_313 P) .nil .nil) .nil) (.node (ob_247 P) .nil .nil)) (.node (ob_149 P) (.node (ob_215 P) (.node (ob_347 P) .nil .nil) .nil) (.node (ob_281 P) .nil .nil))) (.node (ob_99 P) (.node (ob_133 P) (.node (ob_199 P) (.node (ob_329 P) .nil .nil) .nil) (.node (ob_265 P) .nil .nil)) (.node (ob_165 P) (.node (ob_231 P) (.node (ob_363 P) .nil .nil) .nil) (.node (ob_297 P) .nil .nil)))))) (.node (boot_o_6 P) (.node (boot_o_10 P) (.node (ob_53 P) (.node (ob_69 P) (.node (ob_105 P) (.node (ob_171 P) (.node (ob_303 P) .nil .nil) .nil) (.node (ob_237 P) (.node (ob_369 P) .nil .nil) .nil)) (.node (ob_139 P) (.node (ob_205 P) (.node (ob_335 P) .nil .nil) .nil) (.node (ob_271 P) .nil .nil))) (.node (ob_89 P) (.node (ob_123 P) (.node (ob_189 P) (.node (ob_319 P) .nil .nil) .nil) (.node (ob_253 P) .nil .nil)) (.node (ob_155 P) (.node (ob_221 P) (.node (ob_353 P) .nil .nil) .nil) (.node (ob_287 P) .nil .nil)))) (.node (ob_61 P) (.node (ob_77 P) (.node (ob_113 P) (.node (ob_181 P) (.node (ob_311 P) .nil .nil) .nil) (.node (ob_245 P) .nil .nil)) (.node (ob_147 P) (.node (ob_213 P) (.node (ob_343 P) .nil .nil) .nil) (.node (ob_279 P) .nil .nil))) (.node (ob_97 P) (.node (ob_131 P) (.node (ob_197 P) (.node (ob_327 P) .nil .nil) .nil) (.node (ob_263 P) .nil .nil)) (.node (ob_163 P) (.node (ob_229 P) (.node (ob_361 P) .nil .nil) .nil) (.node (ob_295 P) .nil .nil))))) (.node (ob_46 P) (.node (ob_57 P) (.node (ob_73 P) (.node (ob_109 P) (.node (ob_177 P) (.node (ob_307 P) .nil .nil) .nil) (.node (ob_241 P) (.node (ob_373 P) .nil .nil) .nil)) (.node (ob_143 P) (.node (ob_209 P) (.node (ob_339 P) .nil .nil) .nil) (.node (ob_275 P) .nil .nil))) (.node (ob_93 P) (.node (ob_127 P) (.node (ob_193 P) (.node (ob_323 P) .nil .nil) .nil) (.node (ob_257 P) .nil .nil)) (.node (ob_159 P) (.node (ob_225 P) (.node (ob_357 P) .nil .nil) .nil) (.node (ob_291 P) .nil .nil)))) (.node (ob_65 P) (.node (ob_85 P) (.node (ob_117 P) (.node (ob_185 P) (.node (ob_315 P) .nil .nil) .nil) (.node (ob_249 P) .nil .nil)) (.node (ob_151 P) (.node (ob_217 P) (.node (ob_349 P) .nil .nil) .nil) (.node (ob_283 P) .nil .nil))) (.node (ob_101 P) (.node (ob_135 P) (.node (ob_201 P) (.node (ob_331 P) .nil .nil) .nil) (.node (ob_267 P) .nil .nil)) (.node (ob_167 P) (.node (ob_233 P) (.node (ob_365 P) .nil .nil) .nil) (.node (ob_299 P) .nil .nil))))))))
noncomputable def keep : List Nat := [0, 1, 2, 3, 4, 5, 6, 7, 8, 9, 10, 11, 12, 13, 14, 15, 16, 17, 18, 19, 20, 21, 24, 25, 27, 28, 29, 30, 31, 32, 33, 34, 35, 36, 37, 38, 39, 40, 41, 42, 43, 44, 45, 46, 47, 48, 49, 50, 51, 52, 53, 54, 55, 56, 57, 58, 59, 60, 61, 62]
noncomputable def qv : Program := PySem.W.view pg keep
noncomputable def loose : List Str := [.ofString "FIRST_ROWS", .ofString "KID_SPANS", .ofString "new_param"]
noncomputable def envT : Env := { scope := pg.main.scope, locals := mainNs, globals := mainNs, cells := [], code := .ref 13, frame := some 14 }
noncomputable def heapA (P : Params) : Heap := { objs := ⟨[boot_o_0 P, boot_o_1 P, boot_o_2 P, boot_o_3 P, boot_o_4 P, boot_o_5 P, boot_o_6 P, boot_o_7 P, boot_o_8 P, boot_o_9 P, boot_o_10 P, ob_43 P, ob_44 P, ob_45 P, ob_46 P]⟩ }
noncomputable abbrev p0 : Pos := ⟨0, 0, 0, 0⟩
noncomputable abbrev cT : Code := .body (behindTheImports pg) envT
noncomputable def stA (w : World) (os : OsState) : Shared := ⟨heapA w.params, Array.mk [], {}, 187, os⟩
noncomputable abbrev kH : Hook := kHook K Ka (fun _ => by kernel_rfl)
noncomputable abbrev rw' : RowW := PySem.Challenge.rw_xm0497_01.row.toRowW
noncomputable abbrev Xt : Shared → Bool := fun s => xlAt qv [] s && recOk rw'.records s
noncomputable def S47 (w : World) (os : OsState) : SharedT := ⟨tt_47 w.params, 15, {}, Array.mk [], {}, 187, os⟩
noncomputable def S78 (w : World) (os : OsState) : SharedT := ⟨tt_78 w.params, 44, {}, Array.mk [], {}, 269, os⟩
noncomputable def S117 (w : World) (os : OsState) : SharedT := ⟨tt_117 w.params, 79, {}, Array.mk [], {}, 324, os⟩
noncomputable def S172 (w : World) (os : OsState) : SharedT := ⟨tt_172 w.params, 132, {}, Array.mk [], {}, 413, os⟩
noncomputable def S257 (w : World) (os : OsState) : SharedT := ⟨tt_257 w.params, 215, {}, Array.mk [], {}, 522, os⟩
noncomputable def S344 (w : World) (os : OsState) : SharedT := ⟨tt_344 w.params, 300, {}, Array.mk [], {}, 635, os⟩
noncomputable def S375 (w : World) (os : OsState) : SharedT := ⟨tt_375 w.params, 329, {}, Array.mk [], {}, 676, os⟩
noncomputable abbrev re0 : List Stmt := behindTheImports pg
noncomputable def sg0 : List Stmt := re0.take 24
noncomputable def re1 : List Stmt := re0.drop 24
theorem re0_eq : sg0 ++ re1 = re0 := List.take_append_drop 24 re0
noncomputable def sg1 : List Stmt := re1.take 1
noncomputable def re2 : List Stmt := re1.drop 1
theorem re1_eq : sg1 ++ re2 = re1 := List.take_append_drop 1 re1
noncomputable def sg2 : List Stmt := re2.take 6
noncomputable def re3 : List Stmt := re2.drop 6
theorem re2_eq : sg2 ++ re3 = re2 := List.take_append_drop 6 re2
noncomputable def sg3 : List Stmt := re3.take 14
noncomputable def re4 : List Stmt := re3.drop 14
theorem re3_eq : sg3 ++ re4 = re3 := List.take_append_drop 14 re3
noncomputable def sg4 : List Stmt := re4.take 13
noncomputable def re5 : List Stmt := re4.drop 13
theorem re4_eq : sg4 ++ re5 = re4 := List.take_append_drop 13 re4
noncomputable def sg5 : List Stmt := re5.take 5
noncomputable def re6 : List Stmt := re5.drop 5
theorem re5_eq : sg5 ++ re6 = re5 := List.take_append_drop 5 re5
theorem re6_nil : re6 = [] := by kernel_rfl
theorem top_pre (w : World) (os : OsState) : topGo treeTable pg w 11 (some (.ref 6)) 12 ⟨boot_heap w.params, Array.mk [], boot_drawn, boot_toks, os⟩ (topStub pg) = some (stA w os, ⟨denote treeTable cT, cT, p0, [topFrame p0]⟩) := by
  rw [PySem.W.Fast.te15667345088766844465, PySem.W.Fast.te11892475500146522536, PySem.W.Fast.te14364793385576792824]; kernel_rfl
theorem top_block (w : World) (os : OsState) : segRun treeTable pg w 11 (some (.ref 6)) 1 1 (stA w os) (blockOf (behindTheImports pg) envT cT p0 [topFrame p0]) = some (.next, (S47 w os).abs, cT, p0) := by
  rw [PySem.W.Fast.te14374325043358763698, PySem.W.Fast.te14364793385576792824]; kernel_rfl
theorem top_pc0_false (w : World) (os : OsState) : segRunT treeTable pg (w.withFollow "special-get-raises" false) 11 (some (.ref 6)) 1 401 (S47 (w.withFollow "special-get-raises" false) os) (piecesOf sg0 envT cT p0 [topFrame p0]) = some (.next, S78 (w.withFollow "special-get-raises" false) os, cT, ⟨24, 0, 24, 9⟩) := by
  rw [PySem.W.Fast.te10110043849684766642, PySem.W.Fast.te14364793385576792824]; kernel_rfl
theorem top_pc0_true (w : World) (os : OsState) : segRunT treeTable pg (w.withFollow "special-get-raises" true) 11 (some (.ref 6)) 1 401 (S47 (w.withFollow "special-get-raises" true) os) (piecesOf sg0 envT cT p0 [topFrame p0]) = some (.next, S78 (w.withFollow "special-get-raises" true) os, cT, ⟨24, 0, 24, 9⟩) := by
  rw [PySem.W.Fast.te10110043849684766642, PySem.W.Fast.te14364793385576792824]; kernel_rfl
theorem top_pc0 (w : World) (os : OsState) : segRunT treeTable pg w 11 (some (.ref 6)) 1 401 (S47 w os) (piecesOf sg0 envT cT p0 [topFrame p0]) = some (.next, S78 w os, cT, ⟨24, 0, 24, 9⟩) :=
  byRow2 "special-get-raises" (P := fun w => segRunT treeTable pg w 11 (some (.ref 6)) 1 401 (S47 w os) (piecesOf sg0 envT cT p0 [topFrame p0]) = some (.next, S78 w os, cT, ⟨24, 0, 24, 9⟩)) (fun w => top_pc0_false w os) (fun w => top_pc0_true w os) w
theorem top_pc1 (w : World) (os : OsState) : segRunT treeTable pg w 11 (some (.ref 6)) 1 297 (S78 w os) (piecesOf sg1 envT cT ⟨24, 0, 24, 9⟩ [topFrame p0]) = some (.next, S117 w os, cT, ⟨25, 0, 50, 16⟩) := by
  rw [PySem.W.Fast.te10110043849684766642, PySem.W.Fast.te14364793385576792824]; kernel_rfl
theorem top_pc2 (w : World) (os : OsState) : segRunT treeTable pg w 11 (some (.ref 6)) 1 398 (S117 w os) (piecesOf sg2 envT cT ⟨25, 0, 50, 16⟩ [topFrame p0]) = some (.next, S172 w os, cT, ⟨87, 0, 91, 56⟩) := by
  rw [PySem.W.Fast.te10110043849684766642, PySem.W.Fast.te14364793385576792824]; kernel_rfl
theorem top_pc3 (w : World) (os : OsState) : segRunT treeTable pg w 11 (some (.ref 6)) 1 395 (S172 w os) (piecesOf sg3 envT cT ⟨87, 0, 91, 56⟩ [topFrame p0]) = some (.next, S257 w os, cT, ⟨184, 0, 196, 12⟩) := by
  rw [PySem.W.Fast.te10110043849684766642, PySem.W.Fast.te14364793385576792824]; kernel_rfl
theorem top_pc4 (w : World) (os : OsState) : segRunT treeTable pg w 11 (some (.ref 6)) 1 394 (S257 w os) (piecesOf sg4 envT cT ⟨184, 0, 196, 12⟩ [topFrame p0]) = some (.next, S344 w os, cT, ⟨281, 0, 289, 41⟩) := by
  rw [PySem.W.Fast.te10110043849684766642, PySem.W.Fast.te14364793385576792824]; kernel_rfl
theorem top_pc5 (w : World) (os : OsState) : segRunT treeTable pg w 11 (some (.ref 6)) 1 146 (S344 w os) (piecesOf sg5 envT cT ⟨281, 0, 289, 41⟩ [topFrame p0]) = some (.next, S375 w os, cT, ⟨316, 0, 343, 87⟩) := by
  rw [PySem.W.Fast.te10110043849684766642, PySem.W.Fast.te14364793385576792824]; kernel_rfl
theorem top_fin (w : World) (os : OsState) : topRun treeTable pg w 11 (some (.ref 6)) 2 (S375 w os).abs ⟨doneF .next, cT, ⟨316, 0, 343, 87⟩, [topFrame p0]⟩ = some (S375 w os).abs := by
  rw [PySem.W.Fast.te14082659384304107361, PySem.W.Fast.te14364793385576792824]; kernel_rfl
theorem top_run (w : World) (os : OsState) : topRun treeTable pg w 11 (some (.ref 6)) (12 + (1 + (401 + (297 + (398 + (395 + (394 + (146 + 2)))))))) ⟨boot_heap w.params, Array.mk [], boot_drawn, boot_toks, os⟩ (topStub pg) = some (S375 w os).abs := by
  refine go_top (top_pre w os) (piece_block (top_block w os) ?_)
  show topRun _ _ _ _ _ _ _ (restOf re0 _ _ _ _) = _
  rw [← re0_eq]
  refine piece_app (segRun_of (top_pc0 w os)) ?_
  show topRun _ _ _ _ _ _ _ (restOf re1 _ _ _ _) = _
  rw [← re1_eq]
  refine piece_app (segRun_of (top_pc1 w os)) ?_
  show topRun _ _ _ _ _ _ _ (restOf re2 _ _ _ _) = _
  rw [← re2_eq]
  refine piece_app (segRun_of (top_pc2 w os)) ?_
  show topRun _ _ _ _ _ _ _ (restOf re3 _ _ _ _) = _
  rw [← re3_eq]
  refine piece_app (segRun_of (top_pc3 w os)) ?_
  show topRun _ _ _ _ _ _ _ (restOf re4 _ _ _ _) = _
  rw [← re4_eq]
  refine piece_app (segRun_of (top_pc4 w os)) ?_
  show topRun _ _ _ _ _ _ _ (restOf re5 _ _ _ _) = _
  rw [← re5_eq]
  refine piece_app (segRun_of (top_pc5 w os)) ?_
  rw [re6_nil]
  exact piece_nil (top_fin w os)
noncomputable def heapF (P : Params) : Heap := absHeap (tt_375 P) 329 {}
theorem top_size (w : World) : ((boot_heap w.params).isNs mainGlobals && (Array.mk ([] : List GenState)).size == 0, (boot_heap w.params).objs.size, (boot_heap w.params).nsMap mainGlobals "__annotations__") = (true, 11, some (.ref 6)) := by
  rw [PySem.W.Fast.te8920871248978507458]; kernel_rfl
theorem top_look1 (w : World) (os : OsState) : (staticsOk (importedModules pg.main.body) (boot_heap w.params) (heapF w.params) && namesBound pg (heapF w.params) && gensDone ⟨heapF w.params, Array.mk [], {}, 676, os⟩ && laidKept (boot_heap w.params) (heapF w.params)) = true := by
  rw [PySem.W.Fast.te5923862056798008813]; kernel_rfl
theorem top_look2 (w : World) (os : OsState) : openSeen qv loose (importedModules pg.main.body) Xt true ⟨heapF w.params, Array.mk [], {}, 676, os⟩ = openGood qv loose := by
  rw [PySem.W.Fast.te4187177175401517315, PySem.W.Fast.te5923862056798008813]; kernel_rfl
theorem top_look3 (w : World) (os : OsState) : kH.obs ⟨heapF w.params, Array.mk [], {}, 676, os⟩ = kH.val w := by
  kernel_rfl
theorem top_open : ∀ w : World, (fencedOpening treeTable pg w 4176).map (fun s => (s.heap, s.gens, s.drawn, s.toks)) = some (boot_heap w.params, Array.mk [], boot_drawn, boot_toks) :=
  boot_open (by kernel_rfl) (by kernel_rfl) (fun s => by kernel_rfl)
theorem left : LeftO pg qv loose Xt kH.obs kH.val 4176 :=
  LeftO.of_pieces (H₁ := heapF) top_open top_size top_run (by kernel_rfl) fun w => funext fun os => Prod.ext (top_look1 w os) (Prod.ext (top_look2 w os) (top_look3 w os))
theorem said : PySem.Challenge.rw_xm0497_01.wellSaid = true := by
  rw [PySem.W.Fast.te9446332074065402090]
  unfold PySem.W.Fast.tw9446332074065402090
  repeat' with_reducible refine look_both ?_ ?_
  all_goals as_aux_lemma => kernel_rfl
theorem opened : (chainsOk qv && opensWell pg && (frees rw' && rw'.within.isEmpty)) = true := by decide +kernel
theorem head {d : DefRec} {kwd : List (Str × PySem.Expr)} (hdef : defOf qv "law" = some (d, kwd)) (hp : pg.theDef "law" = some (d.params, d.body, d.scope)) (hk : kwWritten? d.params.kwonlyargs d.params.kw_defaults = some kwd)
    (h : WalkO qv loose (XL qv []) kH.says rw' d kwd fun f vs => PySem.call f vs) : PySem.Challenge.rw_xm0497_01.Holds := by
  refine holds_law said fun said' => ?_
  refine holds_open (q := qv) (loose := loose) (Xt := Xt) (XP := XL qv []) (Yf := kH.obs) (Ya := kH.val) (YP := kH.says) (N := 4176) left kH.of kH.keeps (fun s e => xl_of s (Bool.and_eq_true_iff.mp e).1) XL.keeps hdef hp hk (fun s e => recFacts_of (Bool.and_eq_true_iff.mp e).2) (by rfl) said' opened ⟨rfl, rfl, rfl, rfl, rfl, by decide +kernel⟩ ?hw h
  case hw => w_witness2
structure Bs (X : Cx) (mg mb : Str → Option Value) : Prop where
  F : (K X.w.params).In X.B
  g : X.B.Ns mainGlobals mg
  b : X.B.Ns builtinsNs mb
  bt : ∀ x : Str, x ≠ "__name__" → mb x = bootBuiltins x
theorem Bs.gd {X : Cx} {mg mb : Str → Option Value} (b : Bs X mg mb) : Gd X mg mb := ⟨b.g, b.b⟩
theorem comp_all {α : Type} (l : List α) (f : α → Int) : List.map (fun p => V.int (f p)) (List.filter (fun x => true) l) = vi (l.map f) := by
  rw [List.filter_eq_self.mpr (fun _ _ => rfl)]; simp [vi, Function.comp_def]
theorem comp_some {α : Type} (l : List α) (f : α → Int) (p : α → Bool) : List.map (fun p => V.int (f p)) (List.filter p l) = vi ((l.filter p).map f) := by
  simp [vi, Function.comp_def]
inductive Row where
  | key (s : Str)
  | bool (a b : Int)
  | union (l : List Int)
  | inter (l : List Int)
  | obj (ps : List (Str × Int)) (c k i j : List Int)
  | ref (d : Int) (l : List Int)
  | param (p : Int)
  | array (t : Int)
  | tuple (l : List (Int × Int)) (k : Int)
  | sig (b : List Int) (ps : List (Str × Int)) (r : Int) (q : List Int)
  | keyof (t : Int)
  | index (a b : Int)
  | cond (a b c d : Int) (bs : List Int) (k : Int)
  | mapped (p a b c m k : Int)
  | tpl (l : List Int)
  | alias (d : Int) (l : List Int)

noncomputable abbrev propV (p : Str × Int) : V := .tup [.str p.1, .int p.2, .int 0, .int 0]
noncomputable abbrev parV (p : Str × Int) : V := .tup [.str p.1, .int p.2, .int 0]
noncomputable abbrev elemV (p : Int × Int) : V := .tup [.int p.1, .int p.2]
noncomputable def Row.vs : Row → List V
  | .key s => [.int 1, .str s]
  | .bool a b => [.int 2, .int a, .int b]
  | .union l => [.int 6, .tup (vi l)]
  | .inter l => [.int 7, .tup (vi l)]
  | .obj ps c k i j => [.int 8, .tup (ps.map propV), .tup (vi c), .tup (vi k), .tup (vi i), .tup (vi j), .int 0]
  | .ref d l => [.int 9, .int d, .tup (vi l)]
  | .param p => [.int 10, .int p]
  | .array t => [.int 11, .int t, .int 0]
  | .tuple l k => [.int 12, .tup (l.map elemV), .int k]
  | .sig b ps r q => [.int 13, .tup (vi b), .tup (ps.map parV), .int r, .tup (vi q), .int 0]
  | .keyof t => [.int 14, .int t]
  | .index a b => [.int 15, .int a, .int b]
  | .cond a b c d bs k => [.int 16, .int a, .int b, .int c, .int d, .tup (vi bs), .int k]
  | .mapped p a b c m k => [.int 17, .int p, .int a, .int b, .int c, .int m, .int k]
  | .tpl l => [.int 18, .tup [.str "a", .str "", .str "b"], .tup (vi l)]
  | .alias d l => [.int 19, .int d, .tup (vi l)]
noncomputable def Row.v (r : Row) : V := .tup r.vs
noncomputable def Row.kids : Row → List Int
  | .union l | .inter l | .ref _ l | .alias _ l | .tpl l => l
  | .obj ps c k i j => ps.map (·.2) ++ (c ++ k) ++ i.take 1 ++ j.take 1
  | .array t | .keyof t => [t]
  | .tuple l _ => l.map (·.1)
  | .sig _ ps r q => ps.map (·.2) ++ [r] ++ (q.drop 1).take 1
  | .index a b => [a, b]
  | .cond a b c d _ _ => [a, b, c, d]
  | .mapped _ a b c _ _ => [a, b, c]
  | .key _ | .bool _ _ | .param _ => []
noncomputable def Row.binds : Row → List Int
  | .sig b _ _ _ => b
  | .cond _ _ _ _ b _ => b
  | .mapped p _ _ _ _ _ => [p]
  | _ => []
noncomputable def Row.Small : Row → Prop
  | .union l | .inter l | .ref _ l | .alias _ l | .tpl l => l.length ≤ 100
  | .obj ps c k i j => ps.length ≤ 100 ∧ c.length ≤ 100 ∧ k.length ≤ 100 ∧ i.length ≤ 100 ∧ j.length ≤ 100
  | .tuple l _ => l.length ≤ 100
  | .sig b ps r q => b.length ≤ 100 ∧ ps.length ≤ 100 ∧ (q = [] ∨ ∃ x y z, q = [x, y, z])
  | .cond _ _ _ _ b _ => b.length ≤ 100
  | _ => True

structure Ad where
  (w tab d rows index decls bounds defaults names origins renamed pool params kids binds : Addr)
noncomputable def nsl (a : Ad) : List (Str × V) := [("rows", .obj a.rows), ("index", .obj a.index), ("decls", .obj a.decls), ("bounds", .obj a.bounds), ("defaults", .obj a.defaults), ("names", .obj a.names),
  ("origins", .obj a.origins), ("renamed", .obj a.renamed), ("shaping", .int 0), ("putting", .int 0)]
structure Tb (st : St) (a : Ad) (rows : List Row) (bnd dfl : List Int) : Prop where
  tab : At a.tab (.inst 74 a.d) st
  ns : At a.d (.ns (nsl a)) st
  rows : At a.rows (.list (rows.map Row.v)) st
  bnd : At a.bounds (.list (vi bnd)) st
  dfl : At a.defaults (.list (vi dfl)) st
theorem Tb.tail {st : St} {a : Ad} {rows : List Row} {bnd dfl : List Int} {p : Addr × AObj} (t : Tb st a rows bnd dfl) : Tb (p :: st) a rows bnd dfl :=
  ⟨.tail t.tab, .tail t.ns, .tail t.rows, .tail t.bnd, .tail t.dfl⟩
noncomputable def inner (bnd dfl : List Int) (r : Row) : List Int := r.kids ++ r.binds.flatMap fun p => [bnd[p.toNat]?.getD 0, dfl[p.toNat]?.getD 0]

structure Vt (rows : List Row) (bnd dfl : List Int) : Prop where
  small : ∀ r ∈ rows, r.Small
  blen : ∀ r ∈ rows, r.binds.length ≤ 100
  bin : ∀ r ∈ rows, ∀ p ∈ r.binds, 0 ≤ p ∧ p < bnd.length
  dl : dfl.length = bnd.length
  bl : bnd.length ≤ 100
  bs : bnd.length < 64
  kl : ∀ r ∈ rows, r.kids.length ≤ 400
  rl : rows.length < 64
  inr : ∀ r ∈ rows, ∀ k ∈ inner bnd dfl r, k < rows.length
  pin : ∀ p, Row.param p ∈ rows → 0 ≤ p ∧ p < bnd.length
  pinj : ∀ (i j : Nat) p, rows[i]? = some (.param p) → rows[j]? = some (.param p) → i = j
inductive Reach (rows : List Row) (bnd dfl : List Int) (t : Int) : Int → Prop
  | refl : Reach rows bnd dfl t t
  | step {x k : Int} {r : Row} : Reach rows bnd dfl t x → 0 ≤ x → rows[x.toNat]? = some r → k ∈ inner bnd dfl r → 0 ≤ k → Reach rows bnd dfl t k
theorem flat2 {α : Type} (f g : α → Int) : ∀ l : List α, (l.flatMap fun p => [f p, g p]).length = 2 * l.length
  | [] => rfl
  | a :: l => by rw [List.flatMap_cons, List.length_append, flat2 f g l]; simp; lia
theorem inner_len {rows : List Row} {bnd dfl : List Int} (v : Vt rows bnd dfl) {r : Row} (hr : r ∈ rows) : (inner bnd dfl r).length ≤ 600 := by
  have h1 := v.kl r hr
  have h2 := v.blen r hr
  unfold inner; rw [List.length_append, flat2]; lia
theorem Vt.at {rows : List Row} {bnd dfl : List Int} (v : Vt rows bnd dfl) {x : Int} (h0 : 0 ≤ x) (h1 : x < rows.length) : ∃ r, rows[x.toNat]? = some r ∧ r ∈ rows := by
  have : x.toNat < rows.length := by lia
  exact ⟨rows[x.toNat], by simp [this], List.getElem_mem _⟩

noncomputable def Row.tag : Row → Int
  | .key _ => 1 | .bool _ _ => 2 | .union _ => 6 | .inter _ => 7 | .obj .. => 8 | .ref .. => 9 | .param _ => 10 | .array _ => 11 | .tuple .. => 12 | .sig .. => 13
  | .keyof _ => 14 | .index .. => 15 | .cond .. => 16 | .mapped .. => 17 | .tpl _ => 18 | .alias .. => 19
theorem Row.tag_at (r : Row) : r.vs[(0 : Int).toNat]? = some (.int r.tag) := by cases r <;> rfl
theorem Row.tag_param {r : Row} (h : (r.tag == 10) = true) : ∃ p, r = .param p := by
  cases r <;> first | exact ⟨_, rfl⟩ | (exfalso; revert h; simp only [Row.tag]; decide)
theorem Row.tag_other {r : Row} (h : (r.tag == 10) = false) (p : Int) : r ≠ .param p := by rintro rfl; revert h; simp only [Row.tag]; decide
noncomputable def FM (r : Row) (ks : List Int) (g : Int → Option (List Int)) (p : Int) : Prop :=
  (∃ q, r = .param q ∧ p = q) ∨ ((∀ q, r ≠ .param q) ∧ p ∉ r.binds ∧ ∃ k ∈ ks, ∃ T, g k = some T ∧ p ∈ T)
inductive Free (rows : List Row) (bnd dfl : List Int) : Int → Int → Prop
  | param {x p : Int} : 0 ≤ x → rows[x.toNat]? = some (.param p) → Free rows bnd dfl x p
  | step {x k p : Int} {r : Row} : 0 ≤ x → rows[x.toNat]? = some r → p ∉ r.binds → k ∈ inner bnd dfl r → 0 ≤ k → Free rows bnd dfl k p → Free rows bnd dfl x p
theorem warm (w : World) : (PySem.Challenge.rw_xm0497_01.Holds → True) ∧ K = K := by k_fill; exact ⟨fun _ => trivial, rfl⟩
-- lines of our own for the walk
local macro_rules | `(tactic| walk_at "m sto") => `(tactic| first | exact .inl rfl | exact .inr ⟨rfl, _, rfl⟩)
local macro_rules | `(tactic| walk_at "m glob") => `(tactic| ((with_reducible refine' WE_glob (Bs.gd (by assumption)) (mg_of (Bs.F (by assumption)) (Bs.g (by assumption)) ?m3) ?m4 ?_ ?m5 ?m6); (case m3 => k_is); (case m4 => (first | exact .int _ _ | with_reducible assumption)); (case m5 => rfl); (case m6 => decide)))
local macro_rules | `(tactic| walk_at "m name") => `(tactic| first
  | ((with_reducible refine' WE_name ?m1 ?_ ?m2); (case m1 => exact rfl); (case m2 => decide))
  | walk_at "m glob")
local macro_rules | `(tactic| walk_at "m callee") => `(tactic| first
  | ((with_reducible refine' WE_call (Callee.glob (Bs.gd (by assumption)) (mg_of (Bs.F (by assumption)) (Bs.g (by assumption)) ?m3) ?m5 ?m6) (Kp.frag (Bs.F (by assumption)) ?m4) ?_ ?m7 ?m8); (case m3 => k_is); (case m4 => k_is); (case m5 => rfl); (case m6 => decide); (case m7 => rfl); (case m8 => rfl))
  | ((with_reducible refine' WE_call (Callee.blt (Bs.gd (by assumption)) (mg_none_of (Bs.F (by assumption)) (Bs.g (by assumption)) ?m3) ((Bs.bt (by assumption) _ ?m5).trans ?m4) ?m9 ?m10) ?m6 ?_ ?m7 ?m8); (case m3 => k_is); (case m4 => boot_fast); (case m5 => decide); (case m6 => (first | exact Kp.builtin _ | exact Kp.type _)); (case m7 => rfl); (case m8 => rfl); (case m9 => rfl); (case m10 => decide)))
local macro_rules | `(tactic| walk_at "m meth") => `(tactic| ((with_reducible refine' WE_meth ?_ _ ?m1 ?m2); (case m1 => rfl); (case m2 => rfl)))
local macro_rules | `(tactic| walk_at "m WE") => `(tactic| first
  | ((with_reducible show WE _ _ _ _ _ (.Name _ _) _); walk_at "m name")
  | ((with_reducible show WE _ _ _ _ _ (.Constant _ _ _) _); with_reducible first | refine' WE_int ?_ | refine' WE_str ?_ | refine' WE_none ?_ | refine' WE_bool ?_)
  | ((with_reducible show WE _ _ _ _ _ (.Subscript _ _ _) _); first | ((with_reducible refine' WE_sliceT ?_ ?m1); (case m1 => (intro _ _; rfl))) | ((with_reducible refine' WE_sliceL ?_ ?m1); (case m1 => (intro _ _; rfl))) | with_reducible refine' WE_sub ?_)
  | ((with_reducible show WE _ _ _ _ _ (.Call (.Name _ _) _ _ _) _); walk_at "m callee")
  | ((with_reducible show WE _ _ _ _ _ (.Call (.Attribute _ _ _) _ _ _) _); walk_at "m meth")
  | ((with_reducible show WE _ _ _ _ _ (.Compare _ _ _ _) _); (with_reducible refine' WE_cmp ?_ ?m1); (case m1 => with_unfolding_all rfl))
  | ((with_reducible refine' WE_attr ?_ ?m1); (case m1 => with_unfolding_all rfl))
  | with_reducible first | refine' WE_tuple ?_ | refine' WE_bin ?_ | refine' WE_un ?_ | refine' WE_ifexp ?_)
local macro_rules | `(tactic| walk_at "m WS") => `(tactic| first
  | ((with_reducible refine' WS_assign ?_ ?m1 ?m2); (case m1 => walk_at "m sto"); (case m2 => rfl))
  | with_reducible refine' WS_ret ?_ | ((with_reducible refine' WS_expr ?_ ?m1 ?m2); (case m1 => rfl); (case m2 => rfl)) | with_reducible refine' WS_if ?_
  | ((with_reducible refine' WS_setitem ?_ ?m1); (case m1 => rfl)) | ((with_reducible refine' WS_setattr ?_ ?m1); (case m1 => rfl))
  | ((with_reducible refine' WS_aug ?m2 ?_ ?m1); (case m1 => walk_at "m sto"); (case m2 => exact rfl))
  | with_reducible refine' WS_del ?_ | with_reducible refine' WS_break ?_ | with_reducible refine' WS_pass ?_)
local macro_rules | `(tactic| walk_at "m WT") => `(tactic| first
  | ((with_reducible refine' WT_cmp ?_ ?m1); (case m1 => with_unfolding_all rfl)) | with_reducible refine' WT_not ?_ | with_reducible refine' WT_bool ?_ | ((with_reducible refine' WT_value ?_ ?m1); (case m1 => rfl)))
local macro_rules | `(tactic| walk_at "m item") => `(tactic| ((with_reducible refine' op_itemT ?m1 ?m2 ?m3 ?_ ?m4); (case m1 => decide); (case m2 => decide); (case m3 => exact rfl); (case m4 => (intro _ _; with_unfolding_all rfl))))
local macro_rules | `(tactic| walk_at "m op") => `(tactic| first
  | with_reducible first | refine op_add ?_ | refine op_sub ?_ | refine op_neg ?_ | refine op_eq ?_ | refine op_ne ?_ | refine op_lt ?_ | refine op_gt ?_ | refine op_ge ?_ | refine op_iadd ?_ | refine op_neb ?_
  | walk_at "m item")
local macro_rules | `(tactic| walk_at "m fl") => `(tactic| with_reducible first
  | refine fl_next ?_ | refine fl_ret ?_ | refine fl_brk ?_ | refine t_bo ?_
  | ((first | refine br_f ?m1 ?_ | refine wa_f ?m1 ?_ | refine wo_f ?m1 ?_ | refine ie_f ?m1 ?_); (case m1 => with_unfolding_all decide))
  | ((first | refine br_t ?m1 ?_ | refine wa_t ?m1 ?_ | refine wo_t ?m1 ?_ | refine ie_t ?m1 ?_); (case m1 => with_unfolding_all decide)))
local macro_rules | `(tactic| walk_at "m fx") => `(tactic| with_reducible first
  | refine ⟨_, rfl, ?_⟩
  | (refine And.intro (fun e => absurd e ?m1) (fun _ => ?_); (case m1 => with_unfolding_all decide))
  | (refine And.intro (fun _ => ?_) (fun e => absurd e ?m1); (case m1 => with_unfolding_all decide))
  | (refine And.intro ?m1 ?_; (case m1 => (simp only [List.length_cons, List.length_nil]; omega))))
local macro_rules | `(tactic| walk_at "m step") => `(tactic| first
  | ((with_reducible show WE _ _ _ _ _ _ _); walk_at "m WE")
  | ((with_reducible show WB _ _ _ _ _ _ _); with_reducible first | refine' WB_cons ?_ | refine' WB_nil ?_)
  | ((with_reducible show WS _ _ _ _ _ _ _); walk_at "m WS")
  | ((with_reducible show WT _ _ _ _ _ _ _); walk_at "m WT")
  | ((with_reducible show WL _ _ _ _ _ _ _); first | ((with_reducible refine' WL_cons ?_ ?m1); (case m1 => rfl)) | with_reducible refine' WL_nil ?_)
  | ((with_reducible show Op _ _ _ _ _ _); walk_at "m op")
  | ((with_reducible show WA _ _ _ _ _ _ _ _); with_reducible first | refine' WA_and_cons ?_ | refine' WA_or_cons ?_ | refine' WA_and_nil ?_ | refine' WA_or_nil ?_)
  | ((with_reducible show WP _ _ _ _ _ _ _); with_reducible first | refine' WP_none ?_ | refine' WP_some ?_)
  | ((with_reducible show OpB _ _ _ _ _ _); with_reducible refine t_bool ?_)
  | walk_at "m fl"
  | ((with_reducible show _ ∧ _); walk_at "m fx")
  | ((with_reducible show Exists _); walk_at "m fx"))
local macro_rules | `(tactic| walk_at "m go") => `(tactic| repeat walk_at "m step")
local macro_rules | `(tactic| walk_at "m append") => `(tactic| refine ⟨_, Meth.list (by first | exact .head | exact .tail .head | exact .tail (.tail .head)) F.plainAttrs_list F.slot_list_append F.type_list_append, Kp.builtin _, ?_⟩)
local macro_rules | `(tactic| walk_at "m at") => `(tactic| repeat (first | exact .head | refine .tail ?_))
section
variable {X : Cx} {mg mb : Str → Option Value} (b : Bs X mg mb) {n : Nat} {st : St} {Q : V → St → Prop}
include b
theorem call_index_kids (l : List Int) (hl : l.length ≤ 100) (h : Q (.lst (vi (l.take 1))) st) : CallC X (n + 1) st (.ref 121) [.tup (vi l)] Q := by
  refine CallC_def b.F (by k_is) (by k_is) .one (fun L => ?_)
  dsimp only
  walk_at "m go"
  refine op_eqt (b := []) ?_
  walk_at "m go"
  refine ⟨fun hl => ?_, fun hl => ?_⟩
  · refine WE_listF ?_
    walk_at "m go"
    have : l = [] := by simpa using hl
    subst this
    exact h
  · refine WE_listF ?_
    walk_at "m go"
    cases l with
    | nil => cases hl
    | cons a l =>
      walk_at "m go"
      exact h
theorem call_sig_kids (bs : List Int) (ps : List (Str × Int)) (r : Int) (q : List Int) (hs : (Row.sig bs ps r q).Small) (h : ∀ D, Q (.obj D) ((D, .list (vi (Row.sig bs ps r q).kids)) :: st)) :
    CallC X (n + 1) st (.ref 126) [.tup (Row.sig bs ps r q).vs] Q := by
  refine CallC_def b.F (by k_is) (by k_is) .one (fun L => ?_)
  dsimp only
  walk_at "m go"
  refine' WS_compPM (α := (Str × Int)) ?_ ?c1 ?c8 ?c9 ?c2 ?c3 ?c4 ?c5 ?c6 ?c7
  case c2 => exact rfl
  case c1 => first | exact .nil | exact .cons rfl rfl rfl .nil | exact .cons rfl rfl rfl (.cons rfl rfl rfl .nil) | exact .cons rfl rfl rfl (.cons rfl rfl rfl (.cons rfl rfl rfl .nil))
  case c3 => decide
  case c4 => rfl
  case c5 => decide
  case c6 => rfl
  case c7 => (intro _; rfl)
  case c8 => walk_at "m sto"
  case c9 => rfl
  walk_at "m go"
  refine ⟨ps, parV, fun p => .int p.2, fun _ => true, .tup _, by have := hs.2.1; lia, fun C a ha => ?_, fun D => ?_⟩
  · show WE _ _ _ _ _ _ _
    walk_at "m go"
    exact ⟨rfl, rfl, rfl⟩
  · walk_at "m go"
    have e : List.map (fun p => V.int p.snd) (List.filter (fun x => true) ps) = vi (ps.map (·.2)) := comp_all ps (·.2)
    rw [e]
    have hl := hs.2.1
    walk_at "m append"
    walk_at "m go"
    refine c_append .head (by simp [vi]; lia) ?_
    walk_at "m go"
    refine op_net (b := []) ?_
    walk_at "m go"
    refine ⟨fun hc => ?_, fun hc => ?_⟩
    · rcases hs.2.2 with rfl | ⟨x, y, z, rfl⟩
      · cases hc
      · walk_at "m go"
        walk_at "m append"
        walk_at "m go"
        refine c_append .head (by simp [vi]; lia) ?_
        walk_at "m go"
        have := h D
        simpa [Row.kids, vi] using this
    · have hq : q = [] := by simpa using hc
      subst hq
      walk_at "m go"
      have := h D
      simpa [Row.kids, vi] using this

theorem call_object_kids (ps : List (Str × Int)) (c k i j : List Int) (hs : (Row.obj ps c k i j).Small) (h : ∀ D, Q (.obj D) ((D, .list (vi (Row.obj ps c k i j).kids)) :: st)) :
    CallC X (n + 2) st (.ref 131) [.tup (Row.obj ps c k i j).vs] Q := by
  obtain ⟨h1, h2, h3, h4, h5⟩ := hs
  refine CallC.less (CallC_def b.F (by k_is) (by k_is) .one (fun L => ?_))
  walk_at "m go"
  refine' WS_compPM (α := (Str × Int)) ?_ ?c1 ?c8 ?c9 ?c2 ?c3 ?c4 ?c5 ?c6 ?c7
  case c2 => exact rfl
  case c1 => first | exact .nil | exact .cons rfl rfl rfl .nil | exact .cons rfl rfl rfl (.cons rfl rfl rfl .nil) | exact .cons rfl rfl rfl (.cons rfl rfl rfl (.cons rfl rfl rfl .nil))
  case c3 => decide
  case c4 => rfl
  case c5 => decide
  case c6 => rfl
  case c7 => (intro _; rfl)
  case c8 => walk_at "m sto"
  case c9 => rfl
  walk_at "m go"
  refine ⟨ps, propV, fun p => .int p.2, fun _ => true, .tup _, by lia, fun C a ha => ?_, fun D => ?_⟩
  · show WE _ _ _ _ _ _ _
    walk_at "m go"
    exact ⟨rfl, rfl, rfl⟩
  · walk_at "m go"
    have e : List.map (fun p => V.int p.snd) (List.filter (fun x => true) ps) = vi (ps.map (·.2)) := comp_all ps (·.2)
    rw [e]
    refine WS_for ?_ (.inl rfl)
    walk_at "m go"
    refine op_addT (by simp [vi]; lia) ?_
    refine ⟨_, .tup _, fun done todo f₁ st₁ => f₁ = fset "out" (.obj D) [("row", .tup (Row.obj ps c k i j).vs)] ∧ st₁ = (D, .list (vi (ps.map (·.2)) ++ done)) :: st ∧ done.length ≤ 200, ⟨_, .refl _, rfl, by simp, by simp⟩, ?_, ?_⟩
    · rintro done y todo f₁ st₂ he ⟨rfl, rfl, hd⟩
      have hlen : done.length + 1 ≤ 200 := by
        have := congrArg List.length he
        simp [vi] at this; lia
      walk_at "m go"
      walk_at "m append"
      walk_at "m go"
      refine c_append .head (by simp [vi]; lia) ?_
      walk_at "m go"
      refine ⟨_, .cons rfl (.cons rfl (.nil _)), rfl, by simp, by simp; lia⟩
    · rintro f₁ st₂ ⟨rfl, rfl, -⟩
      walk_at "m go"
      refine (call_index_kids b i h4 ?_).call
      walk_at "m go"
      refine op_addLF (.obj .head) (.lst _) (by simp [vi]; lia) ?_
      walk_at "m go"
      refine (call_index_kids b j h5 ?_).call
      refine op_addL (.lst _) (.lst _) (by simp [vi]; lia) fun D₂ => ?_
      walk_at "m go"
      refine ⟨_, .cons _ (.skip _ (.refl _)), ?_⟩
      have := h D₂
      simpa [Row.kids, vi] using this
end
noncomputable def spans : List (Int × V) := [(11, .tup [.int 1, .int 2]), (14, .tup [.int 1, .int 2]), (15, .tup [.int 1, .int 3]), (16, .tup [.int 1, .int 5]), (17, .tup [.int 2, .int 5])]
section
variable {X : Cx} {mg mb : Str → Option Value} (b : Bs X mg mb) {n : Nat} {st : St} {Q : V → St → Prop}
include b
theorem tupOf {a : Addr} {items : Array Value} {m : Nat} (h : (K X.w.params).lookup a = some ⟨.type "tuple", none, .seq items m, #[]⟩) {l : List V} (r : RepL X X.B.get? items.toList l) : RepV X X.B.get? (.ref a) (.tup l) := .tup (b.F _ _ h) r
theorem dctOf {a : Addr} {es : Array DictEntry} {m : Nat} (h : (K X.w.params).lookup a = some ⟨.type "dict", none, .dict es m, #[]⟩) {kvs : List (Int × Value)} {l : List (Int × V)}
    (h1 : KeysOf (intKind X.prog X.w) es) (h2 : Pairs (intKind X.prog X.w) es.toList kvs) (h3 : (kvs.map (·.1)).Nodup) (r : RepD X X.B.get? kvs l) (lo : (a == sysModules) = false) : RepV X X.B.get? (.ref a) (.dct l) :=
  .dct (b.F _ _ h) ⟨es, m, ⟨rfl, rfl, rfl⟩, rfl, h1, h2, h3⟩ r lo
theorem rep_spans : RepV X X.B.get? (.ref 38) (.dct spans) := by
  refine dctOf b (by k_is) ?_ (kvs := [(11, .ref 39), (14, .ref 40), (15, .ref 41), (16, .ref 42), (17, .ref 43)]) ?_ (by decide) ?_ (by decide)
  · intro e he
    simp at he
    rcases he with rfl | rfl | rfl | rfl | rfl <;> exact ⟨_, intKind_is _ _ _ _, by rfl⟩
  · exact .cons (intKind_is _ _ _ _) rfl (.cons (intKind_is _ _ _ _) rfl (.cons (intKind_is _ _ _ _) rfl (.cons (intKind_is _ _ _ _) rfl (.cons (intKind_is _ _ _ _) rfl .nil))))
  · refine .cons (tupOf b (by k_is) ?_) (.cons (tupOf b (by k_is) ?_) (.cons (tupOf b (by k_is) ?_) (.cons (tupOf b (by k_is) ?_) (.cons (tupOf b (by k_is) ?_) .nil))))
    all_goals exact .cons (.int _ _) (.cons (.int _ _) .nil)

theorem call_row_binds (r : Row) (h : Q (.tup (vi r.binds)) st) : CallC X (n + 1) st (.ref 143) [.tup r.vs] Q := by
  refine CallC_def b.F (by k_is) (by k_is) .one (fun L => ?_)
  dsimp only
  cases r <;> (walk_at "m go"; exact h)

theorem call_row_kids (r : Row) (hs : r.Small) (h : ∀ D, Q (.obj D) ((D, .list (vi r.kids)) :: st)) : CallC X (n + 3) st (.ref 136) [.tup r.vs] Q := by
  have hsp := rep_spans b
  refine CallC_def b.F (by k_is) (by k_is) .one (fun L => ?_)
  dsimp only
  rcases r with s | ⟨x, y⟩ | l | l | ⟨ps, c, k, i, j⟩ | ⟨d, l⟩ | p | t | ⟨l, k⟩ | ⟨bs, ps, r, q⟩ | t | ⟨x, y⟩ | ⟨x, y, z, t, bs, k⟩ | ⟨p, x, y, z, m, k⟩ | l | ⟨d, l⟩ <;> walk_at "m go"
  all_goals (refine op_inD (.dct spans) ?_; walk_at "m go")
  · refine WE_list ?_
    walk_at "m go"
    intro D
    walk_at "m go"
    exact h D
  · refine WE_list ?_
    walk_at "m go"
    intro D
    walk_at "m go"
    exact h D
  · refine' WE_compPM (α := Int) ?_ ?c1 ?c2 ?c3 ?c4 ?c5 ?c6 ?c7
    case c2 => exact rfl
    case c1 => first | exact .nil | exact .cons rfl rfl rfl .nil | exact .cons rfl rfl rfl (.cons rfl rfl rfl .nil) | exact .cons rfl rfl rfl (.cons rfl rfl rfl (.cons rfl rfl rfl .nil))
    case c3 => decide
    case c4 => rfl
    case c5 => decide
    case c6 => rfl
    case c7 => (intro _; rfl)
    walk_at "m go"
    refine ⟨l, V.int, V.int, fun _ => true, .tup _, by have := hs; simp [Row.Small] at this; lia, fun C a ha => ?_, fun D => ?_⟩
    · show WE _ _ _ _ _ _ _
      walk_at "m go"
      exact ⟨rfl, rfl, rfl⟩
    · walk_at "m go"
      rw [comp_all l (fun x => x), List.map_id']
      exact h D
  · refine' WE_compPM (α := Int) ?_ ?c1 ?c2 ?c3 ?c4 ?c5 ?c6 ?c7
    case c2 => exact rfl
    case c1 => first | exact .nil | exact .cons rfl rfl rfl .nil | exact .cons rfl rfl rfl (.cons rfl rfl rfl .nil) | exact .cons rfl rfl rfl (.cons rfl rfl rfl (.cons rfl rfl rfl .nil))
    case c3 => decide
    case c4 => rfl
    case c5 => decide
    case c6 => rfl
    case c7 => (intro _; rfl)
    walk_at "m go"
    refine ⟨l, V.int, V.int, fun _ => true, .tup _, by have := hs; simp [Row.Small] at this; lia, fun C a ha => ?_, fun D => ?_⟩
    · show WE _ _ _ _ _ _ _
      walk_at "m go"
      exact ⟨rfl, rfl, rfl⟩
    · walk_at "m go"
      rw [comp_all l (fun x => x), List.map_id']
      exact h D
  · refine (call_object_kids b ps c k i j hs fun D => ?_).call
    walk_at "m go"
    exact h D
  · refine' WE_compPM (α := Int) ?_ ?c1 ?c2 ?c3 ?c4 ?c5 ?c6 ?c7
    case c2 => exact rfl
    case c1 => first | exact .nil | exact .cons rfl rfl rfl .nil | exact .cons rfl rfl rfl (.cons rfl rfl rfl .nil) | exact .cons rfl rfl rfl (.cons rfl rfl rfl (.cons rfl rfl rfl .nil))
    case c3 => decide
    case c4 => rfl
    case c5 => decide
    case c6 => rfl
    case c7 => (intro _; rfl)
    walk_at "m go"
    refine ⟨l, V.int, V.int, fun _ => true, .tup _, by have := hs; simp [Row.Small] at this; lia, fun C a ha => ?_, fun D => ?_⟩
    · show WE _ _ _ _ _ _ _
      walk_at "m go"
      exact ⟨rfl, rfl, rfl⟩
    · walk_at "m go"
      rw [comp_all l (fun x => x), List.map_id']
      exact h D
  · refine WE_list ?_
    walk_at "m go"
    intro D
    walk_at "m go"
    exact h D
  · refine WS_pair ?_ (.inl rfl) (.inl rfl)
    walk_at "m go"
    refine op_itemD (.dct spans) rfl ?_
    refine ⟨_, _, rfl, ?_⟩
    walk_at "m go"
    refine' WE_compPM (α := Int) ?_ ?c1 ?c2 ?c3 ?c4 ?c5 ?c6 ?c7
    case c2 => exact rfl
    case c1 => first | exact .nil | exact .cons rfl rfl rfl .nil | exact .cons rfl rfl rfl (.cons rfl rfl rfl .nil) | exact .cons rfl rfl rfl (.cons rfl rfl rfl (.cons rfl rfl rfl .nil))
    case c3 => decide
    case c4 => rfl
    case c5 => decide
    case c6 => rfl
    case c7 => (intro _; rfl)
    walk_at "m go"
    refine ⟨_, _, _, rfl, rfl, rfl, by decide, by decide, by simp [Row.vs], by simp [Row.vs], ?_⟩
    refine ⟨[t], V.int, V.int, fun _ => true, .tup _, by simp, fun C a ha => ?_, fun D => ?_⟩
    · show WE _ _ _ _ _ _ _
      walk_at "m go"
      exact ⟨rfl, rfl, rfl⟩
    · walk_at "m go"
      exact h D
  · refine' WE_compPM (α := (Int × Int)) ?_ ?c1 ?c2 ?c3 ?c4 ?c5 ?c6 ?c7
    case c2 => exact rfl
    case c1 => first | exact .nil | exact .cons rfl rfl rfl .nil | exact .cons rfl rfl rfl (.cons rfl rfl rfl .nil) | exact .cons rfl rfl rfl (.cons rfl rfl rfl (.cons rfl rfl rfl .nil))
    case c3 => decide
    case c4 => rfl
    case c5 => decide
    case c6 => rfl
    case c7 => (intro _; rfl)
    walk_at "m go"
    refine ⟨l, elemV, fun p => .int p.1, fun _ => true, .tup _, by have := hs; simp [Row.Small] at this; lia, fun C a ha => ?_, fun D => ?_⟩
    · show WE _ _ _ _ _ _ _
      walk_at "m go"
      exact ⟨rfl, rfl, rfl⟩
    · walk_at "m go"
      rw [comp_all l (·.1)]
      exact h D
  · refine (call_sig_kids (n := n + 1) b bs ps r q hs fun D => ?_).call
    walk_at "m go"
    exact h D
  · refine WS_pair ?_ (.inl rfl) (.inl rfl)
    walk_at "m go"
    refine op_itemD (.dct spans) rfl ?_
    refine ⟨_, _, rfl, ?_⟩
    walk_at "m go"
    refine' WE_compPM (α := Int) ?_ ?c1 ?c2 ?c3 ?c4 ?c5 ?c6 ?c7
    case c2 => exact rfl
    case c1 => first | exact .nil | exact .cons rfl rfl rfl .nil | exact .cons rfl rfl rfl (.cons rfl rfl rfl .nil) | exact .cons rfl rfl rfl (.cons rfl rfl rfl (.cons rfl rfl rfl .nil))
    case c3 => decide
    case c4 => rfl
    case c5 => decide
    case c6 => rfl
    case c7 => (intro _; rfl)
    walk_at "m go"
    refine ⟨_, _, _, rfl, rfl, rfl, by decide, by decide, by simp [Row.vs], by simp [Row.vs], ?_⟩
    refine ⟨[t], V.int, V.int, fun _ => true, .tup _, by simp, fun C a ha => ?_, fun D => ?_⟩
    · show WE _ _ _ _ _ _ _
      walk_at "m go"
      exact ⟨rfl, rfl, rfl⟩
    · walk_at "m go"
      exact h D
  · refine WS_pair ?_ (.inl rfl) (.inl rfl)
    walk_at "m go"
    refine op_itemD (.dct spans) rfl ?_
    refine ⟨_, _, rfl, ?_⟩
    walk_at "m go"
    refine' WE_compPM (α := Int) ?_ ?c1 ?c2 ?c3 ?c4 ?c5 ?c6 ?c7
    case c2 => exact rfl
    case c1 => first | exact .nil | exact .cons rfl rfl rfl .nil | exact .cons rfl rfl rfl (.cons rfl rfl rfl .nil) | exact .cons rfl rfl rfl (.cons rfl rfl rfl (.cons rfl rfl rfl .nil))
    case c3 => decide
    case c4 => rfl
    case c5 => decide
    case c6 => rfl
    case c7 => (intro _; rfl)
    walk_at "m go"
    refine ⟨_, _, _, rfl, rfl, rfl, by decide, by decide, by simp [Row.vs], by simp [Row.vs], ?_⟩
    refine ⟨[x, y], V.int, V.int, fun _ => true, .tup _, by simp, fun C a ha => ?_, fun D => ?_⟩
    · show WE _ _ _ _ _ _ _
      walk_at "m go"
      exact ⟨rfl, rfl, rfl⟩
    · walk_at "m go"
      exact h D
  · refine WS_pair ?_ (.inl rfl) (.inl rfl)
    walk_at "m go"
    refine op_itemD (.dct spans) rfl ?_
    refine ⟨_, _, rfl, ?_⟩
    walk_at "m go"
    refine' WE_compPM (α := Int) ?_ ?c1 ?c2 ?c3 ?c4 ?c5 ?c6 ?c7
    case c2 => exact rfl
    case c1 => first | exact .nil | exact .cons rfl rfl rfl .nil | exact .cons rfl rfl rfl (.cons rfl rfl rfl .nil) | exact .cons rfl rfl rfl (.cons rfl rfl rfl (.cons rfl rfl rfl .nil))
    case c3 => decide
    case c4 => rfl
    case c5 => decide
    case c6 => rfl
    case c7 => (intro _; rfl)
    walk_at "m go"
    refine ⟨_, _, _, rfl, rfl, rfl, by decide, by decide, by simp [Row.vs], by simp [Row.vs], ?_⟩
    refine ⟨[x, y, z, t], V.int, V.int, fun _ => true, .tup _, by simp, fun C a ha => ?_, fun D => ?_⟩
    · show WE _ _ _ _ _ _ _
      walk_at "m go"
      exact ⟨rfl, rfl, rfl⟩
    · walk_at "m go"
      exact h D
  · refine WS_pair ?_ (.inl rfl) (.inl rfl)
    walk_at "m go"
    refine op_itemD (.dct spans) rfl ?_
    refine ⟨_, _, rfl, ?_⟩
    walk_at "m go"
    refine' WE_compPM (α := Int) ?_ ?c1 ?c2 ?c3 ?c4 ?c5 ?c6 ?c7
    case c2 => exact rfl
    case c1 => first | exact .nil | exact .cons rfl rfl rfl .nil | exact .cons rfl rfl rfl (.cons rfl rfl rfl .nil) | exact .cons rfl rfl rfl (.cons rfl rfl rfl (.cons rfl rfl rfl .nil))
    case c3 => decide
    case c4 => rfl
    case c5 => decide
    case c6 => rfl
    case c7 => (intro _; rfl)
    walk_at "m go"
    refine ⟨_, _, _, rfl, rfl, rfl, by decide, by decide, by simp [Row.vs], by simp [Row.vs], ?_⟩
    refine ⟨[x, y, z], V.int, V.int, fun _ => true, .tup _, by simp, fun C a ha => ?_, fun D => ?_⟩
    · show WE _ _ _ _ _ _ _
      walk_at "m go"
      exact ⟨rfl, rfl, rfl⟩
    · walk_at "m go"
      exact h D
  · refine' WE_compPM (α := Int) ?_ ?c1 ?c2 ?c3 ?c4 ?c5 ?c6 ?c7
    case c2 => exact rfl
    case c1 => first | exact .nil | exact .cons rfl rfl rfl .nil | exact .cons rfl rfl rfl (.cons rfl rfl rfl .nil) | exact .cons rfl rfl rfl (.cons rfl rfl rfl (.cons rfl rfl rfl .nil))
    case c3 => decide
    case c4 => rfl
    case c5 => decide
    case c6 => rfl
    case c7 => (intro _; rfl)
    walk_at "m go"
    refine ⟨l, V.int, V.int, fun _ => true, .tup _, by have := hs; simp [Row.Small] at this; lia, fun C a ha => ?_, fun D => ?_⟩
    · show WE _ _ _ _ _ _ _
      walk_at "m go"
      exact ⟨rfl, rfl, rfl⟩
    · walk_at "m go"
      rw [comp_all l (fun x => x), List.map_id']
      exact h D
  · refine' WE_compPM (α := Int) ?_ ?c1 ?c2 ?c3 ?c4 ?c5 ?c6 ?c7
    case c2 => exact rfl
    case c1 => first | exact .nil | exact .cons rfl rfl rfl .nil | exact .cons rfl rfl rfl (.cons rfl rfl rfl .nil) | exact .cons rfl rfl rfl (.cons rfl rfl rfl (.cons rfl rfl rfl .nil))
    case c3 => decide
    case c4 => rfl
    case c5 => decide
    case c6 => rfl
    case c7 => (intro _; rfl)
    walk_at "m go"
    refine ⟨l, V.int, V.int, fun _ => true, .tup _, by have := hs; simp [Row.Small] at this; lia, fun C a ha => ?_, fun D => ?_⟩
    · show WE _ _ _ _ _ _ _
      walk_at "m go"
      exact ⟨rfl, rfl, rfl⟩
    · walk_at "m go"
      rw [comp_all l (fun x => x), List.map_id']
      exact h D

end
section
variable {X : Cx} {mg mb : Str → Option Value} (b : Bs X mg mb) {n : Nat} {st : St} {Q : V → St → Prop} {a : Ad} {rows : List Row} {bnd dfl : List Int}
include b
theorem get_rows {ex : Bool} (t1 : At a.tab (.inst 74 a.d) st) (t2 : At a.d (.ns (nsl a)) st) (h : Q (.obj a.rows) st) : Op X n st [.obj a.tab] (on1 (fun v => getAttr v "rows" ex)) Q :=
  op_get b.F (by k_is) (by k_is) (by k_is) t1 t2 (y := .obj a.rows) rfl (fun _ _ => handed_rep) h
theorem get_index {ex : Bool} (t1 : At a.tab (.inst 74 a.d) st) (t2 : At a.d (.ns (nsl a)) st) (h : Q (.obj a.index) st) : Op X n st [.obj a.tab] (on1 (fun v => getAttr v "index" ex)) Q :=
  op_get b.F (by k_is) (by k_is) (by k_is) t1 t2 (y := .obj a.index) rfl (fun _ _ => handed_rep) h
theorem get_decls {ex : Bool} (t1 : At a.tab (.inst 74 a.d) st) (t2 : At a.d (.ns (nsl a)) st) (h : Q (.obj a.decls) st) : Op X n st [.obj a.tab] (on1 (fun v => getAttr v "decls" ex)) Q :=
  op_get b.F (by k_is) (by k_is) (by k_is) t1 t2 (y := .obj a.decls) rfl (fun _ _ => handed_rep) h
theorem get_bounds {ex : Bool} (t1 : At a.tab (.inst 74 a.d) st) (t2 : At a.d (.ns (nsl a)) st) (h : Q (.obj a.bounds) st) : Op X n st [.obj a.tab] (on1 (fun v => getAttr v "bounds" ex)) Q :=
  op_get b.F (by k_is) (by k_is) (by k_is) t1 t2 (y := .obj a.bounds) rfl (fun _ _ => handed_rep) h
theorem get_defaults {ex : Bool} (t1 : At a.tab (.inst 74 a.d) st) (t2 : At a.d (.ns (nsl a)) st) (h : Q (.obj a.defaults) st) : Op X n st [.obj a.tab] (on1 (fun v => getAttr v "defaults" ex)) Q :=
  op_get b.F (by k_is) (by k_is) (by k_is) t1 t2 (y := .obj a.defaults) rfl (fun _ _ => handed_rep) h
theorem get_names {ex : Bool} (t1 : At a.tab (.inst 74 a.d) st) (t2 : At a.d (.ns (nsl a)) st) (h : Q (.obj a.names) st) : Op X n st [.obj a.tab] (on1 (fun v => getAttr v "names" ex)) Q :=
  op_get b.F (by k_is) (by k_is) (by k_is) t1 t2 (y := .obj a.names) rfl (fun _ _ => handed_rep) h

theorem call_inner_kids (r : Row) (hs : r.Small) (hb : r.binds.length ≤ 100) (ht : Tb st a rows bnd dfl) (hp : ∀ p ∈ r.binds, 0 ≤ p ∧ p < bnd.length) (hd : dfl.length = bnd.length) (hl : bnd.length ≤ 100) (hk : r.kids.length ≤ 1000)
    (h : ∀ D, Q (.obj D) ((D, .list (vi (inner bnd dfl r))) :: st)) : CallC X (n + 4) st (.ref 150) [.obj a.tab, .tup r.vs] Q := by
  refine CallC_def b.F (by k_is) (by k_is) .two (fun L => ?_)
  dsimp only
  walk_at "m go"
  refine (call_row_kids b r hs fun D => ?_).call
  walk_at "m go"
  refine WS_forL (α := Int) ?_ (.inl rfl) (by intro _; rfl)
  walk_at "m go"
  refine (call_row_binds (n := n + 2) b r ?_).call
  refine ⟨r.binds, V.int, .tup _, fun L₁ f₁ st₁ => f₁ = fset "out" (.obj D) [("tab", .obj a.tab), ("row", .tup r.vs)] ∧ st₁ = (D, .list (vi (r.kids ++ L₁.flatMap fun p => [bnd[p.toNat]?.getD 0, dfl[p.toNat]?.getD 0]))) :: st, ⟨_, .refl _, rfl, by simp⟩, ?_, ?_⟩
  · rintro L₁ p L₂ f₁ st₂ he ⟨rfl, rfl⟩
    obtain ⟨p0, p1⟩ := hp p (by rw [he]; simp)
    have hlen : L₁.length ≤ 100 := by have := congrArg List.length he; simp at this; lia
    have hlen2 : (r.kids ++ L₁.flatMap fun p => [bnd[p.toNat]?.getD 0, dfl[p.toNat]?.getD 0]).length ≤ 2000 := by
      rw [List.length_append, flat2]; lia
    have hq1 : bnd[p.toNat]? = some (bnd[p.toNat]?.getD 0) := by
      have : p.toNat < bnd.length := by lia
      simp [this]
    have hq2 : dfl[p.toNat]? = some (dfl[p.toNat]?.getD 0) := by
      have : p.toNat < dfl.length := by lia
      simp [this]
    walk_at "m go"
    walk_at "m append"
    walk_at "m go"
    refine get_bounds b ht.tail.tab ht.tail.ns ?_
    walk_at "m go"
    refine op_itemL (.obj ht.tail.bnd) p0 (by lia) (y := .int (bnd[p.toNat]?.getD 0)) (by unfold vi; rw [List.getElem?_map, hq1]; rfl) ?_
    walk_at "m go"
    refine c_append .head (by rw [vi_length]; lia) ?_
    walk_at "m go"
    walk_at "m append"
    walk_at "m go"
    refine get_defaults b ht.tail.tab ht.tail.ns ?_
    walk_at "m go"
    refine op_itemL (.obj ht.tail.dfl) p0 (by lia) (y := .int (dfl[p.toNat]?.getD 0)) (by unfold vi; rw [List.getElem?_map, hq2]; rfl) ?_
    walk_at "m go"
    refine c_append .head (by simp [vi_length] at hlen2 ⊢; lia) ?_
    walk_at "m go"
    exact ⟨_, .cons rfl (.cons rfl (.cons rfl (.nil _))), rfl, by simp [vi, List.flatMap_append]⟩
  · rintro f₁ st₂ ⟨rfl, rfl⟩
    walk_at "m go"
    exact h D
end
section
variable {X : Cx} {mg mb : Str → Option Value} (b : Bs X mg mb) {n : Nat} {st : St} {Q : V → St → Prop} {a : Ad} {rows : List Row} {bnd dfl : List Int}
structure RS (rows : List Row) (bnd dfl : List Int) (t : Int) (S W : List Int) : Prop where
  nd : S.Nodup
  sr : ∀ x ∈ S, 0 ≤ x ∧ x < rows.length ∧ Reach rows bnd dfl t x
  wr : ∀ x ∈ W, x < rows.length ∧ (0 ≤ x → Reach rows bnd dfl t x)
  cl : ∀ x ∈ S, ∀ r, rows[x.toNat]? = some r → ∀ k ∈ inner bnd dfl r, 0 ≤ k → k ∈ S ∨ k ∈ W
  st : t ∈ S ∨ t ∈ W
  wl : W.length ≤ 1 + 600 * S.length
theorem RS.len {t : Int} {S W : List Int} (h : RS rows bnd dfl t S W) : S.length ≤ rows.length := nodup_len _ _ h.nd fun x hx => let ⟨p, q, _⟩ := h.sr x hx; ⟨p, q⟩
theorem RS.skip {t z : Int} {S W : List Int} (h : RS rows bnd dfl t S (W ++ [z])) (hz : z < 0 ∨ z ∈ S) (ht : 0 ≤ t) : RS rows bnd dfl t S W := by
  refine ⟨h.nd, h.sr, fun x hx => h.wr x (by simp [hx]), fun x hx r hr k hk h0 => ?_, ?_, by have := h.wl; simp at this; lia⟩
  · rcases h.cl x hx r hr k hk h0 with h1 | h1
    · exact .inl h1
    · rcases List.mem_append.mp h1 with h1 | h1
      · exact .inr h1
      · have : k = z := by simpa using h1
        rcases hz with hz | hz
        · lia
        · exact .inl (this ▸ hz)
  · rcases h.st with h1 | h1
    · exact .inl h1
    · rcases List.mem_append.mp h1 with h1 | h1
      · exact .inr h1
      · have : t = z := by simpa using h1
        rcases hz with hz | hz
        · lia
        · exact .inl (this ▸ hz)
theorem RS.add {t z : Int} {S W : List Int} (v : Vt rows bnd dfl) (h : RS rows bnd dfl t S (W ++ [z])) (hz : 0 ≤ z) (hn : z ∉ S) {r : Row} (hr : rows[z.toNat]? = some r) : RS rows bnd dfl t (S ++ [z]) (W ++ inner bnd dfl r) := by
  have hmem : r ∈ rows := List.mem_of_getElem? hr
  obtain ⟨hzl, hzr⟩ := h.wr z (by simp)
  refine ⟨?_, fun x hx => ?_, fun x hx => ?_, fun x hx r' hr' k hk h0 => ?_, ?_, ?_⟩
  · rw [List.nodup_append]
    refine ⟨h.nd, by simp, fun x hx y hy e => hn ?_⟩
    have : y = z := by simpa using hy
    rw [← this, ← e]; exact hx
  · rcases List.mem_append.mp hx with hx | hx
    · exact h.sr x hx
    · have : x = z := by simpa using hx
      subst this; exact ⟨hz, hzl, hzr hz⟩
  · rcases List.mem_append.mp hx with hx | hx
    · exact h.wr x (by simp [hx])
    · exact ⟨v.inr r hmem x hx, fun h0 => .step (hzr hz) hz hr hx h0⟩
  · rcases List.mem_append.mp hx with hx | hx
    · rcases h.cl x hx r' hr' k hk h0 with h1 | h1
      · exact .inl (by simp [h1])
      · rcases List.mem_append.mp h1 with h1 | h1
        · exact .inr (by simp [h1])
        · exact .inl (by simp at h1; simp [h1])
    · have : x = z := by simpa using hx
      subst this
      rw [hr] at hr'; cases hr'
      exact .inr (by simp [hk])
  · rcases h.st with h1 | h1
    · exact .inl (by simp [h1])
    · rcases List.mem_append.mp h1 with h1 | h1
      · exact .inr (by simp [h1])
      · exact .inl (by simp at h1; simp [h1])
  · have h1 := h.wl
    have h2 := inner_len v hmem
    simp at h1 ⊢; lia
theorem RS.fin {t : Int} {S : List Int} (h : RS rows bnd dfl t S []) (v : Vt rows bnd dfl) (x : Int) : x ∈ isort S ↔ Reach rows bnd dfl t x := by
  rw [isort_mem]
  constructor
  · exact fun hx => (h.sr x hx).2.2
  · intro hr
    induction hr with
    | refl => rcases h.st with h1 | h1; exact h1; cases h1
    | @step x k r _ h0 hr hk hk0 ih =>
      rcases h.cl x ih r hr k hk hk0 with h1 | h1
      · exact h1
      · cases h1

include b
theorem call_reached (t : Int) (h0 : 0 ≤ t) (hl : t < rows.length) (v : Vt rows bnd dfl) (ht : Tb st a rows bnd dfl)
    (h : ∀ S : List Int, S.Pairwise (· < ·) → (∀ x, x ∈ S ↔ Reach rows bnd dfl t x) → Q (.lst (vi S)) st) : CallC X (n + 5) st (.ref 157) [.obj a.tab, .int t] Q := by
  refine CallC.less (CallC_def b.F (by k_is) (by k_is) .two (fun L => ?_))
  dsimp only
  walk_at "m go"
  refine WE_dict0 (x := .dictI []) empty_dictI fun s => ?_
  walk_at "m go"
  refine WE_list ?_
  walk_at "m go"
  intro w
  walk_at "m go"
  refine WS_while (fun m f₁ st₁ => ∃ S W, f₁ = fset "waiting" (.obj w) (fset "seen" (.obj s) [("tab", .obj a.tab), ("t", .int t)]) ∧ Less ((w, .list (vi W)) :: (s, .dictI (ones S)) :: st) st₁ ∧ RS rows bnd dfl t S W ∧ m = (rows.length - S.length) * 1000 + W.length)
    ((rows.length - 0) * 1000 + 1) ⟨_, .refl _, [], [t], rfl, .refl _, ⟨by simp, by simp, by simp; exact ⟨hl, fun _ => .refl⟩, by simp, by simp, by simp⟩, rfl⟩ ?_
  rintro m f₁ st₁ ⟨S, W, rfl, hless, hRS, rfl⟩
  refine WT.less hless ?_
  have hSl := hRS.len
  have hWl := hRS.wl
  have hrl := v.rl
  walk_at "m go"
  refine t_list (.obj .head) (by rw [vi_length]; lia) ?_
  refine ⟨fun hc => ?_, fun hc => ?_⟩
  · rcases List.eq_nil_or_concat W with rfl | ⟨W', z, rfl⟩
    · cases hc
    rw [List.concat_eq_append] at hRS hWl ⊢
    walk_at "m go"
    refine ⟨_, Meth.list .head F.plainAttrs_list F.slot_list_pop F.type_list_pop, Kp.builtin _, ?_⟩
    walk_at "m go"
    refine c_pop (l := vi W') (z := .int z) (by rw [vi_append]; exact .head) (by rw [vi_length]; simp at hWl; lia) ?_
    walk_at "m go"
    refine ⟨fun hz => ?_, fun hz => ?_⟩
    · have hz0 : 0 ≤ z := by simpa using hz
      walk_at "m go"
      refine op_ninD (.obj (.tail .head)) ?_
      rw [ones_get]
      walk_at "m go"
      refine ⟨fun hn => ?_, fun hn => ?_⟩
      · have hn' : z ∉ S := by simpa using hn
        walk_at "m go"
        refine op_setD (by rw [ones_set hn']; exact .tail .head) (by rw [ones_length]; lia) ?_
        walk_at "m go"
        refine ⟨_, Meth.list .head F.plainAttrs_list F.slot_list_extend F.type_list_extend, Kp.builtin _, ?_⟩
        obtain ⟨hzl, hzr⟩ := hRS.wr z (by simp)
        obtain ⟨r, hr, hrm⟩ := v.at hz0 hzl
        have hT : Tb ((w, .list (vi W')) :: (s, .dictI (ones (S ++ [z]))) :: st) a rows bnd dfl := ht.tail.tail
        walk_at "m go"
        refine get_rows b hT.tab hT.ns ?_
        walk_at "m go"
        refine op_itemL (.obj hT.rows) hz0 (by lia) (y := r.v) (by rw [List.getElem?_map, hr]; rfl) ?_
        walk_at "m go"
        refine (call_inner_kids b r (v.small r hrm) (v.blen r hrm) hT (v.bin r hrm) v.dl v.bl (by have := v.kl r hrm; lia) fun D => ?_).call
        walk_at "m go"
        have hil := inner_len v hrm
        refine c_extend (m := vi (inner bnd dfl r)) (.tail .head) (.obj .head) (by rw [vi_length, vi_length]; simp at hWl; lia) ?_
        walk_at "m go"
        have hR2 := hRS.add v hz0 hn' hr
        have hl2 := hR2.len
        refine ⟨_, _, ?_, ?_, S ++ [z], W' ++ inner bnd dfl r, rfl, .skip _ (by rw [vi_append]; exact .refl _), hR2, rfl⟩
        · simp at hl2 hSl ⊢; lia
        · exact .cons rfl (.cons rfl (.cons rfl (.cons rfl (.nil _))))
      · have hn' : z ∈ S := by simpa using hn
        walk_at "m go"
        refine ⟨_, _, ?_, ?_, S, W', rfl, .refl _, hRS.skip (.inr hn') h0, rfl⟩
        · simp
        · exact .cons rfl (.cons rfl (.cons rfl (.cons rfl (.nil _))))
    · have hz0 : z < 0 := by simpa using hz
      walk_at "m go"
      refine ⟨_, _, ?_, ?_, S, W', rfl, .refl _, hRS.skip (.inl hz0) h0, rfl⟩
      · simp
      · exact .cons rfl (.cons rfl (.cons rfl (.cons rfl (.nil _))))
  · have hW : W = [] := by cases W with | nil => rfl | cons _ _ => cases hc
    subst hW
    walk_at "m go"
    refine c_sortedD (.obj (.tail .head)) (by rw [ones_length]; lia) ?_
    rw [ones_keys]
    walk_at "m go"
    exact ⟨st, .skip _ (.skip _ (.refl _)), h (isort S) (isort_lt hRS.nd) (hRS.fin v)⟩
end
section
variable {X : Cx} {mg mb : Str → Option Value} (b : Bs X mg mb) {n : Nat} {st : St} {Q : V → St → Prop} {a : Ad} {rows : List Row} {bnd dfl : List Int}
include b
theorem call_row_free (r : Row) (hb : r.binds.length ≤ 100) (fa : Addr) (fr : List (Int × List Int)) (ks : List Int) (hf : At fa (.dictI (fd fr)) st) (hsz : ∀ k T, dget fr k = some T → T.length ≤ 100) (hks : ks.length ≤ 600)
    (h : ∀ D T, T.Nodup → (∀ p, p ∈ T ↔ FM r ks (dget fr) p) → Q (.obj D) ((D, .dictI (ones T)) :: st)) : CallC X (n + 2) st (.ref 164) [.tup r.vs, .obj fa, .lst (vi ks)] Q := by
  refine CallC_def b.F (by k_is) (by k_is) .three (fun L => ?_)
  dsimp only
  walk_at "m go"
  refine op_itemT (by decide) (by decide) (y := .int r.tag) r.tag_at ?_
  walk_at "m go"
  refine ⟨fun hc => ?_, fun hc => ?_⟩
  · obtain ⟨q, rfl⟩ := Row.tag_param hc
    walk_at "m go"
    refine WE_dictIx [(_, _)] rfl rfl rfl (by simp) ?_
    refine WD_step ?_
    walk_at "m go"
    refine WD_end ?_
    refine ⟨[(q, .int 1)], rfl, by simp, fun D => ?_⟩
    walk_at "m go"
    exact h D [q] (by simp) fun p => ⟨fun hp => .inl ⟨q, rfl, by simpa using hp⟩, fun hp => by
      rcases hp with ⟨q', hq, rfl⟩ | ⟨hq, _⟩
      · cases hq; simp
      · exact absurd rfl (hq q)⟩
  · have hno := Row.tag_other hc
    walk_at "m go"
    refine WE_dict0 (x := .dictI []) empty_dictI fun D => ?_
    walk_at "m go"
    refine WS_forL (α := Int) ?_ (.inl rfl) (by intro _; rfl)
    walk_at "m go"
    refine ⟨ks, V.int, .lst _, fun L₁ f₁ st₁ => f₁ = fset "out" (.obj D) [("row", .tup r.vs), ("free", .obj fa), ("kids", .lst (vi ks))] ∧ ∃ T, st₁ = (D, .dictI (ones T)) :: st ∧ T.Nodup ∧ (∀ p, p ∈ T ↔ ∃ k ∈ L₁, ∃ U, dget fr k = some U ∧ p ∈ U) ∧ T.length ≤ 100 * L₁.length, ⟨_, .refl _, rfl, [], rfl, by simp, by simp, by simp⟩, ?_, ?_⟩
    · rintro L₁ k L₂ f₁ st₂ he ⟨rfl, T, rfl, hn, hm, hl⟩
      have hlen : L₁.length ≤ 600 := by have := congrArg List.length he; simp at this; lia
      walk_at "m go"
      refine op_inD (.obj (.tail hf)) ?_
      rw [fd_get, Option.isSome_map]
      walk_at "m go"
      refine ⟨fun hk => ?_, fun hk => ?_⟩
      · obtain ⟨U, hU⟩ := Option.isSome_iff_exists.mp hk
        have hUl := hsz k U hU
        walk_at "m go"
        refine ⟨_, Meth.dict .head F.plainAttrs_dict F.slot_dict_update F.type_dict_update, Kp.builtin _, ?_⟩
        walk_at "m go"
        refine op_itemD (.obj (.tail hf)) (y := .dct (ones U)) (by rw [fd_get, hU]; rfl) ?_
        walk_at "m go"
        refine c_update (.head) (by rw [ones_length, ones_length]; lia) ?_
        rw [ones_merge]
        walk_at "m go"
        refine ⟨_, .cons rfl (.cons rfl (.cons rfl (.cons rfl (.nil _)))), rfl, mergeO T U, rfl, mergeO_nodup _ _ hn, fun p => ?_, ?_⟩
        · rw [mergeO_mem, hm]
          constructor
          · rintro (⟨k', h1, h2⟩ | h1)
            · exact ⟨k', by simp [h1], h2⟩
            · exact ⟨k, by simp, U, hU, h1⟩
          · rintro ⟨k', h1, U', h2, h3⟩
            rcases List.mem_append.mp h1 with h1 | h1
            · exact .inl ⟨k', h1, U', h2, h3⟩
            · have : k' = k := by simpa using h1
              subst this
              rw [hU] at h2; cases h2; exact .inr h3
        · have := mergeO_len U T
          simp; lia
      · have hk' : dget fr k = none := by simpa using hk
        walk_at "m go"
        refine ⟨_, .cons rfl (.cons rfl (.cons rfl (.cons rfl (.nil _)))), rfl, T, rfl, hn, fun p => ?_, by simp; lia⟩
        rw [hm]
        constructor
        · rintro ⟨k', h1, h2⟩; exact ⟨k', by simp [h1], h2⟩
        · rintro ⟨k', h1, U', h2, h3⟩
          rcases List.mem_append.mp h1 with h1 | h1
          · exact ⟨k', h1, U', h2, h3⟩
          · have : k' = k := by simpa using h1
            subst this
            rw [hk'] at h2; cases h2
    · rintro f₁ st₂ ⟨rfl, T, rfl, hn, hm, hl⟩
      walk_at "m go"
      refine WS_forL (α := Int) ?_ (.inl rfl) (by intro _; rfl)
      walk_at "m go"
      refine (call_row_binds b r ?_).call
      refine ⟨r.binds, V.int, .tup _, fun L₁ f₁ st₁ => f₁ = fset "out" (.obj D) [("row", .tup r.vs), ("free", .obj fa), ("kids", .lst (vi ks))] ∧ st₁ = (D, .dictI (ones (T.filter fun x => decide (x ∉ L₁)))) :: st, ⟨_, .refl _, rfl, by rw [List.filter_eq_self.mpr (fun x _ => by simp)]⟩, ?_, ?_⟩
      · rintro L₁ p L₂ f₁ st₂ he ⟨rfl, rfl⟩
        have hTl : (T.filter fun x => decide (x ∉ L₁)).length ≤ 100000 := by
          have := List.length_filter_le (fun x => decide (x ∉ L₁)) T; lia
        have hnext : (T.filter fun x => decide (x ∉ L₁)).filter (fun x => decide (x ≠ p)) = T.filter fun x => decide (x ∉ L₁ ++ [p]) := by
          rw [List.filter_filter]
          refine List.filter_congr fun x _ => ?_
          by_cases h1 : x = p <;> by_cases h2 : x ∈ L₁ <;> simp [h1, h2]
        walk_at "m go"
        refine op_inD (.obj .head) ?_
        rw [ones_get]
        walk_at "m go"
        refine ⟨fun hk => ?_, fun hk => ?_⟩
        · walk_at "m go"
          refine op_delD .head (by rw [ones_get]; exact hk) (by rw [ones_length]; lia) ?_
          rw [ones_del, hnext]
          walk_at "m go"
          exact ⟨_, .cons rfl (.cons rfl (.cons rfl (.cons rfl (.nil _)))), rfl, rfl⟩
        · walk_at "m go"
          refine ⟨_, .cons rfl (.cons rfl (.cons rfl (.cons rfl (.nil _)))), rfl, ?_⟩
          have hk' : p ∉ T.filter fun x => decide (x ∉ L₁) := by simpa using hk
          have hall : ∀ x ∈ T.filter (fun x => decide (x ∉ L₁)), decide (x ≠ p) = true := fun x hx => by
            have : x ≠ p := fun e => hk' (e ▸ hx)
            simpa using this
          rw [← hnext, List.filter_eq_self.mpr hall]
      · rintro f₁ st₂ ⟨rfl, rfl⟩
        walk_at "m go"
        refine h D _ (hn.filter _) fun p => ?_
        rw [List.mem_filter, hm]
        constructor
        · rintro ⟨h1, h2⟩
          exact .inr ⟨hno, by simpa using h2, h1⟩
        · rintro (⟨q, hq, _⟩ | ⟨_, h2, h1⟩)
          · exact absurd hq (hno q)
          · exact ⟨h1, by simpa using h2⟩
end
section
variable {X : Cx} {mg mb : Str → Option Value} (b : Bs X mg mb) {n : Nat} {st : St} {Q : V → St → Prop} {a : Ad} {rows : List Row} {bnd dfl : List Int}
structure Gf (rows : List Row) (bnd : List Int) (fr : List (Int × List Int)) : Prop where
  ok : ∀ (k : Int) (T : List Int), dget fr k = some T → T.Nodup ∧ ∀ p ∈ T, 0 ≤ p ∧ p < bnd.length
  kn : (fr.map (·.1)).Nodup
  kr : ∀ k : Int, k ∈ fr.map (·.1) → 0 ≤ k ∧ k < rows.length
theorem Gf.len {fr : List (Int × List Int)} (g : Gf rows bnd fr) : fr.length ≤ rows.length := by
  have := nodup_len rows.length _ g.kn g.kr; simpa using this
theorem Gf.small {fr : List (Int × List Int)} (g : Gf rows bnd fr) (hl : bnd.length ≤ 100) : ∀ k T, dget fr k = some T → T.length ≤ 100 := fun k T h => by
  obtain ⟨h1, h2⟩ := g.ok k T h
  exact Nat.le_trans (nodup_len bnd.length T h1 h2) hl
noncomputable def mix (fr fr' : List (Int × List Int)) (x k : Int) : Option (List Int) := if k < x then dget fr' k else dget fr k
structure Rd (rows : List Row) (bnd dfl : List Int) (order : List Int) (fr fr' : List (Int × List Int)) : Prop where
  new : ∀ x ∈ order, ∀ r, rows[x.toNat]? = some r → ∃ T, dget fr' x = some T ∧ ∀ p, p ∈ T ↔ FM r (inner bnd dfl r) (mix fr fr' x) p
  old : ∀ x, x ∉ order → dget fr' x = dget fr x
  gf : Gf rows bnd fr'
theorem FM.range (v : Vt rows bnd dfl) {r : Row} (hr : r ∈ rows) {fr : List (Int × List Int)} (g : Gf rows bnd fr) {p : Int} (h : FM r (inner bnd dfl r) (dget fr) p) : 0 ≤ p ∧ p < bnd.length := by
  rcases h with ⟨q, rfl, rfl⟩ | ⟨_, _, k, _, T, hT, hp⟩
  · exact v.pin p hr
  · exact (g.ok k T hT).2 p hp
theorem Rd.add (v : Vt rows bnd dfl) {L₁ : List Int} {x : Int} {fr cur : List (Int × List Int)} {T : List Int} {r : Row} (h : Rd rows bnd dfl L₁ fr cur) (hlt : ∀ y ∈ L₁, y < x) (h0 : 0 ≤ x) (hx : x < rows.length) (hr : rows[x.toNat]? = some r)
    (hn : T.Nodup) (hT : ∀ p, p ∈ T ↔ FM r (inner bnd dfl r) (dget cur) p) : Rd rows bnd dfl (L₁ ++ [x]) fr (dset cur x T) := by
  have hnx : x ∉ L₁ := fun hm => by have := hlt x hm; lia
  have hmix : mix fr (dset cur x T) x = dget cur := by
    funext k
    unfold mix
    by_cases hk : k < x
    · rw [if_pos hk, dget_dset, if_neg (by lia)]
    · rw [if_neg hk, h.old k (fun hm => hk (hlt k hm))]
  refine ⟨fun y hy r' hr' => ?_, fun y hy => ?_, ⟨fun k U hU => ?_, ?_, fun k hk => ?_⟩⟩
  · rcases List.mem_append.mp hy with hy | hy
    · obtain ⟨U, hU, hm⟩ := h.new y hy r' hr'
      have hyx := hlt y hy
      refine ⟨U, by rw [dget_dset, if_neg (by lia)]; exact hU, fun p => ?_⟩
      have : mix fr (dset cur x T) y = mix fr cur y := by
        funext k
        unfold mix
        by_cases hk : k < y
        · rw [if_pos hk, if_pos hk, dget_dset, if_neg (by lia)]
        · rw [if_neg hk, if_neg hk]
      rw [this]; exact hm p
    · have : y = x := by simpa using hy
      subst this
      rw [hr] at hr'; cases hr'
      exact ⟨T, by rw [dget_dset, if_pos rfl], fun p => by rw [hmix]; exact hT p⟩
  · rw [List.mem_append, not_or] at hy
    have : y ≠ x := fun e => hy.2 (by simp [e])
    rw [dget_dset, if_neg this]; exact h.old y hy.1
  · rw [dget_dset] at hU
    split at hU
    · cases hU
      exact ⟨hn, fun p hp => FM.range v (List.mem_of_getElem? hr) h.gf ((hT p).mp hp)⟩
    · exact h.gf.ok k U hU
  · rw [dset_keys]
    split
    · exact h.gf.kn
    · rename_i hk
      rw [List.nodup_append]
      refine ⟨h.gf.kn, by simp, fun y hy z hz e => hk ?_⟩
      have : z = x := by simpa using hz
      rw [← this, ← e]; exact hy
  · rw [dset_keys] at hk
    split at hk
    · exact h.gf.kr k hk
    · rcases List.mem_append.mp hk with hk | hk
      · exact h.gf.kr k hk
      · have : k = x := by simpa using hk
        subst this; exact ⟨h0, hx⟩
noncomputable def Back (rows : List Row) (bnd dfl : List Int) (order : List Int) : Prop := ∃ x ∈ order, ∃ r, rows[x.toNat]? = some r ∧ ∃ k ∈ inner bnd dfl r, x ≤ k

include b
theorem call_free_round (order : List Int) (hord : order.Pairwise (· < ·)) (hor : ∀ x ∈ order, 0 ≤ x ∧ x < rows.length) (hol : order.length ≤ 64) (v : Vt rows bnd dfl) (fa : Addr) (fr : List (Int × List Int)) (g : Gf rows bnd fr) (ht : Tb st a rows bnd dfl)
    (h : ∀ back fr', Rd rows bnd dfl order fr fr' → (back = true ↔ Back rows bnd dfl order) → Q (.bool back) ((fa, .dictI (fd fr')) :: st)) :
    CallC X (n + 5) ((fa, .dictI (fd fr)) :: st) (.ref 169) [.obj a.tab, .lst (vi order), .obj fa] Q := by
  refine CallC_def b.F (by k_is) (by k_is) .three (fun L => ?_)
  dsimp only
  walk_at "m go"
  refine WS_forL (α := Int) ?_ (by walk_at "m sto") (by intro _; rfl)
  walk_at "m go"
  refine ⟨order, V.int, .lst _, fun L₁ f₁ st₁ => ∃ back cur, f₁ = fset "back" (.bool back) [("tab", .obj a.tab), ("order", .lst (vi order)), ("free", .obj fa)] ∧ st₁ = (fa, .dictI (fd cur)) :: st ∧ Rd rows bnd dfl L₁ fr cur ∧ (back = true ↔ Back rows bnd dfl L₁),
    ⟨_, .refl _, false, fr, rfl, rfl, ⟨by simp, fun _ _ => rfl, g⟩, by simp [Back]⟩, ?_, ?_⟩
  · rintro L₁ x L₂ f₁ st₂ he ⟨back, cur, rfl, rfl, hRd, hB⟩
    obtain ⟨h0, hx⟩ := hor x (by rw [he]; simp)
    obtain ⟨r, hr, hrm⟩ := v.at h0 hx
    have hlt : ∀ y ∈ L₁, y < x := by
      rw [he, List.pairwise_append] at hord
      exact fun y hy => hord.2.2 y hy x (by simp)
    have hT := ht.tail (p := (fa, .dictI (fd cur)))
    have hrl := v.rl
    have hil := inner_len v hrm
    walk_at "m go"
    refine get_rows b hT.tab hT.ns ?_
    walk_at "m go"
    refine op_itemL (.obj hT.rows) h0 (by lia) (y := r.v) (by rw [List.getElem?_map, hr]; rfl) ?_
    walk_at "m go"
    refine Op.hardenX (call_inner_kids b r (v.small r hrm) (v.blen r hrm) hT (v.bin r hrm) v.dl v.bl (by have := v.kl r hrm; lia) fun D => ?_).call
    refine ⟨_, _, _, rfl, .head, ?_⟩
    walk_at "m go"
    refine WE_or2 ?_
    walk_at "m go"
    have tail : ∀ bk : Bool, (bk = true ↔ Back rows bnd dfl (L₁ ++ [x])) → (bk = true ↔ Back rows bnd dfl (L₁ ++ [x])) := fun _ h => h
    have hBx : Back rows bnd dfl (L₁ ++ [x]) ↔ Back rows bnd dfl L₁ ∨ ∃ k ∈ inner bnd dfl r, x ≤ k := by
      unfold Back
      constructor
      · rintro ⟨y, hy, r', hr', hk⟩
        rcases List.mem_append.mp hy with hy | hy
        · exact .inl ⟨y, hy, r', hr', hk⟩
        · have : y = x := by simpa using hy
          subst this
          rw [hr] at hr'; cases hr'
          exact .inr hk
      · rintro (⟨y, hy, hk⟩ | hk)
        · exact ⟨y, by simp [hy], hk⟩
        · exact ⟨x, by simp, r, hr, hk⟩
    refine ⟨fun hbk => ?_, fun hbk => ?_⟩
    · walk_at "m go"
      refine' WE_compP (α := Int) ?_ ?c1 ?c2 ?c3 ?c4 ?c5 ?c6 ?c7
      case c2 => exact rfl
      case c1 => first | exact .nil | exact .cons rfl rfl rfl .nil | exact .cons rfl rfl rfl (.cons rfl rfl rfl .nil) | exact .cons rfl rfl rfl (.cons rfl rfl rfl (.cons rfl rfl rfl .nil))
      case c3 => decide
      case c4 => rfl
      case c5 => decide
      case c6 => rfl
      case c7 => (intro _; rfl)
      walk_at "m go"
      refine ⟨inner bnd dfl r, V.int, fun k => .bool (decide (x ≤ k)), fun _ => true, .lst _, by lia, fun C k hk => ?_, ?_⟩
      · show WE _ _ _ _ _ _ _
        walk_at "m go"
        exact ⟨rfl, rfl, rfl⟩
      walk_at "m go"
      refine c_any (fun y hy => by obtain ⟨k, _, rfl⟩ := List.mem_map.mp hy; exact .bool _) ?_
      walk_at "m go"
      refine get_rows b hT.tab hT.ns ?_
      walk_at "m go"
      refine op_itemL (.obj hT.rows) h0 (by lia) (y := r.v) (by rw [List.getElem?_map, hr]; rfl) ?_
      walk_at "m go"
      refine Op.hardenDX ((call_row_free (n := n) b r (v.blen r hrm) fa cur (inner bnd dfl r) .head (hRd.gf.small v.bl) (by lia) fun D T hTn hTm => ?_).at (Nat.add_le_add_left (by decide) _))
      refine ⟨_, _, _, rfl, .head, ?_⟩
      walk_at "m go"
      refine op_setD (by rw [fd_set]; exact .head) (by rw [fd_length]; have := hRd.gf.len; lia) ?_
      walk_at "m go"
      refine ⟨_, .cons rfl (.cons rfl (.cons rfl (.cons rfl (.nil _)))), _, _, rfl, rfl, hRd.add v hlt h0 hx hr hTn hTm, ?_⟩
      rw [hBx, ← hB, hbk]
      simp [truthV, List.any_map]
    · walk_at "m go"
      refine get_rows b hT.tab hT.ns ?_
      walk_at "m go"
      refine op_itemL (.obj hT.rows) h0 (by lia) (y := r.v) (by rw [List.getElem?_map, hr]; rfl) ?_
      walk_at "m go"
      refine Op.hardenDX ((call_row_free (n := n) b r (v.blen r hrm) fa cur (inner bnd dfl r) .head (hRd.gf.small v.bl) (by lia) fun D T hTn hTm => ?_).at (Nat.add_le_add_left (by decide) _))
      refine ⟨_, _, _, rfl, .head, ?_⟩
      walk_at "m go"
      refine op_setD (by rw [fd_set]; exact .head) (by rw [fd_length]; have := hRd.gf.len; lia) ?_
      walk_at "m go"
      refine ⟨_, .cons rfl (.cons rfl (.cons rfl (.cons rfl (.nil _)))), _, _, rfl, rfl, hRd.add v hlt h0 hx hr hTn hTm, ?_⟩
      rw [hBx, ← hB, hbk]; simp
  · rintro f₁ st₂ ⟨back, cur, rfl, rfl, hRd, hB⟩
    walk_at "m go"
    exact h back cur hRd hB
end
section
variable {rows : List Row} {bnd dfl : List Int}
theorem inner_param (q : Int) : inner bnd dfl (.param q) = [] := rfl
theorem not_param {r : Row} {k : Int} (h : k ∈ inner bnd dfl r) (q : Int) : r ≠ .param q := by rintro rfl; rw [inner_param] at h; cases h
theorem Free.pos {x p : Int} (h : Free rows bnd dfl x p) : 0 ≤ x := by cases h <;> assumption
noncomputable def Closed (rows : List Row) (bnd dfl : List Int) (order : List Int) : Prop := ∀ x ∈ order, ∀ r, rows[x.toNat]? = some r → ∀ k ∈ inner bnd dfl r, 0 ≤ k → k ∈ order
theorem closed_of {order : List Int} {t : Int} (hm : ∀ x, x ∈ order ↔ Reach rows bnd dfl t x) (hor : ∀ x ∈ order, 0 ≤ x) : Closed rows bnd dfl order :=
  fun x hx r hr k hk h0 => (hm k).mpr (.step ((hm x).mp hx) (hor x hx) hr hk h0)
noncomputable def Sound (rows : List Row) (bnd dfl : List Int) (fr : List (Int × List Int)) : Prop := ∀ k T, dget fr k = some T → ∀ p ∈ T, Free rows bnd dfl k p
noncomputable def Infl (rows : List Row) (bnd dfl : List Int) (order : List Int) (fr : List (Int × List Int)) : Prop := ∀ x ∈ order, ∀ r, rows[x.toNat]? = some r → ∀ T, dget fr x = some T → ∀ p ∈ T, FM r (inner bnd dfl r) (dget fr) p
noncomputable def LeF (fr fr' : List (Int × List Int)) : Prop := ∀ (x : Int) (T : List Int), dget fr x = some T → ∃ T', dget fr' x = some T' ∧ ∀ p ∈ T, p ∈ T'
noncomputable def Exact (rows : List Row) (bnd dfl : List Int) (order : List Int) (fr : List (Int × List Int)) : Prop := ∀ x ∈ order, ∃ T, dget fr x = some T ∧ ∀ p, Free rows bnd dfl x p → p ∈ T
theorem FM.mono {r : Row} {ks : List Int} {g g' : Int → Option (List Int)} {p : Int} (h : FM r ks g p) (hg : ∀ k T, g k = some T → ∀ q ∈ T, ∃ T', g' k = some T' ∧ q ∈ T') : FM r ks g' p := by
  rcases h with h | ⟨h1, h2, k, hk, T, hT, hp⟩
  · exact .inl h
  · obtain ⟨T', h3, h4⟩ := hg k T hT p hp
    exact .inr ⟨h1, h2, k, hk, T', h3, h4⟩
theorem Rd.sound {order : List Int} {fr fr' : List (Int × List Int)} (h : Rd rows bnd dfl order fr fr') (hor : ∀ x ∈ order, 0 ≤ x ∧ x < rows.length) (v : Vt rows bnd dfl) (hs : Sound rows bnd dfl fr) : Sound rows bnd dfl fr' := by
  have key : ∀ (m : Nat) (x : Int), x.toNat < m → ∀ T, dget fr' x = some T → ∀ p ∈ T, Free rows bnd dfl x p := by
    intro m
    induction m with
    | zero => intro x hx; lia
    | succ m ih =>
      intro x hx T hT p hp
      by_cases hm : x ∈ order
      · obtain ⟨h0, h1⟩ := hor x hm
        obtain ⟨r, hr, hrm⟩ := v.at h0 h1
        obtain ⟨T', hT', hmem⟩ := h.new x hm r hr
        rw [hT] at hT'; cases hT'
        rcases (hmem p).mp hp with ⟨q, rfl, rfl⟩ | ⟨h2, h3, k, hk, U, hU, hpU⟩
        · exact .param h0 hr
        · unfold mix at hU
          split at hU
          · rename_i hkx
            have hk0 : 0 ≤ k := (h.gf.kr k (dget_some_key hU)).1
            exact .step h0 hr h3 hk hk0 (ih k (by lia) U hU p hpU)
          · have hF := hs k U hU p hpU
            exact .step h0 hr h3 hk hF.pos hF
      · rw [h.old x hm] at hT
        exact hs x T hT p hp
  exact fun k T hT p hp => key (k.toNat + 1) k (Nat.lt_succ_self _) T hT p hp
theorem Rd.le {order : List Int} {fr fr' : List (Int × List Int)} (h : Rd rows bnd dfl order fr fr') (hor : ∀ x ∈ order, 0 ≤ x ∧ x < rows.length) (v : Vt rows bnd dfl) (hi : Infl rows bnd dfl order fr) (g : Gf rows bnd fr) : LeF fr fr' := by
  have key : ∀ (m : Nat) (x : Int), x.toNat < m → ∀ T, dget fr x = some T → ∃ T', dget fr' x = some T' ∧ ∀ p ∈ T, p ∈ T' := by
    intro m
    induction m with
    | zero => intro x hx; lia
    | succ m ih =>
      intro x hx T hT
      by_cases hm : x ∈ order
      · obtain ⟨h0, h1⟩ := hor x hm
        obtain ⟨r, hr, hrm⟩ := v.at h0 h1
        obtain ⟨T', hT', hmem⟩ := h.new x hm r hr
        refine ⟨T', hT', fun p hp => (hmem p).mpr ((hi x hm r hr T hT p hp).mono fun k U hU q hq => ?_)⟩
        unfold mix
        by_cases hkx : k < x
        · rw [if_pos hkx]
          have hk0 : 0 ≤ k := (g.kr k (dget_some_key hU)).1
          obtain ⟨U', h5, h6⟩ := ih k (by lia) U hU
          exact ⟨U', h5, h6 q hq⟩
        · rw [if_neg hkx]; exact ⟨U, hU, hq⟩
      · exact ⟨T, by rw [h.old x hm]; exact hT, fun p hp => hp⟩
  exact fun x T hT => key (x.toNat + 1) x (Nat.lt_succ_self _) T hT
theorem Rd.infl {order : List Int} {fr fr' : List (Int × List Int)} (h : Rd rows bnd dfl order fr fr') (hle : LeF fr fr') : Infl rows bnd dfl order fr' := by
  intro x hx r hr T hT p hp
  obtain ⟨T', hT', hmem⟩ := h.new x hx r hr
  rw [hT] at hT'; cases hT'
  refine ((hmem p).mp hp).mono fun k U hU q hq => ?_
  unfold mix at hU
  split at hU
  · exact ⟨U, hU, hq⟩
  · obtain ⟨U', h1, h2⟩ := hle k U hU
    exact ⟨U', h1, h2 q hq⟩
theorem Rd.exact_of {order : List Int} {fr fr' : List (Int × List Int)} (h : Rd rows bnd dfl order fr fr') (hc : Closed rows bnd dfl order) (hor : ∀ x ∈ order, 0 ≤ x ∧ x < rows.length) (v : Vt rows bnd dfl)
    (hk : ∀ x ∈ order, ∀ r, rows[x.toNat]? = some r → ∀ k ∈ inner bnd dfl r, k ∈ order → ∀ T', dget fr' k = some T' → ∀ p ∈ T', ∃ T, mix fr fr' x k = some T ∧ p ∈ T) : Exact rows bnd dfl order fr' := by
  have key : ∀ x p, Free rows bnd dfl x p → x ∈ order → ∃ T, dget fr' x = some T ∧ p ∈ T := by
    intro x p hF
    induction hF with
    | @param x p h0 hr =>
      intro hx
      obtain ⟨T, hT, hm⟩ := h.new x hx _ hr
      exact ⟨T, hT, (hm p).mpr (.inl ⟨p, rfl, rfl⟩)⟩
    | @step x k p r h0 hr hnb hki hk0 _ ih =>
      intro hx
      have hko := hc x hx r hr k hki hk0
      obtain ⟨T', hT', hp⟩ := ih hko
      obtain ⟨U, hU, hpU⟩ := hk x hx r hr k hki hko T' hT' p hp
      obtain ⟨T, hT, hm⟩ := h.new x hx r hr
      exact ⟨T, hT, (hm p).mpr (.inr ⟨not_param hki, hnb, k, hki, U, hU, hpU⟩)⟩
  intro x hx
  obtain ⟨h0, h1⟩ := hor x hx
  obtain ⟨r, hr, hrm⟩ := v.at h0 h1
  obtain ⟨T, hT, _⟩ := h.new x hx r hr
  refine ⟨T, hT, fun p hp => ?_⟩
  obtain ⟨T', h2, h3⟩ := key x p hp hx
  rw [hT] at h2; cases h2; exact h3
theorem Rd.exact_back {order : List Int} {fr fr' : List (Int × List Int)} (h : Rd rows bnd dfl order fr fr') (hc : Closed rows bnd dfl order) (hor : ∀ x ∈ order, 0 ≤ x ∧ x < rows.length) (v : Vt rows bnd dfl) (hb : ¬ Back rows bnd dfl order) : Exact rows bnd dfl order fr' := by
  refine h.exact_of hc hor v fun x hx r hr k hk hko T' hT' p hp => ?_
  have hlt : k < x := by
    rcases Int.lt_or_le k x with h | h
    · exact h
    · exact absurd ⟨x, hx, r, hr, k, hk, h⟩ hb
  exact ⟨T', by unfold mix; rw [if_pos hlt]; exact hT', hp⟩
noncomputable def sz (fr : List (Int × List Int)) (order : List Int) : Nat := (order.map fun x => ((dget fr x).map List.length).getD 0).sum
theorem sub_len : ∀ {S T : List Int}, S.Nodup → (∀ x ∈ S, x ∈ T) → S.length ≤ T.length
  | [], _, _, _ => Nat.zero_le _
  | a :: S, T, hn, hs => by
    rw [List.nodup_cons] at hn
    have ha := hs a (.head _)
    have h1 := sub_len (S := S) (T := T.erase a) hn.2 fun x hx => (List.mem_erase_of_ne (by rintro rfl; exact hn.1 hx)).mpr (hs x (.tail _ hx))
    rw [List.length_erase_of_mem ha] at h1
    have : 0 < T.length := List.length_pos_of_mem ha
    simp; lia
theorem sub_eq {S T : List Int} (hn : S.Nodup) (hs : ∀ x ∈ S, x ∈ T) (hl : T.length ≤ S.length) : ∀ x ∈ T, x ∈ S := by
  intro x hx
  by_cases h : x ∈ S
  · exact h
  · exfalso
    have := sub_len (S := x :: S) (T := T) (List.nodup_cons.mpr ⟨h, hn⟩) fun y hy => by
      rcases List.mem_cons.mp hy with rfl | hy
      · exact hx
      · exact hs y hy
    simp at this; lia
theorem sum_le {f g : Int → Nat} : ∀ l : List Int, (∀ x ∈ l, f x ≤ g x) → (l.map f).sum ≤ (l.map g).sum
  | [], _ => Nat.le_refl _
  | a :: l, h => by
    have h1 := h a (.head _)
    have h2 := sum_le l fun x hx => h x (.tail _ hx)
    simp; lia
theorem sum_eq {f g : Int → Nat} : ∀ l : List Int, (∀ x ∈ l, f x ≤ g x) → (l.map g).sum = (l.map f).sum → ∀ x ∈ l, f x = g x
  | [], _, _ => by simp
  | a :: l, h, he => by
    have h1 := h a (.head _)
    have h2 := sum_le l fun x hx => h x (.tail _ hx)
    simp at he
    intro x hx
    rcases List.mem_cons.mp hx with rfl | hx
    · lia
    · exact sum_eq l (fun x hx => h x (.tail _ hx)) (by lia) x hx
theorem sz_bound {fr : List (Int × List Int)} (g : Gf rows bnd fr) (hl : bnd.length ≤ 100) : ∀ order : List Int, sz fr order ≤ 100 * order.length
  | [] => Nat.le_refl _
  | x :: l => by
    have h2 := sz_bound g hl l
    have h1 : ((dget fr x).map List.length).getD 0 ≤ 100 := by
      cases h : dget fr x with
      | none => simp
      | some T => simpa using g.small hl x T h
    unfold sz at h2 ⊢
    simp; lia
theorem le_len {fr fr' : List (Int × List Int)} (hle : LeF fr fr') (g : Gf rows bnd fr) (x : Int) : ((dget fr x).map List.length).getD 0 ≤ ((dget fr' x).map List.length).getD 0 := by
  cases h : dget fr x with
  | none => simp
  | some T =>
    obtain ⟨T', h1, h2⟩ := hle x T h
    rw [h1]
    exact sub_len (g.ok x T h).1 h2
theorem Rd.exact_same {order : List Int} {fr fr' : List (Int × List Int)} (h : Rd rows bnd dfl order fr fr') (hc : Closed rows bnd dfl order) (hor : ∀ x ∈ order, 0 ≤ x ∧ x < rows.length) (v : Vt rows bnd dfl) (hle : LeF fr fr') (g : Gf rows bnd fr)
    (htot : ∀ x ∈ order, ∃ T, dget fr x = some T) (hsz : sz fr' order = sz fr order) : Exact rows bnd dfl order fr' := by
  have hall := sum_eq order (fun x _ => le_len hle g x) hsz
  refine h.exact_of hc hor v fun x hx r hr k hk hko T' hT' p hp => ?_
  unfold mix
  by_cases hkx : k < x
  · rw [if_pos hkx]; exact ⟨T', hT', hp⟩
  · rw [if_neg hkx]
    obtain ⟨T, hT⟩ := htot k hko
    obtain ⟨T'', h1, h2⟩ := hle k T hT
    rw [hT'] at h1; cases h1
    have hlen := hall k hko
    rw [hT, hT'] at hlen
    exact ⟨T, hT, sub_eq (g.ok k T hT).1 h2 (by simpa using Nat.le_of_eq hlen.symm) p hp⟩
theorem free_plain {order : List Int} {t : Int} (hm : ∀ x, x ∈ order ↔ Reach rows bnd dfl t x) (hor : ∀ x ∈ order, 0 ≤ x ∧ x < rows.length) (hnb : ∀ x ∈ order, ∀ r, rows[x.toNat]? = some r → r.binds = []) (p : Int) :
    (∃ x ∈ order, rows[x.toNat]? = some (.param p)) ↔ Free rows bnd dfl t p := by
  constructor
  · rintro ⟨x, hx, hr⟩
    have key : ∀ x, Reach rows bnd dfl t x → Free rows bnd dfl x p → Free rows bnd dfl t p := by
      intro x hre
      induction hre with
      | refl => exact id
      | @step x k r hre h0 hr hk hk0 ih =>
        intro hF
        refine ih (.step h0 hr ?_ hk hk0 hF)
        rw [hnb x ((hm x).mpr hre) r hr]; simp
    exact key x ((hm x).mp hx) (.param (hor x hx).1 hr)
  · intro hF
    have key : ∀ x p, Free rows bnd dfl x p → Reach rows bnd dfl t x → ∃ y, Reach rows bnd dfl t y ∧ rows[y.toNat]? = some (.param p) := by
      intro x p hF
      induction hF with
      | @param x p h0 hr => exact fun hre => ⟨x, hre, hr⟩
      | @step x k p r h0 hr _ hk hk0 _ ih => exact fun hre => ih (.step hre h0 hr hk hk0)
    obtain ⟨y, h1, h2⟩ := key t p hF .refl
    exact ⟨y, (hm y).mpr h1, h2⟩
end
section
variable {X : Cx} {mg mb : Str → Option Value} (b : Bs X mg mb) {n : Nat} {st : St} {Q : V → St → Prop} {a : Ad} {rows : List Row} {bnd dfl : List Int}
noncomputable def bindsAt (rows : List Row) (x : Int) : List Int := match rows[x.toNat]? with | some r => r.binds | none => []
noncomputable def parAt (rows : List Row) (x : Int) : Option Int := match rows[x.toNat]? with | some (.param p) => some p | _ => none
theorem bindsAt_of {rows : List Row} {x : Int} {r : Row} (h : rows[x.toNat]? = some r) : bindsAt rows x = r.binds := by unfold bindsAt; rw [h]
theorem any_binds (rows : List Row) (order : List Int) : (List.map (fun x => V.tup (vi (bindsAt rows x))) order).any truthV = order.any fun x => !(bindsAt rows x).isEmpty := by
  rw [List.any_map]
  congr 1
  funext x
  show (!(vi (bindsAt rows x)).isEmpty) = _
  cases bindsAt rows x <;> rfl
theorem pars_nodup {order : List Int} (v : Vt rows bnd dfl) (hn : order.Nodup) (h0 : ∀ x ∈ order, 0 ≤ x) : ((order.filter fun x => (parAt rows x).isSome).map fun x => (parAt rows x).getD 0).Nodup := by
  induction order with
  | nil => simp
  | cons x l ih =>
    rw [List.nodup_cons] at hn
    have ih' := ih hn.2 fun y hy => h0 y (.tail _ hy)
    rw [List.filter_cons]
    split
    · rename_i hx
      rw [List.map_cons, List.nodup_cons]
      refine ⟨fun hm => ?_, ih'⟩
      obtain ⟨y, hy, e⟩ := List.mem_map.mp hm
      obtain ⟨hyl, hys⟩ := List.mem_filter.mp hy
      have hpx : ∃ p, rows[x.toNat]? = some (.param p) ∧ parAt rows x = some p := by
        unfold parAt at hx ⊢
        split at hx
        · rename_i p hp; exact ⟨p, hp, rfl⟩
        · cases hx
      have hpy : ∃ p, rows[y.toNat]? = some (.param p) ∧ parAt rows y = some p := by
        unfold parAt at hys ⊢
        split at hys
        · rename_i p hp; exact ⟨p, hp, rfl⟩
        · cases hys
      obtain ⟨p, h1, h2⟩ := hpx
      obtain ⟨q, h3, h4⟩ := hpy
      rw [h2, h4] at e
      have e' : q = p := e
      subst e'
      have := v.pinj _ _ _ h3 h1
      have hx0 := h0 x (.head _)
      have hy0 := h0 y (.tail _ hyl)
      have : y = x := by lia
      exact hn.1 (this ▸ hyl)
    · exact ih'
theorem pars_mem {order : List Int} (p : Int) : p ∈ ((order.filter fun x => (parAt rows x).isSome).map fun x => (parAt rows x).getD 0) ↔ ∃ x ∈ order, rows[x.toNat]? = some (.param p) := by
  rw [List.mem_map]
  constructor
  · rintro ⟨x, hx, e⟩
    obtain ⟨h1, h2⟩ := List.mem_filter.mp hx
    refine ⟨x, h1, ?_⟩
    unfold parAt at h2 e
    split at h2
    · rename_i q hq
      rw [hq] at e ⊢
      have : q = p := e
      rw [this]
    · cases h2
  · rintro ⟨x, hx, hr⟩
    refine ⟨x, List.mem_filter.mpr ⟨hx, ?_⟩, ?_⟩
    · unfold parAt; rw [hr]; rfl
    · unfold parAt; rw [hr]; rfl
theorem pairwise_nodup {l : List Int} (h : l.Pairwise (· < ·)) : l.Nodup := h.imp fun h => by lia

include b
theorem call_free_params (t : Int) (hl : t < rows.length) (v : Vt rows bnd dfl) (ht : Tb st a rows bnd dfl)
    (h : ∀ P : List Int, P.Pairwise (· < ·) → (∀ p, p ∈ P ↔ Free rows bnd dfl t p) → Q (.tup (vi P)) st) : CallC X (n + 6) st (.ref 174) [.obj a.tab, .int t] Q := by
  refine CallC.less (CallC_def b.F (by k_is) (by k_is) .two (fun L => ?_))
  dsimp only
  have hrl := v.rl
  walk_at "m go"
  refine ⟨fun hc => ?_, fun hc => ?_⟩
  · have hc' : t < 0 := by simpa using hc
    walk_at "m go"
    exact ⟨st, .refl _, h [] .nil fun p => ⟨fun hp => (nomatch hp), fun hF => by have := hF.pos; lia⟩⟩
  have h0 : 0 ≤ t := by have : ¬ t < 0 := by simpa using hc
                        lia
  walk_at "m go"
  refine (call_reached b t h0 hl v ht fun order hord hmem => ?_).call
  walk_at "m go"
  have hor : ∀ x ∈ order, 0 ≤ x ∧ x < rows.length := by
    intro x hx
    have hre := (hmem x).mp hx
    clear hx
    induction hre with
    | refl => exact ⟨h0, hl⟩
    | @step x k r _ hx0 hr hk hk0 ih => exact ⟨hk0, v.inr r (List.mem_of_getElem? hr) k hk⟩
  have hol : order.length ≤ rows.length := nodup_len _ _ (pairwise_nodup hord) hor
  refine' WE_compP (α := Int) ?_ ?c1 ?c2 ?c3 ?c4 ?c5 ?c6 ?c7
  case c2 => exact rfl
  case c1 => first | exact .nil | exact .cons rfl rfl rfl .nil | exact .cons rfl rfl rfl (.cons rfl rfl rfl .nil) | exact .cons rfl rfl rfl (.cons rfl rfl rfl (.cons rfl rfl rfl .nil))
  case c3 => decide
  case c4 => rfl
  case c5 => decide
  case c6 => rfl
  case c7 => (intro _; rfl)
  walk_at "m go"
  refine ⟨order, V.int, fun x => .tup (vi (bindsAt rows x)), fun _ => true, .lst _, by lia, fun C x hx => ?_, ?_⟩
  · obtain ⟨hx0, hx1⟩ := hor x hx
    obtain ⟨r, hr, hrm⟩ := v.at hx0 hx1
    show WE _ _ _ _ _ _ _
    walk_at "m go"
    refine get_rows b ht.tab ht.ns ?_
    walk_at "m go"
    refine op_itemL (.obj ht.rows) hx0 (by lia) (y := r.v) (by rw [List.getElem?_map, hr]; rfl) ?_
    walk_at "m go"
    refine (call_row_binds (n := n) b r ?_).at (Nat.add_le_add_left (by decide) _)
    exact ⟨rfl, by show _ = V.tup (vi (bindsAt rows x)); rw [bindsAt_of hr], rfl⟩
  rw [List.filter_eq_self.mpr (fun _ _ => rfl)]
  walk_at "m go"
  refine c_any (fun y hy => by
    obtain ⟨x, hx, rfl⟩ := List.mem_map.mp hy
    refine .tup _ ?_
    obtain ⟨hx0, hx1⟩ := hor x hx
    obtain ⟨r, hr, hrm⟩ := v.at hx0 hx1
    have := v.blen r hrm
    rw [vi_length, bindsAt_of hr]; lia) ?_
  rw [any_binds]
  walk_at "m go"
  refine ⟨fun hc => ?_, fun hc => ?_⟩
  · have hnb : ∀ x ∈ order, ∀ r, rows[x.toNat]? = some r → r.binds = [] := by
      intro x hx r hr
      have h1 : (order.any fun x => !(bindsAt rows x).isEmpty) = false := by simpa using hc
      have h2 := List.any_eq_false.mp h1 x hx
      rw [bindsAt_of hr] at h2
      cases hb : r.binds with
      | nil => rfl
      | cons _ _ => rw [hb] at h2; simp at h2
    walk_at "m go"
    refine' WE_compP (α := Int) ?_ ?c1 ?c2 ?c3 ?c4 ?c5 ?c6 ?c7
    case c2 => exact rfl
    case c1 => first | exact .nil | exact .cons rfl rfl rfl .nil | exact .cons rfl rfl rfl (.cons rfl rfl rfl .nil) | exact .cons rfl rfl rfl (.cons rfl rfl rfl (.cons rfl rfl rfl .nil))
    case c3 => decide
    case c4 => rfl
    case c5 => decide
    case c6 => rfl
    case c7 => (intro _; rfl)
    walk_at "m go"
    refine ⟨order, V.int, fun x => .int ((parAt rows x).getD 0), fun x => (parAt rows x).isSome, .lst _, by lia, fun C x hx => ?_, ?_⟩
    · obtain ⟨hx0, hx1⟩ := hor x hx
      obtain ⟨r, hr, hrm⟩ := v.at hx0 hx1
      show WT _ _ _ _ _ _ _
      walk_at "m go"
      refine get_rows b ht.tab ht.ns ?_
      walk_at "m go"
      refine op_itemL (.obj ht.rows) hx0 (by lia) (y := r.v) (by rw [List.getElem?_map, hr]; rfl) ?_
      walk_at "m go"
      refine op_itemT (by decide) (by decide) (y := .int r.tag) r.tag_at ?_
      walk_at "m go"
      refine ⟨fun hp => ?_, fun hp => ?_⟩
      · obtain ⟨q, rfl⟩ := Row.tag_param hp
        have hpa : parAt rows x = some q := by unfold parAt; rw [hr]
        walk_at "m go"
        refine get_rows b ht.tab ht.ns ?_
        walk_at "m go"
        refine op_itemL (.obj ht.rows) hx0 (by lia) (y := (Row.param q).v) (by rw [List.getElem?_map, hr]; rfl) ?_
        walk_at "m go"
        refine op_itemT (l := (Row.param q).vs) (by decide) (by decide) (y := .int q) rfl ?_
        exact ⟨by show (parAt rows x).isSome = true; rw [hpa]; rfl, by show _ = V.int ((parAt rows x).getD 0); rw [hpa]; rfl, rfl⟩
      · have hno := Row.tag_other hp
        refine ⟨?_, rfl⟩
        show (parAt rows x).isSome = false
        unfold parAt
        rw [hr]
        cases r <;> first | rfl | exact absurd rfl (hno _)
    rw [comp_some]
    walk_at "m go"
    have hlen : (List.map (fun x => (parAt rows x).getD 0) (List.filter (fun x => (parAt rows x).isSome) order)).length < 64 := by
      have := List.length_filter_le (fun x => (parAt rows x).isSome) order
      rw [List.length_map]; lia
    refine c_sortedL (.lst _) hlen ?_
    walk_at "m go"
    refine c_tupleL (.lst _) (by rw [vi_length, (isort_perm _).length_eq]; lia) ?_
    walk_at "m go"
    refine ⟨st, .refl _, h _ (isort_lt (pars_nodup v (pairwise_nodup hord) fun x hx => (hor x hx).1)) fun p => ?_⟩
    rw [isort_mem, pars_mem]
    exact free_plain hmem hor hnb p
  have hcl := closed_of hmem fun x hx => (hor x hx).1
  walk_at "m go"
  refine WE_dict0 (x := .dictI []) empty_dictI fun fa => ?_
  walk_at "m go"
  refine WS_while (fun m f₁ st₁ => ∃ (held : Int) (fr : List (Int × List Int)), f₁ = fset "held" (.int held) (fset "free" (.obj fa) (fset "order" (.lst (vi order)) [("tab", .obj a.tab), ("t", .int t)])) ∧ st₁ = (fa, .dictI (fd fr)) :: st ∧
      Gf rows bnd fr ∧ Sound rows bnd dfl fr ∧ Infl rows bnd dfl order fr ∧ ((held = -1 ∧ fr = []) ∨ (held = sz fr order ∧ ∀ x ∈ order, ∃ T, dget fr x = some T)) ∧ m = (6401 - held).toNat)
    (6402) ⟨_, .refl _, -1, [], rfl, rfl, ⟨by simp [dget], by simp, by simp⟩, by simp [Sound, dget], by simp [Infl, dget], .inl ⟨rfl, rfl⟩, rfl⟩ ?_
  rintro m f₁ st₁ ⟨held, fr, rfl, rfl, hg, hs, hi, hh, rfl⟩
  walk_at "m go"
  refine (call_free_round (n := n) b order hord hor (by lia) v fa fr hg ht fun back fr' hRd hB => ?_).at (Nat.add_le_add_left (by decide) _)
  have hs' := hRd.sound hor v hs
  have hle := hRd.le hor v hi hg
  have hi' := hRd.infl hle
  have hg' := hRd.gf
  have htot : ∀ x ∈ order, ∃ T, dget fr' x = some T := fun x hx => by
    obtain ⟨hx0, hx1⟩ := hor x hx
    obtain ⟨r, hr, hrm⟩ := v.at hx0 hx1
    obtain ⟨T, hT, _⟩ := hRd.new x hx r hr
    exact ⟨T, hT⟩
  have hszb := sz_bound hg' v.bl order
  walk_at "m go"
  refine ⟨fun hbk => ?_, fun hbk => ?_⟩
  · walk_at "m go"
    refine WS_forL (α := Int) ?_ (by walk_at "m sto") (by intro _; rfl)
    walk_at "m go"
    refine ⟨order, V.int, .lst _, fun L₁ f₁ st₁ => f₁ = fset "now" (.int (sz fr' L₁)) (fset "held" (.int held) (fset "free" (.obj fa) (fset "order" (.lst (vi order)) [("tab", .obj a.tab), ("t", .int t)]))) ∧ st₁ = (fa, .dictI (fd fr')) :: st, ⟨_, .refl _, rfl, rfl⟩, ?_, ?_⟩
    · rintro L₁ x L₂ f₁ st₂ he ⟨rfl, rfl⟩
      obtain ⟨T, hT⟩ := htot x (by rw [he]; simp)
      have hTl := hg'.small v.bl x T hT
      walk_at "m go"
      refine op_itemD (.obj .head) (y := .dct (ones T)) (by rw [fd_get, hT]; rfl) ?_
      walk_at "m go"
      refine c_lenD (.dct _) (by rw [ones_length]; lia) ?_
      rw [ones_length]
      walk_at "m go"
      have hsn : (sz fr' L₁ : Int) + (T.length : Int) = (sz fr' (L₁ ++ [x]) : Nat) := by
        unfold sz; simp [hT]
      rw [hsn]
      exact ⟨_, .cons rfl (.cons rfl (.cons rfl (.cons rfl (.cons rfl (.cons rfl (.nil _)))))), rfl, rfl⟩
    · rintro f₁ st₂ ⟨rfl, rfl⟩
      walk_at "m go"
      refine ⟨fun heq => ?_, fun hne => ?_⟩
      · have heq' : (sz fr' order : Int) = held := by simpa using heq
        have hEx : Exact rows bnd dfl order fr' := by
          rcases hh with ⟨h1, h2⟩ | ⟨h1, h2⟩
          · lia
          · exact hRd.exact_same hcl hor v hle hg h2 (by lia)
        walk_at "m go"
        have hF := hEx t ((hmem t).mpr .refl)
        obtain ⟨T, hT, hTc⟩ := hF
        obtain ⟨hTn, hTr⟩ := hg'.ok t T hT
        have hTl := hg'.small v.bl t T hT
        walk_at "m go"
        refine op_itemD (.obj .head) (y := .dct (ones T)) (by rw [fd_get, hT]; rfl) ?_
        walk_at "m go"
        refine c_sortedD (.dct _) (by rw [ones_length]; have := nodup_len _ T hTn hTr; have := v.bs; lia) ?_
        rw [ones_keys]
        walk_at "m go"
        refine c_tupleL (.lst _) (by rw [vi_length, (isort_perm T).length_eq]; lia) ?_
        walk_at "m go"
        exact ⟨st, .skip _ (.refl _), h (isort T) (isort_lt hTn) fun p => by rw [isort_mem]; exact ⟨fun hp => hs' t T hT p hp, fun hp => hTc p hp⟩⟩

      · have hne' : ¬ (sz fr' order : Int) = held := by simpa using hne
        walk_at "m go"
        refine ⟨_, _, ?_, .cons rfl (.cons rfl (.cons rfl (.cons rfl (.cons rfl (.nil _))))), _, fr', rfl, rfl, hg', hs', hi', .inr ⟨rfl, htot⟩, rfl⟩
        have hgt : held < sz fr' order := by
          rcases hh with ⟨h1, h2⟩ | ⟨h1, h2⟩
          · lia
          · have := sum_le (f := fun x => ((dget fr x).map List.length).getD 0) (g := fun x => ((dget fr' x).map List.length).getD 0) order fun x _ => le_len hle hg x
            unfold sz at h1 hne' ⊢; lia
        have : sz fr' order ≤ 6400 := by lia
        lia
  · have hEx : Exact rows bnd dfl order fr' := hRd.exact_back hcl hor v fun hBk => by rw [hB.mpr hBk] at hbk; cases hbk
    walk_at "m go"
    have hF := hEx t ((hmem t).mpr .refl)
    obtain ⟨T, hT, hTc⟩ := hF
    obtain ⟨hTn, hTr⟩ := hg'.ok t T hT
    have hTl := hg'.small v.bl t T hT
    walk_at "m go"
    refine op_itemD (.obj .head) (y := .dct (ones T)) (by rw [fd_get, hT]; rfl) ?_
    walk_at "m go"
    refine c_sortedD (.dct _) (by rw [ones_length]; have := nodup_len _ T hTn hTr; have := v.bs; lia) ?_
    rw [ones_keys]
    walk_at "m go"
    refine c_tupleL (.lst _) (by rw [vi_length, (isort_perm T).length_eq]; lia) ?_
    walk_at "m go"
    exact ⟨st, .skip _ (.refl _), h (isort T) (isort_lt hTn) fun p => by rw [isort_mem]; exact ⟨fun hp => hs' t T hT p hp, fun hp => hTc p hp⟩⟩
end
theorem keys_vi (d : Nat) : ∀ l : List Int, Keys d (vi l)
  | [] => .nil _
  | a :: l => .cons (.int _ _) (keys_vi d l)
theorem keys_map {α : Type} {d : Nat} {g : α → V} (h : ∀ a, Key d (g a)) : ∀ l : List α, Keys d (l.map g)
  | [] => .nil _
  | a :: l => .cons (h a) (keys_map h l)
theorem Row.keyd (r : Row) : Keys 6 r.vs := by
  cases r <;> simp only [Row.vs] <;> repeat (first | exact .nil _ | exact keys_vi _ _ | exact .int _ _ | exact .str _ _ | refine .tup ?_ | (refine keys_map (fun p => ?_) _) | refine .cons ?_ ?_)
noncomputable def unI : V → Int | .int i => i | _ => 0
noncomputable def unS : V → Str | .str s => s | _ => ""
noncomputable def unL : V → List V | .tup l => l | _ => []
noncomputable def nth (l : List V) (i : Nat) : V := (l[i]?).getD .none
theorem un_vi (l : List Int) : (vi l).map unI = l := by simp [vi, Function.comp_def, unI]
noncomputable def dec (l : List V) : Row :=
  let g := nth l
  let is (i : Nat) := (unL (g i)).map unI
  let t := unI (g 0)
  if t = 1 then .key (unS (g 1)) else if t = 2 then .bool (unI (g 1)) (unI (g 2)) else if t = 6 then .union (is 1) else if t = 7 then .inter (is 1)
  else if t = 8 then .obj ((unL (g 1)).map fun p => (unS (nth (unL p) 0), unI (nth (unL p) 1))) (is 2) (is 3) (is 4) (is 5)
  else if t = 9 then .ref (unI (g 1)) (is 2) else if t = 10 then .param (unI (g 1)) else if t = 11 then .array (unI (g 1))
  else if t = 12 then .tuple ((unL (g 1)).map fun p => (unI (nth (unL p) 0), unI (nth (unL p) 1))) (unI (g 2))
  else if t = 13 then .sig (is 1) ((unL (g 2)).map fun p => (unS (nth (unL p) 0), unI (nth (unL p) 1))) (unI (g 3)) (is 4)
  else if t = 14 then .keyof (unI (g 1)) else if t = 15 then .index (unI (g 1)) (unI (g 2))
  else if t = 16 then .cond (unI (g 1)) (unI (g 2)) (unI (g 3)) (unI (g 4)) (is 5) (unI (g 6))
  else if t = 17 then .mapped (unI (g 1)) (unI (g 2)) (unI (g 3)) (unI (g 4)) (unI (g 5)) (unI (g 6))
  else if t = 18 then .tpl (is 2) else .alias (unI (g 1)) (is 2)
theorem un_props (ps : List (Str × Int)) : ((ps.map propV).map fun p => (unS (nth (unL p) 0), unI (nth (unL p) 1))) = ps := by
  rw [List.map_map]; exact List.map_id' ps
theorem un_pars (ps : List (Str × Int)) : ((ps.map parV).map fun p => (unS (nth (unL p) 0), unI (nth (unL p) 1))) = ps := by
  rw [List.map_map]; exact List.map_id' ps
theorem un_elems (ps : List (Int × Int)) : ((ps.map elemV).map fun p => (unI (nth (unL p) 0), unI (nth (unL p) 1))) = ps := by
  rw [List.map_map]; exact List.map_id' ps
theorem dec_vs (r : Row) : dec r.vs = r := by
  cases r
  case obj ps c k i j =>
    show Row.obj ((ps.map propV).map _) ((vi c).map unI) ((vi k).map unI) ((vi i).map unI) ((vi j).map unI) = _
    rw [un_props, un_vi, un_vi, un_vi, un_vi]
  case sig b ps r q =>
    show Row.sig ((vi b).map unI) ((ps.map parV).map _) r ((vi q).map unI) = _
    rw [un_pars, un_vi, un_vi]
  case tuple l k =>
    show Row.tuple ((l.map elemV).map _) k = _
    rw [un_elems]
  case union l => show Row.union ((vi l).map unI) = _; rw [un_vi]
  case inter l => show Row.inter ((vi l).map unI) = _; rw [un_vi]
  case ref d l => show Row.ref d ((vi l).map unI) = _; rw [un_vi]
  case alias d l => show Row.alias d ((vi l).map unI) = _; rw [un_vi]
  case tpl l => show Row.tpl ((vi l).map unI) = _; rw [un_vi]
  case cond a b c d bs k => show Row.cond a b c d ((vi bs).map unI) k = _; rw [un_vi]
  all_goals rfl
theorem vs_inj {r r' : Row} (h : r.vs = r'.vs) : r = r' := by rw [← dec_vs r, ← dec_vs r', h]

noncomputable def ixl (rows : List Row) : List (V × V) := rows.mapIdx fun i r => (r.v, .int i)
theorem ixl_snoc (rows : List Row) (r : Row) : ixl (rows ++ [r]) = ixl rows ++ [(r.v, .int rows.length)] := by simp [ixl, List.mapIdx_append]
theorem ixl_length (rows : List Row) : (ixl rows).length = rows.length := by simp [ixl]
theorem ixl_get (rows : List Row) (r : Row) : (r ∉ rows ∧ dget (ixl rows) r.v = none) ∨ ∃ i : Nat, rows[i]? = some r ∧ dget (ixl rows) r.v = some (.int i) := by
  have key : ∀ (l : List Row) (f : Nat → Nat), (r ∉ l ∧ dget (l.mapIdx fun i r => (r.v, V.int (f i))) r.v = none) ∨ ∃ i : Nat, l[i]? = some r ∧ dget (l.mapIdx fun i r => (r.v, V.int (f i))) r.v = some (.int (f i)) := by
    intro l
    induction l with
    | nil => exact fun f => .inl ⟨by simp, rfl⟩
    | cons x l ih =>
      intro f
      rw [List.mapIdx_cons]
      by_cases hx : x.v = r.v
      · have : x = r := vs_inj (by injection hx)
        subst this
        exact .inr ⟨0, rfl, by simp [dget]⟩
      · have hne : ¬ r = x := fun e => hx (e ▸ rfl)
        have e : ∀ t : List (V × V), dget ((x.v, V.int (f 0)) :: t) r.v = dget t r.v := fun t => by simp [dget, hx]
        rw [e]
        rcases ih (fun i => f (i + 1)) with ⟨h1, h2⟩ | ⟨i, h1, h2⟩
        · exact .inl ⟨by simp [hne, h1], h2⟩
        · exact .inr ⟨i + 1, by simpa using h1, h2⟩
  exact key rows id
theorem free_range {rows : List Row} {bnd dfl : List Int} (v : Vt rows bnd dfl) {x p : Int} (h : Free rows bnd dfl x p) : 0 ≤ p ∧ p < bnd.length := by
  induction h with
  | param _ hr => exact v.pin _ (List.mem_of_getElem? hr)
  | step _ _ _ _ _ _ ih => exact ih
section
variable {X : Cx} {mg mb : Str → Option Value} (b : Bs X mg mb) {n : Nat} {st : St} {Q : V → St → Prop} {a : Ad} {rows : List Row} {bnd dfl : List Int}
include b
theorem call_has_params (t : Int) (hl : t < rows.length) (v : Vt rows bnd dfl) (ht : Tb st a rows bnd dfl)
    (h : ∀ P : List Int, P.Pairwise (· < ·) → (∀ p, p ∈ P ↔ Free rows bnd dfl t p) → P.length ≤ 1000 → Q (.bool (decide ((0 : Int) < P.length))) st) : CallC X (n + 7) st (.ref 181) [.obj a.tab, .int t] Q := by
  refine CallC_def b.F (by k_is) (by k_is) .two (fun L => ?_)
  dsimp only
  walk_at "m go"
  refine (call_free_params b t hl v ht fun P hP hm => ?_).call
  have hPl : P.length ≤ 100 := Nat.le_trans (nodup_len bnd.length P (pairwise_nodup hP) fun p hp => free_range v ((hm p).mp hp)) v.bl
  walk_at "m go"
  refine c_lenT (by rw [vi_length]; lia) ?_
  rw [vi_length]
  walk_at "m go"
  exact h P hP hm (by lia)

theorem call_put (r : Row) {st₁ st₂ : St} (hl : rows.length ≤ 1000)
    (t1 : At a.tab (.inst 74 a.d) st) (t2 : At a.d (.ns (nsl a)) st) (t3 : At a.index (.dictT (ixl rows)) st) (t4 : At a.rows (.list (rows.map Row.v)) st)
    (t5 : At a.tab (.inst 74 a.d) st₁) (t6 : At a.d (.ns (nsl a)) st₁)
    (u1 : Up a.rows (.list (rows.map Row.v)) (.list (rows.map Row.v ++ [.tup r.vs])) st st₁) (u2 : Up a.index (.dictT (ixl rows)) (.dictT (ixl (rows ++ [r]))) st₁ st₂)
    (h1 : ∀ i : Nat, rows[i]? = some r → Q (.int i) st) (h2 : r ∉ rows → Q (.int rows.length) st₂) : CallC X (n + 1) st (.ref 71) [.obj a.tab, .tup r.vs] Q := by
  refine CallC_def b.F (by k_is) (by k_is) .two (fun L => ?_)
  dsimp only
  walk_at "m go"
  refine get_index b t1 t2 ?_
  refine op_inT r.keyd t3 ?_
  rcases ixl_get rows r with ⟨hn, hg⟩ | ⟨i, hi, hg⟩
  · rw [show dget (ixl rows) (V.tup r.vs) = none from hg]
    walk_at "m go"
    refine get_rows b t1 t2 ?_
    walk_at "m go"
    refine c_len (.obj t4) (by rw [List.length_map]; lia) ?_
    rw [List.length_map]
    walk_at "m go"
    refine get_rows b t1 t2 ?_
    refine ⟨_, Meth.list t4 F.plainAttrs_list F.slot_list_append F.type_list_append, Kp.builtin _, ?_⟩
    walk_at "m go"
    refine c_append u1 (by rw [List.length_map]; lia) ?_
    walk_at "m go"
    refine get_index b t5 t6 ?_
    walk_at "m go"
    have e : dset (ixl rows) (V.tup r.vs) (.int rows.length) = ixl (rows ++ [r]) := by
      rw [ixl_snoc]
      unfold dset
      rw [if_neg]
      · rfl
      · rw [← dget_any, show dget (ixl rows) (V.tup r.vs) = none from hg]; simp
    have u2' : Up a.index (.dictT (ixl rows)) (.dictT (dset (ixl rows) (V.tup r.vs) (.int rows.length))) st₁ st₂ := by rw [e]; exact u2
    refine op_setT r.keyd u2' (by rw [ixl_length]; lia) ?_
    walk_at "m go"
    exact h2 hn
  · rw [show dget (ixl rows) (V.tup r.vs) = some (.int i) from hg]
    walk_at "m go"
    refine ⟨fun _ => ?_, fun e => (nomatch e)⟩
    walk_at "m go"
    refine get_index b t1 t2 ?_
    walk_at "m go"
    refine op_itemT' r.keyd t3 hg ?_
    walk_at "m go"
    exact h1 i hi
end
structure Wd where
  rows : List Row
  bnd : List Int
  dfl : List Int
  names : List Str
  pool : List Int
  params : List Int
  kids : List (Int × List Int)
  binds : List (Int × List Int)
  next : Int
  did : Bool
noncomputable def kdv (l : List (Int × List Int)) : List (Int × V) := l.map fun p => (p.1, V.lst (vi p.2))
noncomputable def bdv (l : List (Int × List Int)) : List (Int × V) := l.map fun p => (p.1, V.tup (vi p.2))
theorem dget_map {β γ : Type} (g : β → γ) (l : List (Int × β)) (k : Int) : dget (l.map fun p => (p.1, g p.2)) k = (dget l k).map g := by
  induction l with
  | nil => rfl
  | cons p l ih =>
    by_cases h : p.1 = k
    · simp [dget, h]
    · have e1 : dget (List.map (fun p => (p.1, g p.2)) (p :: l)) k = dget (List.map (fun p => (p.1, g p.2)) l) k := by simp [dget, h]
      have e2 : dget (p :: l) k = dget l k := by simp [dget, h]
      rw [e1, e2, ih]
theorem dset_map {β γ : Type} (g : β → γ) (l : List (Int × β)) (k : Int) (v : β) : dset (l.map fun p => (p.1, g p.2)) k (g v) = (dset l k v).map fun p => (p.1, g p.2) := by
  unfold dset
  have : (l.map fun p => (p.1, g p.2)).any (fun p => decide (p.1 = k)) = l.any (fun p => decide (p.1 = k)) := by simp [List.any_map, Function.comp_def]
  rw [this]
  split
  · rw [List.map_map, List.map_map]
    refine List.map_congr_left fun p _ => ?_
    by_cases h : p.1 = k <;> simp [h]
  · simp
noncomputable def exl : Bool → List (Str × V) | true => [("did", .int 1)] | false => []
noncomputable def wds (nums : List Int) (a : Ad) (nx : Int) (did : Bool) : List (Str × V) :=
  ("nums", .lst (vi nums)) :: ("next", .int nx) :: ("tab", .obj a.tab) :: ("pool", .obj a.pool) :: ("params", .obj a.params) :: ("kids", .obj a.kids) :: ("binds", .obj a.binds) :: exl did
noncomputable def wst (nums : List Int) (a : Ad) (d : Wd) : St :=
  [(a.w, .dictS (wds nums a d.next d.did)), (a.tab, .inst 74 a.d), (a.d, .ns (nsl a)), (a.rows, .list (d.rows.map Row.v)), (a.index, .dictT (ixl d.rows)), (a.bounds, .list (vi d.bnd)), (a.defaults, .list (vi d.dfl)),
   (a.names, .list (d.names.map .str)), (a.pool, .list (vi d.pool)), (a.params, .list (vi d.params)), (a.kids, .dictI (kdv d.kids)), (a.binds, .dictI (bdv d.binds))]
theorem wds_next (nums : List Int) (a : Ad) (nx nx' : Int) (ex : Bool) : dset (wds nums a nx ex) "next" (.int nx') = wds nums a nx' ex := by cases ex <;> rfl
theorem wds_len (nums : List Int) (a : Ad) (nx : Int) (ex : Bool) : (wds nums a nx ex).length ≤ 8 := by cases ex <;> simp [wds, exl]
theorem wst_tb (nums : List Int) (a : Ad) (d : Wd) : Tb (wst nums a d) a d.rows d.bnd d.dfl :=
  ⟨.tail .head, .tail (.tail .head), .tail (.tail (.tail .head)), .tail (.tail (.tail (.tail (.tail .head)))), .tail (.tail (.tail (.tail (.tail (.tail .head)))))⟩
theorem fmod_range {x n : Int} (h : 0 < n) : 0 ≤ x.fmod n ∧ x.fmod n < n := ⟨Int.fmod_nonneg_of_pos _ h, Int.fmod_lt_of_pos _ h⟩
section
variable {X : Cx} {mg mb : Str → Option Value} (b : Bs X mg mb) {n : Nat} {Q : V → St → Prop} {a : Ad} {nums : List Int} {d : Wd} 
include b
theorem call_take (k : Int) (hk : 0 < k) (hn : 1 ≤ nums.length ∧ nums.length ≤ 40) (h0 : 0 ≤ d.next)
    (h : ∀ m nx, 0 ≤ m → m < k → 0 ≤ nx → Q (.int m) (wst nums a { d with next := nx })) : CallC X (n + 1) (wst nums a d) (.ref 188) [.obj a.w, .int k] Q := by
  refine CallC_def b.F (by k_is) (by k_is) .two (fun L => ?_)
  dsimp only
  walk_at "m go"
  refine op_itemS' (y := .int d.next) .head rfl ?_
  walk_at "m go"
  refine op_setS (l := wds nums a d.next d.did) (st' := wst nums a { d with next := d.next + 1 }) (by rw [wds_next]; exact .head) (by have := wds_len nums a d.next d.did; lia) ?_
  walk_at "m go"
  refine op_itemS' (y := .lst (vi nums)) .head rfl ?_
  walk_at "m go"
  refine c_len (.lst _) (by rw [vi_length]; lia) ?_
  rw [vi_length]
  walk_at "m go"
  refine op_itemS' (y := .lst (vi nums)) .head rfl ?_
  walk_at "m go"
  refine op_mod (by lia) ?_
  have hr := fmod_range (x := d.next) (n := nums.length) (by lia)
  have hget : nums[(d.next.fmod nums.length).toNat]? = some (nums[(d.next.fmod nums.length).toNat]?.getD 0) := by
    have : (d.next.fmod nums.length).toNat < nums.length := by lia
    simp [this]
  refine op_itemL (.lst _) hr.1 (by lia) (y := .int (nums[(d.next.fmod nums.length).toNat]?.getD 0)) (by unfold vi; rw [List.getElem?_map, hget]; rfl) ?_
  walk_at "m go"
  refine op_fdiv (by lia) (by lia) ?_
  walk_at "m go"
  refine op_mul (by decide) ?_
  walk_at "m go"
  refine op_mod (by lia) ?_
  have hr2 := fmod_range (x := nums[(d.next.fmod nums.length).toNat]?.getD 0 + 7 * d.next.fdiv nums.length) hk
  walk_at "m go"
  exact h _ _ hr2.1 hr2.2 (by lia)
theorem call_pick (hn : 1 ≤ nums.length ∧ nums.length ≤ 40) (h0 : 0 ≤ d.next) (hp : d.pool ≠ []) (hpl : d.pool.length ≤ 1000)
    (h : ∀ t nx, t ∈ d.pool → 0 ≤ nx → Q (.int t) (wst nums a { d with next := nx })) : CallC X (n + 2) (wst nums a d) (.ref 195) [.obj a.w] Q := by
  refine CallC_def b.F (by k_is) (by k_is) .one (fun L => ?_)
  dsimp only
  have hpos : 0 < d.pool.length := List.length_pos_iff.mpr hp
  walk_at "m go"
  refine op_itemS' (y := .obj a.pool) .head rfl ?_
  walk_at "m go"
  refine op_itemS' (y := .obj a.pool) .head rfl ?_
  walk_at "m go"
  refine c_len (.obj (.tail (.tail (.tail (.tail (.tail (.tail (.tail (.tail .head))))))))) (by rw [vi_length]; lia) ?_
  rw [vi_length]
  walk_at "m go"
  refine op_itemS' (y := .obj a.pool) .head rfl ?_
  walk_at "m go"
  refine c_len (.obj (.tail (.tail (.tail (.tail (.tail (.tail (.tail (.tail .head))))))))) (by rw [vi_length]; lia) ?_
  rw [vi_length]
  walk_at "m go"
  refine (call_take b (d.pool.length : Int) (by lia) hn h0 fun m nx hm0 hm1 hnx => ?_).call
  walk_at "m go"
  have hidx : ((d.pool.length : Int) - 1 - m).toNat < d.pool.length := by lia
  refine op_itemL (.obj (.tail (.tail (.tail (.tail (.tail (.tail (.tail (.tail .head))))))))) (by lia) (by lia) (y := .int (d.pool[((d.pool.length : Int) - 1 - m).toNat]'hidx)) (by unfold vi; rw [List.getElem?_map, List.getElem?_eq_getElem hidx]; rfl) ?_
  walk_at "m go"
  exact h _ nx (List.getElem_mem _) hnx
theorem call_maybe (hn : 1 ≤ nums.length ∧ nums.length ≤ 40) (h0 : 0 ≤ d.next) (hp : d.pool ≠ []) (hpl : d.pool.length ≤ 1000)
    (h : ∀ t nx, (t = -1 ∨ t ∈ d.pool) → 0 ≤ nx → Q (.int t) (wst nums a { d with next := nx })) : CallC X (n + 3) (wst nums a d) (.ref 202) [.obj a.w] Q := by
  refine CallC_def b.F (by k_is) (by k_is) .one (fun L => ?_)
  dsimp only
  walk_at "m go"
  refine (call_take (n := n) b 2 (by decide) hn h0 fun m nx hm0 hm1 hnx => ?_).at (Nat.add_le_add_left (by decide) _)
  walk_at "m go"
  refine ⟨fun hc => ?_, fun hc => ?_⟩
  · walk_at "m go"
    refine (call_pick b (d := { d with next := nx }) hn hnx hp hpl fun t nx' ht hnx' => ?_).call
    walk_at "m go"
    exact h t nx' (.inr ht) hnx'
  · walk_at "m go"
    exact h (-1) nx (.inl rfl) hnx
end
structure Fit (d : Wd) : Prop where
  nx : 0 ≤ d.next
  pl : 2 ≤ d.params.length ∧ d.params.length ≤ 4
  bl : d.bnd.length = d.params.length
  dl : d.dfl.length = d.params.length
  bv : ∀ k ∈ d.bnd, k < 0 ∨ k ∈ d.pool
  dv : ∀ k ∈ d.dfl, k < 0 ∨ k ∈ d.pool
  rs : ∀ r ∈ d.rows, r.Small
  rb : ∀ r ∈ d.rows, r.binds.length ≤ 4 ∧ ∀ p ∈ r.binds, 0 ≤ p ∧ p < d.params.length
  rk : ∀ r ∈ d.rows, r.kids.length ≤ 60 ∧ ∀ k ∈ r.kids, k < d.rows.length
  nd : d.rows.Nodup
  pr : ∀ p, Row.param p ∈ d.rows → 0 ≤ p ∧ p < d.params.length
  pp : ∀ (p : Nat) (t : Int), d.params[p]? = some t → 0 ≤ t ∧ d.rows[t.toNat]? = some (.param p) ∧ t ∈ d.pool
  po : ∀ t ∈ d.pool, 0 ≤ t ∧ ∃ r, d.rows[t.toNat]? = some r ∧ (∃ ks, dget d.kids t = some ks ∧ ks.length ≤ 60 ∧ ks.Perm (r.kids.filter fun k => decide (0 ≤ k)) ∧ ∀ k ∈ ks, k ∈ d.pool) ∧ dget d.binds t = some r.binds
  pn : d.pool.Nodup
  pe : d.pool ≠ []
  kn : (d.kids.map (·.1)).Nodup
  kr : ∀ k : Int, k ∈ d.kids.map (·.1) → 0 ≤ k ∧ k < d.rows.length
  bn : (d.binds.map (·.1)).Nodup
  br : ∀ k : Int, k ∈ d.binds.map (·.1) → 0 ≤ k ∧ k < d.rows.length
  rl : d.rows.length ≤ 60
theorem Fit.at {d : Wd} (f : Fit d) {t : Int} (ht : t ∈ d.pool) : 0 ≤ t ∧ t < d.rows.length := by
  obtain ⟨h0, r, hr, _⟩ := f.po t ht
  have := (List.getElem?_eq_some_iff.mp hr).1
  lia
theorem Fit.pool_len {d : Wd} (f : Fit d) : d.pool.length ≤ d.rows.length := nodup_len _ _ f.pn fun _ hx => f.at hx
theorem Fit.p1000 {d : Wd} (f : Fit d) : d.pool.length ≤ 1000 := by have := f.pool_len; have := f.rl; lia
theorem Fit.kids_len {d : Wd} (f : Fit d) : d.kids.length ≤ d.rows.length := by have := nodup_len _ _ f.kn f.kr; simpa using this
theorem Fit.binds_len {d : Wd} (f : Fit d) : d.binds.length ≤ d.rows.length := by have := nodup_len _ _ f.bn f.br; simpa using this
theorem nodup_idx {α : Type} {l : List α} (h : l.Nodup) {i j : Nat} {x : α} (hi : l[i]? = some x) (hj : l[j]? = some x) : i = j := by
  have h1 := (List.getElem?_eq_some_iff.mp hi)
  have h2 := (List.getElem?_eq_some_iff.mp hj)
  obtain ⟨p, hp⟩ := h1
  obtain ⟨q, hq⟩ := h2
  rcases Nat.lt_trichotomy i j with hlt | rfl | hlt
  · exact absurd (hp.trans hq.symm) (List.pairwise_iff_getElem.mp h i j p q hlt)
  · rfl
  · exact absurd (hq.trans hp.symm) (List.pairwise_iff_getElem.mp h j i q p hlt)
theorem Fit.vt {d : Wd} (f : Fit d) : Vt d.rows d.bnd d.dfl where
  small := f.rs
  blen := fun r hr => by have := (f.rb r hr).1; lia
  bin := fun r hr p hp => by have := (f.rb r hr).2 p hp; have := f.bl; lia
  dl := by rw [f.dl, f.bl]
  bl := by have := f.bl; have := f.pl; lia
  bs := by have := f.bl; have := f.pl; lia
  kl := fun r hr => by have := (f.rk r hr).1; lia
  rl := by have := f.rl; lia
  inr := fun r hr k hk => by
    rcases List.mem_append.mp hk with hk | hk
    · exact (f.rk r hr).2 k hk
    · obtain ⟨p, hp, hk⟩ := List.mem_flatMap.mp hk
      have hpr := (f.rb r hr).2 p hp
      have hpos : 0 < d.rows.length := List.length_pos_of_mem hr
      have fin : ∀ l : List Int, (∀ k ∈ l, k < 0 ∨ k ∈ d.pool) → l.length = d.params.length → l[p.toNat]?.getD 0 < (d.rows.length : Int) := fun l hl hll => by
        have hlt : p.toNat < l.length := by lia
        rw [List.getElem?_eq_getElem hlt, Option.getD_some]
        rcases hl _ (List.getElem_mem hlt) with h | h
        · lia
        · exact (f.at h).2
      rcases List.mem_cons.mp hk with rfl | hk
      · exact fin _ f.bv f.bl
      · have : k = d.dfl[p.toNat]?.getD 0 := by simpa using hk
        rw [this]; exact fin _ f.dv f.dl
  pin := fun p hp => by have := f.pr p hp; have := f.bl; lia
  pinj := fun i j p hi hj => nodup_idx f.nd hi hj
structure Le (d d' : Wd) (k : Nat) : Prop where
  pool : ∀ t ∈ d.pool, t ∈ d'.pool
  rows : d'.rows.length ≤ d.rows.length + k
  par : d'.params = d.params
  bnd : d'.bnd = d.bnd
  dfl : d'.dfl = d.dfl
  did : d'.did = d.did
  pre : ∀ (i : Nat) r, d.rows[i]? = some r → d'.rows[i]? = some r
theorem Le.refl (d : Wd) (k : Nat) : Le d d k := ⟨fun _ h => h, by lia, rfl, rfl, rfl, rfl, fun _ _ h => h⟩
theorem Le.trans {d d' d'' : Wd} {j k m : Nat} (h : Le d d' j) (h' : Le d' d'' k) (hm : j + k ≤ m) : Le d d'' m :=
  ⟨fun t ht => h'.pool t (h.pool t ht), by have := h.rows; have := h'.rows; lia, h'.par.trans h.par, h'.bnd.trans h.bnd, h'.dfl.trans h.dfl, h'.did.trans h.did, fun i r hr => h'.pre i r (h.pre i r hr)⟩
theorem Le.next (d : Wd) (nx : Int) (k : Nat) : Le d { d with next := nx } k := ⟨fun _ h => h, by show d.rows.length ≤ _; lia, rfl, rfl, rfl, rfl, fun _ _ h => h⟩
theorem Fit.next {d : Wd} (f : Fit d) {nx : Int} (h : 0 ≤ nx) : Fit { d with next := nx } := ⟨h, f.pl, f.bl, f.dl, f.bv, f.dv, f.rs, f.rb, f.rk, f.nd, f.pr, f.pp, f.po, f.pn, f.pe, f.kn, f.kr, f.bn, f.br, f.rl⟩
structure Lay (d : Wd) (r : Row) (ks : List Int) : Prop where
  small : r.Small
  np : ∀ p, r ≠ .param p
  rb : r.binds.length ≤ 4 ∧ ∀ p ∈ r.binds, 0 ≤ p ∧ p < d.params.length
  rk : r.kids.length ≤ 60
  kl : ks.length ≤ 60
  pm : (ks.filter fun k => decide (0 ≤ k)).Perm (r.kids.filter fun k => decide (0 ≤ k))
  kp : ∀ k ∈ ks, k < 0 ∨ k ∈ d.pool
noncomputable def layW (d : Wd) (rows : List Row) (t : Int) (ks bs : List Int) : Wd :=
  { d with rows := rows, kids := dset d.kids t (ks.filter fun k => decide (0 ≤ k)), binds := dset d.binds t bs, pool := if t ∈ d.pool then d.pool else d.pool ++ [t] }
theorem dset_fits {β : Type} {l : List (Int × β)} {t : Int} {v : β} {N M : Nat} (hn : (l.map (·.1)).Nodup) (hr : ∀ k : Int, k ∈ l.map (·.1) → 0 ≤ k ∧ k < N) (ht : 0 ≤ t ∧ t < M) (hNM : N ≤ M) :
    ((dset l t v).map (·.1)).Nodup ∧ ∀ k : Int, k ∈ (dset l t v).map (·.1) → 0 ≤ k ∧ k < M := by
  rw [dset_keys]
  split
  · exact ⟨hn, fun k hk => by have := hr k hk; lia⟩
  · rename_i hk
    refine ⟨?_, fun k hk' => ?_⟩
    · rw [List.nodup_append]
      refine ⟨hn, by simp, fun y hy z hz e => hk ?_⟩
      have : z = t := by simpa using hz
      rw [← this, ← e]; exact hy
    · rcases List.mem_append.mp hk' with h | h
      · have := hr k h; lia
      · have : k = t := by simpa using h
        rw [this]; exact ht
theorem Lay.fit {d : Wd} {r : Row} {ks : List Int} (f : Fit d) (l : Lay d r ks) {rows : List Row} {t : Nat} (hr : rows[t]? = some r) (hrows : rows = d.rows ∨ (r ∉ d.rows ∧ rows = d.rows ++ [r])) (hl : d.rows.length + 1 ≤ 60) :
    Fit (layW d rows t ks r.binds) ∧ Le d (layW d rows t ks r.binds) 1 ∧ (t : Int) ∈ (layW d rows t ks r.binds).pool := by
  have hpool : ∀ x ∈ d.pool, x ∈ (layW d rows t ks r.binds).pool := by
    intro x hx
    show x ∈ if (t : Int) ∈ d.pool then d.pool else d.pool ++ [(t : Int)]
    split
    · exact hx
    · exact List.mem_append_left _ hx
  have htp : (t : Int) ∈ (layW d rows t ks r.binds).pool := by
    show (t : Int) ∈ if (t : Int) ∈ d.pool then d.pool else d.pool ++ [(t : Int)]
    split
    · assumption
    · simp
  have hpre : ∀ (i : Nat) x, d.rows[i]? = some x → rows[i]? = some x := by
    intro i x hx
    rcases hrows with rfl | ⟨_, rfl⟩
    · exact hx
    · rw [List.getElem?_append_left (List.getElem?_eq_some_iff.mp hx).1]; exact hx
  have hmem : ∀ x ∈ rows, x ∈ d.rows ∨ x = r := by
    intro x hx
    rcases hrows with rfl | ⟨_, rfl⟩
    · exact .inl hx
    · rcases List.mem_append.mp hx with h | h
      · exact .inl h
      · exact .inr (by simpa using h)
  have hlen : d.rows.length ≤ rows.length ∧ rows.length ≤ d.rows.length + 1 := by
    rcases hrows with rfl | ⟨_, rfl⟩
    · lia
    · simp
  have htl : t < rows.length := (List.getElem?_eq_some_iff.mp hr).1
  have hkn := dset_fits (v := ks.filter fun k => decide (0 ≤ k)) f.kn f.kr (t := (t : Int)) (M := rows.length) (by lia) hlen.1
  have hbn := dset_fits (v := r.binds) f.bn f.br (t := (t : Int)) (M := rows.length) (by lia) hlen.1
  have hrk : ∀ k ∈ r.kids, k < (rows.length : Int) := by
    intro k hk
    by_cases h0 : 0 ≤ k
    · have h1 : k ∈ ks.filter fun k => decide (0 ≤ k) := l.pm.mem_iff.mpr (List.mem_filter.mpr ⟨hk, by simpa using h0⟩)
      rcases l.kp k (List.mem_filter.mp h1).1 with h | h
      · lia
      · have := (f.at h).2; lia
    · lia
  refine ⟨?_, ⟨hpool, hlen.2, rfl, rfl, rfl, rfl, hpre⟩, htp⟩
  refine ⟨f.nx, f.pl, f.bl, f.dl, fun k hk => (f.bv k hk).imp id (hpool k), fun k hk => (f.dv k hk).imp id (hpool k), fun x hx => ?_, fun x hx => ?_, fun x hx => ?_, ?_, fun p hp => ?_, fun p x hx => ?_, fun x hx => ?_, ?_, ?_, hkn.1, hkn.2, hbn.1, hbn.2, by show rows.length ≤ 60; lia⟩
  · rcases hmem x hx with h | rfl
    · exact f.rs x h
    · exact l.small
  · rcases hmem x hx with h | rfl
    · exact f.rb x h
    · exact l.rb
  · show x.kids.length ≤ 60 ∧ ∀ k ∈ x.kids, k < (rows.length : Int)
    rcases hmem x hx with h | rfl
    · exact ⟨(f.rk x h).1, fun k hk => by have := (f.rk x h).2 k hk; lia⟩
    · exact ⟨l.rk, hrk⟩
  · show rows.Nodup
    rcases hrows with rfl | ⟨h, rfl⟩
    · exact f.nd
    · rw [List.nodup_append]
      refine ⟨f.nd, by simp, fun y hy z hz e => h ?_⟩
      have : z = r := by simpa using hz
      rw [← this, ← e]; exact hy
  · rcases hmem _ hp with h | h
    · exact f.pr p h
    · exact absurd h.symm (l.np p)
  · obtain ⟨h1, h2, h3⟩ := f.pp p x hx
    exact ⟨h1, hpre _ _ h2, hpool _ h3⟩
  · have hx' : x ∈ d.pool ∨ x = (t : Int) := by
      have hx2 : x ∈ if (t : Int) ∈ d.pool then d.pool else d.pool ++ [(t : Int)] := hx
      split at hx2
      · exact .inl hx2
      · rcases List.mem_append.mp hx2 with h | h
        · exact .inl h
        · exact .inr (by simpa using h)
    by_cases hxt : x = (t : Int)
    · subst hxt
      refine ⟨by lia, r, by show rows[((t : Int)).toNat]? = some r; simpa using hr, ⟨ks.filter fun k => decide (0 ≤ k), ?_, ?_, l.pm, fun k hk => ?_⟩, ?_⟩
      · show dget (dset d.kids (t : Int) _) (t : Int) = _
        rw [dget_dset, if_pos rfl]
      · exact Nat.le_trans (List.length_filter_le _ _) l.kl
      · obtain ⟨h1, h2⟩ := List.mem_filter.mp hk
        have h2' : 0 ≤ k := by simpa using h2
        rcases l.kp k h1 with h | h
        · lia
        · exact hpool k h
      · show dget (dset d.binds (t : Int) _) (t : Int) = _
        rw [dget_dset, if_pos rfl]
    · have hxp : x ∈ d.pool := hx'.resolve_right hxt
      obtain ⟨h0, r', hr', ⟨ks', h1, h1l, h2, h3⟩, h4⟩ := f.po x hxp
      refine ⟨h0, r', hpre _ _ hr', ⟨ks', ?_, h1l, h2, fun k hk => hpool k (h3 k hk)⟩, ?_⟩
      · show dget (dset d.kids (t : Int) _) x = _
        rw [dget_dset, if_neg hxt]; exact h1
      · show dget (dset d.binds (t : Int) _) x = _
        rw [dget_dset, if_neg hxt]; exact h4
  · show (if (t : Int) ∈ d.pool then d.pool else d.pool ++ [(t : Int)]).Nodup
    split
    · exact f.pn
    · rename_i h
      rw [List.nodup_append]
      refine ⟨f.pn, by simp, fun y hy z hz e => h ?_⟩
      have : z = (t : Int) := by simpa using hz
      rw [← this, ← e]; exact hy
  · intro e; rw [e] at htp; cases htp
theorem kdv_set (l : List (Int × List Int)) (k : Int) (v : List Int) : dset (kdv l) k (V.lst (vi v)) = kdv (dset l k v) := dset_map (fun x => V.lst (vi x)) l k v
theorem bdv_set (l : List (Int × List Int)) (k : Int) (v : List Int) : dset (bdv l) k (V.tup (vi v)) = bdv (dset l k v) := dset_map (fun x => V.tup (vi x)) l k v
theorem kdv_get (l : List (Int × List Int)) (k : Int) : dget (kdv l) k = (dget l k).map fun x => V.lst (vi x) := dget_map (fun x => V.lst (vi x)) l k
theorem bdv_get (l : List (Int × List Int)) (k : Int) : dget (bdv l) k = (dget l k).map fun x => V.tup (vi x) := dget_map (fun x => V.tup (vi x)) l k
theorem kdv_length (l : List (Int × List Int)) : (kdv l).length = l.length := by simp [kdv]
theorem bdv_length (l : List (Int × List Int)) : (bdv l).length = l.length := by simp [bdv]
section
variable {X : Cx} {mg mb : Str → Option Value} (b : Bs X mg mb) {n : Nat} {Q : V → St → Prop} {a : Ad} {nums : List Int} {d : Wd} 
include b
theorem call_putW (r : Row) (hl : d.rows.length ≤ 1000)
    (h : ∀ (rows : List Row) (t : Nat), rows[t]? = some r → (rows = d.rows ∨ (r ∉ d.rows ∧ rows = d.rows ++ [r])) → Q (.int t) (wst nums a { d with rows := rows })) : CallC X (n + 1) (wst nums a d) (.ref 71) [.obj a.tab, .tup r.vs] Q := by
  refine call_put b r (a := a) (rows := d.rows) (st₁ := (a.w, .dictS (wds nums a d.next d.did)) :: (a.tab, .inst 74 a.d) :: (a.d, .ns (nsl a)) :: (a.rows, .list ((d.rows ++ [r]).map Row.v)) :: (a.index, .dictT (ixl d.rows)) :: (wst nums a d).drop 5)
    (st₂ := wst nums a { d with rows := d.rows ++ [r] }) hl (by walk_at "m at") (by walk_at "m at") (by walk_at "m at") (by walk_at "m at") (by walk_at "m at") (by walk_at "m at") ?_ ?_ (fun i hi => ?_) fun hno => ?_
  · have e : d.rows.map Row.v ++ [V.tup r.vs] = (d.rows ++ [r]).map Row.v := by rw [List.map_append]; rfl
    rw [e]; exact .tail (.tail (.tail .head))
  · exact .tail (.tail (.tail (.tail .head)))
  · exact h d.rows i hi (.inl rfl)
  · exact h (d.rows ++ [r]) d.rows.length (by simp) (.inr ⟨hno, rfl⟩)
theorem call_lay (f : Fit d) (r : Row) (ks : List Int) (l : Lay d r ks) (hl : d.rows.length + 1 ≤ 60)
    (h : ∀ (t : Int) (d' : Wd), Fit d' → Le d d' 1 → t ∈ d'.pool → d'.rows[t.toNat]? = some r → Q (.int t) (wst nums a d')) : CallC X (n + 2) (wst nums a d) (.ref 207) [.obj a.w, .tup r.vs, .lst (vi ks), .tup (vi r.binds)] Q := by
  refine CallC_def b.F (by k_is) (by k_is) .four (fun L => ?_)
  dsimp only
  have hkl := f.kids_len
  have hbl := f.binds_len
  have hpl := f.pool_len
  have hksl := l.kl
  walk_at "m go"
  refine op_itemS' (y := .obj a.tab) .head rfl ?_
  refine ⟨_, Meth.own b.F (by k_is) (by k_is) (by k_is) (.tail .head) (.tail (.tail .head)) rfl, Kp.frag b.F (by k_is), ?_⟩
  walk_at "m go"
  refine (call_putW b r (by lia) fun rows t hr hrows => ?_).call
  obtain ⟨hfit, hle, htp⟩ := l.fit f hr hrows hl
  have hfin := h (t : Int) _ hfit hle htp (by show rows[((t : Int)).toNat]? = some r; simpa using hr)
  walk_at "m go"
  refine' WE_compP (α := Int) ?_ ?c1 ?c2 ?c3 ?c4 ?c5 ?c6 ?c7
  case c2 => exact rfl
  case c1 => first | exact .nil | exact .cons rfl rfl rfl .nil | exact .cons rfl rfl rfl (.cons rfl rfl rfl .nil) | exact .cons rfl rfl rfl (.cons rfl rfl rfl (.cons rfl rfl rfl .nil))
  case c3 => decide
  case c4 => rfl
  case c5 => decide
  case c6 => rfl
  case c7 => (intro _; rfl)
  walk_at "m go"
  refine ⟨ks, V.int, V.int, fun k => decide (0 ≤ k), .lst _, by lia, fun C k hk => ?_, ?_⟩
  · show WT _ _ _ _ _ _ _
    walk_at "m go"
    refine ⟨fun hc => ?_, fun hc => ?_⟩
    · walk_at "m go"
      first | exact ⟨hc, rfl, rfl⟩ | exact ⟨rfl, rfl⟩
    · exact ⟨hc, rfl⟩
  rw [comp_some ks (fun x => x), List.map_id']
  walk_at "m go"
  refine op_itemS' (y := .obj a.kids) .head rfl ?_
  walk_at "m go"
  refine op_setD (l := kdv d.kids) (by rw [kdv_set]; exact .tail (.tail (.tail (.tail (.tail (.tail (.tail (.tail (.tail (.tail .head)))))))))) (by rw [kdv_length]; lia) ?_
  walk_at "m go"
  refine op_itemS' (y := .obj a.binds) .head rfl ?_
  walk_at "m go"
  refine op_setD (l := bdv d.binds) (by rw [bdv_set]; exact .tail (.tail (.tail (.tail (.tail (.tail (.tail (.tail (.tail (.tail (.tail .head))))))))))) (by rw [bdv_length]; lia) ?_
  walk_at "m go"
  refine op_itemS' (y := .obj a.pool) .head rfl ?_
  refine op_ninl (l := d.pool) (.obj (.tail (.tail (.tail (.tail (.tail (.tail (.tail (.tail .head))))))))) ?_
  walk_at "m go"
  refine ⟨fun hc => ?_, fun hc => ?_⟩
  · have hno : (t : Int) ∉ d.pool := by simpa using hc
    unfold layW at hfin
    rw [if_neg hno] at hfin
    walk_at "m go"
    refine op_itemS' (y := .obj a.pool) .head rfl ?_
    refine ⟨_, Meth.list (l := vi d.pool) (.tail (.tail (.tail (.tail (.tail (.tail (.tail (.tail .head)))))))) F.plainAttrs_list F.slot_list_append F.type_list_append, Kp.builtin _, ?_⟩
    walk_at "m go"
    refine c_append (l := vi d.pool) (by rw [show vi d.pool ++ [V.int (t : Int)] = vi (d.pool ++ [(t : Int)]) from by rw [vi_append]; rfl]; exact .tail (.tail (.tail (.tail (.tail (.tail (.tail (.tail .head)))))))) (by rw [vi_length]; lia) ?_
    walk_at "m go"
    exact hfin
  · have hyes : (t : Int) ∈ d.pool := by simpa using hc
    unfold layW at hfin
    rw [if_pos hyes] at hfin
    walk_at "m go"
    exact hfin
theorem call_layK (f : Fit d) (r : Row) (hs : r.Small) (hnp : ∀ p, r ≠ .param p) (hb : r.binds.length ≤ 4 ∧ ∀ p ∈ r.binds, 0 ≤ p ∧ p < d.params.length) (hk : r.kids.length ≤ 60) (hkp : ∀ k ∈ r.kids, k < 0 ∨ k ∈ d.pool) (hl : d.rows.length + 1 ≤ 60)
    (h : ∀ (t : Int) (d' : Wd), Fit d' → Le d d' 1 → t ∈ d'.pool → d'.rows[t.toNat]? = some r → Q (.int t) (wst nums a d')) : CallC X (n + 2) (wst nums a d) (.ref 207) [.obj a.w, .tup r.vs, .lst (vi r.kids), .tup (vi r.binds)] Q :=
  call_lay b f r r.kids ⟨hs, hnp, hb, hk, hk, .refl _, hkp⟩ hl h
end
noncomputable def xn (i : Nat) : Str := "x" ++ Str.ofString (toString (0 + (i : Int)))
noncomputable def nps (ks : List Int) : List (Str × Int) := (List.range ks.length).map fun i => (xn i, ks[i]?.getD 0)
theorem nps_snd (ks : List Int) : (nps ks).map (·.2) = ks := by
  unfold nps
  rw [List.map_map]
  refine List.ext_getElem (by simp) fun i h1 h2 => ?_
  simp [List.getElem?_eq_getElem h2]
theorem nps_len (ks : List Int) : (nps ks).length = ks.length := by simp [nps]
section
variable {X : Cx} {mg mb : Str → Option Value} (b : Bs X mg mb) {n : Nat} {Q : V → St → Prop} {a : Ad} {nums : List Int} {d : Wd} 
include b
theorem call_sig (f : Fit d) (hn : 1 ≤ nums.length ∧ nums.length ≤ 40) (bs : List Int) (hb : bs.length ≤ 4 ∧ ∀ p ∈ bs, 0 ≤ p ∧ p < d.params.length) (hl : d.rows.length + 1 ≤ 60)
    (h : ∀ t d', Fit d' → Le d d' 1 → t ∈ d'.pool → Q (.int t) (wst nums a d')) : CallC X (n + 4) (wst nums a d) (.ref 219) [.obj a.w, .tup (vi bs)] Q := by
  refine CallC_def b.F (by k_is) (by k_is) .two (fun L => ?_)
  dsimp only
  have hpl := f.pool_len
  walk_at "m go"
  refine' WE_comp ?_ ?c1 ?c2 ?c3 ?c4 ?c5 ?c6 ?c7
  case c2 => exact rfl
  case c1 => first | exact .nil | exact .cons rfl rfl rfl .nil | exact .cons rfl rfl rfl (.cons rfl rfl rfl .nil) | exact .cons rfl rfl rfl (.cons rfl rfl rfl (.cons rfl rfl rfl .nil))
  case c3 => decide
  case c4 => rfl
  case c5 => decide
  case c6 => rfl
  case c7 => (intro _; rfl)
  walk_at "m go"
  refine (call_take (n := n) b 3 (by decide) hn f.nx fun m nx hm0 hm1 hnx => ?_).at (Nat.add_le_add_left (by decide) _)
  walk_at "m go"
  refine c_range1 ?_
  refine ⟨_, .rng 0 m (by lia), by rw [rngItems_length]; lia, fun done todo acc st' => ∃ nx ks, 0 ≤ nx ∧ st' = wst nums a { d with next := nx } ∧ acc = vi ks ∧ (∀ k ∈ ks, k ∈ d.pool) ∧ ks.length = done.length,
    ⟨nx, [], hnx, rfl, rfl, by simp, rfl⟩, ?_, ?_⟩
  · rintro C done y todo acc st₂ he ⟨nx', ks, h0, rfl, rfl, hks, hlen⟩
    show WE _ _ _ _ _ _ _
    walk_at "m go"
    refine (call_pick (n := n) b (d := { d with next := nx' }) hn h0 f.pe f.p1000 fun t nx2 ht h2 => ?_).at (Nat.add_le_add_left (by decide) _)
    exact ⟨nx2, ks ++ [t], h2, rfl, by rw [vi_append]; rfl, fun k hk => by
      rcases List.mem_append.mp hk with hk | hk
      · exact hks k hk
      · have : k = t := by simpa using hk
        rw [this]; exact ht, by simp [hlen]⟩
  rintro acc st₂ ⟨nx', ks, h0, rfl, rfl, hks, hlen⟩
  have hkl : ks.length ≤ 2 := by rw [hlen, rngItems_length]; lia
  walk_at "m go"
  refine (call_pick (n := n) b (d := { d with next := nx' }) hn h0 f.pe f.p1000 fun ret nx2 hret h2 => ?_).at (Nat.add_le_add_left (by decide) _)
  walk_at "m go"
  refine' WE_compP (α := Nat) ?_ ?c1 ?c2 ?c3 ?c4 ?c5 ?c6 ?c7
  case c2 => exact rfl
  case c1 => first | exact .nil | exact .cons rfl rfl rfl .nil | exact .cons rfl rfl rfl (.cons rfl rfl rfl .nil) | exact .cons rfl rfl rfl (.cons rfl rfl rfl (.cons rfl rfl rfl .nil))
  case c3 => decide
  case c4 => rfl
  case c5 => decide
  case c6 => rfl
  case c7 => (intro _; rfl)
  walk_at "m go"
  refine c_len (.lst _) (by rw [vi_length]; lia) ?_
  rw [vi_length]
  walk_at "m go"
  refine c_range1 ?_
  refine ⟨List.range ((ks.length : Int) - 0).toNat, fun i => .int (0 + (i : Int)), fun i => parV (xn i, ks[i]?.getD 0), fun _ => true, .rng 0 _ (by lia), by simp; lia, fun C i hi => ?_, ?_⟩
  · have hi' : i < ks.length := by simpa using hi
    show WE _ _ _ _ _ _ _
    walk_at "m go"
    have hi2 : i = 0 ∨ i = 1 := by lia
    refine c_str (by rcases hi2 with rfl | rfl <;> decide) ?_
    walk_at "m go"
    refine op_adds (by rcases hi2 with rfl | rfl <;> decide +kernel) ?_
    walk_at "m go"
    refine op_itemL (.lst _) (by lia) (by lia) (y := .int (ks[i]?.getD 0)) (by
      have : (0 + (i : Int)).toNat = i := by lia
      rw [this]; unfold vi; rw [List.getElem?_map, List.getElem?_eq_getElem hi']; rfl) ?_
    walk_at "m go"
    first | exact ⟨rfl, rfl, rfl⟩ | exact ⟨rfl, rfl⟩
  rw [show List.map (fun i => parV (xn i, ks[i]?.getD 0)) (List.filter (fun x => true) (List.range ((ks.length : Int) - 0).toNat)) = (nps ks).map parV from by
    rw [List.filter_eq_self.mpr (fun _ _ => rfl)]; unfold nps; rw [List.map_map]; simp]
  walk_at "m go"
  refine c_tupleL (.lst _) (by rw [List.length_map, nps_len]; lia) ?_
  walk_at "m go"
  refine (call_take (n := n) b (d := { d with next := nx2 }) 3 (by decide) hn h2 fun m2 nx3 hm20 hm21 h3 => ?_).at (Nat.add_le_add_left (by decide) _)
  walk_at "m go"
  refine ⟨fun hc => ?_, fun hc => ?_⟩
  · walk_at "m go"
    refine (call_maybe (n := n) b (d := { d with next := nx3 }) hn h3 f.pe f.p1000 fun told nx4 htold h4 => ?_).at (Nat.add_le_add_left (by decide) _)
    walk_at "m go"
    refine op_net (a := [told]) (b := []) ?_
    walk_at "m go"
    refine ⟨fun _ => ?_, fun e => absurd e (by simp)⟩
    walk_at "m go"
    refine WE_listF ?_
    walk_at "m go"
    refine op_addLF (.lst _) (.lst _) (by simp [vi]; lia) ?_
    walk_at "m go"
    refine c_listF (by simp) ?_
    walk_at "m go"
    refine op_addLF (.lst _) (.lst _) (by simp [vi]; lia) ?_
    rw [show vi ks ++ [V.int ret] ++ [V.int told] = vi (ks ++ [ret] ++ [told]) from by simp [vi]]
    walk_at "m go"
    refine (call_lay (n := n) b (d := { d with next := nx4 }) (f.next h4) (.sig bs (nps ks) ret [-1, told, 0]) (ks ++ [ret] ++ [told]) ?_ hl fun t d' hf hle ht _ => ?_).at (Nat.add_le_add_left (by decide) _)
    · have hkids : (Row.sig bs (nps ks) ret [-1, told, 0]).kids = ks ++ [ret] ++ [told] := by
        show (nps ks).map (·.2) ++ [ret] ++ _ = _
        rw [nps_snd]; rfl
      refine ⟨⟨by lia, by rw [nps_len]; lia, .inr ⟨_, _, _, rfl⟩⟩, fun p e => (nomatch e), hb, by rw [hkids]; simp; lia, by simp; lia, by rw [hkids], fun k hk => ?_⟩
      simp only [List.mem_append, List.mem_singleton] at hk
      rcases hk with (hk | rfl) | rfl
      · exact .inr (hks k hk)
      · exact .inr hret
      · rcases htold with rfl | hh
        · exact .inl (by decide)
        · exact .inr hh
    walk_at "m go"
    exact h t d' hf ⟨hle.pool, hle.rows, hle.par, hle.bnd, hle.dfl, hle.did, hle.pre⟩ ht
  · walk_at "m go"
    refine op_net (a := []) (b := []) ?_
    walk_at "m go"
    refine WE_listF ?_
    walk_at "m go"
    refine op_addLF (.lst _) (.lst _) (by simp [vi]; lia) ?_
    walk_at "m go"
    refine c_listF (by simp) ?_
    walk_at "m go"
    refine op_addLF (.lst _) (.lst _) (by simp [vi]; lia) ?_
    rw [show vi ks ++ [V.int ret] ++ [] = vi (ks ++ [ret] ++ []) from by simp [vi]]
    walk_at "m go"
    refine (call_lay (n := n) b (d := { d with next := nx3 }) (f.next h3) (.sig bs (nps ks) ret []) (ks ++ [ret] ++ []) ?_ hl fun t d' hf hle ht _ => ?_).at (Nat.add_le_add_left (by decide) _)
    · have hkids : (Row.sig bs (nps ks) ret []).kids = ks ++ [ret] ++ [] := by
        show (nps ks).map (·.2) ++ [ret] ++ _ = _
        rw [nps_snd]; rfl
      refine ⟨⟨by lia, by rw [nps_len]; lia, .inl rfl⟩, fun p e => (nomatch e), hb, by rw [hkids]; simp; lia, by simp; lia, by rw [hkids], fun k hk => ?_⟩
      simp only [List.mem_append, List.mem_singleton, List.not_mem_nil, or_false] at hk
      rcases hk with hk | rfl
      · exact .inr (hks k hk)
      · exact .inr hret



    walk_at "m go"
    exact h t d' hf ⟨hle.pool, hle.rows, hle.par, hle.bnd, hle.dfl, hle.did, hle.pre⟩ ht
end
theorem Le.of {d d' : Wd} {nx : Int} {k : Nat} (h : Le { d with next := nx } d' k) : Le d d' k := ⟨h.pool, h.rows, h.par, h.bnd, h.dfl, h.did, h.pre⟩
theorem Le.more {d d' : Wd} {k m : Nat} (h : Le d d' k) (hm : k ≤ m) : Le d d' m := ⟨h.pool, by have := h.rows; lia, h.par, h.bnd, h.dfl, h.did, h.pre⟩
section
variable {X : Cx} {mg mb : Str → Option Value} (b : Bs X mg mb) {n : Nat} {Q : V → St → Prop} {a : Ad} {nums : List Int} {d : Wd} 
include b
theorem call_cond (f : Fit d) (hn : 1 ≤ nums.length ∧ nums.length ≤ 40) (bs : List Int) (hb : bs.length ≤ 4 ∧ ∀ p ∈ bs, 0 ≤ p ∧ p < d.params.length) (hl : d.rows.length + 1 ≤ 60)
    (h : ∀ t d', Fit d' → Le d d' 1 → t ∈ d'.pool → Q (.int t) (wst nums a d')) : CallC X (n + 4) (wst nums a d) (.ref 224) [.obj a.w, .tup (vi bs)] Q := by
  refine CallC_def b.F (by k_is) (by k_is) .two (fun L => ?_)
  dsimp only
  have hpl := f.pool_len
  walk_at "m go"
  refine' WS_assignC ?_ ?c1 ?c8 ?c9 ?c2 ?c3 ?c4 ?c5 ?c6 ?c7
  case c2 => exact rfl
  case c1 => first | exact .nil | exact .cons rfl rfl rfl .nil | exact .cons rfl rfl rfl (.cons rfl rfl rfl .nil) | exact .cons rfl rfl rfl (.cons rfl rfl rfl (.cons rfl rfl rfl .nil))
  case c3 => decide
  case c4 => rfl
  case c5 => decide
  case c6 => rfl
  case c7 => (intro _; rfl)
  case c8 => walk_at "m sto"
  case c9 => rfl
  walk_at "m go"
  refine c_range1 ?_
  refine ⟨_, .rng 0 4 (by lia), by rw [rngItems_length]; lia, fun done todo acc st' => ∃ nx ks, 0 ≤ nx ∧ st' = wst nums a { d with next := nx } ∧ acc = vi ks ∧ (∀ k ∈ ks, k ∈ d.pool) ∧ ks.length = done.length,
    ⟨d.next, [], f.nx, rfl, rfl, by simp, rfl⟩, ?_, ?_⟩
  · rintro C done y todo acc st₂ he ⟨nx', ks, h0, rfl, rfl, hks, hlen⟩
    show WE _ _ _ _ _ _ _
    walk_at "m go"
    refine (call_pick (n := n) b (d := { d with next := nx' }) hn h0 f.pe f.p1000 fun t nx2 ht h2 => ?_).at (Nat.add_le_add_left (by decide) _)
    exact ⟨nx2, ks ++ [t], h2, rfl, by rw [vi_append]; rfl, fun k hk => by
      rcases List.mem_append.mp hk with hk | hk
      · exact hks k hk
      · have : k = t := by simpa using hk
        rw [this]; exact ht, by simp [hlen]⟩
  rintro acc st₂ ⟨nx', ks, h0, rfl, rfl, hks, hlen⟩
  have hkl : ks.length = 4 := by rw [hlen, rngItems_length]; rfl
  obtain ⟨x, y, z, t, rfl⟩ : ∃ x y z t, ks = [x, y, z, t] := by
    match ks, hkl with
    | [x, y, z, t], _ => exact ⟨x, y, z, t, rfl⟩
  walk_at "m go"
  refine op_itemL (l := vi [x, y, z, t]) (.lst _) (by decide) (by decide) (y := .int x) rfl ?_
  walk_at "m go"
  refine op_itemL (l := vi [x, y, z, t]) (.lst _) (by decide) (by decide) (y := .int y) rfl ?_
  walk_at "m go"
  refine op_itemL (l := vi [x, y, z, t]) (.lst _) (by decide) (by decide) (y := .int z) rfl ?_
  walk_at "m go"
  refine op_itemL (l := vi [x, y, z, t]) (.lst _) (by decide) (by decide) (y := .int t) rfl ?_
  walk_at "m go"
  refine (call_take (n := n) b (d := { d with next := nx' }) 2 (by decide) hn h0 fun m nx2 hm0 hm1 h2 => ?_).at (Nat.add_le_add_left (by decide) _)
  walk_at "m go"
  refine (call_layK (n := n) b (d := { d with next := nx2 }) (f.next h2) (.cond x y z t bs m) (by show bs.length ≤ 100; lia) (fun p e => (nomatch e)) hb (by simp [Row.kids]) (fun k hk => .inr (hks k hk)) hl fun t d' hf hle ht _ => ?_).at (Nat.add_le_add_left (by decide) _)
  walk_at "m go"
  exact h t d' hf hle.of ht
theorem call_mapped (f : Fit d) (hn : 1 ≤ nums.length ∧ nums.length ≤ 40) (p : Int) (hp : 0 ≤ p ∧ p < d.params.length) (hl : d.rows.length + 1 ≤ 60)
    (h : ∀ t d', Fit d' → Le d d' 1 → t ∈ d'.pool → Q (.int t) (wst nums a d')) : CallC X (n + 4) (wst nums a d) (.ref 231) [.obj a.w, .int p] Q := by
  refine CallC_def b.F (by k_is) (by k_is) .two (fun L => ?_)
  dsimp only
  have hpl := f.pool_len
  walk_at "m go"
  refine (call_pick (n := n) b hn f.nx f.pe (by lia) fun x nx1 hx h1 => ?_).at (Nat.add_le_add_left (by decide) _)
  walk_at "m go"
  refine (call_maybe (n := n) b (d := { d with next := nx1 }) hn h1 f.pe f.p1000 fun y nx2 hy h2 => ?_).at (Nat.add_le_add_left (by decide) _)
  walk_at "m go"
  refine (call_pick (n := n) b (d := { d with next := nx2 }) hn h2 f.pe f.p1000 fun z nx3 hz h3 => ?_).at (Nat.add_le_add_left (by decide) _)
  walk_at "m go"
  refine (call_take (n := n) b (d := { d with next := nx3 }) 9 (by decide) hn h3 fun m nx4 hm0 hm1 h4 => ?_).at (Nat.add_le_add_left (by decide) _)
  walk_at "m go"
  refine op_fdiv (by decide) (by decide) ?_
  walk_at "m go"
  refine op_mod (by decide) ?_
  walk_at "m go"
  refine WE_listF ?_
  walk_at "m go"
  have hpb : (Row.mapped p x y z (m.fdiv 3) (m.fmod 3)).binds.length ≤ 4 ∧ ∀ q ∈ (Row.mapped p x y z (m.fdiv 3) (m.fmod 3)).binds, 0 ≤ q ∧ q < d.params.length :=
    ⟨by simp [Row.binds], fun q hq => by rw [show q = p from by simpa [Row.binds] using hq]; exact hp⟩
  refine (call_layK (n := n) b (d := { d with next := nx4 }) (f.next h4) (.mapped p x y z (m.fdiv 3) (m.fmod 3)) True.intro (fun p e => (nomatch e)) hpb (by simp [Row.kids]) (fun k hk => ?_) hl fun t d' hf hle ht _ => ?_).at (Nat.add_le_add_left (by decide) _)
  · simp only [Row.kids, List.mem_cons, List.not_mem_nil, or_false] at hk
    rcases hk with rfl | rfl | rfl
    · exact .inr hx
    · rcases hy with rfl | hy
      · exact .inl (by decide)
      · exact .inr hy
    · exact .inr hz
  walk_at "m go"
  exact h t d' hf hle.of ht
end
theorem no_binds {r : Row} (h : r.binds = []) {d : Wd} : r.binds.length ≤ 4 ∧ ∀ p ∈ r.binds, 0 ≤ p ∧ p < d.params.length := by rw [h]; exact ⟨by simp, fun _ hp => (nomatch hp)⟩
section
variable {X : Cx} {mg mb : Str → Option Value} (b : Bs X mg mb) {n : Nat} {Q : V → St → Prop} {a : Ad} {nums : List Int} {d : Wd} 
include b
theorem call_list (f : Fit d) (hd : d.did = true) (hn : 1 ≤ nums.length ∧ nums.length ≤ 40) (hl : d.rows.length + 1 ≤ 60)
    (h : ∀ t d', Fit d' → Le d d' 1 → t ∈ d'.pool → Q (.int t) (wst nums a d')) : CallC X (n + 4) (wst nums a d) (.ref 243) [.obj a.w] Q := by
  refine CallC_def b.F (by k_is) (by k_is) .one (fun L => ?_)
  dsimp only
  have hpl := f.pool_len
  have hdid : ∀ nx, dget (wds nums a nx d.did) "did" = some (.int 1) := fun nx => by rw [hd]; rfl
  walk_at "m go"
  refine (call_take (n := n) b 4 (by decide) hn f.nx fun m nx1 hm0 hm1 h1 => ?_).at (Nat.add_le_add_left (by decide) _)
  walk_at "m go"
  refine (call_pick (n := n) b (d := { d with next := nx1 }) hn h1 f.pe f.p1000 fun x nx2 hx h2 => ?_).at (Nat.add_le_add_left (by decide) _)
  walk_at "m go"
  refine (call_pick (n := n) b (d := { d with next := nx2 }) hn h2 f.pe f.p1000 fun y nx3 hy h3 => ?_).at (Nat.add_le_add_left (by decide) _)
  walk_at "m go"
  have two : ∀ k ∈ [x, y], k < 0 ∨ k ∈ d.pool := fun k hk => by
    simp only [List.mem_cons, List.not_mem_nil, or_false] at hk
    rcases hk with rfl | rfl
    · exact .inr hx
    · exact .inr hy
  have one : ∀ k ∈ [x], k < 0 ∨ k ∈ d.pool := fun k hk => two k (by simp at hk; simp [hk])
  have fin : ∀ r : Row, ∀ (t : Int) (d' : Wd), Fit d' → Le { d with next := nx3 } d' 1 → t ∈ d'.pool → d'.rows[t.toNat]? = some r → Q (.int t) (wst nums a d') := fun r t d' hf hle ht _ => h t d' hf hle.of ht
  refine ⟨fun hc => ?_, fun hc => ?_⟩
  · walk_at "m go"
    refine WE_listF ?_
    walk_at "m go"
    refine (call_layK (n := n) b (d := { d with next := nx3 }) (f.next h3) (.array x) True.intro (fun p e => (nomatch e)) (no_binds rfl) (by simp [Row.kids]) one hl fun t d' hf hle ht hr => ?_).at (Nat.add_le_add_left (by decide) _)
    walk_at "m go"
    exact fin _ t d' hf hle ht hr
  walk_at "m go"
  refine ⟨fun hc => ?_, fun hc => ?_⟩
  · walk_at "m go"
    refine WE_listF ?_
    walk_at "m go"
    refine (call_layK (n := n) b (d := { d with next := nx3 }) (f.next h3) (.tuple [(x, 0), (y, 1)] 1) (by simp [Row.Small]) (fun p e => (nomatch e)) (no_binds rfl) (by simp [Row.kids]) two hl fun t d' hf hle ht hr => ?_).at (Nat.add_le_add_left (by decide) _)
    walk_at "m go"
    exact fin _ t d' hf hle ht hr
  walk_at "m go"
  refine ⟨fun hc => ?_, fun hc => ?_⟩
  · walk_at "m go"
    refine op_itemS' (y := .int 1) .head (hdid nx3) ?_
    walk_at "m go"
    refine WE_listF ?_
    walk_at "m go"
    refine (call_layK (n := n) b (d := { d with next := nx3 }) (f.next h3) (.ref 1 [x, y]) (by simp [Row.Small]) (fun p e => (nomatch e)) (no_binds rfl) (by simp [Row.kids]) two hl fun t d' hf hle ht hr => ?_).at (Nat.add_le_add_left (by decide) _)
    walk_at "m go"
    exact fin _ t d' hf hle ht hr
  walk_at "m go"
  refine op_itemS' (y := .int 1) .head (hdid nx3) ?_
  walk_at "m go"
  refine WE_listF ?_
  walk_at "m go"
  refine (call_layK (n := n) b (d := { d with next := nx3 }) (f.next h3) (.alias 1 [x]) (by simp [Row.Small]) (fun p e => (nomatch e)) (no_binds rfl) (by simp [Row.kids]) one hl fun t d' hf hle ht hr => ?_).at (Nat.add_le_add_left (by decide) _)
  walk_at "m go"
  exact fin _ t d' hf hle ht hr

theorem call_single (f : Fit d) (t : Int) (ht : t ∈ d.pool) {r : Row} (hr : d.rows[t.toNat]? = some r) (h : Q (.bool (r.tag != 6)) (wst nums a d)) : CallC X (n + 1) (wst nums a d) (.ref 250) [.obj a.w, .int t] Q := by
  refine CallC_def b.F (by k_is) (by k_is) .two (fun L => ?_)
  dsimp only
  have hat := f.at ht
  have hrl := f.rl
  walk_at "m go"
  refine op_itemS' (y := .obj a.tab) .head rfl ?_
  walk_at "m go"
  refine get_rows b (.tail .head) (.tail (.tail .head)) ?_
  walk_at "m go"
  refine op_itemL (l := d.rows.map Row.v) (.obj (.tail (.tail (.tail .head)))) hat.1 (by lia) (y := r.v) (by rw [List.getElem?_map, hr]; rfl) ?_
  walk_at "m go"
  refine op_itemT (by decide) (by decide) (y := .int r.tag) r.tag_at ?_
  walk_at "m go"
  exact h

theorem call_joined (f : Fit d) (one two : Int) (h1 : one ∈ d.pool) (h2 : two ∈ d.pool) (hl : d.rows.length + 1 ≤ 60)
    (h : ∀ t d', Fit d' → Le d d' 1 → t ∈ d'.pool → ((t = one ∧ d' = d) ∨ (t ≠ one ∧ d'.rows[t.toNat]? = some (.union (isort [one, two])))) → Q (.int t) (wst nums a d')) : CallC X (n + 4) (wst nums a d) (.ref 257) [.obj a.w, .int one, .int two] Q := by
  refine CallC_def b.F (by k_is) (by k_is) .three (fun L => ?_)
  dsimp only
  obtain ⟨h10, r1, hr1, _⟩ := f.po one h1
  obtain ⟨h20, r2, hr2, _⟩ := f.po two h2
  have same := h one d f (.refl d 1) h1 (.inl ⟨rfl, rfl⟩)
  walk_at "m go"
  refine ⟨fun hc => ?_, fun hc => ?_⟩
  rotate_left
  · walk_at "m go"
    exact same
  walk_at "m go"
  refine (call_single (n := n) b f one h1 hr1 ?_).at (Nat.add_le_add_left (by decide) _)
  walk_at "m go"
  refine ⟨fun hs1 => ?_, fun hs1 => ?_⟩
  rotate_left
  · walk_at "m go"
    exact same
  walk_at "m go"
  refine (call_single (n := n) b f two h2 hr2 ?_).at (Nat.add_le_add_left (by decide) _)
  walk_at "m go"
  refine ⟨fun hs2 => ?_, fun hs2 => ?_⟩
  rotate_left
  · walk_at "m go"
    exact same
  walk_at "m go"
  refine WE_listF ?_
  walk_at "m go"
  refine c_sortedL (l := [one, two]) (.lst _) (by simp) ?_
  walk_at "m go"
  refine c_tupleL (.lst _) (by rw [vi_length, (isort_perm _).length_eq]; simp) ?_
  walk_at "m go"
  refine WE_listF ?_
  walk_at "m go"
  have hlen : (isort [one, two]).length = 2 := (isort_perm _).length_eq
  have two' : ∀ k ∈ [one, two], k < 0 ∨ k ∈ d.pool := fun k hk => by
    simp only [List.mem_cons, List.not_mem_nil, or_false] at hk
    rcases hk with rfl | rfl
    · exact .inr h1
    · exact .inr h2
  refine (call_lay (n := n) b f (.union (isort [one, two])) [one, two] ⟨by show (isort [one, two]).length ≤ 100; lia, fun p e => (nomatch e), no_binds rfl, by show (isort [one, two]).length ≤ 60; lia, by simp, (isort_perm _).symm.filter _, two'⟩ hl fun t d' hf hle ht hr => ?_).at (Nat.add_le_add_left (by decide) _)
  walk_at "m go"
  refine h t d' hf hle ht (.inr ⟨fun e => ?_, hr⟩)
  subst e
  have := hle.pre _ _ hr1
  rw [hr] at this
  cases this
  revert hs1
  simp [Row.tag]

theorem call_other (f : Fit d) (hn : 1 ≤ nums.length ∧ nums.length ≤ 40) (hl : d.rows.length + 1 ≤ 60)
    (h : ∀ t d', Fit d' → Le d d' 1 → t ∈ d'.pool → Q (.int t) (wst nums a d')) : CallC X (n + 5) (wst nums a d) (.ref 264) [.obj a.w] Q := by
  refine CallC_def b.F (by k_is) (by k_is) .one (fun L => ?_)
  dsimp only
  have hpl := f.pool_len
  walk_at "m go"
  refine (call_take (n := n) b 5 (by decide) hn f.nx fun m nx1 hm0 hm1 h1 => ?_).at (Nat.add_le_add_left (by decide) _)
  walk_at "m go"
  refine (call_pick (n := n) b (d := { d with next := nx1 }) hn h1 f.pe f.p1000 fun x nx2 hx h2 => ?_).at (Nat.add_le_add_left (by decide) _)
  walk_at "m go"
  refine (call_pick (n := n) b (d := { d with next := nx2 }) hn h2 f.pe f.p1000 fun y nx3 hy h3 => ?_).at (Nat.add_le_add_left (by decide) _)
  walk_at "m go"
  have two : ∀ k ∈ [x, y], k < 0 ∨ k ∈ d.pool := fun k hk => by
    simp only [List.mem_cons, List.not_mem_nil, or_false] at hk
    rcases hk with rfl | rfl
    · exact .inr hx
    · exact .inr hy
  have one : ∀ k ∈ [x], k < 0 ∨ k ∈ d.pool := fun k hk => two k (by simp at hk; simp [hk])
  have fin : ∀ r : Row, ∀ (t : Int) (d' : Wd), Fit d' → Le { d with next := nx3 } d' 1 → t ∈ d'.pool → d'.rows[t.toNat]? = some r → Q (.int t) (wst nums a d') := fun r t d' hf hle ht _ => h t d' hf hle.of ht
  refine ⟨fun hc => ?_, fun hc => ?_⟩
  · walk_at "m go"
    refine (call_joined (n := n) b (d := { d with next := nx3 }) (f.next h3) x y hx hy hl fun t d' hf hle ht _ => ?_).at (Nat.add_le_add_left (by decide) _)
    walk_at "m go"
    exact h t d' hf hle.of ht
  walk_at "m go"
  refine ⟨fun hc => ?_, fun hc => ?_⟩
  · walk_at "m go"
    refine WE_listF ?_
    walk_at "m go"
    refine (call_layK (n := n) b (d := { d with next := nx3 }) (f.next h3) (.inter [x, y]) (by simp [Row.Small]) (fun p e => (nomatch e)) (no_binds rfl) (by simp [Row.kids]) two hl fun t d' hf hle ht hr => ?_).at (Nat.add_le_add_left (by decide) _)
    walk_at "m go"
    exact fin _ t d' hf hle ht hr
  walk_at "m go"
  refine ⟨fun hc => ?_, fun hc => ?_⟩
  · walk_at "m go"
    refine WE_listF ?_
    walk_at "m go"
    refine (call_layK (n := n) b (d := { d with next := nx3 }) (f.next h3) (.keyof x) True.intro (fun p e => (nomatch e)) (no_binds rfl) (by simp [Row.kids]) one hl fun t d' hf hle ht hr => ?_).at (Nat.add_le_add_left (by decide) _)
    walk_at "m go"
    exact fin _ t d' hf hle ht hr
  walk_at "m go"
  refine ⟨fun hc => ?_, fun hc => ?_⟩
  · walk_at "m go"
    refine WE_listF ?_
    walk_at "m go"
    refine (call_layK (n := n) b (d := { d with next := nx3 }) (f.next h3) (.index x y) True.intro (fun p e => (nomatch e)) (no_binds rfl) (by simp [Row.kids]) two hl fun t d' hf hle ht hr => ?_).at (Nat.add_le_add_left (by decide) _)
    walk_at "m go"
    exact fin _ t d' hf hle ht hr
  walk_at "m go"
  refine WE_listF ?_
  walk_at "m go"
  refine (call_layK (n := n) b (d := { d with next := nx3 }) (f.next h3) (.tpl [x, y]) (by simp [Row.Small]) (fun p e => (nomatch e)) (no_binds rfl) (by simp [Row.kids]) two hl fun t d' hf hle ht hr => ?_).at (Nat.add_le_add_left (by decide) _)
  walk_at "m go"
  exact fin _ t d' hf hle ht hr

theorem call_some_pid (f : Fit d) (hn : 1 ≤ nums.length ∧ nums.length ≤ 40) (h : ∀ p nx : Int, 0 ≤ p → p < d.params.length → 0 ≤ nx → Q (.int p) (wst nums a { d with next := nx })) : CallC X (n + 2) (wst nums a d) (.ref 271) [.obj a.w] Q := by
  refine CallC_def b.F (by k_is) (by k_is) .one (fun L => ?_)
  dsimp only
  have hp := f.pl
  walk_at "m go"
  refine op_itemS' (y := .obj a.params) .head rfl ?_
  walk_at "m go"
  refine c_len (l := vi d.params) (.obj (.tail (.tail (.tail (.tail (.tail (.tail (.tail (.tail (.tail .head)))))))))) (by rw [vi_length]; lia) ?_
  rw [vi_length]
  walk_at "m go"
  refine (call_take (n := n) b (d.params.length : Int) (by lia) hn f.nx fun m nx1 hm0 hm1 h1 => ?_).at (Nat.add_le_add_left (by decide) _)
  walk_at "m go"
  exact h m nx1 hm0 hm1 h1
end
noncomputable def an (i : Nat) : Str := ⟨#[97 + i]⟩
noncomputable def ops (ks : List Int) : List (Str × Int) := (List.range ks.length).map fun i => (an i, ks[i]?.getD 0)
theorem ops_snd (ks : List Int) : (ops ks).map (·.2) = ks := by
  unfold ops
  rw [List.map_map]
  refine List.ext_getElem (by simp) fun i h1 h2 => ?_
  simp [List.getElem?_eq_getElem h2]
theorem ops_len (ks : List Int) : (ops ks).length = ks.length := by simp [ops]
noncomputable def cellv (c : Int) : List Int := if c < 0 then [] else [c, 1]
theorem cell_filter (c : Int) : ((cellv c).take 1).filter (fun k => decide (0 ≤ k)) = [c].filter fun k => decide (0 ≤ k) := by
  unfold cellv
  by_cases h : c < 0
  · have : ¬ 0 ≤ c := by lia
    simp [h, this]
  · simp [h]
section
variable {X : Cx} {mg mb : Str → Option Value} (b : Bs X mg mb) {n : Nat} {Q : V → St → Prop} {a : Ad} {nums : List Int} {d : Wd} 
include b
theorem call_object (f : Fit d) (hn : 1 ≤ nums.length ∧ nums.length ≤ 40) (hl : d.rows.length + 3 ≤ 60)
    (h : ∀ t d', Fit d' → Le d d' 3 → t ∈ d'.pool → Q (.int t) (wst nums a d')) : CallC X (n + 5) (wst nums a d) (.ref 236) [.obj a.w] Q := by
  refine CallC_def b.F (by k_is) (by k_is) .one (fun L => ?_)
  dsimp only
  have hpl := f.pool_len
  walk_at "m go"
  refine' WE_comp ?_ ?c1 ?c2 ?c3 ?c4 ?c5 ?c6 ?c7
  case c2 => exact rfl
  case c1 => first | exact .nil | exact .cons rfl rfl rfl .nil | exact .cons rfl rfl rfl (.cons rfl rfl rfl .nil) | exact .cons rfl rfl rfl (.cons rfl rfl rfl (.cons rfl rfl rfl .nil))
  case c3 => decide
  case c4 => rfl
  case c5 => decide
  case c6 => rfl
  case c7 => (intro _; rfl)
  walk_at "m go"
  refine (call_take (n := n) b 3 (by decide) hn f.nx fun m nx hm0 hm1 hnx => ?_).at (Nat.add_le_add_left (by decide) _)
  walk_at "m go"
  refine c_range1 ?_
  refine ⟨_, .rng 0 m (by lia), by rw [rngItems_length]; lia, fun done todo acc st' => ∃ nx ks, 0 ≤ nx ∧ st' = wst nums a { d with next := nx } ∧ acc = vi ks ∧ (∀ k ∈ ks, k ∈ d.pool) ∧ ks.length = done.length,
    ⟨nx, [], hnx, rfl, rfl, by simp, rfl⟩, ?_, ?_⟩
  · rintro C done y todo acc st₂ he ⟨nx', ks, h0, rfl, rfl, hks, hlen⟩
    show WE _ _ _ _ _ _ _
    walk_at "m go"
    refine (call_pick (n := n) b (d := { d with next := nx' }) hn h0 f.pe f.p1000 fun t nx2 ht h2 => ?_).at (Nat.add_le_add_left (by decide) _)
    exact ⟨nx2, ks ++ [t], h2, rfl, by rw [vi_append]; rfl, fun k hk => by
      rcases List.mem_append.mp hk with hk | hk
      · exact hks k hk
      · have : k = t := by simpa using hk
        rw [this]; exact ht, by simp [hlen]⟩
  rintro acc st₂ ⟨nx2, ks, h2, rfl, rfl, hks, hlen⟩
  have hkl : ks.length ≤ 2 := by rw [hlen, rngItems_length]; lia
  walk_at "m go"
  refine' WE_compP (α := Nat) ?_ ?c1 ?c2 ?c3 ?c4 ?c5 ?c6 ?c7
  case c2 => exact rfl
  case c1 => first | exact .nil | exact .cons rfl rfl rfl .nil | exact .cons rfl rfl rfl (.cons rfl rfl rfl .nil) | exact .cons rfl rfl rfl (.cons rfl rfl rfl (.cons rfl rfl rfl .nil))
  case c3 => decide
  case c4 => rfl
  case c5 => decide
  case c6 => rfl
  case c7 => (intro _; rfl)
  walk_at "m go"
  refine c_len (.lst _) (by rw [vi_length]; lia) ?_
  rw [vi_length]
  walk_at "m go"
  refine c_range1 ?_
  refine ⟨List.range ((ks.length : Int) - 0).toNat, fun i => .int (0 + (i : Int)), fun i => propV (an i, ks[i]?.getD 0), fun _ => true, .rng 0 _ (by lia), by simp; lia, fun C i hi => ?_, ?_⟩
  · have hi' : i < ks.length := by simpa using hi
    show WE _ _ _ _ _ _ _
    walk_at "m go"
    have hi2 : i = 0 ∨ i = 1 := by lia
    refine op_itemS (c := 97 + i) (by lia) (by lia) (by rcases hi2 with rfl | rfl <;> decide +kernel) ?_
    walk_at "m go"
    refine op_itemL (.lst _) (by lia) (by lia) (y := .int (ks[i]?.getD 0)) (by
      have : (0 + (i : Int)).toNat = i := by lia
      rw [this]; unfold vi; rw [List.getElem?_map, List.getElem?_eq_getElem hi']; rfl) ?_
    walk_at "m go"
    first | exact ⟨rfl, rfl, rfl⟩ | exact ⟨rfl, rfl⟩
  rw [show List.map (fun i => propV (an i, ks[i]?.getD 0)) (List.filter (fun x => true) (List.range ((ks.length : Int) - 0).toNat)) = (ops ks).map propV from by
    rw [List.filter_eq_self.mpr (fun _ _ => rfl)]; unfold ops; rw [List.map_map]; simp]
  walk_at "m go"
  refine c_tupleL (.lst _) (by rw [List.length_map, ops_len]; lia) ?_
  walk_at "m go"
  refine' WS_assignC ?_ ?c1 ?c8 ?c9 ?c2 ?c3 ?c4 ?c5 ?c6 ?c7
  case c2 => exact rfl
  case c1 => first | exact .nil | exact .cons rfl rfl rfl .nil | exact .cons rfl rfl rfl (.cons rfl rfl rfl .nil) | exact .cons rfl rfl rfl (.cons rfl rfl rfl (.cons rfl rfl rfl .nil))
  case c3 => decide
  case c4 => rfl
  case c5 => decide
  case c6 => rfl
  case c7 => (intro _; rfl)
  case c8 => walk_at "m sto"
  case c9 => rfl
  walk_at "m go"
  refine (call_take (n := n) b (d := { d with next := nx2 }) 3 (by decide) hn h2 fun m2 nx3 hm20 hm21 h3 => ?_).at (Nat.add_le_add_left (by decide) _)
  walk_at "m go"
  refine c_range1 ?_
  refine ⟨_, .rng 0 m2 (by lia), by rw [rngItems_length]; lia, fun done todo acc st' => ∃ d₁ ss, st' = wst nums a d₁ ∧ Fit d₁ ∧ Le d d₁ done.length ∧ acc = vi ss ∧ (∀ k ∈ ss, k ∈ d₁.pool) ∧ ss.length = done.length,
    ⟨{ d with next := nx3 }, [], rfl, f.next h3, Le.next d nx3 0, rfl, by simp, rfl⟩, ?_, ?_⟩
  · rintro C done y todo acc st₂ he ⟨d₁, ss, rfl, f₁, le₁, rfl, hss, hlen⟩
    have hdl : done.length + 1 ≤ 2 := by
      have := congrArg List.length he
      rw [rngItems_length] at this; simp at this; lia
    show WE _ _ _ _ _ _ _
    walk_at "m go"
    refine (call_sig (n := n) b f₁ hn [] (by simp) (by have := le₁.rows; lia) fun t d' hf hle ht => ?_).at (Nat.add_le_add_left (by decide) _)
    exact ⟨d', ss ++ [t], rfl, hf, le₁.trans hle (by simp), by rw [vi_append]; rfl, fun k hk => by
      rcases List.mem_append.mp hk with hk | hk
      · exact hle.pool k (hss k hk)
      · have : k = t := by simpa using hk
        rw [this]; exact ht, by simp [hlen]⟩
  rintro acc st₂ ⟨d₁, ss, rfl, f₁, le₁', rfl, hss, hsl⟩
  have hsl2 : ss.length ≤ 2 := by rw [hsl, rngItems_length]; lia
  have le₁ : Le d d₁ 2 := le₁'.more (by rw [← hsl]; exact hsl2)
  have hpl1 := f₁.pool_len
  have hrl1 := f₁.rl
  walk_at "m go"
  refine c_len (.lst _) (by rw [vi_length]; lia) ?_
  rw [vi_length]
  walk_at "m go"
  refine ⟨fun hc => ?_, fun hc => ?_⟩
  · walk_at "m go"
    refine (call_take (n := n) b (d := d₁) 2 (by decide) hn f₁.nx fun hv nx4 hh0 hh1 h4 => ?_).at (Nat.add_le_add_left (by decide) _)
    walk_at "m go"
    refine WE_listF ?_
    walk_at "m go"
    refine (call_maybe (n := n + 1) b (d := { d₁ with next := nx4 }) hn h4 f₁.pe f₁.p1000 fun c1 nx5 hc1 h5 => ?_).at (by lia)
    walk_at "m go"
    refine (call_maybe (n := n + 1) b (d := { d₁ with next := nx5 }) hn h5 f₁.pe f₁.p1000 fun c2 nx6 hc2 h6 => ?_).at (by lia)
    walk_at "m go"
    refine' WS_compP (α := Int) ?_ ?c1 ?c8 ?c9 ?c2 ?c3 ?c4 ?c5 ?c6 ?c7
    case c2 => exact rfl
    case c1 => first | exact .nil | exact .cons rfl rfl rfl .nil | exact .cons rfl rfl rfl (.cons rfl rfl rfl .nil) | exact .cons rfl rfl rfl (.cons rfl rfl rfl (.cons rfl rfl rfl .nil))
    case c3 => decide
    case c4 => rfl
    case c5 => decide
    case c6 => rfl
    case c7 => (intro _; rfl)
    case c8 => walk_at "m sto"
    case c9 => rfl
    walk_at "m go"
    refine ⟨[c1, c2], V.int, fun c => .tup (vi (cellv c)), fun _ => true, .lst _, by simp, fun C c hc => ?_, ?_⟩
    · show WE _ _ _ _ _ _ _
      walk_at "m go"
      refine ⟨fun hlt => ?_, fun hlt => ?_⟩
      · have hlt' : c < 0 := by simpa using hlt
        walk_at "m go"
        have e : cellv c = [] := if_pos hlt'
        first | exact ⟨rfl, by show _ = V.tup (vi (cellv c)); rw [e]; rfl, rfl⟩ | exact ⟨by show _ = V.tup (vi (cellv c)); rw [e]; rfl, rfl⟩
      · have hlt' : ¬ c < 0 := by simpa using hlt
        walk_at "m go"
        have e : cellv c = [c, 1] := if_neg hlt'
        first | exact ⟨rfl, by show _ = V.tup (vi (cellv c)); rw [e]; rfl, rfl⟩ | exact ⟨by show _ = V.tup (vi (cellv c)); rw [e]; rfl, rfl⟩
    walk_at "m go"
    refine ⟨ss, .lst _, by lia, hh0, ?_⟩
    walk_at "m go"
    refine c_tupleL (.lst _) (by rw [vi_length]; have := List.length_take_le (Int.toNat hv) ss; simp [pickI]; lia) ?_
    walk_at "m go"
    refine ⟨ss, .lst _, by lia, hh0, ?_⟩
    walk_at "m go"
    refine c_tupleL (.lst _) (by rw [vi_length]; show (ss.drop _).length ≤ 100000; rw [List.length_drop]; lia) ?_
    walk_at "m go"
    refine op_itemL (l := [.tup (vi (cellv c1)), .tup (vi (cellv c2))]) (.lst _) (by decide) (by decide) (y := .tup (vi (cellv c1))) rfl ?_
    walk_at "m go"
    refine op_itemL (l := [.tup (vi (cellv c1)), .tup (vi (cellv c2))]) (.lst _) (by decide) (by decide) (y := .tup (vi (cellv c2))) rfl ?_
    walk_at "m go"
    refine op_addLF (.lst _) (.lst _) (by simp [vi]; lia) ?_
    walk_at "m go"
    refine op_addLF (.lst _) (.lst _) (by simp [vi]; lia) ?_
    rw [show vi ks ++ vi ss ++ [V.int c1, V.int c2] = vi (ks ++ ss ++ [c1, c2]) from by simp [vi]]
    walk_at "m go"
    refine (call_lay (n := n) b (d := { d₁ with next := nx6 }) (f₁.next h6) (.obj (ops ks) (ss.take (Int.toNat hv)) (ss.drop (Int.toNat hv)) (cellv c1) (cellv c2)) (ks ++ ss ++ [c1, c2]) ?_ (by have := le₁.rows; show d₁.rows.length + 1 ≤ 60; lia) fun t d' hf hle ht _ => ?_).at (Nat.add_le_add_left (by decide) _)
    · have hks1 : ∀ k ∈ ks, k ∈ d₁.pool := fun k hk => le₁.pool k (hks k hk)
      have hkids : (Row.obj (ops ks) (ss.take (Int.toNat hv)) (ss.drop (Int.toNat hv)) (cellv c1) (cellv c2)).kids = ks ++ ss ++ ((cellv c1).take 1 ++ (cellv c2).take 1) := by
        show (ops ks).map (·.2) ++ (_ ++ _) ++ _ ++ _ = _
        rw [ops_snd, List.take_append_drop, List.append_assoc]
      have hcl : ∀ c, (cellv c).length ≤ 2 := fun c => by unfold cellv; split <;> simp
      refine ⟨⟨by rw [ops_len]; lia, by rw [List.length_take]; lia, by rw [List.length_drop]; lia, by have := hcl c1; lia, by have := hcl c2; lia⟩, fun p e => (nomatch e), no_binds rfl, ?_, by simp; lia, ?_, fun k hk => ?_⟩
      · rw [hkids]; simp; lia
      · rw [hkids, List.filter_append, List.filter_append, List.filter_append (ks ++ ss), List.filter_append ks, List.filter_append]
        rw [cell_filter c1, cell_filter c2]
        rw [show [c1, c2] = [c1] ++ [c2] from rfl, List.filter_append]
      · simp only [List.mem_append, List.mem_cons, List.not_mem_nil, or_false] at hk
        rcases hk with (hk | hk) | rfl | rfl
        · exact .inr (hks1 k hk)
        · exact .inr (hss k hk)
        · rcases hc1 with rfl | hh
          · exact .inl (by decide)
          · exact .inr hh
        · rcases hc2 with rfl | hh
          · exact .inl (by decide)
          · exact .inr hh
    walk_at "m go"
    exact h t d' hf (le₁.trans hle.of (by lia)) ht
  · walk_at "m go"
    refine c_len (.lst _) (by rw [vi_length]; lia) ?_
    rw [vi_length]
    walk_at "m go"
    refine WE_listF ?_
    walk_at "m go"
    refine (call_maybe (n := n + 1) b (d := { d₁ with next := d₁.next }) hn f₁.nx f₁.pe f₁.p1000 fun c1 nx5 hc1 h5 => ?_).at (by lia)
    walk_at "m go"
    refine (call_maybe (n := n + 1) b (d := { d₁ with next := nx5 }) hn h5 f₁.pe f₁.p1000 fun c2 nx6 hc2 h6 => ?_).at (by lia)
    walk_at "m go"
    refine' WS_compP (α := Int) ?_ ?c1 ?c8 ?c9 ?c2 ?c3 ?c4 ?c5 ?c6 ?c7
    case c2 => exact rfl
    case c1 => first | exact .nil | exact .cons rfl rfl rfl .nil | exact .cons rfl rfl rfl (.cons rfl rfl rfl .nil) | exact .cons rfl rfl rfl (.cons rfl rfl rfl (.cons rfl rfl rfl .nil))
    case c3 => decide
    case c4 => rfl
    case c5 => decide
    case c6 => rfl
    case c7 => (intro _; rfl)
    case c8 => walk_at "m sto"
    case c9 => rfl
    walk_at "m go"
    refine ⟨[c1, c2], V.int, fun c => .tup (vi (cellv c)), fun _ => true, .lst _, by simp, fun C c hc => ?_, ?_⟩
    · show WE _ _ _ _ _ _ _
      walk_at "m go"
      refine ⟨fun hlt => ?_, fun hlt => ?_⟩
      · have hlt' : c < 0 := by simpa using hlt
        walk_at "m go"
        have e : cellv c = [] := if_pos hlt'
        first | exact ⟨rfl, by show _ = V.tup (vi (cellv c)); rw [e]; rfl, rfl⟩ | exact ⟨by show _ = V.tup (vi (cellv c)); rw [e]; rfl, rfl⟩
      · have hlt' : ¬ c < 0 := by simpa using hlt
        walk_at "m go"
        have e : cellv c = [c, 1] := if_neg hlt'
        first | exact ⟨rfl, by show _ = V.tup (vi (cellv c)); rw [e]; rfl, rfl⟩ | exact ⟨by show _ = V.tup (vi (cellv c)); rw [e]; rfl, rfl⟩
    walk_at "m go"
    refine ⟨ss, .lst _, by lia, (by show (0:Int) ≤ _; lia), ?_⟩
    walk_at "m go"
    refine c_tupleL (.lst _) (by rw [vi_length]; have := List.length_take_le (Int.toNat (ss.length : Int)) ss; simp [pickI]; lia) ?_
    walk_at "m go"
    refine ⟨ss, .lst _, by lia, (by show (0:Int) ≤ _; lia), ?_⟩
    walk_at "m go"
    refine c_tupleL (.lst _) (by rw [vi_length]; show (ss.drop _).length ≤ 100000; rw [List.length_drop]; lia) ?_
    walk_at "m go"
    refine op_itemL (l := [.tup (vi (cellv c1)), .tup (vi (cellv c2))]) (.lst _) (by decide) (by decide) (y := .tup (vi (cellv c1))) rfl ?_
    walk_at "m go"
    refine op_itemL (l := [.tup (vi (cellv c1)), .tup (vi (cellv c2))]) (.lst _) (by decide) (by decide) (y := .tup (vi (cellv c2))) rfl ?_
    walk_at "m go"
    refine op_addLF (.lst _) (.lst _) (by simp [vi]; lia) ?_
    walk_at "m go"
    refine op_addLF (.lst _) (.lst _) (by simp [vi]; lia) ?_
    rw [show vi ks ++ vi ss ++ [V.int c1, V.int c2] = vi (ks ++ ss ++ [c1, c2]) from by simp [vi]]
    walk_at "m go"
    refine (call_lay (n := n) b (d := { d₁ with next := nx6 }) (f₁.next h6) (.obj (ops ks) (ss.take (Int.toNat (ss.length : Int))) (ss.drop (Int.toNat (ss.length : Int))) (cellv c1) (cellv c2)) (ks ++ ss ++ [c1, c2]) ?_ (by have := le₁.rows; show d₁.rows.length + 1 ≤ 60; lia) fun t d' hf hle ht _ => ?_).at (Nat.add_le_add_left (by decide) _)
    · have hks1 : ∀ k ∈ ks, k ∈ d₁.pool := fun k hk => le₁.pool k (hks k hk)
      have hkids : (Row.obj (ops ks) (ss.take (Int.toNat (ss.length : Int))) (ss.drop (Int.toNat (ss.length : Int))) (cellv c1) (cellv c2)).kids = ks ++ ss ++ ((cellv c1).take 1 ++ (cellv c2).take 1) := by
        show (ops ks).map (·.2) ++ (_ ++ _) ++ _ ++ _ = _
        rw [ops_snd, List.take_append_drop, List.append_assoc]
      have hcl : ∀ c, (cellv c).length ≤ 2 := fun c => by unfold cellv; split <;> simp
      refine ⟨⟨by rw [ops_len]; lia, by rw [List.length_take]; lia, by rw [List.length_drop]; lia, by have := hcl c1; lia, by have := hcl c2; lia⟩, fun p e => (nomatch e), no_binds rfl, ?_, by simp; lia, ?_, fun k hk => ?_⟩
      · rw [hkids]; simp; lia
      · rw [hkids, List.filter_append, List.filter_append, List.filter_append (ks ++ ss), List.filter_append ks, List.filter_append]
        rw [cell_filter c1, cell_filter c2]
        rw [show [c1, c2] = [c1] ++ [c2] from rfl, List.filter_append]
      · simp only [List.mem_append, List.mem_cons, List.not_mem_nil, or_false] at hk
        rcases hk with (hk | hk) | rfl | rfl
        · exact .inr (hks1 k hk)
        · exact .inr (hss k hk)
        · rcases hc1 with rfl | hh
          · exact .inl (by decide)
          · exact .inr hh
        · rcases hc2 with rfl | hh
          · exact .inl (by decide)
          · exact .inr hh
    walk_at "m go"
    exact h t d' hf (le₁.trans hle.of (by lia)) ht
end
structure Sm (d d' : Wd) : Prop where
  rows : d'.rows = d.rows
  pool : d'.pool = d.pool
  par : d'.params = d.params
  did : d'.did = d.did
theorem Sm.refl (d : Wd) : Sm d d := ⟨rfl, rfl, rfl, rfl⟩
theorem Sm.trans {d d' d'' : Wd} (h : Sm d d') (h' : Sm d' d'') : Sm d d'' := ⟨h'.rows.trans h.rows, h'.pool.trans h.pool, h'.par.trans h.par, h'.did.trans h.did⟩
theorem Sm.of {d d' : Wd} {nx : Int} (h : Sm { d with next := nx } d') : Sm d d' := ⟨h.rows, h.pool, h.par, h.did⟩
theorem Sm.next (d : Wd) (nx : Int) : Sm d { d with next := nx } := ⟨rfl, rfl, rfl, rfl⟩
theorem mem_set' {l : List Int} {i : Nat} {v x : Int} (h : x ∈ l.set i v) : x ∈ l ∨ x = v := List.mem_or_eq_of_mem_set h
theorem Fit.setB {d : Wd} (f : Fit d) (i : Nat) {t : Int} (ht : t < 0 ∨ t ∈ d.pool) : Fit { d with bnd := d.bnd.set i t } :=
  ⟨f.nx, f.pl, by show (d.bnd.set i t).length = _; rw [List.length_set]; exact f.bl, f.dl, fun k hk => by rcases mem_set' hk with h | rfl; exact f.bv k h; exact ht, f.dv, f.rs, f.rb, f.rk, f.nd, f.pr, f.pp, f.po, f.pn, f.pe, f.kn, f.kr, f.bn, f.br, f.rl⟩
theorem Fit.setD {d : Wd} (f : Fit d) (i : Nat) {t : Int} (ht : t < 0 ∨ t ∈ d.pool) : Fit { d with dfl := d.dfl.set i t } :=
  ⟨f.nx, f.pl, f.bl, by show (d.dfl.set i t).length = _; rw [List.length_set]; exact f.dl, f.bv, fun k hk => by rcases mem_set' hk with h | rfl; exact f.dv k h; exact ht, f.rs, f.rb, f.rk, f.nd, f.pr, f.pp, f.po, f.pn, f.pe, f.kn, f.kr, f.bn, f.br, f.rl⟩
theorem vi_set (l : List Int) (i : Nat) (v : Int) : (vi l).set i (.int v) = vi (l.set i v) := by simp [vi, List.map_set]
section
variable {X : Cx} {mg mb : Str → Option Value} (b : Bs X mg mb) {n : Nat} {Q : V → St → Prop} {a : Ad} {nums : List Int} {d : Wd} 
include b
theorem call_some (f : Fit d) (hd : d.did = true) (hn : 1 ≤ nums.length ∧ nums.length ≤ 40) (hl : d.rows.length + 3 ≤ 60)
    (h : ∀ t d', Fit d' → Le d d' 3 → t ∈ d'.pool → Q (.int t) (wst nums a d')) : CallC X (n + 6) (wst nums a d) (.ref 278) [.obj a.w] Q := by
  refine CallC_def b.F (by k_is) (by k_is) .one (fun L => ?_)
  dsimp only
  walk_at "m go"
  refine (call_take (n := n) b 6 (by decide) hn f.nx fun m nx1 hm0 hm1 h1 => ?_).at (Nat.add_le_add_left (by decide) _)
  have f1 := f.next h1
  have fin : ∀ (nx : Int) (t : Int) (d' : Wd), Fit d' → Le { d with next := nx } d' 1 → t ∈ d'.pool → Q (.int t) (wst nums a d') := fun nx t d' hf hle ht => h t d' hf (hle.of.more (by lia)) ht
  walk_at "m go"
  refine ⟨fun hc => ?_, fun hc => ?_⟩
  · walk_at "m go"
    refine (call_some_pid (n := n) b f1 hn fun p nx hp0 hp1 h2 => ?_).at (Nat.add_le_add_left (by decide) _)
    walk_at "m go"
    refine (call_sig (n := n) b (d := { d with next := nx }) (f.next h2) hn [p] ⟨by simp, fun q hq => by rw [show q = p from by simpa using hq]; exact ⟨hp0, hp1⟩⟩ (by show d.rows.length + 1 ≤ 60; lia) fun t d' hf hle ht => ?_).at (Nat.add_le_add_left (by decide) _)
    walk_at "m go"
    exact fin _ t d' hf hle ht
  walk_at "m go"
  refine ⟨fun hc => ?_, fun hc => ?_⟩
  · walk_at "m go"
    refine (call_some_pid (n := n) b f1 hn fun p nx hp0 hp1 h2 => ?_).at (Nat.add_le_add_left (by decide) _)
    walk_at "m go"
    refine (call_cond (n := n) b (d := { d with next := nx }) (f.next h2) hn [p] ⟨by simp, fun q hq => by rw [show q = p from by simpa using hq]; exact ⟨hp0, hp1⟩⟩ (by show d.rows.length + 1 ≤ 60; lia) fun t d' hf hle ht => ?_).at (Nat.add_le_add_left (by decide) _)
    walk_at "m go"
    exact fin _ t d' hf hle ht
  walk_at "m go"
  refine ⟨fun hc => ?_, fun hc => ?_⟩
  · walk_at "m go"
    refine (call_object (n := n) b f1 hn hl fun t d' hf hle ht => ?_).at (Nat.add_le_add_left (by decide) _)
    walk_at "m go"
    exact h t d' hf hle.of ht
  walk_at "m go"
  refine ⟨fun hc => ?_, fun hc => ?_⟩
  · walk_at "m go"
    refine (call_list (n := n) b f1 hd hn (by show d.rows.length + 1 ≤ 60; lia) fun t d' hf hle ht => ?_).at (Nat.add_le_add_left (by decide) _)
    walk_at "m go"
    exact fin _ t d' hf hle ht
  walk_at "m go"
  refine ⟨fun hc => ?_, fun hc => ?_⟩
  · walk_at "m go"
    refine (call_some_pid (n := n) b f1 hn fun p nx hp0 hp1 h2 => ?_).at (Nat.add_le_add_left (by decide) _)
    walk_at "m go"
    refine (call_mapped (n := n) b (d := { d with next := nx }) (f.next h2) hn p ⟨hp0, hp1⟩ (by show d.rows.length + 1 ≤ 60; lia) fun t d' hf hle ht => ?_).at (Nat.add_le_add_left (by decide) _)
    walk_at "m go"
    exact fin _ t d' hf hle ht
  walk_at "m go"
  refine (call_other (n := n) b f1 hn (by show d.rows.length + 1 ≤ 60; lia) fun t d' hf hle ht => ?_).at (Nat.add_le_add_left (by decide) _)
  walk_at "m go"
  exact fin _ t d' hf hle ht

theorem call_bound (f : Fit d) (hn : 1 ≤ nums.length ∧ nums.length ≤ 40) (p t : Int) (hp : 0 ≤ p ∧ p < d.params.length) (ht : t < 0 ∨ t ∈ d.pool)
    (h : ∀ d', Fit d' → Sm d d' → Q .none (wst nums a d')) : CallC X (n + 2) (wst nums a d) (.ref 292) [.obj a.w, .int p, .int t] Q := by
  refine CallC_def b.F (by k_is) (by k_is) .three (fun L => ?_)
  dsimp only
  have hbl := f.bl
  have hdl := f.dl
  have hpl := f.pl
  walk_at "m go"
  refine WE_listF ?_
  walk_at "m go"
  refine op_itemS' (y := .obj a.tab) .head rfl ?_
  walk_at "m go"
  refine get_bounds b (.tail .head) (.tail (.tail .head)) ?_
  walk_at "m go"
  refine op_itemS' (y := .obj a.tab) .head rfl ?_
  walk_at "m go"
  refine get_defaults b (.tail .head) (.tail (.tail .head)) ?_
  walk_at "m go"
  refine (call_take (n := n) b 2 (by decide) hn f.nx fun m nx hm0 hm1 h1 => ?_).at (Nat.add_le_add_left (by decide) _)
  have hm : m = 0 ∨ m = 1 := by lia
  rcases hm with rfl | rfl
  · refine op_itemL (l := [.obj a.bounds, .obj a.defaults]) (.lst _) (by decide) (by decide) (y := .obj a.bounds) rfl ?_
    walk_at "m go"
    refine op_setL (l := vi d.bnd) (by rw [vi_set]; exact .tail (.tail (.tail (.tail (.tail .head))))) hp.1 (by rw [vi_length]; lia) (by rw [vi_length]; lia) ?_
    walk_at "m go"
    exact h _ ((f.next h1).setB p.toNat ht) ⟨rfl, rfl, rfl, rfl⟩
  · refine op_itemL (l := [.obj a.bounds, .obj a.defaults]) (.lst _) (by decide) (by decide) (y := .obj a.defaults) rfl ?_
    walk_at "m go"
    refine op_setL (l := vi d.dfl) (by rw [vi_set]; exact .tail (.tail (.tail (.tail (.tail (.tail .head)))))) hp.1 (by rw [vi_length]; lia) (by rw [vi_length]; lia) ?_
    walk_at "m go"
    exact h _ ((f.next h1).setD p.toNat ht) ⟨rfl, rfl, rfl, rfl⟩
end
section
variable {X : Cx} {mg mb : Str → Option Value} (b : Bs X mg mb) {n : Nat} {Q : V → St → Prop} {a : Ad} {nums : List Int} {d : Wd} 
include b
theorem call_ladder (f : Fit d) (hn : 1 ≤ nums.length ∧ nums.length ≤ 40) (hl : d.rows.length + 4 ≤ 60)
    (h : ∀ D ls d', Fit d' → Le d d' 4 → (∀ t ∈ ls, t ∈ d'.pool) → 1 ≤ ls.length → ls.length ≤ d.params.length → Q (.obj D) ((D, .list (vi ls)) :: wst nums a d')) : CallC X (n + 5) (wst nums a d) (.ref 285) [.obj a.w] Q := by
  refine CallC_def b.F (by k_is) (by k_is) .one (fun L => ?_)
  dsimp only
  have hpl := f.pl
  walk_at "m go"
  refine WE_list ?_
  walk_at "m go"
  intro D
  walk_at "m go"
  refine WS_forL (α := Int) ?_ (.inl rfl) (by intro _; rfl)
  walk_at "m go"
  refine op_itemS' (y := .obj a.params) (.tail .head) rfl ?_
  walk_at "m go"
  refine c_len (l := vi d.params) (.obj (.tail (.tail (.tail (.tail (.tail (.tail (.tail (.tail (.tail (.tail .head))))))))))) (by rw [vi_length]; lia) ?_
  rw [vi_length]
  walk_at "m go"
  refine Call.push ((call_take (n := n) b (d.params.length : Int) (by lia) hn f.nx fun m nx hm0 hm1 h1 => ?_).at (Nat.add_le_add_left (by decide) _))
  walk_at "m go"
  refine c_range1 ?_
  have hrl : (rngI 0 (1 + m)).length = (1 + m).toNat := by simp [rngI]
  refine ⟨rngI 0 (1 + m), V.int, by rw [show (rngI 0 (1 + m)).map V.int = rngItems 0 (1 + m) from (rngItems_vi _ _).symm]; exact .rng _ _ (by lia),
    fun L₁ f₁ st' => ∃ d₁ ls, f₁ = fset "out" (.obj D) [("w", .obj a.w)] ∧ st' = (D, .list (vi ls)) :: wst nums a d₁ ∧ Fit d₁ ∧ Le d d₁ L₁.length ∧ (∀ t ∈ ls, t ∈ d₁.pool) ∧ ls.length = L₁.length,
    ⟨_, .refl _, { d with next := nx }, [], rfl, rfl, f.next h1, Le.next d nx 0, by simp, rfl⟩, ?_, ?_⟩
  · rintro L₁ p L₂ f₁ st₂ he ⟨d₁, ls, rfl, rfl, f₁, le₁, hls, hlen⟩
    have hL : L₁.length + 1 ≤ 4 := by
      have := congrArg List.length he
      rw [hrl] at this; simp at this; lia
    have hp : 0 ≤ p ∧ p < d.params.length := by
      have hm : p ∈ rngI 0 (1 + m) := by rw [he]; simp
      obtain ⟨i, hi, rfl⟩ := List.mem_map.mp hm
      have : i < (1 + m - 0).toNat := by simpa using hi
      lia
    have hp' : 0 ≤ p ∧ p < d₁.params.length := by rw [le₁.par]; exact hp
    have hrow := le₁.rows
    have fin : ∀ (t : Int) (d' : Wd) (d₂ : Wd), Fit d' → Le d₁ d₂ 0 → Le d₂ d' 1 → t ∈ d'.pool → ∃ d₃ ls', (D, AObj.list (vi ls ++ [V.int t])) :: wst nums a d' = (D, .list (vi ls')) :: wst nums a d₃ ∧ Fit d₃ ∧ Le d d₃ (L₁ ++ [p]).length ∧ (∀ t ∈ ls', t ∈ d₃.pool) ∧ ls'.length = (L₁ ++ [p]).length := by
      intro t d' d₂ hf h12 hle ht
      refine ⟨d', ls ++ [t], by rw [vi_append]; rfl, hf, le₁.trans (h12.trans hle (Nat.le_refl _)) (by simp), fun k hk => ?_, by simp [hlen]⟩
      rcases List.mem_append.mp hk with hk | hk
      · exact hle.pool k (h12.pool k (hls k hk))
      · rw [show k = t by simpa using hk]; exact ht
    walk_at "m go"
    refine Call.push ((call_take (n := n) b 4 (by decide) hn f₁.nx fun pk nx2 hm20 hm21 h2 => ?_).at (Nat.add_le_add_left (by decide) _))
    walk_at "m go"
    refine ⟨fun hc => ?_, fun hc => ?_⟩
    · walk_at "m go"
      walk_at "m append"
      walk_at "m go"
      refine Call.push ((call_cond (n := n) b (d := { d₁ with next := nx2 }) (f₁.next h2) hn [p] ⟨by simp, fun q hq => by rw [show q = p from by simpa using hq]; exact hp'⟩ (by show d₁.rows.length + 1 ≤ 60; lia) fun t d' hf hle ht => ?_).at (Nat.add_le_add_left (by decide) _))
      walk_at "m go"
      refine c_append .head (by rw [vi_length]; lia) ?_
      walk_at "m go"
      obtain ⟨d₃, ls', e, h3⟩ := fin t d' _ hf (Le.next d₁ nx2 0) hle ht
      exact ⟨_, .cons rfl (.cons rfl (.nil _)), d₃, ls', rfl, e, h3⟩
    walk_at "m go"
    refine ⟨fun hc2 => ?_, fun hc2 => ?_⟩
    · walk_at "m go"
      walk_at "m append"
      walk_at "m go"
      refine Call.push ((call_mapped (n := n) b (d := { d₁ with next := nx2 }) (f₁.next h2) hn p hp' (by show d₁.rows.length + 1 ≤ 60; lia) fun t d' hf hle ht => ?_).at (Nat.add_le_add_left (by decide) _))
      walk_at "m go"
      refine c_append .head (by rw [vi_length]; lia) ?_
      walk_at "m go"
      obtain ⟨d₃, ls', e, h3⟩ := fin t d' _ hf (Le.next d₁ nx2 0) hle ht
      exact ⟨_, .cons rfl (.cons rfl (.nil _)), d₃, ls', rfl, e, h3⟩
    walk_at "m go"
    walk_at "m append"
    walk_at "m go"
    refine ⟨fun hc3 => ?_, fun hc3 => ?_⟩
    · walk_at "m go"
      refine Call.push ((call_sig (n := n) b (d := { d₁ with next := nx2 }) (f₁.next h2) hn [p] ⟨by simp, fun q hq => by rw [show q = p from by simpa using hq]; exact hp'⟩ (by show d₁.rows.length + 1 ≤ 60; lia) fun t d' hf hle ht => ?_).at (Nat.add_le_add_left (by decide) _))
      walk_at "m go"
      refine c_append .head (by rw [vi_length]; lia) ?_
      walk_at "m go"
      obtain ⟨d₃, ls', e, h3⟩ := fin t d' _ hf (Le.next d₁ nx2 0) hle ht
      exact ⟨_, .cons rfl (.cons rfl (.nil _)), d₃, ls', rfl, e, h3⟩
    · walk_at "m go"
      refine c_range1 ?_
      walk_at "m go"
      refine c_tupleR (by lia) ?_
      rw [rngItems_vi]
      walk_at "m go"
      have hrp : (rngI 0 (p + 1)).length ≤ 4 ∧ ∀ q ∈ rngI 0 (p + 1), 0 ≤ q ∧ q < d₁.params.length := by
        refine ⟨by simp [rngI]; lia, fun q hq => ?_⟩
        obtain ⟨i, hi, rfl⟩ := List.mem_map.mp hq
        have : i < (p + 1 - 0).toNat := by simpa using hi
        lia
      refine Call.push ((call_sig (n := n) b (d := { d₁ with next := nx2 }) (f₁.next h2) hn (rngI 0 (p + 1)) hrp (by show d₁.rows.length + 1 ≤ 60; lia) fun t d' hf hle ht => ?_).at (Nat.add_le_add_left (by decide) _))
      walk_at "m go"
      refine c_append .head (by rw [vi_length]; lia) ?_
      walk_at "m go"
      obtain ⟨d₃, ls', e, h3⟩ := fin t d' _ hf (Le.next d₁ nx2 0) hle ht
      exact ⟨_, .cons rfl (.cons rfl (.nil _)), d₃, ls', rfl, e, h3⟩
  · rintro f₁ st₂ ⟨d₁, ls, rfl, rfl, f₁, le₁, hls, hlen⟩
    walk_at "m go"
    rw [hrl] at hlen le₁
    exact h D ls d₁ f₁ (le₁.more (by lia)) hls (by lia) (by lia)

theorem call_lead (f : Fit d) (hn : 1 ≤ nums.length ∧ nums.length ≤ 40) (ls : List Int) (hls : ∀ t ∈ ls, t ∈ d.pool) (h1 : 1 ≤ ls.length) (h2 : ls.length ≤ d.params.length)
    (h : ∀ d', Fit d' → Sm d d' → Q .none (wst nums a d')) : CallC X (n + 4) (wst nums a d) (.ref 299) [.obj a.w, .lst (vi ls)] Q := by
  refine CallC_def b.F (by k_is) (by k_is) .two (fun L => ?_)
  dsimp only
  have hpl := f.pl
  walk_at "m go"
  refine c_len (.lst _) (by rw [vi_length]; lia) ?_
  rw [vi_length]
  walk_at "m go"
  refine WS_forL (α := Int) ?_ (.inl rfl) (by intro _; rfl)
  walk_at "m go"
  refine c_range1 ?_
  refine ⟨rngI 0 ((ls.length : Int) - 1), V.int, by rw [show (rngI 0 ((ls.length : Int) - 1)).map V.int = rngItems 0 ((ls.length : Int) - 1) from (rngItems_vi _ _).symm]; exact .rng _ _ (by lia),
    fun L₁ f₁ st' => ∃ d₁, f₁ = fset "last" (.int ((ls.length : Int) - 1)) [("w", .obj a.w), ("ladder", .lst (vi ls))] ∧ st' = wst nums a d₁ ∧ Fit d₁ ∧ Sm d d₁, ⟨_, .refl _, d, rfl, rfl, f, .refl d⟩, ?_, ?_⟩
  · rintro L₁ p L₂ f₁ st₂ he ⟨d₁, rfl, rfl, f₁, sm₁⟩
    have hp : 0 ≤ p ∧ p < (ls.length : Int) - 1 := by
      have hm : p ∈ rngI 0 ((ls.length : Int) - 1) := by rw [he]; simp
      obtain ⟨i, hi, rfl⟩ := List.mem_map.mp hm
      have : i < ((ls.length : Int) - 1 - 0).toNat := by simpa using hi
      lia
    have hidx : (p + 1).toNat < ls.length := by lia
    walk_at "m go"
    refine op_itemL (.lst _) (by lia) (by lia) (y := .int ls[(p + 1).toNat]) (by unfold vi; rw [List.getElem?_map, List.getElem?_eq_getElem hidx]; rfl) ?_
    walk_at "m go"
    refine (call_bound (n := n) b f₁ hn p _ (by rw [sm₁.par]; lia) (.inr (by rw [sm₁.pool]; exact hls _ (List.getElem_mem _))) fun d' hf hsm => ?_).at (Nat.add_le_add_left (by decide) _)
    walk_at "m go"
    exact ⟨_, .cons rfl (.cons rfl (.cons rfl (.nil _))), d', rfl, rfl, hf, sm₁.trans hsm⟩
  · rintro f₁ st₂ ⟨d₁, rfl, rfl, f₁, sm₁⟩
    have hpe1 : d₁.pool ≠ [] := f₁.pe
    have hpl1 := f₁.pool_len
    have hrl1 := f₁.rl
    walk_at "m go"
    refine (call_take (n := n) b 3 (by decide) hn f₁.nx fun m nx hm0 hm1 h3 => ?_).at (Nat.add_le_add_left (by decide) _)
    walk_at "m go"
    refine ⟨fun hc => ?_, fun hc => ?_⟩
    · walk_at "m go"
      refine ⟨fun he => ?_, fun he => ?_⟩
      · walk_at "m go"
        refine op_itemL (.lst _) (by decide) (by decide) (y := .int ls[0]) (by unfold vi; rw [List.getElem?_map, List.getElem?_eq_getElem (by lia)]; rfl) ?_
        walk_at "m go"
        refine (call_bound (n := n) b (d := { d₁ with next := nx }) (f₁.next h3) hn ((ls.length : Int) - 1) _ (by show _ ∧ _ < (d₁.params.length : Int); rw [sm₁.par]; lia) (.inr (by show _ ∈ d₁.pool; rw [sm₁.pool]; exact hls _ (List.getElem_mem _))) fun d₂ f₂ hsm => ?_).at (Nat.add_le_add_left (by decide) _)
        have sm₂ : Sm d d₂ := sm₁.trans hsm.of
        walk_at "m go"
        refine WS_forL (α := Int) ?_ (.inl rfl) (by intro _; rfl)
        walk_at "m go"
        refine op_itemS' (y := .obj a.params) .head rfl ?_
        walk_at "m go"
        refine c_len (l := vi _) (.obj (.tail (.tail (.tail (.tail (.tail (.tail (.tail (.tail (.tail .head)))))))))) (by rw [vi_length, sm₂.par]; lia) ?_
        rw [vi_length, sm₂.par]
        walk_at "m go"
        refine c_range2 ?_
        refine ⟨rngI ((ls.length : Int) - 1 + 1) d.params.length, V.int, by rw [show (rngI ((ls.length : Int) - 1 + 1) d.params.length).map V.int = rngItems ((ls.length : Int) - 1 + 1) d.params.length from (rngItems_vi _ _).symm]; exact .rng _ _ (by lia),
          fun L₁ f₁ st' => ∃ d₁ v, f₁ = fset "end" v (fset "last" (.int ((ls.length : Int) - 1)) [("w", .obj a.w), ("ladder", .lst (vi ls))]) ∧ st' = wst nums a d₁ ∧ Fit d₁ ∧ Sm d d₁, ⟨_, .cons rfl (.cons rfl (.cons rfl (.cons rfl (.nil _)))), _, _, rfl, rfl, f₂, sm₂⟩, ?_, ?_⟩
        · rintro L₁ p L₂ f₁ st₂ he ⟨d₃, v, rfl, rfl, f₃, sm₃⟩
          have hp : 0 ≤ p ∧ p < d.params.length := by
            have hm : p ∈ rngI ((ls.length : Int) - 1 + 1) d.params.length := by rw [he]; simp
            obtain ⟨i, hi, rfl⟩ := List.mem_map.mp hm
            have : i < ((d.params.length : Int) - ((ls.length : Int) - 1 + 1)).toNat := by simpa using hi
            lia
          have hpl3 := f₃.pool_len
          have hrl3 := f₃.rl
          walk_at "m go"
          refine (call_maybe (n := n) b hn f₃.nx f₃.pe (by lia) fun t nx9 ht h9 => ?_).at (Nat.add_le_add_left (by decide) _)
          walk_at "m go"
          refine (call_bound (n := n) b (d := { d₃ with next := nx9 }) (f₃.next h9) hn p t (by show _ ∧ _ < (d₃.params.length : Int); rw [sm₃.par]; exact hp) (ht.imp (fun e => by lia) id) fun d' hf hsm => ?_).at (Nat.add_le_add_left (by decide) _)
          walk_at "m go"
          exact ⟨_, .cons rfl (.cons rfl (.cons rfl (.cons rfl (.nil _)))), d', v, rfl, rfl, hf, sm₃.trans hsm.of⟩
        · rintro f₁ st₂ ⟨d₃, v, rfl, rfl, f₃, sm₃⟩
          walk_at "m go"
          exact h d₃ f₃ sm₃
      · walk_at "m go"
        refine (call_pick (n := n) b (d := { d₁ with next := nx }) hn h3 hpe1 f₁.p1000 fun t nx2 ht h4 => ?_).at (Nat.add_le_add_left (by decide) _)
        walk_at "m go"
        refine (call_bound (n := n) b (d := { d₁ with next := nx2 }) (f₁.next h4) hn ((ls.length : Int) - 1) t (by show _ ∧ _ < (d₁.params.length : Int); rw [sm₁.par]; lia) (.inr ht) fun d₂ f₂ hsm => ?_).at (Nat.add_le_add_left (by decide) _)
        have sm₂ : Sm d d₂ := sm₁.trans hsm.of
        walk_at "m go"
        refine WS_forL (α := Int) ?_ (.inl rfl) (by intro _; rfl)
        walk_at "m go"
        refine op_itemS' (y := .obj a.params) .head rfl ?_
        walk_at "m go"
        refine c_len (l := vi _) (.obj (.tail (.tail (.tail (.tail (.tail (.tail (.tail (.tail (.tail .head)))))))))) (by rw [vi_length, sm₂.par]; lia) ?_
        rw [vi_length, sm₂.par]
        walk_at "m go"
        refine c_range2 ?_
        refine ⟨rngI ((ls.length : Int) - 1 + 1) d.params.length, V.int, by rw [show (rngI ((ls.length : Int) - 1 + 1) d.params.length).map V.int = rngItems ((ls.length : Int) - 1 + 1) d.params.length from (rngItems_vi _ _).symm]; exact .rng _ _ (by lia),
          fun L₁ f₁ st' => ∃ d₁ v, f₁ = fset "end" v (fset "last" (.int ((ls.length : Int) - 1)) [("w", .obj a.w), ("ladder", .lst (vi ls))]) ∧ st' = wst nums a d₁ ∧ Fit d₁ ∧ Sm d d₁, ⟨_, .cons rfl (.cons rfl (.cons rfl (.cons rfl (.nil _)))), _, _, rfl, rfl, f₂, sm₂⟩, ?_, ?_⟩
        · rintro L₁ p L₂ f₁ st₂ he ⟨d₃, v, rfl, rfl, f₃, sm₃⟩
          have hp : 0 ≤ p ∧ p < d.params.length := by
            have hm : p ∈ rngI ((ls.length : Int) - 1 + 1) d.params.length := by rw [he]; simp
            obtain ⟨i, hi, rfl⟩ := List.mem_map.mp hm
            have : i < ((d.params.length : Int) - ((ls.length : Int) - 1 + 1)).toNat := by simpa using hi
            lia
          have hpl3 := f₃.pool_len
          have hrl3 := f₃.rl
          walk_at "m go"
          refine (call_maybe (n := n) b hn f₃.nx f₃.pe (by lia) fun t nx9 ht h9 => ?_).at (Nat.add_le_add_left (by decide) _)
          walk_at "m go"
          refine (call_bound (n := n) b (d := { d₃ with next := nx9 }) (f₃.next h9) hn p t (by show _ ∧ _ < (d₃.params.length : Int); rw [sm₃.par]; exact hp) (ht.imp (fun e => by lia) id) fun d' hf hsm => ?_).at (Nat.add_le_add_left (by decide) _)
          walk_at "m go"
          exact ⟨_, .cons rfl (.cons rfl (.cons rfl (.cons rfl (.nil _)))), d', v, rfl, rfl, hf, sm₃.trans hsm.of⟩
        · rintro f₁ st₂ ⟨d₃, v, rfl, rfl, f₃, sm₃⟩
          walk_at "m go"
          exact h d₃ f₃ sm₃
    · have f₂ := f₁.next h3
      have sm₂ : Sm d { d₁ with next := nx } := sm₁.trans (.next _ _)
      generalize ({ d₁ with next := nx } : Wd) = d₂ at f₂ sm₂ ⊢
      walk_at "m go"
      refine WS_forL (α := Int) ?_ (.inl rfl) (by intro _; rfl)
      walk_at "m go"
      refine op_itemS' (y := .obj a.params) .head rfl ?_
      walk_at "m go"
      refine c_len (l := vi _) (.obj (.tail (.tail (.tail (.tail (.tail (.tail (.tail (.tail (.tail .head)))))))))) (by rw [vi_length, sm₂.par]; lia) ?_
      rw [vi_length, sm₂.par]
      walk_at "m go"
      refine c_range2 ?_
      refine ⟨rngI ((ls.length : Int) - 1 + 1) d.params.length, V.int, by rw [show (rngI ((ls.length : Int) - 1 + 1) d.params.length).map V.int = rngItems ((ls.length : Int) - 1 + 1) d.params.length from (rngItems_vi _ _).symm]; exact .rng _ _ (by lia),
        fun L₁ f₁ st' => ∃ d₁ v, f₁ = fset "end" v (fset "last" (.int ((ls.length : Int) - 1)) [("w", .obj a.w), ("ladder", .lst (vi ls))]) ∧ st' = wst nums a d₁ ∧ Fit d₁ ∧ Sm d d₁, ⟨_, .cons rfl (.cons rfl (.cons rfl (.cons rfl (.nil _)))), _, _, rfl, rfl, f₂, sm₂⟩, ?_, ?_⟩
      · rintro L₁ p L₂ f₁ st₂ he ⟨d₃, v, rfl, rfl, f₃, sm₃⟩
        have hp : 0 ≤ p ∧ p < d.params.length := by
          have hm : p ∈ rngI ((ls.length : Int) - 1 + 1) d.params.length := by rw [he]; simp
          obtain ⟨i, hi, rfl⟩ := List.mem_map.mp hm
          have : i < ((d.params.length : Int) - ((ls.length : Int) - 1 + 1)).toNat := by simpa using hi
          lia
        have hpl3 := f₃.pool_len
        have hrl3 := f₃.rl
        walk_at "m go"
        refine (call_maybe (n := n) b hn f₃.nx f₃.pe (by lia) fun t nx9 ht h9 => ?_).at (Nat.add_le_add_left (by decide) _)
        walk_at "m go"
        refine (call_bound (n := n) b (d := { d₃ with next := nx9 }) (f₃.next h9) hn p t (by show _ ∧ _ < (d₃.params.length : Int); rw [sm₃.par]; exact hp) (ht.imp (fun e => by lia) id) fun d' hf hsm => ?_).at (Nat.add_le_add_left (by decide) _)
        walk_at "m go"
        exact ⟨_, .cons rfl (.cons rfl (.cons rfl (.cons rfl (.nil _)))), d', v, rfl, rfl, hf, sm₃.trans hsm.of⟩
      · rintro f₁ st₂ ⟨d₃, v, rfl, rfl, f₃, sm₃⟩
        walk_at "m go"
        exact h d₃ f₃ sm₃
end
theorem Fit.closed {d : Wd} (f : Fit d) {x : Int} (hx : x ∈ d.pool) {r : Row} (hr : d.rows[x.toNat]? = some r) {k : Int} (hk : k ∈ inner d.bnd d.dfl r) (h0 : 0 ≤ k) : k ∈ d.pool := by
  obtain ⟨_, r', hr', ⟨ks, _, _, hpm, hkp⟩, _⟩ := f.po x hx
  rw [hr] at hr'; cases hr'
  rcases List.mem_append.mp hk with hk | hk
  · exact hkp k (hpm.mem_iff.mpr (List.mem_filter.mpr ⟨hk, by simpa using h0⟩))
  · obtain ⟨p, hp, hk⟩ := List.mem_flatMap.mp hk
    have hpr := (f.rb r (List.mem_of_getElem? hr)).2 p hp
    have fin : ∀ l : List Int, (∀ k ∈ l, k < 0 ∨ k ∈ d.pool) → l.length = d.params.length → k = l[p.toNat]?.getD 0 → k ∈ d.pool := fun l hl hll e => by
      have hlt : p.toNat < l.length := by lia
      rw [List.getElem?_eq_getElem hlt, Option.getD_some] at e
      rcases hl _ (List.getElem_mem hlt) with h | h
      · lia
      · rw [e]; exact h
    simp only [List.mem_cons, List.not_mem_nil, or_false] at hk
    rcases hk with hk | hk
    · exact fin _ f.bv f.bl hk
    · exact fin _ f.dv f.dl hk
inductive Road (rows : List Row) (bnd dfl : List Int) (pid t : Int) : Int → Prop
  | refl : pid ∉ bindsAt rows t → Road rows bnd dfl pid t t
  | step {x k : Int} {r : Row} : Road rows bnd dfl pid t x → 0 ≤ x → rows[x.toNat]? = some r → k ∈ inner bnd dfl r → 0 ≤ k → pid ∉ bindsAt rows k → Road rows bnd dfl pid t k
section
variable {rows : List Row} {bnd dfl : List Int}
theorem Road.nb {pid t x : Int} (h : Road rows bnd dfl pid t x) : pid ∉ bindsAt rows x := by cases h <;> assumption
theorem Road.cons {pid t k x : Int} {r : Row} (h0 : 0 ≤ t) (hr : rows[t.toNat]? = some r) (hb : pid ∉ bindsAt rows t) (hk : k ∈ inner bnd dfl r) (hk0 : 0 ≤ k) (h : Road rows bnd dfl pid k x) : Road rows bnd dfl pid t x := by
  induction h with
  | refl hnb => exact .step (.refl hb) h0 hr hk hk0 hnb
  | step _ hx hrx hki hk0' hnb ih => exact .step ih hx hrx hki hk0' hnb
theorem free_road {x p : Int} (h : Free rows bnd dfl x p) : ∃ y, Road rows bnd dfl p x y ∧ 0 ≤ y ∧ rows[y.toNat]? = some (.param p) := by
  induction h with
  | @param x p h0 hr => exact ⟨x, .refl (by rw [bindsAt_of hr]; simp [Row.binds]), h0, hr⟩
  | @step x k p r h0 hr hnb hk hk0 _ ih =>
    obtain ⟨y, h1, h2, h3⟩ := ih
    exact ⟨y, h1.cons h0 hr (by rw [bindsAt_of hr]; exact hnb) hk hk0, h2, h3⟩
theorem road_free {x p y : Int} (h : Road rows bnd dfl p x y) (hy : Free rows bnd dfl y p) : Free rows bnd dfl x p := by
  induction h with
  | refl => exact hy
  | @step x k r hrd h0 hr hk hk0 _ ih =>
    refine ih (.step h0 hr ?_ hk hk0 hy)
    have := hrd.nb
    rwa [bindsAt_of hr] at this
theorem road_reach {t x : Int} (hneg : ∀ r ∈ rows, ∀ p ∈ r.binds, (0 : Int) ≤ p) : Road rows bnd dfl (-1) t x ↔ Reach rows bnd dfl t x := by
  have hnb : ∀ x, (-1 : Int) ∉ bindsAt rows x := by
    intro x hx
    unfold bindsAt at hx
    split at hx
    · rename_i r hr
      have := hneg r (List.mem_of_getElem? hr) _ hx
      lia
    · cases hx
  constructor
  · intro h
    induction h with
    | refl => exact .refl
    | step _ h0 hr hk hk0 _ ih => exact .step ih h0 hr hk hk0
  · intro h
    induction h with
    | refl => exact .refl (hnb _)
    | step _ h0 hr hk hk0 ih => exact .step ih h0 hr hk hk0 (hnb _)
end
section
variable {X : Cx} {mg mb : Str → Option Value} (b : Bs X mg mb) {n : Nat} {Q : V → St → Prop} {a : Ad} {nums : List Int} {d : Wd} 
include b
theorem call_inside (f : Fit d) (t : Int) (ht : t ∈ d.pool) {r : Row} (hr : d.rows[t.toNat]? = some r)
    (h : ∀ D out, (∀ k, k ∈ out ↔ k ∈ inner d.bnd d.dfl r ∧ 0 ≤ k) → out.length ≤ 1000 → Q (.obj D) ((D, .list (vi out)) :: wst nums a d)) : CallC X (n + 1) (wst nums a d) (.ref 306) [.obj a.w, .int t] Q := by
  refine CallC_def b.F (by k_is) (by k_is) .two (fun L => ?_)
  dsimp only
  obtain ⟨h0, r', hr', ⟨ks, hks, hksl, hpm, hkp⟩, hbs⟩ := f.po t ht
  rw [hr] at hr'; cases hr'
  obtain ⟨hbl, hbr⟩ := f.rb r (List.mem_of_getElem? hr)
  have hbnd := f.bl
  have hdfl := f.dl
  have hpl := f.pl
  walk_at "m go"
  refine WE_listF ?_
  walk_at "m go"
  refine op_itemS' (y := .obj a.kids) .head rfl ?_
  walk_at "m go"
  refine op_itemD (l := kdv d.kids) (.obj (.tail (.tail (.tail (.tail (.tail (.tail (.tail (.tail (.tail (.tail .head))))))))))) (y := .lst (vi ks)) (by rw [kdv_get, hks]; rfl) ?_
  walk_at "m go"
  refine op_addL (.lst _) (.lst _) (by simp [vi]; lia) fun D => ?_
  rw [List.nil_append]
  walk_at "m go"
  refine WS_forL (α := Int) ?_ (.inl rfl) (by intro _; rfl)
  walk_at "m go"
  refine op_itemS' (y := .obj a.binds) (.tail .head) rfl ?_
  walk_at "m go"
  refine op_itemD (l := bdv d.binds) (.obj (.tail (.tail (.tail (.tail (.tail (.tail (.tail (.tail (.tail (.tail (.tail (.tail .head))))))))))))) (y := .tup (vi r.binds)) (by rw [bdv_get, hbs]; rfl) ?_
  refine ⟨r.binds, V.int, .tup _, fun L₁ f₁ st' => f₁ = fset "out" (.obj D) [("w", .obj a.w), ("t", .int t)] ∧ ∃ out, st' = (D, .list (vi out)) :: wst nums a d ∧ (∀ k, k ∈ out ↔ (k ∈ r.kids ∨ k ∈ L₁.flatMap fun p => [d.bnd[p.toNat]?.getD 0, d.dfl[p.toNat]?.getD 0]) ∧ 0 ≤ k) ∧ out.length ≤ 400 + 2 * L₁.length,
    ⟨_, .refl _, rfl, ks, rfl, fun k => by rw [hpm.mem_iff, List.mem_filter]; simp, by simp; lia⟩, ?_, ?_⟩
  · rintro L₁ p L₂ f₁ st₂ he ⟨rfl, out, rfl, hout, hol⟩
    have hp := hbr p (by rw [he]; simp)
    have hL : L₁.length ≤ 4 := by have := congrArg List.length he; simp at this; lia
    have hi1 : p.toNat < d.bnd.length := by lia
    have hi2 : p.toNat < d.dfl.length := by lia
    walk_at "m go"
    refine WS_forL (α := Int) ?_ (.inl rfl) (by intro _; rfl)
    walk_at "m go"
    refine op_itemS' (y := .obj a.tab) (.tail .head) rfl ?_
    walk_at "m go"
    refine get_bounds b (.tail (.tail .head)) (.tail (.tail (.tail .head))) ?_
    walk_at "m go"
    refine op_itemL (l := vi d.bnd) (.obj (.tail (.tail (.tail (.tail (.tail (.tail .head))))))) hp.1 (by lia) (y := .int (d.bnd[p.toNat]?.getD 0)) (by unfold vi; rw [List.getElem?_map, List.getElem?_eq_getElem hi1]; rfl) ?_
    walk_at "m go"
    refine op_itemS' (y := .obj a.tab) (.tail .head) rfl ?_
    walk_at "m go"
    refine get_defaults b (.tail (.tail .head)) (.tail (.tail (.tail .head))) ?_
    walk_at "m go"
    refine op_itemL (l := vi d.dfl) (.obj (.tail (.tail (.tail (.tail (.tail (.tail (.tail .head)))))))) hp.1 (by lia) (y := .int (d.dfl[p.toNat]?.getD 0)) (by unfold vi; rw [List.getElem?_map, List.getElem?_eq_getElem hi2]; rfl) ?_
    walk_at "m go"
    refine ⟨[d.bnd[p.toNat]?.getD 0, d.dfl[p.toNat]?.getD 0], V.int, .tup _, fun M₁ f₁ st' => f₁ = fset "pid" (.int p) (fset "out" (.obj D) [("w", .obj a.w), ("t", .int t)]) ∧ ∃ out', st' = (D, .list (vi out')) :: wst nums a d ∧ (∀ k, k ∈ out' ↔ k ∈ out ∨ (k ∈ M₁ ∧ 0 ≤ k)) ∧ out'.length ≤ out.length + M₁.length,
      ⟨_, .refl _, rfl, out, rfl, by simp, by simp⟩, ?_, ?_⟩
    · rintro M₁ k M₂ f₁ st₂ heM ⟨rfl, out', rfl, hout', hol'⟩
      have hM : M₁.length ≤ 1 := by have := congrArg List.length heM; simp at this; lia
      walk_at "m go"
      refine ⟨fun hk => ?_, fun hk => ?_⟩
      · have hk' : 0 ≤ k := by simpa using hk
        walk_at "m go"
        walk_at "m append"
        walk_at "m go"
        refine c_append .head (by rw [vi_length]; lia) ?_
        walk_at "m go"
        refine ⟨_, .cons rfl (.cons rfl (.cons rfl (.cons rfl (.nil _)))), rfl, out' ++ [k], by rw [vi_append]; rfl, fun x => ?_, by simp; lia⟩
        rw [List.mem_append, hout', List.mem_append, List.mem_singleton]
        constructor
        · rintro ((h1 | ⟨h1, h2⟩) | rfl)
          · exact .inl h1
          · exact .inr ⟨.inl h1, h2⟩
          · exact .inr ⟨.inr rfl, hk'⟩
        · rintro (h1 | ⟨h1 | rfl, h2⟩)
          · exact .inl (.inl h1)
          · exact .inl (.inr ⟨h1, h2⟩)
          · exact .inr rfl
      · have hk' : ¬ 0 ≤ k := by simpa using hk
        walk_at "m go"
        refine ⟨_, .cons rfl (.cons rfl (.cons rfl (.cons rfl (.nil _)))), rfl, out', rfl, fun x => ?_, by simp; lia⟩
        rw [hout', List.mem_append, List.mem_singleton]
        constructor
        · rintro (h1 | ⟨h1, h2⟩)
          · exact .inl h1
          · exact .inr ⟨.inl h1, h2⟩
        · rintro (h1 | ⟨h1 | rfl, h2⟩)
          · exact .inl h1
          · exact .inr ⟨h1, h2⟩
          · exact absurd h2 hk'
    · rintro f₁ st₂ ⟨rfl, out', rfl, hout', hol'⟩
      walk_at "m go"
      refine ⟨_, .cons rfl (.cons rfl (.cons rfl (.nil _))), rfl, out', rfl, fun x => ?_, by simp at hol' ⊢; lia⟩
      rw [hout', hout, List.flatMap_append, List.mem_append]
      simp only [List.flatMap_cons, List.flatMap_nil, List.append_nil]
      constructor
      · rintro (⟨h1 | h1, h2⟩ | ⟨h1, h2⟩)
        · exact ⟨.inl h1, h2⟩
        · exact ⟨.inr (.inl h1), h2⟩
        · exact ⟨.inr (.inr h1), h2⟩
      · rintro ⟨h1 | h1 | h1, h2⟩
        · exact .inl ⟨.inl h1, h2⟩
        · exact .inl ⟨.inr h1, h2⟩
        · exact .inr ⟨h1, h2⟩
  · rintro f₁ st₂ ⟨rfl, out, rfl, hout, hol⟩
    walk_at "m go"
    exact h D out (fun k => by rw [hout]; unfold inner; rw [List.mem_append]) (by lia)
end
section
variable {d : Wd}
structure QS (d : Wd) (pid t : Int) (S W : List Int) : Prop where
  nd : S.Nodup
  sr : ∀ x ∈ S, x ∈ d.pool ∧ Road d.rows d.bnd d.dfl pid t x
  wr : ∀ x ∈ W, x ∈ d.pool ∧ (pid ∉ bindsAt d.rows x → Road d.rows d.bnd d.dfl pid t x)
  cl : ∀ x ∈ S, ∀ r, d.rows[x.toNat]? = some r → ∀ k ∈ inner d.bnd d.dfl r, 0 ≤ k → k ∈ S ∨ k ∈ W ∨ pid ∈ bindsAt d.rows k
  st : t ∈ S ∨ t ∈ W ∨ pid ∈ bindsAt d.rows t
  wl : W.length ≤ 1 + 1000 * S.length
theorem QS.len {pid t : Int} {S W : List Int} (f : Fit d) (h : QS d pid t S W) : S.length ≤ d.rows.length := nodup_len _ _ h.nd fun x hx => f.at (h.sr x hx).1
theorem QS.skip {pid t z : Int} {S W : List Int} (h : QS d pid t S (W ++ [z])) (hz : z ∈ S ∨ pid ∈ bindsAt d.rows z) : QS d pid t S W := by
  refine ⟨h.nd, h.sr, fun x hx => h.wr x (by simp [hx]), fun x hx r hr k hk h0 => ?_, ?_, by have := h.wl; simp at this; lia⟩
  · rcases h.cl x hx r hr k hk h0 with h1 | h1 | h1
    · exact .inl h1
    · rcases List.mem_append.mp h1 with h1 | h1
      · exact .inr (.inl h1)
      · rw [show k = z by simpa using h1]; exact hz.imp id .inr
    · exact .inr (.inr h1)
  · rcases h.st with h1 | h1 | h1
    · exact .inl h1
    · rcases List.mem_append.mp h1 with h1 | h1
      · exact .inr (.inl h1)
      · rw [show t = z by simpa using h1]; exact hz.imp id .inr
    · exact .inr (.inr h1)
theorem QS.add {pid t z : Int} {S W : List Int} (f : Fit d) (h : QS d pid t S (W ++ [z])) (hn : z ∉ S) (hb : pid ∉ bindsAt d.rows z) {r : Row} (hr : d.rows[z.toNat]? = some r) {out : List Int} (hout : ∀ k, k ∈ out ↔ k ∈ inner d.bnd d.dfl r ∧ 0 ≤ k) (hol : out.length ≤ 1000) :
    QS d pid t (S ++ [z]) (W ++ out) := by
  obtain ⟨hzp, hzr⟩ := h.wr z (by simp)
  have hz0 := (f.at hzp).1
  refine ⟨?_, fun x hx => ?_, fun x hx => ?_, fun x hx r' hr' k hk h0 => ?_, ?_, ?_⟩
  · rw [List.nodup_append]
    refine ⟨h.nd, by simp, fun x hx y hy e => hn ?_⟩
    have : y = z := by simpa using hy
    rw [← this, ← e]; exact hx
  · rcases List.mem_append.mp hx with hx | hx
    · exact h.sr x hx
    · rw [show x = z by simpa using hx]; exact ⟨hzp, hzr hb⟩
  · rcases List.mem_append.mp hx with hx | hx
    · exact h.wr x (by simp [hx])
    · obtain ⟨h1, h2⟩ := (hout x).mp hx
      exact ⟨f.closed hzp hr h1 h2, fun hnb => .step (hzr hb) hz0 hr h1 h2 hnb⟩
  · rcases List.mem_append.mp hx with hx | hx
    · rcases h.cl x hx r' hr' k hk h0 with h1 | h1 | h1
      · exact .inl (by simp [h1])
      · rcases List.mem_append.mp h1 with h1 | h1
        · exact .inr (.inl (by simp [h1]))
        · exact .inl (by simp at h1; simp [h1])
      · exact .inr (.inr h1)
    · rw [show x = z by simpa using hx] at hr'
      rw [hr] at hr'; cases hr'
      exact .inr (.inl (List.mem_append_right _ ((hout k).mpr ⟨hk, h0⟩)))
  · rcases h.st with h1 | h1 | h1
    · exact .inl (by simp [h1])
    · rcases List.mem_append.mp h1 with h1 | h1
      · exact .inr (.inl (by simp [h1]))
      · exact .inl (by simp at h1; simp [h1])
    · exact .inr (.inr h1)
  · have h1 := h.wl
    simp at h1 ⊢; lia
theorem QS.fin {pid t : Int} {S : List Int} (h : QS d pid t S []) (x : Int) : x ∈ isort S ↔ Road d.rows d.bnd d.dfl pid t x := by
  rw [isort_mem]
  constructor
  · exact fun hx => (h.sr x hx).2
  · intro hr
    induction hr with
    | refl hb =>
      rcases h.st with h1 | h1 | h1
      · exact h1
      · cases h1
      · exact absurd h1 hb
    | @step x k r _ h0 hr hk hk0 hnb ih =>
      rcases h.cl x ih r hr k hk hk0 with h1 | h1 | h1
      · exact h1
      · cases h1
      · exact absurd h1 hnb
end
section
variable {X : Cx} {mg mb : Str → Option Value} (b : Bs X mg mb) {n : Nat} {Q : V → St → Prop} {a : Ad} {nums : List Int} {d : Wd} 
include b
theorem call_roads (f : Fit d) (t pid : Int) (ht : t ∈ d.pool)
    (h : ∀ S : List Int, S.Pairwise (· < ·) → (∀ x, x ∈ S ↔ Road d.rows d.bnd d.dfl pid t x) → S.length < 64 → Q (.lst (vi S)) (wst nums a d)) : CallC X (n + 2) (wst nums a d) (.ref 313) [.obj a.w, .int t, .int pid] Q := by
  refine CallC.less (CallC_def b.F (by k_is) (by k_is) .three (fun L => ?_))
  dsimp only
  have hrl := f.rl
  walk_at "m go"
  refine WE_list ?_
  walk_at "m go"
  intro s
  walk_at "m go"
  refine WE_list ?_
  walk_at "m go"
  intro w
  walk_at "m go"
  refine WS_while (fun m f₁ st₁ => ∃ S W, f₁ = fset "todo" (.obj w) (fset "seen" (.obj s) [("w", .obj a.w), ("t", .int t), ("pid", .int pid)]) ∧ Less ((w, .list (vi W)) :: (s, .list (vi S)) :: wst nums a d) st₁ ∧ QS d pid t S W ∧ m = (d.rows.length - S.length) * 2000 + W.length)
    ((d.rows.length - 0) * 2000 + 1) ⟨_, .refl _, [], [t], rfl, .refl _, ⟨by simp, by simp, by simp; exact ⟨ht, fun hb => .refl hb⟩, by simp, by simp, by simp⟩, rfl⟩ ?_
  rintro m f₁ st₁ ⟨S, W, rfl, hless, hQS, rfl⟩
  refine WT.less hless ?_
  have hSl := hQS.len f
  have hWl := hQS.wl
  walk_at "m go"
  refine c_len (l := vi W) (.obj .head) (by rw [vi_length]; lia) ?_
  rw [vi_length]
  walk_at "m go"
  refine ⟨fun hc => ?_, fun hc => ?_⟩
  · rcases List.eq_nil_or_concat W with rfl | ⟨W', z, rfl⟩
    · simp at hc
    rw [List.concat_eq_append] at hQS hWl ⊢
    obtain ⟨hzp, hzr⟩ := hQS.wr z (by simp)
    obtain ⟨hz0, r, hr, _, hbs⟩ := f.po z hzp
    walk_at "m go"
    refine ⟨_, Meth.list .head F.plainAttrs_list F.slot_list_pop F.type_list_pop, Kp.builtin _, ?_⟩
    walk_at "m go"
    refine c_pop (l := vi W') (z := .int z) (by rw [vi_append]; exact .head) (by rw [vi_length]; simp at hWl; lia) ?_
    walk_at "m go"
    refine op_ninl (l := S) (.obj (.tail .head)) ?_
    walk_at "m go"
    refine ⟨fun hn => ?_, fun hn => ?_⟩
    · have hn' : z ∉ S := by simpa using hn
      walk_at "m go"
      refine op_itemS' (y := .obj a.binds) (.tail (.tail .head)) rfl ?_
      walk_at "m go"
      refine op_itemD (l := bdv d.binds) (.obj (.tail (.tail (.tail (.tail (.tail (.tail (.tail (.tail (.tail (.tail (.tail (.tail (.tail .head)))))))))))))) (y := .tup (vi r.binds)) (by rw [bdv_get, hbs]; rfl) ?_
      refine op_nint (l := r.binds) ?_
      walk_at "m go"
      refine ⟨fun hb => ?_, fun hb => ?_⟩
      · have hb' : pid ∉ bindsAt d.rows z := by rw [bindsAt_of hr]; simpa using hb
        walk_at "m go"
        refine ⟨_, Meth.list (l := vi S) (.tail .head) F.plainAttrs_list F.slot_list_append F.type_list_append, Kp.builtin _, ?_⟩
        walk_at "m go"
        refine c_append (l := vi S) (by rw [show vi S ++ [V.int z] = vi (S ++ [z]) from by rw [vi_append]; rfl]; exact .tail .head) (by rw [vi_length]; lia) ?_
        walk_at "m go"
        refine ⟨_, Meth.list .head F.plainAttrs_list F.slot_list_extend F.type_list_extend, Kp.builtin _, ?_⟩
        walk_at "m go"
        refine Call.push (Call.push ((call_inside (n := n) b f z hzp hr fun D out hout hol => ?_).at (Nat.add_le_add_left (by decide) _)))
        walk_at "m go"
        refine c_extend (l := vi W') (m := vi out) .head (.obj (.tail (.tail .head))) (by rw [vi_length, vi_length]; simp at hWl; lia) ?_
        walk_at "m go"
        have hR2 := hQS.add f hn' hb' hr hout hol
        have hl2 := hR2.len f
        refine ⟨_, _, ?_, ?_, S ++ [z], W' ++ out, rfl, ?_, hR2, rfl⟩
        · simp at hl2 ⊢; lia
        · exact .cons rfl (.cons rfl (.cons rfl (.cons rfl (.cons rfl (.nil _)))))
        · rw [vi_append W']; exact .cons _ (.cons _ (.skip _ (.refl _)))
      · have hb' : pid ∈ bindsAt d.rows z := by rw [bindsAt_of hr]; simpa using hb
        walk_at "m go"
        refine ⟨_, _, ?_, ?_, S, W', rfl, .refl _, hQS.skip (.inr hb'), rfl⟩
        · simp
        · exact .cons rfl (.cons rfl (.cons rfl (.cons rfl (.cons rfl (.nil _)))))
    · have hn' : z ∈ S := by simpa using hn
      walk_at "m go"
      refine ⟨_, _, ?_, ?_, S, W', rfl, .refl _, hQS.skip (.inl hn'), rfl⟩
      · simp
      · exact .cons rfl (.cons rfl (.cons rfl (.cons rfl (.cons rfl (.nil _)))))
  · have hW : W = [] := by cases W with | nil => rfl | cons _ _ => simp at hc
    subst hW
    walk_at "m go"
    refine c_sortedL (l := S) (.obj (.tail .head)) (by lia) ?_
    walk_at "m go"
    exact ⟨wst nums a d, .skip _ (.skip _ (.refl _)), h (isort S) (isort_lt hQS.nd) hQS.fin (by rw [(isort_perm S).length_eq]; lia)⟩
end
open Classical in
noncomputable def freeL (d : Wd) (t : Int) : List Int := (rngI 0 (d.params.length : Int)).filter fun p => decide (Free d.rows d.bnd d.dfl t p)
theorem rngI_lt (a z : Int) : (rngI a z).Pairwise (· < ·) := by
  unfold rngI
  rw [List.pairwise_map]
  exact List.Pairwise.imp (fun {x y} h => by lia) List.pairwise_lt_range
theorem rngI_mem {a z p : Int} : p ∈ rngI a z ↔ a ≤ p ∧ p < z := by
  unfold rngI
  rw [List.mem_map]
  constructor
  · rintro ⟨i, hi, rfl⟩
    have : i < (z - a).toNat := by simpa using hi
    lia
  · exact fun h => ⟨(p - a).toNat, by simp; lia, by lia⟩
theorem freeL_mem {d : Wd} (f : Fit d) (t p : Int) : p ∈ freeL d t ↔ Free d.rows d.bnd d.dfl t p := by
  unfold freeL
  rw [List.mem_filter, rngI_mem]
  constructor
  · exact fun h => by simpa using h.2
  · intro h
    have := free_range f.vt h
    have hb := f.bl
    exact ⟨⟨this.1, by lia⟩, by simpa using h⟩
theorem freeL_lt (d : Wd) (t : Int) : (freeL d t).Pairwise (· < ·) := by
  unfold freeL
  exact (rngI_lt _ _).filter _
theorem freeL_len {d : Wd} (f : Fit d) (t : Int) : (freeL d t).length ≤ 4 := by
  unfold freeL
  refine Nat.le_trans (List.length_filter_le _ _) ?_
  have := f.pl
  simp [rngI]; lia
section
variable {X : Cx} {mg mb : Str → Option Value} (b : Bs X mg mb) {n : Nat} {Q : V → St → Prop} {a : Ad} {nums : List Int} {d : Wd} 
include b
theorem call_free (f : Fit d) (t : Int) (ht : t ∈ d.pool)
    (h : Q (.tup (vi (freeL d t))) (wst nums a d)) : CallC X (n + 3) (wst nums a d) (.ref 318) [.obj a.w, .int t] Q := by
  refine CallC_def b.F (by k_is) (by k_is) .two (fun L => ?_)
  dsimp only
  have hpl := f.pl
  walk_at "m go"
  refine' WE_compP (α := Int) ?_ ?c1 ?c2 ?c3 ?c4 ?c5 ?c6 ?c7
  case c2 => exact rfl
  case c1 => first | exact .nil | exact .cons rfl rfl rfl .nil | exact .cons rfl rfl rfl (.cons rfl rfl rfl .nil) | exact .cons rfl rfl rfl (.cons rfl rfl rfl (.cons rfl rfl rfl .nil))
  case c3 => decide
  case c4 => rfl
  case c5 => decide
  case c6 => rfl
  case c7 => (intro _; rfl)
  walk_at "m go"
  refine op_itemS' (y := .obj a.params) .head rfl ?_
  walk_at "m go"
  refine c_len (.obj (.tail (.tail (.tail (.tail (.tail (.tail (.tail (.tail (.tail .head)))))))))) (by rw [vi_length]; lia) ?_
  rw [vi_length]
  walk_at "m go"
  refine c_range1 ?_
  refine ⟨rngI 0 (d.params.length : Int), V.int, V.int, fun p => @decide (Free d.rows d.bnd d.dfl t p) (Classical.propDecidable _), by rw [show (rngI 0 (d.params.length : Int)).map V.int = rngItems 0 (d.params.length : Int) from (rngItems_vi _ _).symm]; exact .rng _ _ (by lia), by simp [rngI]; lia, fun C p hp => ?_, ?_⟩
  · obtain ⟨hp0, hp1⟩ := rngI_mem.mp hp
    have hidx : p.toNat < d.params.length := by lia
    obtain ⟨hx0, hxr, hxp⟩ := f.pp p.toNat _ (List.getElem?_eq_getElem hidx)
    rw [show ((p.toNat : Nat) : Int) = p from by lia] at hxr
    show WT _ _ _ _ _ _ _
    walk_at "m go"
    refine op_itemS' (y := .obj a.params) .head rfl ?_
    walk_at "m go"
    refine op_itemL (l := vi d.params) (.obj (.tail (.tail (.tail (.tail (.tail (.tail (.tail (.tail (.tail .head)))))))))) (by lia) (by lia) (y := .int d.params[p.toNat]) (by unfold vi; rw [List.getElem?_map, List.getElem?_eq_getElem hidx]; rfl) ?_
    walk_at "m go"
    refine (call_roads (n := n) b f t p ht fun S hS hm hSl => ?_).at (Nat.add_le_add_left (by decide) _)
    refine op_inl (l := S) (.lst _) ?_
    have key : d.params[p.toNat] ∈ S ↔ Free d.rows d.bnd d.dfl t p := by
      rw [hm]
      constructor
      · exact fun hr => road_free hr (.param hx0 hxr)
      · intro hF
        obtain ⟨y, h1, h2, h3⟩ := free_road hF
        have := nodup_idx f.nd h3 hxr
        rwa [show d.params[p.toNat] = y from by lia]
    walk_at "m go"
    refine ⟨fun hc => ?_, fun hc => ?_⟩
    · walk_at "m go"
      exact ⟨by simpa using key.mp (by simpa using hc), rfl, rfl⟩
    · refine ⟨?_, rfl⟩
      have hno : d.params[p.toNat] ∉ S := by simpa using hc
      simpa using fun hF => hno (key.mpr hF)
  walk_at "m go"
  have hfl := freeL_len f t
  refine c_tupleL (.lst _) ?_ ?_
  · show (List.map V.int _).length ≤ _
    simp only [List.length_map]
    show (freeL d t).length ≤ _
    lia
  walk_at "m go"
  exact h
end
noncomputable def wsp (nums : List Int) (a : Ad) (d : Wd) : St :=
  [(a.w, .dictS (wds nums a d.next d.did)), (a.tab, .inst 74 a.d), (a.d, .ns (nsl a)), (a.rows, .list (d.rows.map Row.v)), (a.index, .dictT (ixl d.rows)), (a.bounds, .list (vi d.bnd)), (a.defaults, .list (vi d.dfl)),
   (a.names, .list (d.names.map .str)), (a.params, .list (vi d.params)), (a.kids, .dictI (kdv d.kids)), (a.binds, .dictI (bdv d.binds))]
theorem wsp_perm (nums : List Int) (a : Ad) (d : Wd) : (wst nums a d).Perm ((a.pool, .list (vi d.pool)) :: wsp nums a d) := by
  have := @List.perm_middle _ (a.pool, AObj.list (vi d.pool)) ((wsp nums a d).take 8) ((wsp nums a d).drop 8)
  exact this
section
variable {X : Cx} {mg mb : Str → Option Value} (b : Bs X mg mb) {n : Nat} {Q : V → St → Prop} {a : Ad} {nums : List Int} {d : Wd} 
include b
theorem call_rows_right (f : Fit d)
    (h : Q (.bool true) (wst nums a d)) : CallC X (n + 4) (wst nums a d) (.ref 323) [.obj a.w] Q := by
  refine CallC.less (CallC_def b.F (by k_is) (by k_is) .one (fun L => ?_))
  dsimp only
  have hpl := f.pl
  have hrl := f.rl
  walk_at "m go"
  refine WS_forLM (α := Int) ?_ (.inl rfl) (by intro _; rfl)
  walk_at "m go"
  refine op_itemS' (y := .obj a.pool) .head rfl ?_
  refine ⟨a.pool, d.pool, V.int, wsp nums a d, rfl, by repeat (first | exact .head | refine .tail ?_), fun (L₁ : List Int) (f₁ : Fm) (st' : St) => f₁ = ([("w", V.obj a.w)] : Fm) ∧ st' = wsp nums a d, ⟨_, .refl _, rfl, rfl⟩, ?_, ?_⟩
  · rintro L₁ t L₂ f₁ st₂ he ⟨rfl, rfl⟩
    have ht : t ∈ d.pool := by rw [he]; simp
    obtain ⟨h0, r, hr, ⟨ks, hks, hksl, hpm, hkp⟩, hbs⟩ := f.po t ht
    have hrm := List.mem_of_getElem? hr
    have htl := (f.at ht).2
    walk_at "m go"
    refine op_itemS' (y := .obj a.tab) .head rfl ?_
    walk_at "m go"
    refine get_rows b (.tail .head) (.tail (.tail .head)) ?_
    walk_at "m go"
    refine op_itemL (.obj (.tail (.tail (.tail .head)))) h0 (by lia) (y := r.v) (by rw [List.getElem?_map, hr]; rfl) ?_
    walk_at "m go"
    refine' WE_compP (α := Int) ?_ ?c1 ?c2 ?c3 ?c4 ?c5 ?c6 ?c7
    case c2 => exact rfl
    case c1 => first | exact .nil | exact .cons rfl rfl rfl .nil | exact .cons rfl rfl rfl (.cons rfl rfl rfl .nil) | exact .cons rfl rfl rfl (.cons rfl rfl rfl (.cons rfl rfl rfl .nil))
    case c3 => decide
    case c4 => rfl
    case c5 => decide
    case c6 => rfl
    case c7 => (intro _; rfl)
    walk_at "m go"
    refine Op.hardenX ((call_row_kids (n := n) b r (f.rs r hrm) fun D => ?_).at (Nat.add_le_add_left (by decide) _))
    refine ⟨D, _, _, rfl, .head, ?_⟩
    have hkl := (f.rk r hrm).1
    refine ⟨r.kids, V.int, V.int, fun k => decide (0 ≤ k), .lst _, by lia, fun C k hk => ?_, ?_⟩
    · show WT _ _ _ _ _ _ _
      walk_at "m go"
      refine ⟨fun hc => ?_, fun hc => ?_⟩
      · walk_at "m go"
        first | exact ⟨hc, rfl, rfl⟩ | exact ⟨rfl, rfl⟩
      · exact ⟨hc, rfl⟩
    walk_at "m go"
    refine c_sortedL (l := r.kids.filter fun k => decide (0 ≤ k)) (.lst _) (by have := List.length_filter_le (fun k : Int => decide (0 ≤ k)) r.kids; lia) ?_
    walk_at "m go"
    refine op_itemS' (y := .obj a.kids) .head rfl ?_
    walk_at "m go"
    refine op_itemD (l := kdv d.kids) (.obj (.tail (.tail (.tail (.tail (.tail (.tail (.tail (.tail (.tail .head)))))))))) (y := .lst (vi ks)) (by rw [kdv_get, hks]; rfl) ?_
    walk_at "m go"
    refine c_sortedL (l := ks) (.lst _) (by lia) ?_
    walk_at "m go"
    have e : isort (r.kids.filter fun k => decide (0 ≤ k)) = isort ks := isort_of ((isort_perm _).trans hpm.symm) (isort_sorted _)
    rw [e]
    refine op_nel (a := isort ks) (b := isort ks) (.lst _) (.lst _) ?_
    rw [show (isort ks != isort ks) = false from by simp]
    walk_at "m go"
    refine (call_row_binds (n := n) b r ?_).at (Nat.add_le_add_left (by decide) _)
    walk_at "m go"
    refine c_tupleT ?_
    walk_at "m go"
    refine op_itemS' (y := .obj a.binds) .head rfl ?_
    walk_at "m go"
    refine op_itemD (l := bdv d.binds) (.obj (.tail (.tail (.tail (.tail (.tail (.tail (.tail (.tail (.tail (.tail .head))))))))))) (y := .tup (vi r.binds)) (by rw [bdv_get, hbs]; rfl) ?_
    refine op_net (a := r.binds) (b := r.binds) ?_
    rw [show (r.binds != r.binds) = false from by simp]
    walk_at "m go"
    exact ⟨_, .cons rfl (.nil _), rfl, rfl⟩
  · rintro f₁ st₂ ⟨rfl, rfl⟩
    walk_at "m go"
    exact ⟨_, .perm (wsp_perm nums a d), h⟩
end
noncomputable def firstRows : List Row := [.key "any", .key "unknown", .key "never", .key "void", .key "undefined", .key "null", .key "string", .key "number", .bool 0 0, .bool 1 0, .key "object", .obj [] [] [] [] [], .union [8, 9], .key "error", .bool 0 1, .bool 1 1]
section
variable {X : Cx} {mg mb : Str → Option Value} (b : Bs X mg mb) {n : Nat} {st : St} {Q : V → St → Prop} 
include b
theorem rep_key {a : Addr} {s : Str} {t1 t2 : Tok} {m : Nat} (h : (K X.w.params).lookup a = some ⟨.type "tuple", none, .seq #[.int 1 t1, .str s t2] m, #[]⟩) : RepV X X.B.get? (.ref a) (Row.key s).v :=
  tupOf b h (.cons (.int _ _) (.cons (.str _ _) .nil))
theorem rep_bool {a : Addr} {x y : Int} {t1 t2 t3 : Tok} {m : Nat} (h : (K X.w.params).lookup a = some ⟨.type "tuple", none, .seq #[.int 2 t1, .int x t2, .int y t3] m, #[]⟩) : RepV X X.B.get? (.ref a) (Row.bool x y).v :=
  tupOf b h (.cons (.int _ _) (.cons (.int _ _) (.cons (.int _ _) .nil)))
theorem rep_first : RepV X X.B.get? (.ref 37) (.tup (firstRows.map Row.v)) := by
  refine tupOf b (by k_is) ?_
  refine .cons (rep_key b (by k_is)) (.cons (rep_key b (by k_is)) (.cons (rep_key b (by k_is)) (.cons (rep_key b (by k_is)) (.cons (rep_key b (by k_is)) (.cons (rep_key b (by k_is)) (.cons (rep_key b (by k_is)) (.cons (rep_key b (by k_is)) (.cons (rep_bool b (by k_is)) (.cons (rep_bool b (by k_is)) (.cons (rep_key b (by k_is)) (.cons ?_ (.cons ?_ (.cons (rep_key b (by k_is)) (.cons (rep_bool b (by k_is)) (.cons (rep_bool b (by k_is)) .nil)))))))))))))))
  · refine tupOf b (by k_is) (.cons (.int _ _) (.cons (tupOf b (by k_is) .nil) (.cons (tupOf b (by k_is) .nil) (.cons (tupOf b (by k_is) .nil) (.cons (tupOf b (by k_is) .nil) (.cons (tupOf b (by k_is) .nil) (.cons (.int _ _) .nil)))))))
  · refine tupOf b (by k_is) (.cons (.int _ _) (.cons (tupOf b (by k_is) (.cons (.int _ _) (.cons (.int _ _) .nil))) .nil))
end
noncomputable def tst (a : Ad) (d : Wd) : St :=
  [(a.tab, .inst 74 a.d), (a.d, .ns (nsl a)), (a.rows, .list (d.rows.map Row.v)), (a.index, .dictT (ixl d.rows)), (a.bounds, .list (vi d.bnd)), (a.defaults, .list (vi d.dfl)), (a.names, .list (d.names.map .str))]
noncomputable def d0 : Wd := ⟨firstRows, [], [], [], [], [], [], [], 0, false⟩
theorem first_nodup : firstRows.Nodup := by
  simp [firstRows]
  repeat' refine And.intro ?_ ?_
  all_goals decide +kernel
theorem perm8 {α : Type} (a b c d e f g h : α) : [d, g, h, f, e, c, b, a].Perm [a, b, c, d, e, f, g, h] := by
  haveI : DecidableEq α := fun _ _ => Classical.propDecidable _
  refine List.perm_iff_count.mpr fun x => ?_
  simp only [List.count_cons, List.count_nil]
  lia
section
variable {X : Cx} {mg mb : Str → Option Value} (b : Bs X mg mb) {n : Nat} {Q : V → St → Prop} 
include b
theorem call_init (x dx : Addr) (h : ∀ a : Ad, a.tab = x → Q .none ((a.decls, .list [.none]) :: tst a d0)) : CallC X (n + 2) [(x, .inst 74 dx), (dx, .ns [])] (.ref 57) [.obj x] Q := by
  have hfr := rep_first b
  refine CallC.less (CallC_def b.F (by k_is) (by k_is) .one (fun L => ?_))
  dsimp only
  walk_at "m go"
  refine WE_list ?_
  walk_at "m go"
  intro r1
  walk_at "m go"
  refine op_setattr b.F (by k_is) (by k_is) (by k_is) (by k_is) (.tail .head) (.tail (.tail .head)) (Nat.le_of_ble_eq_true rfl) ?_
  walk_at "m go"
  refine WE_dict0 (x := .dictT []) empty_dictT fun r2 => ?_
  walk_at "m go"
  refine op_setattr b.F (by k_is) (by k_is) (by k_is) (by k_is) (.tail (.tail .head)) (.tail (.tail (.tail .head))) (Nat.le_of_ble_eq_true rfl) ?_
  walk_at "m go"
  refine WE_list ?_
  walk_at "m go"
  intro r3
  walk_at "m go"
  refine op_setattr b.F (by k_is) (by k_is) (by k_is) (by k_is) (.tail (.tail (.tail .head))) (.tail (.tail (.tail (.tail .head)))) (Nat.le_of_ble_eq_true rfl) ?_
  walk_at "m go"
  refine WE_list ?_
  walk_at "m go"
  intro r4
  walk_at "m go"
  refine op_setattr b.F (by k_is) (by k_is) (by k_is) (by k_is) (.tail (.tail (.tail (.tail .head)))) (.tail (.tail (.tail (.tail (.tail .head))))) (Nat.le_of_ble_eq_true rfl) ?_
  walk_at "m go"
  refine WE_list ?_
  walk_at "m go"
  intro r5
  walk_at "m go"
  refine op_setattr b.F (by k_is) (by k_is) (by k_is) (by k_is) (.tail (.tail (.tail (.tail (.tail .head))))) (.tail (.tail (.tail (.tail (.tail (.tail .head)))))) (Nat.le_of_ble_eq_true rfl) ?_
  walk_at "m go"
  refine WE_list ?_
  walk_at "m go"
  intro r6
  walk_at "m go"
  refine op_setattr b.F (by k_is) (by k_is) (by k_is) (by k_is) (.tail (.tail (.tail (.tail (.tail (.tail .head)))))) (.tail (.tail (.tail (.tail (.tail (.tail (.tail .head))))))) (Nat.le_of_ble_eq_true rfl) ?_
  walk_at "m go"
  refine WE_dict0 (x := .dictI []) empty_dictI fun r7 => ?_
  walk_at "m go"
  refine op_setattr b.F (by k_is) (by k_is) (by k_is) (by k_is) (.tail (.tail (.tail (.tail (.tail (.tail (.tail .head))))))) (.tail (.tail (.tail (.tail (.tail (.tail (.tail (.tail .head)))))))) (Nat.le_of_ble_eq_true rfl) ?_
  walk_at "m go"
  refine WE_dict0 (x := .dictI []) empty_dictI fun r8 => ?_
  walk_at "m go"
  refine op_setattr b.F (by k_is) (by k_is) (by k_is) (by k_is) (.tail (.tail (.tail (.tail (.tail (.tail (.tail (.tail .head)))))))) (.tail (.tail (.tail (.tail (.tail (.tail (.tail (.tail (.tail .head))))))))) (Nat.le_of_ble_eq_true rfl) ?_
  walk_at "m go"
  refine op_setattr b.F (by k_is) (by k_is) (by k_is) (by k_is) (.tail (.tail (.tail (.tail (.tail (.tail (.tail (.tail .head)))))))) (.tail (.tail (.tail (.tail (.tail (.tail (.tail (.tail (.tail .head))))))))) (Nat.le_of_ble_eq_true rfl) ?_
  walk_at "m go"
  refine op_setattr b.F (by k_is) (by k_is) (by k_is) (by k_is) (.tail (.tail (.tail (.tail (.tail (.tail (.tail (.tail .head)))))))) (.tail (.tail (.tail (.tail (.tail (.tail (.tail (.tail (.tail .head))))))))) (Nat.le_of_ble_eq_true rfl) ?_
  walk_at "m go"
  let A : Ad := ⟨0, x, dx, r1, r2, r3, r4, r5, r6, r7, r8, 0, 0, 0, 0⟩
  refine WS_forL (α := Row) ?_ (.inl rfl) (by intro _; rfl)
  walk_at "m go"
  refine ⟨firstRows, Row.v, .tup _, fun (L₁ : List Row) (f₁ : Fm) (st' : St) => f₁ = ([("self", V.obj x)] : Fm) ∧ st' = [(r8, .dictI []), (r7, .dictI []), (r6, .list []), (r5, .list []), (r4, .list []), (r3, .list [.none]), (r2, .dictT (ixl L₁)), (r1, .list (L₁.map Row.v)), (x, .inst 74 dx), (dx, .ns (nsl A))],
    ⟨_, .refl _, rfl, rfl⟩, ?_, ?_⟩
  · rintro L₁ r L₂ f₁ st₂ he ⟨rfl, rfl⟩
    have hlen : L₁.length ≤ 16 := by have := congrArg List.length he; simp [firstRows] at this; lia
    walk_at "m go"
    refine ⟨_, Meth.own b.F (C := 74) (d := dx) (by k_is) (by k_is) (by k_is) (by walk_at "m at") (by walk_at "m at") rfl, Kp.frag b.F (by k_is), ?_⟩
    walk_at "m go"
    refine (call_put (n := n) b r (a := A) (rows := L₁) (st₁ := [(r8, .dictI []), (r7, .dictI []), (r6, .list []), (r5, .list []), (r4, .list []), (r3, .list [.none]), (r2, .dictT (ixl L₁)), (r1, .list ((L₁ ++ [r]).map Row.v)), (x, .inst 74 dx), (dx, .ns (nsl A))])
      (st₂ := [(r8, .dictI []), (r7, .dictI []), (r6, .list []), (r5, .list []), (r4, .list []), (r3, .list [.none]), (r2, .dictT (ixl (L₁ ++ [r]))), (r1, .list ((L₁ ++ [r]).map Row.v)), (x, .inst 74 dx), (dx, .ns (nsl A))])
      (by lia) (by walk_at "m at") (by walk_at "m at") (by walk_at "m at") (by walk_at "m at") (by walk_at "m at") (by walk_at "m at") ?_ ?_ (fun i hi => ?_) fun hno => ?_).at (Nat.add_le_add_left (by decide) _)
    · have e : L₁.map Row.v ++ [V.tup r.vs] = (L₁ ++ [r]).map Row.v := by rw [List.map_append]; rfl
      rw [e]; exact .tail (.tail (.tail (.tail (.tail (.tail (.tail .head))))))
    · exact .tail (.tail (.tail (.tail (.tail (.tail .head)))))
    · exfalso
      have hn : firstRows.Nodup := first_nodup
      rw [he] at hn
      have := (List.nodup_append.mp hn).2.2 r (List.mem_of_getElem? hi) r (.head _)
      exact this rfl
    · walk_at "m go"
      exact ⟨_, .cons rfl (.nil _), rfl, rfl⟩
  · rintro f₁ st₂ ⟨rfl, rfl⟩
    walk_at "m go"
    refine ⟨_, .skip _ (.skip _ (.perm ?_)), h A rfl⟩
    exact perm8 _ _ _ _ _ _ _ _
end
theorem Binds.twoD {X : Cx} {Fk : Frag} (hF : Fk.In X.B) {fd : FuncData} {x y : V} {n₁ n₂ n₃ n₄ : Str} {T : Addr} {i j : Int} {t1 t2 : Tok} {m : Nat} {oc : Value} {od : Option Addr} {osl : Array (Option Value)} {k : Value → Value → Option (Array Value) → Sem (List (Str × Value))}
    (hd : fd.defaults = .ref T) (ho : Fk.lookup T = some ⟨oc, od, .seq #[.int i t1, .int j t2] m, osl⟩) (h₁ : ∀ a b, bindArgs fd ⟨[a, b], []⟩ = seqItems? fd.defaults >>= k a b)
    (h₂ : ∀ a b, k a b (some #[.int i t1, .int j t2]) = pure [(n₁, a), (n₂, b), (n₃, .int i t1), (n₄, .int j t2)]) : Binds X fd [x, y] [n₁, n₂, n₃, n₄] [x, y, .int i, .int j] := by
  intro K s vs _ hb r
  obtain ⟨a, b, rfl⟩ := RepL.two_inv r
  cases r with | cons r1 r2 => cases r2 with | cons r3 _ =>
  exact ⟨[a, b, .int i t1, .int j t2], .cons r1 (.cons r3 (.cons (.int _ _) (.cons (.int _ _) .nil))), rfl, BindsTo.of_defaults hd (hb _ _ (hF _ _ ho)) rfl (h₁ a b) (h₂ a b)⟩
section
variable {X : Cx} {mg mb : Str → Option Value} (b : Bs X mg mb) {n : Nat} {Q : V → St → Prop} {a : Ad} {nums : List Int} {d : Wd} 
include b
theorem call_table (h : ∀ a : Ad, Q (.obj a.tab) ((a.decls, .list [.none]) :: tst a d0)) : Call X (n + 3) [] (.ref 74) [] Q :=
  c_class b.F (by k_is) (by k_is) (by k_is) fun x dx => call_init b x dx fun a ha => ⟨rfl, ha ▸ h a⟩
theorem call_new_param (nm : Str) (hno : Row.param d.bnd.length ∉ d.rows) (hl : d.rows.length ≤ 1000 ∧ d.bnd.length ≤ 1000 ∧ d.dfl.length ≤ 1000 ∧ d.names.length ≤ 1000)
    (h : Q (.int d.rows.length) (wst nums a { d with rows := d.rows ++ [.param d.bnd.length], bnd := d.bnd ++ [-1], dfl := d.dfl ++ [-1], names := d.names ++ [nm] })) : CallC X (n + 2) (wst nums a d) (.ref 107) [.obj a.tab, .str nm] Q := by
  refine CallC_def b.F (by k_is) (by k_is) (.twoD b.F (by rfl) (by k_is) (by intro _ _; rfl) (by intro _ _; rfl)) (fun L => ?_)
  dsimp only
  walk_at "m go"
  refine get_bounds b (.tail .head) (.tail (.tail .head)) ?_
  walk_at "m go"
  refine c_len (l := vi d.bnd) (.obj (by walk_at "m at")) (by rw [vi_length]; lia) ?_
  rw [vi_length]
  walk_at "m go"
  refine get_bounds b (.tail .head) (.tail (.tail .head)) ?_
  refine ⟨_, Meth.list (l := vi d.bnd) (by walk_at "m at") F.plainAttrs_list F.slot_list_append F.type_list_append, Kp.builtin _, ?_⟩
  walk_at "m go"
  refine c_append (l := vi d.bnd) (st' := wst nums a { d with bnd := d.bnd ++ [-1] }) (by rw [show vi d.bnd ++ [V.int (-1)] = vi (d.bnd ++ [-1]) from by rw [vi_append]; rfl]; exact .tail (.tail (.tail (.tail (.tail .head))))) (by rw [vi_length]; lia) ?_
  walk_at "m go"
  refine get_defaults b (.tail .head) (.tail (.tail .head)) ?_
  refine ⟨_, Meth.list (l := vi d.dfl) (by walk_at "m at") F.plainAttrs_list F.slot_list_append F.type_list_append, Kp.builtin _, ?_⟩
  walk_at "m go"
  refine c_append (l := vi d.dfl) (st' := wst nums a { d with bnd := d.bnd ++ [-1], dfl := d.dfl ++ [-1] }) (by rw [show vi d.dfl ++ [V.int (-1)] = vi (d.dfl ++ [-1]) from by rw [vi_append]; rfl]; exact .tail (.tail (.tail (.tail (.tail (.tail .head)))))) (by rw [vi_length]; lia) ?_
  walk_at "m go"
  refine get_names b (.tail .head) (.tail (.tail .head)) ?_
  refine ⟨_, Meth.list (l := d.names.map .str) (by walk_at "m at") F.plainAttrs_list F.slot_list_append F.type_list_append, Kp.builtin _, ?_⟩
  walk_at "m go"
  refine c_append (l := d.names.map .str) (st' := wst nums a { d with bnd := d.bnd ++ [-1], dfl := d.dfl ++ [-1], names := d.names ++ [nm] }) (by rw [show d.names.map V.str ++ [V.str nm] = (d.names ++ [nm]).map V.str from by rw [List.map_append]; rfl]; exact .tail (.tail (.tail (.tail (.tail (.tail (.tail .head))))))) (by rw [List.length_map]; lia) ?_
  walk_at "m go"
  refine ⟨_, Meth.own b.F (C := 74) (d := a.d) (by k_is) (by k_is) (by k_is) (.tail .head) (.tail (.tail .head)) rfl, Kp.frag b.F (by k_is), ?_⟩
  walk_at "m go"
  refine (call_putW (n := n) b (d := { d with bnd := d.bnd ++ [-1], dfl := d.dfl ++ [-1], names := d.names ++ [nm] }) (.param d.bnd.length) (by show d.rows.length ≤ 1000; lia) fun rows t hr hrows => ?_).at (Nat.add_le_add_left (by decide) _)
  have hrows' : rows = d.rows ++ [Row.param d.bnd.length] := by
    rcases hrows with e | ⟨_, e⟩
    · have e' : rows = d.rows := e
      exact absurd (e' ▸ List.mem_of_getElem? hr) hno
    · exact e
  subst hrows'
  have ht : t = d.rows.length := by
    rcases Nat.lt_or_ge t d.rows.length with hlt | hge
    · rw [List.getElem?_append_left hlt] at hr
      exact absurd (List.mem_of_getElem? hr) hno
    · have := (List.getElem?_eq_some_iff.mp hr).1
      simp at this; lia
  subst ht
  walk_at "m go"
  exact h
end
section
variable {X : Cx} {mg mb : Str → Option Value} (b : Bs X mg mb) {n : Nat} {st : St} {Q : V → St → Prop} {a : Ad} {nums : List Int} {d : Wd} 
include b
theorem call_decl_init (x dx : Addr) (did k : Int) (s : Str) (h : ∀ l : List (Str × V), l.lookup (Str.ofString "did") = some (V.int did) → l.length ≤ 20 → Q .none ((x, .inst 95 dx) :: (dx, .ns l) :: st)) :
    CallC X (n + 1) ((x, .inst 95 dx) :: (dx, .ns []) :: st) (.ref 92) [.obj x, .int did, .int k, .str s] Q := by
  refine CallC.less (CallC_def b.F (by k_is) (by k_is) .four (fun L => ?_))
  dsimp only
  walk_at "m go"
  refine op_setattr b.F (by k_is) (by k_is) (by k_is) (by k_is) .head (.tail .head) (Nat.le_of_ble_eq_true rfl) ?_
  walk_at "m go"
  refine op_setattr b.F (by k_is) (by k_is) (by k_is) (by k_is) .head (.tail .head) (Nat.le_of_ble_eq_true rfl) ?_
  walk_at "m go"
  refine op_setattr b.F (by k_is) (by k_is) (by k_is) (by k_is) .head (.tail .head) (Nat.le_of_ble_eq_true rfl) ?_
  walk_at "m go"
  refine op_setattr b.F (by k_is) (by k_is) (by k_is) (by k_is) .head (.tail .head) (Nat.le_of_ble_eq_true rfl) ?_
  walk_at "m go"
  refine op_setattr b.F (by k_is) (by k_is) (by k_is) (by k_is) .head (.tail .head) (Nat.le_of_ble_eq_true rfl) ?_
  walk_at "m go"
  refine op_setattr b.F (by k_is) (by k_is) (by k_is) (by k_is) .head (.tail .head) (Nat.le_of_ble_eq_true rfl) ?_
  walk_at "m go"
  refine op_setattr b.F (by k_is) (by k_is) (by k_is) (by k_is) .head (.tail .head) (Nat.le_of_ble_eq_true rfl) ?_
  walk_at "m go"
  refine op_setattr b.F (by k_is) (by k_is) (by k_is) (by k_is) .head (.tail .head) (Nat.le_of_ble_eq_true rfl) ?_
  walk_at "m go"
  refine op_setattr b.F (by k_is) (by k_is) (by k_is) (by k_is) .head (.tail .head) (Nat.le_of_ble_eq_true rfl) ?_
  walk_at "m go"
  refine WE_listF ?_
  walk_at "m go"
  refine op_setattr b.F (by k_is) (by k_is) (by k_is) (by k_is) .head (.tail .head) (Nat.le_of_ble_eq_true rfl) ?_
  walk_at "m go"
  refine WE_listF ?_
  walk_at "m go"
  refine op_setattr b.F (by k_is) (by k_is) (by k_is) (by k_is) .head (.tail .head) (Nat.le_of_ble_eq_true rfl) ?_
  walk_at "m go"
  refine op_setattr b.F (by k_is) (by k_is) (by k_is) (by k_is) .head (.tail .head) (Nat.le_of_ble_eq_true rfl) ?_
  walk_at "m go"
  refine op_setattr b.F (by k_is) (by k_is) (by k_is) (by k_is) .head (.tail .head) (Nat.le_of_ble_eq_true rfl) ?_
  walk_at "m go"
  refine op_setattr b.F (by k_is) (by k_is) (by k_is) (by k_is) .head (.tail .head) (Nat.le_of_ble_eq_true rfl) ?_
  walk_at "m go"
  refine op_setattr b.F (by k_is) (by k_is) (by k_is) (by k_is) .head (.tail .head) (Nat.le_of_ble_eq_true rfl) ?_
  walk_at "m go"
  exact ⟨_, .refl _, h _ rfl (Nat.le_of_ble_eq_true rfl)⟩
theorem call_new_decl (k : Int) (s : Str) (h : ∀ (x dx : Addr) (l : List (Str × V)), l.lookup (Str.ofString "did") = some (V.int 1) → l.length ≤ 20 → Q (.obj x) ((x, .inst 95 dx) :: (dx, .ns l) :: wst nums a d)) :
    CallC X (n + 3) ((a.decls, .list [.none]) :: wst nums a d) (.ref 114) [.obj a.tab, .int k, .str s] Q := by
  refine CallC.less (CallC_def b.F (by k_is) (by k_is) .three (fun L => ?_))
  dsimp only
  walk_at "m go"
  refine get_decls b (.tail (.tail .head)) (.tail (.tail (.tail .head))) ?_
  walk_at "m go"
  refine c_len (l := [.none]) (.obj .head) (by decide) ?_
  walk_at "m go"
  refine c_class b.F (by k_is) (by k_is) (by k_is) fun x dx => call_decl_init (n := n) b x dx 1 k s fun l hl hn => ⟨rfl, ?_⟩
  walk_at "m go"
  refine get_decls b (by repeat (first | exact .head | refine .tail ?_)) (by repeat (first | exact .head | refine .tail ?_)) ?_
  refine ⟨_, Meth.list (l := [.none]) (.tail (.tail .head)) F.plainAttrs_list F.slot_list_append F.type_list_append, Kp.builtin _, ?_⟩
  walk_at "m go"
  refine c_append (l := [.none]) (.tail (.tail .head)) (by decide) ?_
  walk_at "m go"
  exact ⟨_, .cons _ (.cons _ (.skip _ (.refl _))), h x dx l hl hn⟩
end
noncomputable def pars (k : Nat) : List Int := (List.range k).map fun (i : Nat) => 16 + (i : Int)
noncomputable def zs (l : List Int) : List (Int × List Int) := l.map fun t => (t, [])
theorem zs_keys (l : List Int) : (zs l).map (·.1) = l := by simp [zs, Function.comp_def]
theorem zs_snoc (l : List Int) (t : Int) : zs (l ++ [t]) = zs l ++ [(t, [])] := by simp [zs]
noncomputable def dk (k : Nat) (nx : Int) (nm : List Str) : Wd :=
  { rows := firstRows ++ (List.range k).map fun (i : Nat) => Row.param (i : Int), bnd := List.replicate k (-1), dfl := List.replicate k (-1), names := nm, pool := [6, 7, 4, 11] ++ pars k, params := pars k,
    kids := zs ([6, 7, 4, 11] ++ pars k), binds := zs ([6, 7, 4, 11] ++ pars k), next := nx, did := false }
theorem dget_const {l : List Int} {t : Int} (h : t ∈ l) : dget (l.map fun t => (t, ([] : List Int))) t = some [] := by
  induction l with
  | nil => cases h
  | cons x l ih =>
    by_cases e : x = t
    · simp [dget, e]
    · have ht : t ∈ l := by rcases List.mem_cons.mp h with rfl | h; exact absurd rfl e; exact h
      have := ih ht
      have e1 : dget (List.map (fun t => (t, ([] : List Int))) (x :: l)) t = dget (List.map (fun t => (t, ([] : List Int))) l) t := by simp [dget, e]
      rw [e1]; exact this
theorem pars_succ (k : Nat) : pars (k + 1) = pars k ++ [16 + (k : Int)] := by simp [pars, List.range_succ]
theorem pars_in {k : Nat} {t : Int} : t ∈ pars k ↔ 16 ≤ t ∧ t < 16 + k := by
  unfold pars
  rw [List.mem_map]
  constructor
  · rintro ⟨i, hi, rfl⟩
    have := List.mem_range.mp hi
    lia
  · exact fun h => ⟨(t - 16).toNat, List.mem_range.mpr (by lia), by lia⟩
theorem first_len : firstRows.length = 16 := rfl
theorem first_plain : ∀ r ∈ firstRows, r.Small ∧ r.binds = [] ∧ r.kids.length ≤ 60 ∧ (∀ k ∈ r.kids, k < 16) ∧ ∀ p, r ≠ .param p := by
  intro r hr
  simp only [firstRows, List.mem_cons, List.not_mem_nil, or_false] at hr
  rcases hr with rfl | rfl | rfl | rfl | rfl | rfl | rfl | rfl | rfl | rfl | rfl | rfl | rfl | rfl | rfl | rfl <;> exact ⟨by simp [Row.Small], rfl, by simp [Row.kids], by simp [Row.kids], fun p e => (nomatch e)⟩
theorem dk_no (k : Nat) (nx : Int) (nm : List Str) : Row.param (dk k nx nm).bnd.length ∉ (dk k nx nm).rows := by
  intro h
  rcases List.mem_append.mp h with h | h
  · exact (first_plain _ h).2.2.2.2 _ rfl
  · obtain ⟨i, hi, e⟩ := List.mem_map.mp h
    have := List.mem_range.mp hi
    injection e with e
    simp [dk] at e
    lia
theorem dk_rl (k : Nat) (nx : Int) (nm : List Str) : (dk k nx nm).rows.length = 16 + k := by simp [dk, first_len]
theorem dk_key {k : Nat} : (16 + (k : Int)) ∉ [6, 7, 4, 11] ++ pars k := by
  intro h
  rcases List.mem_append.mp h with h | h
  · simp at h; lia
  · have := pars_in.mp h; lia
theorem pool_nodup (k : Nat) : ([6, 7, 4, 11] ++ pars k).Nodup := by
  rw [List.nodup_append]
  refine ⟨by decide, ?_, fun x hx y hy e => ?_⟩
  · unfold pars List.Nodup
    rw [List.pairwise_map]
    exact List.Pairwise.imp (fun {x y} h => by lia) List.pairwise_lt_range
  · have := pars_in.mp hy
    simp at hx
    lia
theorem pool_in {k : Nat} {t : Int} (h : t ∈ [6, 7, 4, 11] ++ pars k) : 0 ≤ t ∧ t < 16 + (k : Int) := by
  rcases List.mem_append.mp h with h | h
  · simp at h; lia
  · have := pars_in.mp h; lia
theorem dk_fit (k : Nat) (nx : Int) (nm : List Str) (hk : 2 ≤ k ∧ k ≤ 4) (h0 : 0 ≤ nx) : Fit (dk k nx nm) := by
  have hpl : (pars k).length = k := by simp [pars]
  have hrow : ∀ r ∈ (dk k nx nm).rows, r ∈ firstRows ∨ ∃ i : Nat, i < k ∧ r = .param i := by
    intro r hr
    rcases List.mem_append.mp hr with h | h
    · exact .inl h
    · obtain ⟨i, hi, rfl⟩ := List.mem_map.mp h
      exact .inr ⟨i, List.mem_range.mp hi, rfl⟩
  have hpar : ∀ i : Nat, i < k → (dk k nx nm).rows[16 + i]? = some (.param i) := by
    intro i hi
    show (firstRows ++ _)[16 + i]? = _
    rw [List.getElem?_append_right (by rw [first_len]; lia), first_len]
    simp [show 16 + i - 16 = i from by lia, hi]
  refine ⟨h0, by show 2 ≤ (pars k).length ∧ (pars k).length ≤ 4; lia, by simp [dk, hpl], by simp [dk, hpl], fun x hx => ?_, fun x hx => ?_, fun r hr => ?_, fun r hr => ?_, fun r hr => ?_, ?_, fun p hp => ?_, fun p t hp => ?_, fun t ht => ?_, ?_, by simp [dk], ?_, fun x hx => ?_, ?_, fun x hx => ?_, by rw [dk_rl]; lia⟩
  · have := List.eq_of_mem_replicate hx; lia
  · have := List.eq_of_mem_replicate hx; lia
  · rcases hrow r hr with h | ⟨i, hi, rfl⟩
    · exact (first_plain r h).1
    · trivial
  · rcases hrow r hr with h | ⟨i, hi, rfl⟩
    · rw [(first_plain r h).2.1]; simp
    · simp [Row.binds]
  · rw [dk_rl]
    rcases hrow r hr with h | ⟨i, hi, rfl⟩
    · exact ⟨(first_plain r h).2.2.1, fun x hx => by have := (first_plain r h).2.2.2.1 x hx; lia⟩
    · simp [Row.kids]
  · show (firstRows ++ _).Nodup
    rw [List.nodup_append]
    refine ⟨first_nodup, ?_, fun x hx y hy e => ?_⟩
    · unfold List.Nodup
      rw [List.pairwise_map]
      exact List.Pairwise.imp (fun {x y} h e => by injection e with e; lia) List.pairwise_lt_range
    · obtain ⟨i, hi, rfl⟩ := List.mem_map.mp hy
      exact (first_plain x hx).2.2.2.2 _ e
  · rcases hrow _ hp with h | ⟨i, hi, e⟩
    · exact absurd rfl ((first_plain _ h).2.2.2.2 p)
    · injection e with e
      show 0 ≤ p ∧ p < ((pars k).length : Int)
      lia
  · have hp' : (pars k)[p]? = some t := hp
    have hlt := (List.getElem?_eq_some_iff.mp hp').1
    have ht : t = 16 + (p : Int) := by
      unfold pars at hp' hlt
      simp at hp' hlt
      rw [List.getElem?_range (by lia)] at hp'
      obtain ⟨i, e, e2⟩ : ∃ a, some p = some a ∧ 16 + (a : Int) = t := by simpa using hp'
      cases e; exact e2.symm
    subst ht
    refine ⟨by lia, ?_, ?_⟩
    · rw [show (16 + (p : Int)).toNat = 16 + p from by lia]; exact hpar p (by lia)
    · exact List.mem_append_right _ (pars_in.mpr (by lia))
  · have hg : dget (dk k nx nm).kids t = some [] := dget_const ht
    have hb : dget (dk k nx nm).binds t = some [] := dget_const ht
    have hr : 0 ≤ t ∧ ∃ r, (dk k nx nm).rows[t.toNat]? = some r ∧ r.kids = [] ∧ r.binds = [] := by
      rcases List.mem_append.mp ht with h | h
      · simp at h
        rcases h with rfl | rfl | rfl | rfl <;> exact ⟨by decide, _, rfl, rfl, rfl⟩
      · obtain ⟨h1, h2⟩ := pars_in.mp h
        refine ⟨by lia, _, by rw [show t.toNat = 16 + (t.toNat - 16) from by lia]; exact hpar _ (by lia), rfl, rfl⟩
    obtain ⟨h0t, r, hr, hk1, hb1⟩ := hr
    exact ⟨h0t, r, hr, ⟨[], hg, by simp, by rw [hk1]; exact .refl _, fun x hx => (nomatch hx)⟩, by rw [hb1]; exact hb⟩
  · exact pool_nodup k
  · show ((zs _).map (·.1)).Nodup
    rw [zs_keys]; exact pool_nodup k
  · have hx' : x ∈ (zs ([6, 7, 4, 11] ++ pars k)).map (·.1) := hx
    rw [zs_keys] at hx'
    have := pool_in hx'
    rw [dk_rl]; lia
  · show ((zs _).map (·.1)).Nodup
    rw [zs_keys]; exact pool_nodup k
  · have hx' : x ∈ (zs ([6, 7, 4, 11] ++ pars k)).map (·.1) := hx
    rw [zs_keys] at hx'
    have := pool_in hx'
    rw [dk_rl]; lia
theorem dk_succ (k : Nat) (nx : Int) (nm : List Str) (s : Str) : ({ rows := (dk k nx nm).rows ++ [.param (dk k nx nm).bnd.length], bnd := (dk k nx nm).bnd ++ [-1], dfl := (dk k nx nm).dfl ++ [-1], names := nm ++ [s], pool := (dk k nx nm).pool ++ [16 + (k : Int)], params := (dk k nx nm).params ++ [16 + (k : Int)], kids := zs ([6, 7, 4, 11] ++ pars k) ++ [(16 + (k : Int), [])], binds := zs ([6, 7, 4, 11] ++ pars k) ++ [(16 + (k : Int), [])], next := nx, did := false } : Wd) = dk (k + 1) nx (nm ++ [s]) := by
  unfold dk
  rw [pars_succ, ← List.append_assoc, zs_snoc]
  simp [List.range_succ, List.replicate_succ']
theorem perm12 {α : Type} (w ta dd ro ix bn df na pa ki bi de : α) : [de, w, ta, dd, ro, ix, bn, df, na, pa, ki, bi].Perm [w, bi, ki, pa, de, ta, dd, ro, ix, bn, df, na] := by
  haveI : DecidableEq α := fun _ _ => Classical.propDecidable _
  refine List.perm_iff_count.mpr fun x => ?_
  simp only [List.count_cons, List.count_nil]
  lia
noncomputable def wk (L : List Int) : Wd := { rows := firstRows, bnd := [], dfl := [], names := [], pool := [6, 7, 4, 11], params := [], kids := zs L, binds := zs L, next := 0, did := false }
theorem wk_end : wk [6, 7, 4, 11] = dk 0 0 [] := rfl
section
variable {X : Cx} {mg mb : Str → Option Value} (b : Bs X mg mb) {n : Nat} {Q : V → St → Prop} {nums : List Int} 
include b
theorem call_world (hn : 1 ≤ nums.length ∧ nums.length ≤ 40) (h : ∀ (a : Ad) k nx nm, 2 ≤ k → k ≤ 4 → 0 ≤ nx → Q (.obj a.w) ((a.decls, .list [.none]) :: wst nums a (dk k nx nm))) : CallC X (n + 5) [] (.ref 214) [.lst (vi nums)] Q := by
  refine CallC_def b.F (by k_is) (by k_is) .one (fun L => ?_)
  dsimp only
  walk_at "m go"
  refine call_table b (n := n + 1) fun a => ?_
  walk_at "m go"
  refine WE_dictSx [(_, _), (_, _), (_, _), (_, _), (_, _), (_, _), (_, _)] rfl rfl rfl (by simp) ?_
  refine WD_step ?_
  walk_at "m go"
  refine WD_step ?_
  walk_at "m go"
  refine WD_step ?_
  walk_at "m go"
  refine WD_step ?_
  walk_at "m go"
  refine WE_list ?_
  walk_at "m go"
  intro ap
  walk_at "m go"
  refine WD_step ?_
  walk_at "m go"
  refine WE_list ?_
  walk_at "m go"
  intro aq
  walk_at "m go"
  refine WD_step ?_
  walk_at "m go"
  refine WE_dict0 (x := .dictI []) empty_dictI fun ak => ?_
  walk_at "m go"
  refine WD_step ?_
  walk_at "m go"
  refine WE_dict0 (x := .dictI []) empty_dictI fun ab => ?_
  walk_at "m go"
  refine WD_end ?_
  refine ⟨[("nums", .lst (vi nums)), ("next", .int 0), ("tab", .obj a.tab), ("pool", .obj ap), ("params", .obj aq), ("kids", .obj ak), ("binds", .obj ab)], rfl, (by decide +kernel : ([("nums" : Str), "next", "tab", "pool", "params", "kids", "binds"] : List Str).Nodup), fun aw => ?_⟩
  obtain ⟨A, hA⟩ : ∃ A : Ad, A = { a with w := aw, pool := ap, params := aq, kids := ak, binds := ab } := ⟨_, rfl⟩
  walk_at "m go"
  refine WS_forLM (α := Int) ?_ (.inl rfl) (by intro _; rfl)
  walk_at "m go"
  refine op_itemS' (y := .obj ap) .head rfl ?_
  refine ⟨ap, [6, 7, 4, 11], V.int, _, rfl, .tail (.tail (.tail (.tail .head))), fun (L₁ : List Int) (f₁ : Fm) (st' : St) => f₁ = fset "w" (.obj aw) (fset "tab" (.obj a.tab) [("nums", .lst (vi nums))]) ∧ Less ((A.decls, .list [.none]) :: wsp nums A (wk L₁)) st', ⟨_, .refl _, rfl, ?_⟩, ?_, ?_⟩
  · subst hA
    exact .perm (perm12 _ _ _ _ _ _ _ _ _ _ _ _)
  · rintro L₁ t L₂ f₁ st₂ he ⟨rfl, hless⟩
    refine WB.less hless ?_
    have hL : L₁.length ≤ 4 ∧ t ∉ L₁ := by
      have hnd : ([6, 7, 4, 11] : List Int).Nodup := by decide
      rw [he] at hnd
      refine ⟨by have := congrArg List.length he; simp at this; lia, fun hm => (List.nodup_append.mp hnd).2.2 t hm t (.head _) rfl⟩
    have hfr : t ∉ (zs L₁).map (·.1) := by rw [zs_keys]; exact hL.2
    have hzl : (zs L₁).length ≤ 4 := by unfold zs; rw [List.length_map]; exact hL.1
    rw [show aw = A.w from by rw [hA]]
    walk_at "m go"
    refine WE_listF ?_
    walk_at "m go"
    refine op_itemS' (y := .obj A.kids) (.tail .head) rfl ?_
    walk_at "m go"
    refine op_setD (l := kdv (zs L₁)) (st' := (A.decls, .list [.none]) :: wsp nums A { wk L₁ with kids := zs (L₁ ++ [t]) }) (by rw [show V.lst [] = V.lst (vi []) from rfl, kdv_set, dset_new hfr, ← zs_snoc]; repeat (first | exact .head | refine .tail ?_)) (by rw [kdv_length]; lia) ?_
    walk_at "m go"
    refine op_itemS' (y := .obj A.binds) (.tail .head) rfl ?_
    walk_at "m go"
    refine op_setD (l := bdv (zs L₁)) (st' := (A.decls, .list [.none]) :: wsp nums A (wk (L₁ ++ [t]))) (by rw [show V.tup [] = V.tup (vi []) from rfl, bdv_set, dset_new hfr, ← zs_snoc]; repeat (first | exact .head | refine .tail ?_)) (by rw [bdv_length]; lia) ?_
    walk_at "m go"
    exact ⟨_, .cons rfl (.cons rfl (.cons rfl (.nil _))), rfl, .refl _⟩
  · rintro f₁ st₂ ⟨rfl, hless⟩
    refine fl_next ?_
    refine WB.less (.cons _ hless) ?_
    refine WB.less (st' := (A.decls, .list [.none]) :: wst nums A (dk 0 0 [])) ?_ ?_
    · have e : ap = A.pool := by rw [hA]
      rw [e]
      exact .perm (((wsp_perm nums A (dk 0 0 [])).cons _).trans (.swap _ _ _))
    rw [show aw = A.w from by rw [hA], show a.tab = A.tab from by rw [hA]]
    clear hA hless
    walk_at "m go"
    refine WS_forL (α := Int) ?_ (.inl rfl) (by intro _; rfl)
    walk_at "m go"
    refine Call.push ((call_take (n := n) b 3 (by decide) hn (by decide) fun m nx hm0 hm1 h1 => ?_).at (Nat.add_le_add_left (by decide) _))
    walk_at "m go"
    refine c_range1 ?_
    refine ⟨rngI 0 (2 + m), V.int, by rw [show (rngI 0 (2 + m)).map V.int = rngItems 0 (2 + m) from (rngItems_vi _ _).symm]; exact .rng _ _ (by lia),
      fun (L₁ : List Int) (f₁ : Fm) (st' : St) => f₁ = fset "w" (.obj A.w) (fset "tab" (.obj A.tab) [("nums", .lst (vi nums))]) ∧ ∃ nm : List Str, nm.length = L₁.length ∧ st' = (A.decls, .list [.none]) :: wst nums A (dk L₁.length nx nm), ⟨_, .refl _, rfl, [], rfl, rfl⟩, ?_, ?_⟩
    · rintro L₁ p L₂ f₁ st₂ he ⟨rfl, nm, hnm, rfl⟩
      have hp : p = (L₁.length : Int) ∧ L₁.length < 4 := by
        have h1 : (rngI 0 (2 + m))[L₁.length]? = some p := by rw [he]; simp
        have h2 := (List.getElem?_eq_some_iff.mp h1).1
        unfold rngI at h1 h2
        simp at h1 h2
        rw [List.getElem?_range (by lia)] at h1
        obtain ⟨i, e1, e2⟩ : ∃ i, some L₁.length = some i ∧ (i : Int) = p := by simpa using h1
        cases e1
        lia
      obtain ⟨rfl, hL⟩ := hp
      generalize hk : L₁.length = k at *
      have hrl := dk_rl k nx nm
      have hbl : (dk k nx nm).bnd.length = k := by simp [dk]
      have hdl : (dk k nx nm).dfl.length = k := by simp [dk]
      have hql : (dk k nx nm).params.length = k := by simp [dk, pars]
      have hpl : (dk k nx nm).pool.length = 4 + k := by simp [dk, pars]; lia
      have hzl : (zs ([6, 7, 4, 11] ++ pars k)).length = 4 + k := by simp [zs, pars]; lia
      have hkey : (16 + (k : Int)) ∉ (zs ([6, 7, 4, 11] ++ pars k)).map (·.1) := by rw [zs_keys]; exact dk_key
      walk_at "m go"
      refine c_str (by rcases (by lia : k = 0 ∨ k = 1 ∨ k = 2 ∨ k = 3) with rfl | rfl | rfl | rfl <;> decide) ?_
      walk_at "m go"
      refine op_adds (by rcases (by lia : k = 0 ∨ k = 1 ∨ k = 2 ∨ k = 3) with rfl | rfl | rfl | rfl <;> decide +kernel) ?_
      walk_at "m go"
      refine Call.push ((call_new_param (n := n) b _ (dk_no k nx nm) (by rw [hrl, hbl, hdl]; exact ⟨by lia, by lia, by lia, by show nm.length ≤ 1000; lia⟩) ?_).at (Nat.add_le_add_left (by decide) _))
      rw [hrl, show ((16 + k : Nat) : Int) = 16 + (k : Int) from by lia]
      walk_at "m go"
      generalize Str.ofString "P" ++ Str.ofString (toString (k : Int)) = s
      obtain ⟨D, hD⟩ : ∃ D : Wd, D = { dk k nx nm with rows := (dk k nx nm).rows ++ [Row.param (dk k nx nm).bnd.length], bnd := (dk k nx nm).bnd ++ [-1], dfl := (dk k nx nm).dfl ++ [-1], names := (dk k nx nm).names ++ [s] } := ⟨_, rfl⟩
      rw [← hD]
      have hq : D.params.length = k := by rw [hD]; exact hql
      have hp : D.pool.length = 4 + k := by rw [hD]; exact hpl
      have hkd : D.kids = zs ([6, 7, 4, 11] ++ pars k) := by rw [hD]; rfl
      have hbd : D.binds = zs ([6, 7, 4, 11] ++ pars k) := by rw [hD]; rfl
      refine op_itemS' (y := .obj A.params) (.tail .head) rfl ?_
      refine ⟨_, Meth.list (l := vi D.params) (by repeat (first | exact .head | refine .tail ?_)) F.plainAttrs_list F.slot_list_append F.type_list_append, Kp.builtin _, ?_⟩
      walk_at "m go"
      refine c_append (l := vi D.params) (st' := (A.decls, .list [.none]) :: wst nums A { D with params := D.params ++ [16 + (k : Int)] }) (by rw [show vi D.params ++ [V.int (16 + (k : Int))] = vi (D.params ++ [16 + (k : Int)]) from by rw [vi_append]; rfl]; repeat (first | exact .head | refine .tail ?_)) (by rw [vi_length]; lia) ?_
      walk_at "m go"
      refine op_itemS' (y := .obj A.pool) (.tail .head) rfl ?_
      refine ⟨_, Meth.list (l := vi D.pool) (by repeat (first | exact .head | refine .tail ?_)) F.plainAttrs_list F.slot_list_append F.type_list_append, Kp.builtin _, ?_⟩
      walk_at "m go"
      refine c_append (l := vi D.pool) (st' := (A.decls, .list [.none]) :: wst nums A { D with params := D.params ++ [16 + (k : Int)], pool := D.pool ++ [16 + (k : Int)] }) (by rw [show vi D.pool ++ [V.int (16 + (k : Int))] = vi (D.pool ++ [16 + (k : Int)]) from by rw [vi_append]; rfl]; repeat (first | exact .head | refine .tail ?_)) (by rw [vi_length]; lia) ?_
      walk_at "m go"
      refine WE_listF ?_
      walk_at "m go"
      refine op_itemS' (y := .obj A.kids) (.tail .head) rfl ?_
      walk_at "m go"
      refine op_setD (l := kdv D.kids) (st' := (A.decls, .list [.none]) :: wst nums A { D with params := D.params ++ [16 + (k : Int)], pool := D.pool ++ [16 + (k : Int)], kids := zs ([6, 7, 4, 11] ++ pars k) ++ [(16 + (k : Int), [])] }) (by rw [hkd, show V.lst [] = V.lst (vi []) from rfl, kdv_set, dset_new hkey]; repeat (first | exact .head | refine .tail ?_)) (by rw [hkd, kdv_length]; lia) ?_
      walk_at "m go"
      refine op_itemS' (y := .obj A.binds) (.tail .head) rfl ?_
      walk_at "m go"
      refine op_setD (l := bdv D.binds) (st' := (A.decls, .list [.none]) :: wst nums A { D with params := D.params ++ [16 + (k : Int)], pool := D.pool ++ [16 + (k : Int)], kids := zs ([6, 7, 4, 11] ++ pars k) ++ [(16 + (k : Int), [])], binds := zs ([6, 7, 4, 11] ++ pars k) ++ [(16 + (k : Int), [])] }) (by rw [hbd, show V.tup [] = V.tup (vi []) from rfl, bdv_set, dset_new hkey]; repeat (first | exact .head | refine .tail ?_)) (by rw [hbd, bdv_length]; lia) ?_
      walk_at "m go"
      refine ⟨_, .cons rfl (.cons rfl (.cons rfl (.nil _))), rfl, nm ++ [s], by simp; lia, ?_⟩
      rw [List.length_append, hk, hD]
      exact congrArg (fun d => (A.decls, AObj.list [V.none]) :: wst nums A d) (dk_succ k nx nm s)
    · rintro f₁ st₂ ⟨rfl, nm, hnm, rfl⟩
      walk_at "m go"
      have hl : (rngI 0 (2 + m)).length = (2 + m).toNat := by simp [rngI]
      exact h A _ nx nm (by lia) (by lia) h1
end
noncomputable def dflt : List Int := [2, 0, 1, 2, 2, 2, 2, 5, 0, 2, 0, 1, 0, 4, 0, 0, 0, 4, 0, 0, 0, 3, 0, 0, 0, 0, 0, 0, 0]
theorem up_did {nums : List Int} {a : Ad} {d : Wd} (h : d.did = false) : Up a.w (.dictS (wds nums a d.next d.did)) (.dictS (dset (wds nums a d.next d.did) "did" (.int 1))) (wst nums a d) (wst nums a { d with did := true }) := by
  obtain ⟨rows, bnd, dfl, names, pool, params, kids, binds, next, did⟩ := d
  have h' : did = false := h
  subst h'
  exact .head
theorem Fit.didT {d : Wd} (f : Fit d) : Fit { d with did := true } := ⟨f.nx, f.pl, f.bl, f.dl, f.bv, f.dv, f.rs, f.rb, f.rk, f.nd, f.pr, f.pp, f.po, f.pn, f.pe, f.kn, f.kr, f.bn, f.br, f.rl⟩
theorem lt_ext : ∀ {l m : List Int}, l.Pairwise (· < ·) → m.Pairwise (· < ·) → (∀ x, x ∈ l ↔ x ∈ m) → l = m := fun hl hm h =>
  (((List.perm_ext_iff_of_nodup (pairwise_nodup hl) (pairwise_nodup hm)).mpr h).eq_of_pairwise (fun _ _ _ _ h1 h2 => absurd h1 (by lia)) hl hm)
theorem fset_len (x : Str) (v : V) (l : Fm) : (fset x v l).length ≤ l.length + 1 := by
  induction l with
  | nil => simp [fset]
  | cons p l ih =>
    obtain ⟨y, w⟩ := p
    unfold fset
    split
    · simp
    · simp; lia
theorem if_join {X : Cx} {n : Nat} {env : Env} {f : Fm} {st : St} {body els : List Stmt} {c1 c2 : Prop} {Q : Fl → Fm → St → Prop} (I : Fm → St → Prop) (h1 : c1 → WB X n env f st body (fun fl f' st' => fl = .next ∧ I f' st')) (h2 : c2 → WB X n env f st els (fun fl f' st' => fl = .next ∧ I f' st'))
    (h3 : ∀ f' st', I f' st' → Q .next f' st') : (c1 → WB X n env f st body Q) ∧ (c2 → WB X n env f st els Q) :=
  ⟨fun h => (h1 h).mono fun fl f' st' ⟨e, hI⟩ => e ▸ h3 f' st' hI, fun h => (h2 h).mono fun fl f' st' ⟨e, hI⟩ => e ▸ h3 f' st' hI⟩
theorem free_stay {d d' : Wd} {k : Nat} (f : Fit d) (le : Le d d' k) {x p : Int} (hx : x ∈ d.pool) : Free d'.rows d'.bnd d'.dfl x p ↔ Free d.rows d.bnd d.dfl x p := by
  have row : ∀ y ∈ d.pool, ∀ r, d'.rows[y.toNat]? = some r → d.rows[y.toNat]? = some r := by
    intro y hy r hr
    obtain ⟨_, r0, hr0, _⟩ := f.po y hy
    have := le.pre _ _ hr0
    rw [hr] at this; cases this
    exact hr0
  constructor
  · intro h
    induction h with
    | param h0 hr => exact .param h0 (row _ hx _ hr)
    | @step x k p r h0 hr hnb hk hk0 _ ih =>
      have hr' := row x hx r hr
      rw [le.bnd, le.dfl] at hk
      exact .step h0 hr' hnb hk hk0 (ih (f.closed hx hr' hk hk0))
  · intro h
    clear hx
    induction h with
    | param h0 hr => exact .param h0 (le.pre _ _ hr)
    | step h0 hr hnb hk hk0 _ ih => exact .step h0 (le.pre _ _ hr) hnb (by rw [le.bnd, le.dfl]; exact hk) hk0 ih
theorem free_union {d : Wd} {t one two p : Int} (h0 : 0 ≤ t) (h1 : 0 ≤ one) (h2 : 0 ≤ two) (hr : d.rows[t.toNat]? = some (.union (isort [one, two]))) : Free d.rows d.bnd d.dfl t p ↔ Free d.rows d.bnd d.dfl one p ∨ Free d.rows d.bnd d.dfl two p := by
  have hin : ∀ k, k ∈ inner d.bnd d.dfl (.union (isort [one, two])) ↔ k = one ∨ k = two := by
    intro k
    simp [inner, Row.kids, Row.binds, isort_mem]
  constructor
  · intro h
    cases h with
    | param _ hr' => rw [hr] at hr'; cases hr'
    | step _ hr' _ hk _ hF =>
      rw [hr] at hr'; cases hr'
      rcases (hin _).mp hk with rfl | rfl
      · exact .inl hF
      · exact .inr hF
  · rintro (h | h)
    · exact .step h0 hr (by simp [Row.binds]) ((hin _).mpr (.inl rfl)) h1 h
    · exact .step h0 hr (by simp [Row.binds]) ((hin _).mpr (.inr rfl)) h2 h
theorem less_nil (st : St) : Less [] st := .sub (List.nil_sublist st)
section
variable {X : Cx} {mg mb : Str → Option Value} (b : Bs X mg mb) {n : Nat} {Q : V → St → Prop} 
include b
theorem call_law (script : List Int) (hs : script.length ≤ 100000) (h : Q (.bool true) []) : CallC X (n + 8) [] (.ref 328) [.lst (vi script)] Q := by
  refine CallC.less (CallC_def b.F (by k_is) (by k_is) .one (fun L => ?_))
  dsimp only
  walk_at "m go"
  refine' WS_compP (α := Int) ?_ ?c1 ?c8 ?c9 ?c2 ?c3 ?c4 ?c5 ?c6 ?c7
  case c2 => exact rfl
  case c1 => first | exact .nil | exact .cons rfl rfl rfl .nil | exact .cons rfl rfl rfl (.cons rfl rfl rfl .nil) | exact .cons rfl rfl rfl (.cons rfl rfl rfl (.cons rfl rfl rfl .nil))
  case c3 => decide
  case c4 => rfl
  case c5 => decide
  case c6 => rfl
  case c7 => (intro _; rfl)
  case c8 => walk_at "m sto"
  case c9 => rfl
  walk_at "m go"
  refine ⟨script, .lst _, hs, (by decide : (0 : Int) ≤ 40), script.take 40, V.int, fun x => .int (x.fmod 9973), fun _ => true, .lst _, by simp; lia, fun C x hx => ?_, ?_⟩
  · show WE _ _ _ _ _ _ _
    walk_at "m go"
    refine op_mod (by decide) ?_
    exact ⟨rfl, rfl, rfl⟩
  rw [comp_all]
  have hnl : ((script.take 40).map fun x => x.fmod 9973).length ≤ 40 := by simp; lia
  generalize (script.take 40).map (fun x => x.fmod 9973) = ns at hnl
  walk_at "m go"
  refine c_len (l := vi ns) (.lst _) (by rw [vi_length]; lia) ?_
  rw [vi_length]
  walk_at "m go"
  refine if_join (fun (f' : Fm) (st' : St) => st' = [] ∧ ∃ nums : List Int, (1 ≤ nums.length ∧ nums.length ≤ 40) ∧ f' = ([("script", V.lst (vi script)), ("nums", V.lst (vi nums))] : Fm)) (fun hc => ?_) (fun hc => ?_) ?_
  · walk_at "m go"
    refine WE_listF ?_
    walk_at "m go"
    exact ⟨rfl, rfl, dflt, by decide, rfl⟩
  · walk_at "m go"
    refine ⟨rfl, rfl, ns, ?_, rfl⟩
    cases ns with
    | nil => simp at hc
    | cons _ _ => simp at hnl ⊢; lia
  rintro f' st' ⟨rfl, nums, hn, rfl⟩
  refine fl_next ?_
  walk_at "m go"
  refine (call_world (n := n) b hn fun a k nx nm hk2 hk4 h0 => ?_).at (Nat.add_le_add_left (by decide) _)
  have f0 := dk_fit k nx nm ⟨hk2, hk4⟩ h0
  have hrl0 := dk_rl k nx nm
  have hdid0 : (dk k nx nm).did = false := rfl
  generalize dk k nx nm = d0 at f0 hrl0 hdid0 ⊢
  walk_at "m go"
  refine op_itemS' (y := .obj a.tab) (.tail .head) rfl ?_
  walk_at "m go"
  refine (call_new_decl (n := n) b 2 "I" fun x dx l hld hll => ?_).at (Nat.add_le_add_left (by decide) _)
  walk_at "m go"
  refine op_get b.F (by k_is) (by k_is) (by k_is) .head (.tail .head) (y := .int 1) hld (fun _ _ => handed_rep) ?_
  walk_at "m go"
  refine op_setS (l := wds nums a d0.next d0.did) (st' := (x, .inst 95 dx) :: (dx, .ns l) :: wst nums a { d0 with did := true }) (.tail (.tail (up_did hdid0))) (by have := wds_len nums a d0.next d0.did; lia) ?_
  walk_at "m go"
  refine op_setattr b.F (by k_is) (by k_is) (by k_is) (by k_is) .head (.tail .head) (Nat.le_trans (fset_len _ _ _) (by lia)) ?_
  walk_at "m go"
  refine op_itemS' (y := .obj a.params) (.tail (.tail .head)) rfl ?_
  walk_at "m go"
  have hp2 := f0.pl
  have h1 : 1 < d0.params.length := by lia
  have hg : (vi d0.params)[1]? = some (V.int (d0.params[1]?.getD 0)) := by
    unfold vi
    rw [List.getElem?_map, List.getElem?_eq_getElem h1]; rfl
  refine op_itemL (l := vi d0.params) (.obj (by repeat (first | exact .head | refine .tail ?_))) (by decide) (by decide) (y := .int (d0.params[1]?.getD 0)) hg ?_
  walk_at "m go"
  refine op_setattr b.F (by k_is) (by k_is) (by k_is) (by k_is) .head (.tail .head) (Nat.le_trans (fset_len _ _ _) (by have := fset_len "params" (V.tup [.int 0]) l; lia)) ?_
  walk_at "m go"
  refine WS_forL (α := Int) ?_ (.inl rfl) (by intro _; rfl)
  walk_at "m go"
  refine Call.push (Call.push ((call_take (n := n) b (d := { d0 with did := true }) 4 (by decide) hn f0.nx fun m nx1 hm0 hm1 h1 => ?_).at (Nat.add_le_add_left (by decide) _)))
  walk_at "m go"
  refine c_range1 ?_
  refine ⟨rngI 0 (1 + m), V.int, by rw [show (rngI 0 (1 + m)).map V.int = rngItems 0 (1 + m) from (rngItems_vi _ _).symm]; exact .rng _ _ (by lia),
    fun (L₁ : List Int) (f₁ : Fm) (st' : St) => ∃ d1, Fit d1 ∧ d1.did = true ∧ d1.rows.length ≤ 20 + 3 * L₁.length ∧ Less (wst nums a d1) st' ∧
      ((L₁ = [] ∧ f₁ = ([("w", V.obj a.w), ("tab", V.obj a.tab)] : Fm)) ∨ ∃ t, t ∈ d1.pool ∧ f₁ = ([("w", V.obj a.w), ("tab", V.obj a.tab), ("other", V.int t)] : Fm)),
    ⟨_, .cons rfl (.cons rfl (.nil _)), _, (f0.didT).next h1, rfl, by show d0.rows.length ≤ _; lia, .skip _ (.skip _ (.refl _)), .inl ⟨rfl, rfl⟩⟩, ?_, ?_⟩
  · rintro L₁ p L₂ f₁ st₂ he ⟨d1, f1, hd1, hr1, hless, hf⟩
    have hL : L₁.length < 4 := by have := congrArg List.length he; simp [rngI] at this; lia
    refine WB.less hless ?_
    rcases hf with ⟨rfl, rfl⟩ | ⟨t, ht, rfl⟩
    all_goals
      walk_at "m go"
      refine (call_some (n := n) b f1 hd1 hn (by lia) fun t' d2 f2 le2 ht2 => ?_).at (Nat.add_le_add_left (by decide) _)
      walk_at "m go"
      exact ⟨_, .cons rfl (.cons rfl (.cons rfl (.nil _))), d2, f2, by rw [le2.did]; exact hd1, by have := le2.rows; simp at hr1 ⊢; lia, .refl _, .inr ⟨t', ht2, rfl⟩⟩
  rintro f₁ st₂ ⟨d1, f1, hd1, hr1, hless, hf⟩
  have hl : (rngI 0 (1 + m)).length = (1 + m).toNat := by simp [rngI]
  rw [hl] at hr1
  rcases hf with ⟨e, _⟩ | ⟨other, hot, rfl⟩
  · rw [e] at hl; simp at hl; lia
  refine fl_next ?_
  refine WB.less hless ?_
  clear hless
  walk_at "m go"
  have hm4 : (1 + m).toNat ≤ 4 := by lia
  refine Op.hardenX ((call_ladder (n := n) b f1 hn (by lia) fun D ls d2 f2 le2 hls hl1 hl2 => ?_).at (Nat.add_le_add_left (by decide) _))
  refine ⟨D, _, _, rfl, .head, ?_⟩
  have hot2 := le2.pool other hot
  have hr2 := le2.rows
  have hls4 := f2.pl
  rw [← le2.par] at hl2
  have hg0 : (vi ls)[0]? = some (V.int (ls[0]?.getD 0)) := by
    unfold vi
    rw [List.getElem?_map, List.getElem?_eq_getElem hl1]; rfl
  have hx2 : ls[0]?.getD 0 ∈ d2.pool := by
    rw [List.getElem?_eq_getElem hl1]; exact hls _ (List.getElem_mem _)
  generalize hx : ls[0]?.getD 0 = x0 at hg0 hx2
  walk_at "m go"
  refine WE_listF ?_
  walk_at "m go"
  refine op_itemL (l := vi ls) (.lst _) (by decide) (by decide) (y := .int x0) hg0 ?_
  walk_at "m go"
  refine (call_pick (n := n) b hn f2.nx f2.pe (by have := f2.pool_len; lia) fun z nx2 hz2 h2 => ?_).at (Nat.add_le_add_left (by decide) _)
  have f3 := f2.next h2
  obtain ⟨d3, hd3⟩ : ∃ d3 : Wd, d3 = { d2 with next := nx2 } := ⟨_, rfl⟩
  rw [← hd3] at f3 ⊢
  have hx3 : x0 ∈ d3.pool := by rw [hd3]; exact hx2
  have ho3 : other ∈ d3.pool := by rw [hd3]; exact hot2
  have hz3 : z ∈ d3.pool := by rw [hd3]; exact hz2
  have hls3 : ∀ t ∈ ls, t ∈ d3.pool := by rw [hd3]; exact hls
  have hl3 : ls.length ≤ d3.params.length := by rw [hd3]; exact hl2
  have hr3 : d3.rows.length ≤ 36 := by rw [hd3]; show d2.rows.length ≤ 36; lia
  clear hd3
  walk_at "m go"
  refine WS_forL (α := Int) ?_ (.inl rfl) (by intro _; rfl)
  walk_at "m go"
  refine ⟨[x0, other, z], .lst _, by simp, (by decide : (0 : Int) ≤ 2), [x0, other], V.int, .lst _,
    fun (L₁ : List Int) (f₁ : Fm) (st' : St) => f₁ = ([("w", V.obj a.w), ("tab", V.obj a.tab), ("other", V.int other), ("ladder", V.lst (vi ls)), ("asked", V.lst (vi [x0, other, z]))] : Fm) ∧ st' = wst nums a d3,
    ⟨_, .refl _, rfl, rfl⟩, ?_, ?_⟩
  · rintro L₁ t L₂ f₁ st₂ he ⟨rfl, rfl⟩
    have ht : t ∈ d3.pool := by
      have hm : t ∈ [x0, other] := by rw [he]; simp
      simp at hm
      rcases hm with rfl | rfl
      · exact hx3
      · exact ho3
    walk_at "m go"
    refine (call_free_params (n := n) b t (f3.at ht).2 f3.vt (wst_tb nums a d3) fun P hP hm => ?_).at (Nat.add_le_add_left (by decide) _)
    have e : P = freeL d3 t := lt_ext hP (freeL_lt d3 t) fun p => (hm p).trans (freeL_mem f3 t p).symm
    walk_at "m go"
    refine (call_free (n := n) b f3 t ht ?_).at (Nat.add_le_add_left (by decide) _)
    rw [e]
    refine op_net (a := freeL d3 t) (b := freeL d3 t) ?_
    rw [show (freeL d3 t != freeL d3 t) = false from by simp]
    walk_at "m go"
    exact ⟨_, .cons rfl (.cons rfl (.cons rfl (.cons rfl (.cons rfl (.nil _))))), rfl, rfl⟩
  rintro f₁ st₂ ⟨rfl, rfl⟩
  walk_at "m go"
  refine (call_lead (n := n) b f3 hn ls hls3 hl1 hl3 fun d4 f4 sm => ?_).at (Nat.add_le_add_left (by decide) _)
  have hx4 : x0 ∈ d4.pool := by rw [sm.pool]; exact hx3
  have ho4 : other ∈ d4.pool := by rw [sm.pool]; exact ho3
  have hz4 : z ∈ d4.pool := by rw [sm.pool]; exact hz3
  have hr4 : d4.rows.length ≤ 36 := by rw [sm.rows]; exact hr3
  clear sm
  walk_at "m go"
  refine' WE_compP (α := Int) ?_ ?c1 ?c2 ?c3 ?c4 ?c5 ?c6 ?c7
  case c2 => exact rfl
  case c1 => first | exact .nil | exact .cons rfl rfl rfl .nil | exact .cons rfl rfl rfl (.cons rfl rfl rfl .nil) | exact .cons rfl rfl rfl (.cons rfl rfl rfl (.cons rfl rfl rfl .nil))
  case c3 => decide
  case c4 => rfl
  case c5 => decide
  case c6 => rfl
  case c7 => (intro _; rfl)
  walk_at "m go"
  refine ⟨[x0, other, z], V.int, fun t => .tup (vi (freeL d4 t)), fun _ => true, .lst _, by simp, fun C t ht => ?_, ?_⟩
  · have ht4 : t ∈ d4.pool := by
      simp at ht
      rcases ht with rfl | rfl | rfl
      · exact hx4
      · exact ho4
      · exact hz4
    show WE _ _ _ _ _ _ _
    walk_at "m go"
    refine (call_free (n := n) b f4 t ht4 ?_).at (Nat.add_le_add_left (by decide) _)
    exact ⟨rfl, rfl, rfl⟩
  rw [show List.map (fun t => V.tup (vi (freeL d4 t))) (List.filter (fun _ => true) [x0, other, z]) = [.tup (vi (freeL d4 x0)), .tup (vi (freeL d4 other)), .tup (vi (freeL d4 z))] from rfl]
  walk_at "m go"
  have chk : ∀ t, t ∈ d4.pool → ∀ P : List Int, P.Pairwise (· < ·) → (∀ p, p ∈ P ↔ Free d4.rows d4.bnd d4.dfl t p) → P = freeL d4 t := fun t ht P hP hm => lt_ext hP (freeL_lt d4 t) fun p => (hm p).trans (freeL_mem f4 t p).symm
  refine WS_forL (α := Int) ?_ (.inl rfl) (by intro _; rfl)
  walk_at "m go"
  refine c_range1 ?_
  refine ⟨rngI 0 3, V.int, by rw [show (rngI 0 3).map V.int = rngItems 0 3 from (rngItems_vi _ _).symm]; exact .rng _ _ (by lia),
    fun (L₁ : List Int) (f₁ : Fm) (st' : St) => f₁ = ([("w", V.obj a.w), ("tab", V.obj a.tab), ("other", V.int other), ("asked", V.lst (vi [x0, other, z])), ("due", V.lst [.tup (vi (freeL d4 x0)), .tup (vi (freeL d4 other)), .tup (vi (freeL d4 z))])] : Fm) ∧ st' = wst nums a d4,
    ⟨_, .cons rfl (.cons rfl (.cons rfl (.cons rfl (.cons rfl (.nil _))))), rfl, rfl⟩, ?_, ?_⟩
  · rintro L₁ p L₂ f₁ st₂ he ⟨rfl, rfl⟩
    have hp : ∃ t, t ∈ d4.pool ∧ (vi [x0, other, z])[p.toNat]? = some (.int t) ∧ [V.tup (vi (freeL d4 x0)), .tup (vi (freeL d4 other)), .tup (vi (freeL d4 z))][p.toNat]? = some (.tup (vi (freeL d4 t))) ∧ 0 ≤ p ∧ p < 1000000 := by
      have hm : p ∈ rngI 0 3 := by rw [he]; simp
      have hm := rngI_mem.mp hm
      rcases (by lia : p = 0 ∨ p = 1 ∨ p = 2) with rfl | rfl | rfl
      · exact ⟨x0, hx4, rfl, rfl, by decide, by decide⟩
      · exact ⟨other, ho4, rfl, rfl, by decide, by decide⟩
      · exact ⟨z, hz4, rfl, rfl, by decide, by decide⟩
    obtain ⟨t, ht, hg1, hg2, hp0, hp1⟩ := hp
    walk_at "m go"
    refine op_itemL (l := vi [x0, other, z]) (.lst _) hp0 hp1 (y := .int t) hg1 ?_
    walk_at "m go"
    refine (call_free_params (n := n) b t (f4.at ht).2 f4.vt (wst_tb nums a d4) fun P hP hm => ?_).at (Nat.add_le_add_left (by decide) _)
    have e := chk t ht P hP hm
    walk_at "m go"
    refine op_itemL (.lst _) hp0 hp1 (y := .tup (vi (freeL d4 t))) hg2 ?_
    rw [e]
    refine op_net (a := freeL d4 t) (b := freeL d4 t) ?_
    rw [show (freeL d4 t != freeL d4 t) = false from by simp]
    walk_at "m go"
    exact ⟨_, .cons rfl (.cons rfl (.cons rfl (.cons rfl (.cons rfl (.nil _))))), rfl, rfl⟩
  rintro f₁ st₂ ⟨rfl, rfl⟩
  walk_at "m go"
  refine op_itemL (l := vi [x0, other, z]) (.lst _) (by decide) (by decide) (y := .int x0) rfl ?_
  walk_at "m go"
  refine (call_joined (n := n) b f4 x0 other hx4 ho4 (by lia) fun both d5 f5 le5 hb5 hcase => ?_).at (Nat.add_le_add_left (by decide) _)
  walk_at "m go"
  refine (call_free_params (n := n) b both (f5.at hb5).2 f5.vt (wst_tb nums a d5) fun P hP hm => ?_).at (Nat.add_le_add_left (by decide) _)
  walk_at "m go"
  refine' WE_compP (α := Int) ?_ ?c1 ?c2 ?c3 ?c4 ?c5 ?c6 ?c7
  case c2 => exact rfl
  case c1 => first | exact .nil | exact .cons rfl rfl rfl .nil | exact .cons rfl rfl rfl (.cons rfl rfl rfl .nil) | exact .cons rfl rfl rfl (.cons rfl rfl rfl (.cons rfl rfl rfl .nil))
  case c3 => decide
  case c4 => rfl
  case c5 => decide
  case c6 => rfl
  case c7 => (intro _; rfl)
  walk_at "m go"
  refine c_range1 ?_
  refine ⟨rngI 0 4, V.int, V.int, fun p => (freeL d4 x0).contains p || ((both != x0) && (freeL d4 other).contains p), by rw [show (rngI 0 4).map V.int = rngItems 0 4 from (rngItems_vi _ _).symm]; exact .rng _ _ (by lia), by decide, fun C p hp => ?_, ?_⟩
  · show WT _ _ _ _ _ _ _
    walk_at "m go"
    refine op_itemL (.lst _) (by decide) (by decide) (y := .tup (vi (freeL d4 x0))) rfl ?_
    refine op_int (l := freeL d4 x0) ?_
    walk_at "m go"
    refine ⟨fun hc => ?_, fun hc => ?_⟩
    · walk_at "m go"
      refine op_itemL (l := vi [x0, other, z]) (.lst _) (by decide) (by decide) (y := .int x0) rfl ?_
      walk_at "m go"
      refine ⟨fun hc2 => ?_, fun hc2 => ?_⟩
      · walk_at "m go"
        refine op_itemL (.lst _) (by decide) (by decide) (y := .tup (vi (freeL d4 other))) rfl ?_
        refine op_int (l := freeL d4 other) ?_
        walk_at "m go"
        refine ⟨fun hc3 => ?_, fun hc3 => ?_⟩
        · walk_at "m go"
          exact ⟨by show (_ || (_ && _)) = true; rw [hc, hc2, hc3]; rfl, rfl, rfl⟩
        · walk_at "m go"
          exact ⟨by show (_ || (_ && _)) = false; rw [hc, hc2, hc3]; rfl, rfl⟩
      · walk_at "m go"
        exact ⟨by show (_ || (_ && _)) = false; rw [hc, hc2]; rfl, rfl⟩
    · walk_at "m go"
      exact ⟨by show (_ || _) = true; rw [hc]; rfl, rfl, rfl⟩
  obtain ⟨U, hU⟩ : ∃ U : List Int, U = (rngI 0 4).filter fun p => (freeL d4 x0).contains p || ((both != x0) && (freeL d4 other).contains p) := ⟨_, rfl⟩
  have hb0 : 0 ≤ both := (f5.at hb5).1
  have hx0' : 0 ≤ x0 := (f4.at hx4).1
  have ho0 : 0 ≤ other := (f4.at ho4).1
  have hPU : P = U := by
    refine lt_ext hP (by rw [hU]; exact (rngI_lt _ _).filter _) fun p => ?_
    rw [hm, hU, List.mem_filter, rngI_mem]
    have hrng : Free d5.rows d5.bnd d5.dfl both p → 0 ≤ p ∧ p < 4 := fun h => by
      have := free_range f5.vt h
      have := f5.bl
      have := f5.pl
      lia
    have key : ((freeL d4 x0).contains p || ((both != x0) && (freeL d4 other).contains p)) = true ↔ Free d5.rows d5.bnd d5.dfl both p := by
      rw [Bool.or_eq_true, Bool.and_eq_true, List.contains_iff_mem, List.contains_iff_mem, freeL_mem f4, freeL_mem f4]
      rcases hcase with ⟨rfl, rfl⟩ | ⟨hne, hr⟩
      · simp
      · rw [free_union hb0 hx0' ho0 hr, free_stay f4 le5 hx4, free_stay f4 le5 ho4]
        simp [hne]
    exact ⟨fun h => ⟨hrng h, key.mpr h⟩, fun h => key.mp h.2⟩
  rw [comp_some]
  rw [show ((rngI 0 4).filter fun p => (freeL d4 x0).contains p || ((both != x0) && (freeL d4 other).contains p)) = U from hU.symm]
  walk_at "m go"
  refine c_tupleL (l := vi (U.map fun p => p)) (.lst _) (by rw [vi_length, List.length_map, hU]; exact Nat.le_trans (List.length_filter_le _ _) (by simp [rngI])) ?_
  rw [List.map_id' U, hPU]
  refine op_net (a := U) (b := U) ?_
  rw [show (U != U) = false from by simp]
  walk_at "m go"
  refine (call_free_params (n := n) b (-1) (by have := (f5.at hb5).2; lia) f5.vt (wst_tb nums a d5) fun P1 _ hm1 => ?_).at (Nat.add_le_add_left (by decide) _)
  have hP1 : P1 = [] := List.eq_nil_iff_forall_not_mem.mpr fun p hp => by have := ((hm1 p).mp hp).pos; lia
  subst hP1
  walk_at "m go"
  refine op_net (a := []) (b := []) ?_
  walk_at "m go"
  refine op_itemL (l := vi [x0, other, z]) (.lst _) (by decide) (by decide) (y := .int z) rfl ?_
  walk_at "m go"
  have hz5 : z ∈ d5.pool := le5.pool z hz4
  refine (call_has_params (n := n) b z (f5.at hz5).2 f5.vt (wst_tb nums a d5) fun P2 hP2 hm2 hl2 => ?_).at (Nat.add_le_add_left (by decide) _)
  have hP2e : P2 = freeL d4 z := lt_ext hP2 (freeL_lt d4 z) fun p => by rw [hm2, freeL_mem f4, free_stay f4 le5 hz4]
  subst hP2e
  walk_at "m go"
  refine op_itemL (.lst _) (by decide) (by decide) (y := .tup (vi (freeL d4 z))) rfl ?_
  walk_at "m go"
  refine c_lenT (by rw [vi_length]; lia) ?_
  rw [vi_length]
  walk_at "m go"
  rw [show (decide ((0 : Int) < (freeL d4 z).length) != decide ((0 : Int) < (freeL d4 z).length)) = false from by simp]
  walk_at "m go"
  refine WE_and2 ?_
  walk_at "m go"
  refine op_itemL (l := vi [x0, other, z]) (.lst _) (by decide) (by decide) (y := .int x0) rfl ?_
  walk_at "m go"
  have hx5 : x0 ∈ d5.pool := le5.pool x0 hx4
  refine (call_reached (n := n) b x0 hx0' (f5.at hx5).2 f5.vt (wst_tb nums a d5) fun S hS hSm => ?_).at (Nat.add_le_add_left (by decide) _)
  walk_at "m go"
  refine op_itemL (l := vi [x0, other, z]) (.lst _) (by decide) (by decide) (y := .int x0) rfl ?_
  walk_at "m go"
  refine (call_roads (n := n) b f5 x0 (-1) hx5 fun S' hS' hSm' _ => ?_).at (Nat.add_le_add_left (by decide) _)
  have hSS : S' = S := lt_ext hS' hS fun y => by rw [hSm, hSm', road_reach fun r hr p hp => ((f5.rb r hr).2 p hp).1]
  subst hSS
  walk_at "m go"
  refine op_eql (a := S') (b := S') (.lst _) (.lst _) ?_
  rw [show (S' == S') = true from by simp]
  walk_at "m go"
  refine (call_rows_right (n := n) b f5 ?_).at (Nat.add_le_add_left (by decide) _)
  walk_at "m go"
  exact ⟨_, less_nil _, h⟩
end
theorem well_list {P : Params} {h : Heap} {a : Addr} {xs : List WData} (x : Well P h (.ref a) (.list xs)) : ∃ vs : List Value, h.get? a = some { cls := .type "list", data := .seq vs.toArray } := by
  cases x with
  | list e _ => exact ⟨_, e⟩
theorem rep_ints {X : Cx} {K : KM} : ∀ {vs : List Value} {xs : List Int}, IntsAre vs xs → RepL X K vs (vi xs)
  | _, _, .nil => .nil
  | _, _, .cons n t r => .cons (.int n t) (rep_ints r)
theorem script_rep {X : Cx} {P : Params} {h : Heap} {a : Addr} {vs : List Value} {xs : List Int} {ys : List WData} (x : Well P h (.ref a) (.list ys)) (hL : h.IsList a vs.toArray) (hI : IntsAre vs xs) : RepV X h.get? (.ref a) (.lst (vi xs)) := by
  obtain ⟨us, hu⟩ := well_list x
  obtain ⟨o, ho, _, n, hd⟩ := hL
  rw [hu] at ho; cases ho
  simp only [Data.seq.injEq] at hd
  have e : us = vs := by simpa using hd.1
  subst e
  exact .lst hu (rep_ints hI)
theorem caller_ok : Ok 8 callerA := ⟨rfl, by decide, by decide⟩
theorem inv_start (X : Cx) : Inv X X.B.get? [] X.B := ⟨fun _ _ e => e, fun _ _ e => e, fun p hp => (nomatch hp), List.nodup_nil, fun p hp => (nomatch hp), fun p hp => (nomatch hp)⟩
theorem run_law {X : Cx} {mg mb : Str → Option Value} (b : Bs X mg mb) {s₁ : Shared} (hs : s₁.heap = X.B) {a : Addr} {xs : List Int} (hl : xs.length ≤ 100000) (hr : RepV X s₁.heap.get? (.ref a) (.lst (vi xs)))
    {R : Value → Shared → Prop} {E : Value → Shared → Prop} (h : ∀ s' : Shared, (∀ b o, s₁.heap.get? b = some o → s'.heap.get? b = some o) → s'.os = s₁.os → s'.gens = s₁.gens → R (.bool true) s') :
    wpAny (model X.prog X.w) callerA (call (.ref 328) [.ref a]) R E s₁ := by
  have key := ((call_law (n := 0) (Q := fun x st => x = .bool true ∧ st = []) b xs hl ⟨rfl, rfl⟩).call s₁.heap.get? [.ref a] (.cons hr .nil)) callerA [] s₁ caller_ok (by rw [hs]; exact inv_start X)
  refine wpAny_mono key ?_ fun _ _ e => e.elim
  rintro v s' ⟨K', x, st', hK, rv, I, ⟨hp, tk, rfl⟩, rfl, rfl⟩
  cases rv
  exact h _ (fun b o e => I.kept b o (hK b o e)) rfl rfl
theorem law_end {c : ClaimW} {cl : Str → Option Addr} {mean : ExcName → Option Value} {args : List WData} {s₁ s' : Shared} (hk : ∀ b o, s₁.heap.get? b = some o → s'.heap.get? b = some o) (ho : s'.os = s₁.os) (hg : s'.gens = #[])
    (hr : ∀ cls, c.raises args cls = false) (hp : c.post args (.bool true) args = true) : GoodWG c cl mean args s₁ (.ok (.ret (.bool true))) s' :=
  ⟨.inl ⟨_, _, [], rfl, hr, ReadsW.bool true, hp, fun _ => ⟨List.nodup_nil, fun _ hm => (nomatch hm)⟩⟩, .of_keep hk, ho, .of_eq hg⟩
end Mine
open Mine
theorem PySem.Challenge.cw_xm0497_01_holds : PySem.Challenge.rw_xm0497_01.Holds := by
  refine Mine.head (by rfl) (by rfl) (by rfl) ?_
  intro w s₀ s₁ mg mb G Y fa o pm cd doc dV kV ho hd' hcd hD hmg hg args vals as hpre hlay hrd hwl hlo
  have KX := kIn_of Y
  refine Ground.open G ?_
  intro T B D TE TW
  clear hcd
  wrow_args hpre hlay hrd hwl hlo
  rename_i xs h1 h2 h3 h4 h5 as1 as2 L vs as3 hL ra wl r0 hI hr hc1 hc2
  have b : Bs ⟨PySem.Challenge.rw_xm0497_01.row.prog, w, s₁.heap, T.nolimit⟩ mg mb := ⟨KX, T.g, T.b, T.builtins⟩
  have e : mg "law" = some (.ref 328) := mg_of b.F b.g (by kernel_rfl)
  have e' : mg "law" = some (.ref fa) := hmg
  rw [e] at e'
  cases e'
  refine run_law b rfl (by omega) (script_rep wl hL hI) fun s' h1 h2 h3 => ?_
  refine law_end h1 h2 (h3.trans hg) (fun _ => rfl) ?_
  wrow_post
