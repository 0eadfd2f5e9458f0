import PyProof.Rows.All
import Wide.All
import OpenK.AllK
import Wide.FinOn
import PyProof.EnumStmt
import PyProof.EnumMake
import Open.Line
import Wide.Line
import PySem.Challenge.RW_pf0341_01
set_option Elab.async false
set_option linter.unusedSimpArgs false
set_option linter.unusedVariables false
section
open PySem PySem.Calls
set_option maxRecDepth 100000
namespace Mine

inductive At where
  | none | bool (b : Bool) | int (i : Int) | str (l : List Nat)
  deriving DecidableEq, Inhabited

inductive PV where
  | a (x : At) | list (xs : List At) | tup (xs : List At) | bytes (b : List UInt8)
  deriving DecidableEq, Inhabited

noncomputable def RepA (v : Value) : At → Prop
  | .none => v = .none
  | .bool b => v = .bool b
  | .int i => ∃ t, v = .int i t
  | .str l => ∃ t, v = .str ⟨l.toArray⟩ t ∧ l.length ≤ sizeLine

noncomputable def PlainTup (h : Heap) (a : Addr) (items : Array Value) : Prop := ∃ n, h.get? a = some { cls := .type "tuple", data := .seq items n }

noncomputable def Rep (h : Heap) (v : Value) : PV → Prop
  | .a x => RepA v x
  | .list xs => ∃ a vs, v = .ref a ∧ h.PlainList a vs.toArray ∧ Paired RepA vs xs ∧ vs.length ≤ sizeLine
  | .tup xs => ∃ a vs, v = .ref a ∧ PlainTup h a vs.toArray ∧ Paired RepA vs xs ∧ vs.length ≤ sizeLine
  | .bytes b => ∃ t, v = .bytes b.toArray t

noncomputable def Sub (h h' : Heap) : Prop := ∀ b o, h.get? b = some o → h'.get? b = some o
theorem Sub.refl (h : Heap) : Sub h h := fun _ _ e => e
theorem Sub.trans {h h' h'' : Heap} (x : Sub h h') (y : Sub h' h'') : Sub h h'' := fun b o e => y b o (x b o e)
theorem Sub.push (h : Heap) (o : Obj) : Sub h (h.push o) := fun _ _ e => Heap.get?_push_of_some _ e

theorem Rep.mono {h h' : Heap} {v : Value} : ∀ {r : PV}, Rep h v r → Sub h h' → Rep h' v r
  | .a _, x, _ => x
  | .list _, ⟨a, vs, e, ⟨n, hp⟩, hx, hl⟩, k => ⟨a, vs, e, ⟨n, k _ _ hp⟩, hx, hl⟩
  | .tup _, ⟨a, vs, e, ⟨n, hp⟩, hx, hl⟩, k => ⟨a, vs, e, ⟨n, k _ _ hp⟩, hx, hl⟩
  | .bytes _, x, _ => x

theorem keeps_refl (s : Shared) : Keeps s s := ⟨s.heap, s.toks, rfl, fun _ _ e => e⟩
theorem keeps_sub {s s' : Shared} (k : Keeps s s') : Sub s.heap s'.heap := by
  obtain ⟨h, tk, rfl, k⟩ := k; exact k
theorem keeps_trans {s s' s'' : Shared} (x : Keeps s s') (y : Keeps s' s'') : Keeps s s'' := by
  obtain ⟨h, tk, rfl, k⟩ := x
  obtain ⟨h', tk', rfl, k'⟩ := y
  exact ⟨h', tk', rfl, fun b o e => k' b o (k b o e)⟩
theorem keeps_tok (s : Shared) (t : Nat) : Keeps s { s with toks := t } := ⟨s.heap, t, rfl, fun _ _ e => e⟩
theorem keeps_push (s : Shared) (o : Obj) (t : Nat) : Keeps s { s with heap := s.heap.push o, toks := t } := ⟨_, t, rfl, Sub.push _ _⟩
theorem keeps_push' (s : Shared) (o : Obj) : Keeps s { s with heap := s.heap.push o } := ⟨_, s.toks, rfl, Sub.push _ _⟩

noncomputable def Fresh (h : Heap) (v : Value) : Prop := ∀ a, v = .ref a → h.get? a = none
theorem Fresh.sub {h h' : Heap} {v : Value} (x : Fresh h' v) (k : Sub h h') : Fresh h v := fun a e => by
  cases q : h.get? a with
  | none => rfl
  | some o => have := k a o q; rw [x a e] at this; cases this
theorem fresh_size (h : Heap) : Fresh h (.ref h.objs.size) := fun a e => by
  cases e
  cases q : h.get? h.objs.size with
  | none => rfl
  | some o => exact absurd (Heap.lt_size q) (Nat.lt_irrefl _)
theorem fresh_atom {h : Heap} {v : Value} {x : At} (r : RepA v x) : Fresh h v := fun a e => by
  subst e
  cases x <;> simp [RepA] at r

noncomputable def Ev (prog : Program) (w : World) (A : Around) (t : Sem Value) (s : Shared) (fr : Bool) (r : PV) : Prop :=
  wpAny (model prog w) A t (fun v s' => Keeps s s' ∧ Rep s'.heap v r ∧ (fr = true → Fresh s.heap v)) (fun _ _ => False) s

section
variable {prog : Program} {w : World} {A : Around} {E : Value → Shared → Prop} {s : Shared} {t : Sem Value} {r : PV} {fr : Bool} {Q : Value → Shared → Prop}
theorem Ev.use (x : Ev prog w A t s fr r) (h : ∀ v s', Keeps s s' → Rep s'.heap v r → (fr = true → Fresh s.heap v) → Q v s') : wpAny (model prog w) A t Q E s :=
  wpAny_mono x (fun v s' k => h v s' k.1 k.2.1 k.2.2) fun _ _ f => f.elim
theorem end_atom {s s' : Shared} {v : Value} {x : At} {fr : Bool} (k : Keeps s s') (r : RepA v x) : Keeps s s' ∧ Rep s'.heap v (.a x) ∧ (fr = true → Fresh s.heap v) := ⟨k, r, fun _ => fresh_atom r⟩
end

theorem paired_len {vs : List Value} {xs : List At} (h : Paired RepA vs xs) : vs.length = xs.length := h.length
theorem paired_app {vs ws : List Value} {xs ys : List At} (h : Paired RepA vs xs) (k : Paired RepA ws ys) : Paired RepA (vs ++ ws) (xs ++ ys) := by
  induction h with
  | nil => exact k
  | cons f _ ih => exact .cons f ih
theorem paired_rep {vs : List Value} {xs : List At} (h : Paired RepA vs xs) : ∀ n : Nat, Paired RepA (List.replicate n vs).flatten (List.replicate n xs).flatten
  | 0 => .nil
  | n + 1 => by
    rw [List.replicate_succ, List.replicate_succ, List.flatten_cons, List.flatten_cons]
    exact paired_app h (paired_rep h n)
theorem paired_get {vs : List Value} {xs : List At} (h : Paired RepA vs xs) : ∀ {i : Nat} {x : At}, xs[i]? = some x → ∃ v, vs[i]? = some v ∧ RepA v x := by
  induction h with
  | nil => intro i x e; simp at e
  | cons f _ ih =>
    intro i x e
    cases i with
    | zero => simp at e; subst e; exact ⟨_, by simp, f⟩
    | succ i => simpa using ih (by simpa using e)
theorem paired_get' {vs : List Value} {xs : List At} (h : Paired RepA vs xs) : ∀ {i : Nat} {v : Value}, vs[i]? = some v → ∃ x, xs[i]? = some x ∧ RepA v x := by
  induction h with
  | nil => intro i x e; simp at e
  | cons f _ ih =>
    intro i x e
    cases i with
    | zero => simp at e; subst e; exact ⟨_, by simp, f⟩
    | succ i => simpa using ih (by simpa using e)
theorem paired_take {vs : List Value} {xs : List At} (h : Paired RepA vs xs) : ∀ n, Paired RepA (vs.take n) (xs.take n) := by
  induction h with
  | nil => intro n; simpa using Paired.nil
  | cons f _ ih => intro n; cases n with
    | zero => simpa using Paired.nil
    | succ n => simpa using Paired.cons f (ih n)
theorem paired_drop {vs : List Value} {xs : List At} (h : Paired RepA vs xs) : ∀ n, Paired RepA (vs.drop n) (xs.drop n) := by
  induction h with
  | nil => intro n; simpa using Paired.nil
  | cons f t ih => intro n; cases n with
    | zero => simpa using Paired.cons f t
    | succ n => simpa using ih n
theorem paired_set {vs : List Value} {xs : List At} (h : Paired RepA vs xs) {v : Value} {x : At} (r : RepA v x) : ∀ n, Paired RepA (vs.set n v) (xs.set n x) := by
  induction h with
  | nil => intro n; simpa using Paired.nil
  | cons f t ih => intro n; cases n with
    | zero => simpa using Paired.cons r t
    | succ n => simpa using Paired.cons f (ih n)

noncomputable def big : Int := 2 ^ 200
noncomputable def pInt (x : PV) : Option Int := match x with
  | .a y => match y with
    | .int i => some i
    | _ => none
  | _ => none
noncomputable def pStr (x : PV) : Option (List Nat) := match x with
  | .a y => match y with
    | .str l => some l
    | _ => none
  | _ => none
noncomputable def pList (x : PV) : Option (List At) := match x with
  | .list xs => some xs
  | _ => none
theorem pInt_inv {x : PV} {i : Int} (h : pInt x = some i) : x = .a (.int i) := by
  cases x with
  | a y => cases y <;> first | (cases h; done) | (cases h; rfl)
  | _ => cases h
theorem pStr_inv {x : PV} {l : List Nat} (h : pStr x = some l) : x = .a (.str l) := by
  cases x with
  | a y => cases y <;> first | (cases h; done) | (cases h; rfl)
  | _ => cases h
theorem pList_inv {x : PV} {l : List At} (h : pList x = some l) : x = .list l := by
  cases x <;> first | (cases h; done) | (cases h; rfl)
theorem bind_some2 {α β : Type} {o : Option α} {f : α → Option β} {r : β} (h : o.bind f = some r) : ∃ a, o = some a ∧ f a = some r := Option.bind_eq_some_iff.mp h
theorem map_some2 {α β : Type} {o : Option α} {f : α → β} {r : β} (h : o.map f = some r) : ∃ a, o = some a ∧ f a = r := Option.map_eq_some_iff.mp h
theorem if_some2 {α : Type} {c : Prop} [Decidable c] {a r : α} (h : (if c then some a else none) = some r) : c ∧ a = r := by
  by_cases hc : c
  · rw [if_pos hc] at h; exact ⟨hc, Option.some.inj h⟩
  · rw [if_neg hc] at h; cases h
theorem or_some2 {α : Type} {a b : Option α} {r : α} (h : a.or b = some r) : a = some r ∨ b = some r := by
  cases a with
  | none => exact .inr h
  | some x => exact .inl h
noncomputable def two {α : Type} : List α → Option (α × α)
  | [a, b] => some (a, b)
  | _ => none
noncomputable def one {α : Type} : List α → Option α
  | [a] => some a
  | _ => none
theorem two_inv {α : Type} {l : List α} {q : α × α} (h : two l = some q) : l = [q.1, q.2] := by
  match l, h with
  | [a, b], h => cases h; rfl
theorem one_inv {α : Type} {l : List α} {q : α} (h : one l = some q) : l = [q] := by
  match l, h with
  | [a], h => cases h; rfl
noncomputable def pTup (x : PV) : Option (At × At) := match x with
  | .tup xs => two xs
  | _ => none
theorem pTup_inv {x : PV} {q : At × At} (h : pTup x = some q) : x = .tup [q.1, q.2] := by
  cases x with
  | tup xs => rw [two_inv h]
  | _ => cases h
noncomputable def i2 {β : Type} (f : Int → Int → Option β) (x y : PV) : Option β := (pInt x).bind fun a => (pInt y).bind fun b => f a b
noncomputable def s2 {β : Type} (f : List Nat → List Nat → Option β) (x y : PV) : Option β := (pStr x).bind fun a => (pStr y).bind fun b => f a b
theorem i2_inv {β : Type} {f : Int → Int → Option β} {x y : PV} {r : β} (h : i2 f x y = some r) : ∃ a b, x = .a (.int a) ∧ y = .a (.int b) ∧ f a b = some r := by
  obtain ⟨a, ha, h⟩ := bind_some2 h
  obtain ⟨b, hb, h⟩ := bind_some2 h
  exact ⟨a, b, pInt_inv ha, pInt_inv hb, h⟩
theorem s2_inv {β : Type} {f : List Nat → List Nat → Option β} {x y : PV} {r : β} (h : s2 f x y = some r) : ∃ a b, x = .a (.str a) ∧ y = .a (.str b) ∧ f a b = some r := by
  obtain ⟨a, ha, h⟩ := bind_some2 h
  obtain ⟨b, hb, h⟩ := bind_some2 h
  exact ⟨a, b, pStr_inv ha, pStr_inv hb, h⟩
noncomputable def binop (op : Operator) (x y : PV) : Option PV := match op with
  | .Add => match x with
    | .list a => (pList y).bind fun b => if a.length + b.length ≤ sizeLine then some (.list (a ++ b)) else none
    | _ => (i2 (fun a b => some (.a (.int (a + b)))) x y).or (s2 (fun a b => if a.length + b.length ≤ sizeLine then some (.a (.str (a ++ b))) else none) x y)
  | .Sub => i2 (fun a b => some (.a (.int (a - b)))) x y
  | .Mult => match x with
    | .list a => (pInt y).bind fun b => if -(2 ^ 63) ≤ b ∧ b < 2 ^ 63 ∧ a.length * b.toNat ≤ 2 ^ 24 then some (.list (List.replicate b.toNat a).flatten) else none
    | _ => i2 (fun a b => if a.natAbs < 2 ^ 64 ∨ b.natAbs < 2 ^ 64 ∨ (a.natAbs < 2 ^ 200 ∧ b.natAbs < 2 ^ 200) then some (.a (.int (a * b))) else none) x y
  | .FloorDiv => i2 (fun a b => if 0 < b ∧ b < 2 ^ 200 then some (.a (.int (a / b))) else none) x y
  | .Mod => i2 (fun a b => if 0 < b then some (.a (.int (a % b))) else none) x y
  | .Pow => i2 (fun a b => if 0 ≤ b ∧ b ≤ 1000000 ∧ a.natAbs < 2 ^ 64 then some (.a (.int (a ^ b.toNat))) else none) x y
  | .LShift => i2 (fun a b => if 0 ≤ b ∧ b ≤ 1000 ∧ a.natAbs < 2 ^ 200 then some (.a (.int (a * 2 ^ b.toNat))) else none) x y
  | .RShift => i2 (fun a b => if 0 ≤ b then some (.a (.int (a / 2 ^ b.toNat))) else none) x y
  | .BitAnd => i2 (fun a b => if 0 ≤ a ∧ 0 ≤ b then some (.a (.int ((a.toNat &&& b.toNat : Nat) : Int))) else none) x y
  | .BitOr => i2 (fun a b => if 0 ≤ a ∧ 0 ≤ b then some (.a (.int ((a.toNat ||| b.toNat : Nat) : Int))) else none) x y
  | _ => none

theorem log2_lt_of {n k : Nat} (h : n < 2 ^ k) (hk : 0 < k) : n.log2 < k := by
  by_cases h0 : n = 0
  · subst h0; simpa using hk
  · exact (Nat.log2_lt h0).mpr h
theorem intBits_le {a : Int} {k : Nat} (h : a.natAbs < 2 ^ k) : Builtin.Int.intBits a ≤ k := by
  unfold Builtin.Int.intBits
  split
  · exact Nat.zero_le _
  · rename_i h0
    have h0' : a.natAbs ≠ 0 := by simpa using h0
    have := (Nat.log2_lt h0').mpr h
    omega
theorem mulOk_of {a b : Int} (h : a.natAbs < 2 ^ 64 ∨ b.natAbs < 2 ^ 64 ∨ (a.natAbs < 2 ^ 200 ∧ b.natAbs < 2 ^ 200)) : IntMulOk a b := by
  rcases h with h | h | ⟨h, k⟩
  · exact IntMulOk.of_left (intBits_le h)
  · exact IntMulOk.of_right (intBits_le h)
  · have := intBits_le h
    have := intBits_le k
    unfold IntMulOk Builtin.Int.intTooBig
    simp [bitsLine]
    intros
    omega
end Mine
end
section
open PySem PySem.Calls
set_option maxRecDepth 100000
namespace Mine
section
variable {prog : Program} {w : World} {A : Around} {s : Shared}

theorem plain_isList {h : Heap} {a : Addr} {its : Array Value} (x : h.PlainList a its) : h.IsList a its := by
  obtain ⟨n, e⟩ := x; exact ⟨_, e, rfl, n, rfl⟩
theorem list_type {a : Addr} {its : Array Value} (x : s.heap.PlainList a its) : s.TypeIs (.ref a) "list" := by
  obtain ⟨n, e⟩ := x; exact ⟨_, e, rfl⟩
theorem tup_type {a : Addr} {its : Array Value} (x : PlainTup s.heap a its) : s.TypeIs (.ref a) "tuple" := by
  obtain ⟨n, e⟩ := x; exact ⟨_, e, rfl⟩

theorem end_new {s : Shared} {o : Obj} {vs : List Value} {xs : List At} {fr : Bool} {n : Nat} (tk : Nat) (ho : o = { cls := .type "list", data := .seq vs.toArray n }) (p : Paired RepA vs xs) (hl : vs.length ≤ sizeLine) :
    Keeps s { s with heap := s.heap.push o, toks := tk } ∧ Rep (s.heap.push o) (.ref s.heap.objs.size) (.list xs) ∧ (fr = true → Fresh s.heap (.ref s.heap.objs.size)) := by
  subst ho
  exact ⟨keeps_push _ _ _, ⟨_, vs, rfl, ⟨n, Heap.get?_push_size _ rfl⟩, p, hl⟩, fun _ => fresh_size _⟩
theorem end_newT {s : Shared} {o : Obj} {vs : List Value} {xs : List At} {fr : Bool} {n : Nat} (tk : Nat) (ho : o = { cls := .type "tuple", data := .seq vs.toArray n }) (p : Paired RepA vs xs) (hl : vs.length ≤ sizeLine) :
    Keeps s { s with heap := s.heap.push o, toks := tk } ∧ Rep (s.heap.push o) (.ref s.heap.objs.size) (.tup xs) ∧ (fr = true → Fresh s.heap (.ref s.heap.objs.size)) := by
  subst ho
  exact ⟨keeps_push _ _ _, ⟨_, vs, rfl, ⟨n, Heap.get?_push_size _ rfl⟩, p, hl⟩, fun _ => fresh_size _⟩

theorem add_sound {x y r : PV} {v u : Value} {fr : Bool} (hx : Rep s.heap v x) (hy : Rep s.heap u y) (e : (i2 (fun a b => some (PV.a (.int (a + b)))) x y).or (s2 (fun a b => if a.length + b.length ≤ sizeLine then some (PV.a (.str (a ++ b))) else none) x y) = some r) :
    Ev prog w A (binaryOp .Add v u) s fr r := by
  rcases or_some2 e with e | e
  · obtain ⟨a, b, rfl, rfl, e⟩ := i2_inv e
    cases e; obtain ⟨t, rfl⟩ := hx; obtain ⟨t', rfl⟩ := hy
    exact PyProof.Rows.add_int (end_atom (keeps_tok _ _) ⟨_, rfl⟩)
  · obtain ⟨a, b, rfl, rfl, e⟩ := s2_inv e
    obtain ⟨hl, rfl⟩ := if_some2 e
    obtain ⟨t, rfl, h1⟩ := hx; obtain ⟨t', rfl, h2⟩ := hy
    exact SB.add (fun t' k => end_atom (keeps_tok _ _) ⟨t', congrArg (fun z => Value.str ⟨z⟩ t') (List.append_toArray a b), (List.length_append ▸ hl : (a ++ b).length ≤ sizeLine)⟩) hl
theorem new_list {vs : List Value} {xs : List At} {its : Array Value} {s₁ : Shared} (hs : s₁ = { s with heap := s.heap.push { cls := .type "list", data := .seq its } }) (hi : its = vs.toArray) (p : Paired RepA vs xs) (hl : vs.length ≤ sizeLine) {fr : Bool} :
    Keeps s s₁ ∧ Rep s₁.heap (.ref s.heap.objs.size) (.list xs) ∧ (fr = true → Fresh s.heap (.ref s.heap.objs.size)) := by
  subst hs hi
  exact end_new (s := s) (fr := fr) (n := 0) s.toks (o := { cls := .type "list", data := .seq vs.toArray }) rfl p hl
theorem log_le {b : Int} (h : 0 < b) (h' : b < 2 ^ 200) : b.natAbs.log2 < 200 := log2_lt_of (by omega) (by decide)
theorem binop_sound {op : Operator} {x y r : PV} {v u : Value} {fr : Bool} (hx : Rep s.heap v x) (hy : Rep s.heap u y) (e : binop op x y = some r) :
    Ev prog w A (binaryOp op v u) s fr r := by
  cases op with
  | Add =>
    cases x with
    | list a =>
      obtain ⟨b, hb, e⟩ := bind_some2 (o := pList y) e
      obtain rfl := pList_inv hb
      obtain ⟨hl, rfl⟩ := if_some2 e
      obtain ⟨l, vs, rfl, ⟨n, hp⟩, p, h1⟩ := hx
      obtain ⟨l', ws, rfl, ⟨n', hp'⟩, p', h2⟩ := hy
      rw [← paired_len p, ← paired_len p'] at hl
      have hl' : (vs ++ ws).length ≤ sizeLine := List.length_append ▸ hl
      refine concat_meets ⟨_, hp, rfl⟩ ⟨_, hp', rfl⟩ noFill_list_add seq_list_add PySem.F.slot_list_add PySem.F.entry_list_add (PySem.F.args_list_add_2 _ _) (PyProof.Rows.list_addW l l' vs.toArray ws.toArray n n' _ _ _ _ hl) ⟨hp, hp', ?_⟩
      exact new_list rfl (List.append_toArray vs ws) (paired_app p p') hl'
    | a _ => exact add_sound hx hy e
    | tup _ => exact add_sound hx hy e
    | bytes _ => exact add_sound hx hy e
  | Sub =>
    obtain ⟨a, b, rfl, rfl, e⟩ := i2_inv e
    cases e; obtain ⟨t, rfl⟩ := hx; obtain ⟨t', rfl⟩ := hy
    exact PyProof.Rows.sub_int (end_atom (keeps_tok _ _) ⟨_, rfl⟩)
  | Mult =>
    have ii : ∀ {x : PV}, Rep s.heap v x → i2 (fun a b => if a.natAbs < 2 ^ 64 ∨ b.natAbs < 2 ^ 64 ∨ (a.natAbs < 2 ^ 200 ∧ b.natAbs < 2 ^ 200) then some (PV.a (.int (a * b))) else none) x y = some r → Ev prog w A (binaryOp .Mult v u) s fr r := fun hx e => by
      obtain ⟨a, b, rfl, rfl, e⟩ := i2_inv e
      obtain ⟨hm, rfl⟩ := if_some2 e
      obtain ⟨t, rfl⟩ := hx; obtain ⟨t', rfl⟩ := hy
      exact PyProof.Rows.mul_int (end_atom (keeps_tok _ _) ⟨_, rfl⟩) (mulOk_of hm)
    cases x with
    | list a =>
      obtain ⟨b, hb, e⟩ := bind_some2 (o := pInt y) e
      obtain rfl := pInt_inv hb
      obtain ⟨⟨m1, m2, m3⟩, rfl⟩ := if_some2 e
      obtain ⟨l, vs, rfl, ⟨n, hp⟩, p, h1⟩ := hx; obtain ⟨t', rfl⟩ := hy
      rw [← paired_len p] at m3
      have m3' : vs.toArray.size * b.toNat ≤ 2 ^ 24 := m3
      have hz : (List.replicate b.toNat vs).flatten.length ≤ sizeLine := by
        rw [List.length_flatten, List.map_replicate, List.sum_replicate_nat, sizeLine_eq, Nat.mul_comm]; exact m3
      refine wpAny_binaryOp_repeat_ref (T := "list") (U := "int") (by decide) ⟨_, hp, rfl⟩ (fun s' => typeIs_int s' b t') noFill_list_mul F.fills_int_mul F.slot_int_rmul repeat_list F.slot_int_index.lookup
        (call_meets F.slot_int_rmul (typeIs_int s b t') F.entry_int_rmul (F.args_int_rmul_2 _ _) (int___rmul___int_list b t' l vs.toArray n)
        ⟨hp, rfl, ⟨_, hp, rfl⟩, call_meets F.slot_list_mul ⟨_, hp, rfl⟩ F.entry_list_mul (F.args_list_mul_2 _ _)
          (AutoListH.list___mul___list_int_3 l vs.toArray n b t' (by simp [Builtin.List.listFitsIndex]; omega) (by omega) (by simp [Builtin.List.listTooLong, sizeLine]; omega))
          ⟨hp, ?_⟩⟩)
      rw [PyProof.Rows.listMul_foldl_if]
      exact new_list rfl (by simp) (paired_rep p b.toNat) hz
    | a _ => exact ii hx e
    | tup _ => exact ii hx e
    | bytes _ => exact ii hx e
  | FloorDiv =>
    obtain ⟨a, b, rfl, rfl, e⟩ := i2_inv e
    obtain ⟨hm, rfl⟩ := if_some2 e
    obtain ⟨t, rfl⟩ := hx; obtain ⟨t', rfl⟩ := hy
    refine PyProof.Rows.floordiv_int (Int.ne_of_gt hm.1) (end_atom (keeps_tok _ _) ⟨s.toks, ?_⟩) (.inl (PyProof.noPylong_of_log2 ?_))
    · rw [Int.fdiv_eq_ediv_of_nonneg _ (Int.le_of_lt hm.1)]
    · have := log_le hm.1 hm.2
      omega
  | Mod =>
    obtain ⟨a, b, rfl, rfl, e⟩ := i2_inv e
    obtain ⟨hm, rfl⟩ := if_some2 e
    obtain ⟨t, rfl⟩ := hx; obtain ⟨t', rfl⟩ := hy
    refine PyProof.Rows.mod_int' (Int.ne_of_gt hm) (end_atom (keeps_tok _ _) ⟨s.toks, ?_⟩)
    rw [Int.fmod_eq_emod_of_nonneg _ (Int.le_of_lt hm)]
  | Pow =>
    obtain ⟨a, b, rfl, rfl, e⟩ := i2_inv e
    obtain ⟨hm, rfl⟩ := if_some2 e
    obtain ⟨t, rfl⟩ := hx; obtain ⟨t', rfl⟩ := hy
    exact PyProof.Rows.pow_int_small hm.1 hm.2.1 hm.2.2 (end_atom (keeps_tok _ _) ⟨_, rfl⟩)
  | LShift =>
    obtain ⟨a, b, rfl, rfl, e⟩ := i2_inv e
    obtain ⟨hm, rfl⟩ := if_some2 e
    obtain ⟨t, rfl⟩ := hx; obtain ⟨t', rfl⟩ := hy
    refine PyProof.Rows.lshift_int hm.1 ?_ (end_atom (keeps_tok _ _) ⟨_, rfl⟩)
    have := intBits_le hm.2.2
    omega
  | RShift =>
    obtain ⟨a, b, rfl, rfl, e⟩ := i2_inv e
    obtain ⟨hm, rfl⟩ := if_some2 e
    obtain ⟨t, rfl⟩ := hx; obtain ⟨t', rfl⟩ := hy
    refine PyProof.Rows.rshift_int hm (end_atom (keeps_tok _ _) ⟨s.toks, ?_⟩)
    rw [Int.fdiv_eq_ediv_of_nonneg _ (Int.le_of_lt (Int.pow_pos (by decide)))]
  | BitAnd =>
    obtain ⟨a, b, rfl, rfl, e⟩ := i2_inv e
    obtain ⟨hm, rfl⟩ := if_some2 e
    obtain ⟨t, rfl⟩ := hx; obtain ⟨t', rfl⟩ := hy
    refine PyProof.Rows.and_int (end_atom (keeps_tok _ _) ⟨s.toks, ?_⟩)
    unfold Builtin.bitAnd; rw [decide_eq_true hm.1, decide_eq_true hm.2]
  | BitOr =>
    obtain ⟨a, b, rfl, rfl, e⟩ := i2_inv e
    obtain ⟨hm, rfl⟩ := if_some2 e
    obtain ⟨t, rfl⟩ := hx; obtain ⟨t', rfl⟩ := hy
    refine PyProof.Rows.or_int (end_atom (keeps_tok _ _) ⟨s.toks, ?_⟩)
    have e1 : ¬ (0 ≤ Builtin.bitNot a) := by unfold Builtin.bitNot; omega
    have e2 : ¬ (0 ≤ Builtin.bitNot b) := by unfold Builtin.bitNot; omega
    have e3 : ∀ z : Int, Builtin.bitNot (Builtin.bitNot z) = z := fun z => by unfold Builtin.bitNot; omega
    unfold Builtin.bitOr Builtin.bitAnd
    simp [e1, e2, e3]
  | _ => cases e
end
end Mine
end
section
open PySem PySem.Calls
set_option maxRecDepth 100000
namespace Mine

noncomputable def At.plain : At → Bool
  | .none => true
  | .int _ => true
  | _ => false
noncomputable def PV.plain : PV → Bool
  | .a x => x.plain
  | .list xs => xs.all At.plain
  | .tup xs => xs.all At.plain
  | .bytes _ => false
noncomputable def intsOf : List At → Option (List Int)
  | [] => some []
  | .int i :: r => (intsOf r).map (i :: ·)
  | _ :: _ => none
noncomputable def strsOf : List At → Option (List (List Nat))
  | [] => some []
  | .str i :: r => (strsOf r).map (i :: ·)
  | _ :: _ => none

noncomputable def eqV (x y : PV) : Option Bool := match pStr x, pStr y with
  | some a, some b => some (decide (a = b))
  | _, _ => if x.plain && y.plain then some (decide (x = y)) else none
noncomputable def isNoneV (y : PV) : Bool := match y with
  | .a z => match z with
    | .none => true
    | _ => false
  | _ => false
theorem isNoneV_inv {y : PV} (h : isNoneV y = true) : y = .a .none := by
  cases y with
  | a z => cases z <;> first | rfl | exact (Bool.false_ne_true h).elim
  | _ => exact (Bool.false_ne_true h).elim
noncomputable def cmpop (op : CmpOp) (x y : PV) : Option Bool := match op with
  | .Eq => eqV x y
  | .NotEq => (eqV x y).map fun b => !b
  | .Lt => i2 (fun a b => some (decide (a < b))) x y
  | .LtE => (i2 (fun a b => some (decide (a ≤ b))) x y).or (s2 (fun a b => some (!decide (b < a))) x y)
  | .Gt => i2 (fun a b => some (decide (b < a))) x y
  | .GtE => i2 (fun a b => some (decide (b ≤ a))) x y
  | .Is => if isNoneV y then (match x with
      | .a x => some (decide (x = .none))
      | .list _ => some false
      | _ => none) else none
  | .In => match y with
    | .list xs => (pInt x).bind fun i => (intsOf xs).map fun ns => ns.any (· == i)
    | _ => s2 (fun a b => match a with
      | [c] => some (decide (c ∈ b))
      | _ => none) x y
  | .NotIn => (pStr x).bind fun l => (pList y).bind fun xs => (strsOf xs).map fun ss => !(ss.any (· == l))
  | _ => none

noncomputable def toPyA : At → PyData
  | .none => .none
  | .bool b => .bool b
  | .int i => .int i
  | .str l => .str ⟨l.toArray⟩
noncomputable def toPy : PV → PyData
  | .a x => toPyA x
  | .list xs => .list (xs.map toPyA)
  | .tup xs => .tuple (xs.map toPyA)
  | .bytes _ => .none

theorem reads_a {h : Heap} {v : Value} : ∀ {x : At}, x.plain = true → RepA v x → Reads h v (toPyA x) []
  | .none, _, e => by cases e; exact .none
  | .int _, _, ⟨t, e⟩ => by cases e; exact .int _ _
  | .bool _, p, _ => by cases p
  | .str _, p, _ => by cases p
theorem reads_all {h : Heap} {vs : List Value} {xs : List At} (p : Paired RepA vs xs) : xs.all At.plain = true → ReadsAll h vs (xs.map toPyA) [] := by
  induction p with
  | nil => intro _; exact .nil
  | cons f _ ih =>
    intro e
    simp only [List.all_cons, Bool.and_eq_true] at e
    exact ReadsAll.cons (as := []) (reads_a e.1 f) (ih e.2)
theorem reads_pv {h : Heap} {v : Value} : ∀ {x : PV}, x.plain = true → Rep h v x → ∃ as, Reads h v (toPy x) as
  | .a _, p, e => ⟨_, reads_a p e⟩
  | .list _, p, ⟨a, vs, e, ⟨n, hp⟩, q, _⟩ => by subst e; exact ⟨_, Reads.list hp rfl rfl (reads_all q p)⟩
  | .tup _, p, ⟨a, vs, e, ⟨n, hp⟩, q, _⟩ => by subst e; exact ⟨_, Reads.tuple hp rfl rfl (reads_all q p)⟩
  | .bytes _, p, _ => by cases p

theorem canLay_a : ∀ {x : At}, x.plain = true → (toPyA x).canLay0 = true ∧ (toPyA x).depth = 0
  | .none, _ => ⟨rfl, rfl⟩
  | .int _, _ => ⟨rfl, rfl⟩
  | .bool _, p => by cases p
  | .str _, p => by cases p
theorem canLay_all : ∀ {xs : List At}, xs.all At.plain = true → PyData.canLayAll0 (xs.map toPyA) = true ∧ PyData.depthAll (xs.map toPyA) = 0
  | [], _ => ⟨rfl, rfl⟩
  | x :: r, e => by
    simp only [List.all_cons, Bool.and_eq_true] at e
    have h1 := canLay_a e.1
    have h2 := canLay_all e.2
    simp [PyData.canLayAll0, PyData.depthAll, h1, h2]
theorem shaped_pv : ∀ {x : PV}, x.plain = true → SeqAt.shaped (toPy x) = true
  | .a _, p => by have := canLay_a p; simp [SeqAt.shaped, toPy, this]
  | .list _, p => by have := canLay_all p; simp [SeqAt.shaped, toPy, this, PyData.canLay0, PyData.depth]
  | .tup _, p => by have := canLay_all p; simp [SeqAt.shaped, toPy, this, PyData.canLay0, PyData.depth]
  | .bytes _, p => by cases p
theorem eqv_a : ∀ {x y : At}, x.plain = true → y.plain = true → PyData.eqv (toPyA x) (toPyA y) = decide (x = y)
  | .none, .none, _, _ => by simp [toPyA, PyData.eqv]
  | .int a, .int b, _, _ => by simp [toPyA, PyData.eqv]; rfl
  | .none, .int _, _, _ => by simp [toPyA, PyData.eqv]
  | .int _, .none, _, _ => by simp [toPyA, PyData.eqv]
  | .bool _, _, p, _ => by cases p
  | .str _, _, p, _ => by cases p
  | _, .bool _, _, p => by cases p
  | _, .str _, _, p => by cases p
theorem eqv_all : ∀ {xs ys : List At}, xs.all At.plain = true → ys.all At.plain = true → PyData.eqvAll (xs.map toPyA) (ys.map toPyA) = decide (xs = ys)
  | [], [], _, _ => by simp [PyData.eqvAll]
  | [], _ :: _, _, _ => by simp [PyData.eqvAll]
  | _ :: _, [], _, _ => by simp [PyData.eqvAll]
  | x :: r, y :: t, p, q => by
    simp only [List.all_cons, Bool.and_eq_true] at p q
    have h1 := eqv_a p.1 q.1
    have h2 := eqv_all p.2 q.2
    simp only [List.map_cons, PyData.eqvAll, h1, h2]
    by_cases e : x = y <;> by_cases e' : r = t <;> simp [e, e']
theorem eqv_pv : ∀ {x y : PV}, x.plain = true → y.plain = true → PyData.eqv (toPy x) (toPy y) = decide (x = y)
  | .a _, .a _, p, q => by have := eqv_a p q; simp [toPy, this]
  | .list _, .list _, p, q => by have := eqv_all p q; simp [toPy, this, PyData.eqv]
  | .tup _, .tup _, p, q => by have := eqv_all p q; simp [toPy, this, PyData.eqv]
  | .a x, .list _, _, _ => by cases x <;> simp [toPy, toPyA, PyData.eqv]
  | .a x, .tup _, _, _ => by cases x <;> simp [toPy, toPyA, PyData.eqv]
  | .list _, .a x, _, _ => by cases x <;> simp [toPy, toPyA, PyData.eqv]
  | .tup _, .a x, _, _ => by cases x <;> simp [toPy, toPyA, PyData.eqv]
  | .list _, .tup _, _, _ => by simp [toPy, PyData.eqv]
  | .tup _, .list _, _, _ => by simp [toPy, PyData.eqv]
  | .bytes _, _, p, _ => by cases p
  | _, .bytes _, _, p => by cases p

theorem intsAre_of {vs : List Value} {xs : List At} (p : Paired RepA vs xs) : ∀ {ns : List Int}, intsOf xs = some ns → PyProof.Rows.IntsAre vs ns := by
  induction p with
  | nil => intro ns e; cases e; exact .nil
  | @cons v x _ r f _ ih =>
    intro ns e
    cases x with
    | int i =>
      obtain ⟨t, rfl⟩ := f
      simp only [intsOf, Option.map_eq_some_iff] at e
      obtain ⟨m, hm, rfl⟩ := e
      exact .cons _ _ (ih hm)
    | _ => cases e
theorem strsAre_of {vs : List Value} {xs : List At} (p : Paired RepA vs xs) : ∀ {ns : List (List Nat)}, strsOf xs = some ns → PyProof.Rows.StrsAre vs (ns.map fun l => ⟨l.toArray⟩) := by
  induction p with
  | nil => intro ns e; cases e; exact .nil
  | @cons v x _ r f _ ih =>
    intro ns e
    cases x with
    | str i =>
      obtain ⟨t, rfl, _⟩ := f
      simp only [strsOf, Option.map_eq_some_iff] at e
      obtain ⟨m, hm, rfl⟩ := e
      exact .cons _ _ (ih hm)
    | _ => cases e
theorem str_beq (a b : List Nat) : ((⟨a.toArray⟩ : Str) == ⟨b.toArray⟩) = (a == b) := by
  by_cases h : a = b
  · subst h; simp
  · have : ¬ (⟨a.toArray⟩ : Str) = ⟨b.toArray⟩ := fun e => h (by simpa using congrArg (fun z : Str => z.cps.toList) e)
    rw [beq_eq_false_iff_ne.mpr this, beq_eq_false_iff_ne.mpr h]

theorem beq_dec (a b : List Nat) : (a == b) = decide (a = b) := by
  by_cases h : a = b <;> simp [h]
section
variable {prog : Program} {w : World} {A : Around} {s : Shared} {E : Value → Shared → Prop} {Q : Value → Shared → Prop}
theorem eqV_cases {x y : PV} {r : Bool} (e : eqV x y = some r) : (∃ a b, x = .a (.str a) ∧ y = .a (.str b) ∧ r = decide (a = b)) ∨ (x.plain = true ∧ y.plain = true ∧ r = decide (x = y)) := by
  unfold eqV at e
  split at e
  · rename_i a b ha hb
    cases e
    exact .inl ⟨a, b, pStr_inv ha, pStr_inv hb, rfl⟩
  · obtain ⟨h, rfl⟩ := if_some2 e
    obtain ⟨h1, h2⟩ := Bool.and_eq_true_iff.mp h
    exact .inr ⟨h1, h2, rfl⟩
theorem cmpop_sound {op : CmpOp} {x y : PV} {r : Bool} {v u : Value} (hx : Rep s.heap v x) (hy : Rep s.heap u y) (hu : A.units + 64 < cLine) (e : cmpop op x y = some r) (h : Q (.bool r) s) :
    wpAny (model prog w) A (compareOp op v u) Q E s := by
  cases op with
  | Eq =>
    rcases eqV_cases e with ⟨a, b, rfl, rfl, rfl⟩ | ⟨p1, p2, rfl⟩
    · obtain ⟨t, rfl, _⟩ := hx; obtain ⟨t', rfl, _⟩ := hy
      refine PySem.P.eq_str ?_
      rw [beq_dec]; exact h
    · obtain ⟨_, r1⟩ := reads_pv p1 hx
      obtain ⟨_, r2⟩ := reads_pv p2 hy
      refine PyProof.Rows.eq_dataH r1 r2 (shaped_pv p1) (shaped_pv p2) hu ?_
      rw [eqv_pv p1 p2]; exact h
  | NotEq =>
    obtain ⟨r', e', rfl⟩ := map_some2 e
    rcases eqV_cases e' with ⟨a, b, rfl, rfl, rfl⟩ | ⟨p1, p2, rfl⟩
    · obtain ⟨t, rfl, _⟩ := hx; obtain ⟨t', rfl, _⟩ := hy
      refine PySem.P.ne_str ?_
      rw [bne, beq_dec]; exact h
    · obtain ⟨_, r1⟩ := reads_pv p1 hx
      obtain ⟨_, r2⟩ := reads_pv p2 hy
      refine PyProof.Rows.ne_dataH r1 r2 (shaped_pv p1) (shaped_pv p2) hu ?_
      rw [eqv_pv p1 p2]; exact h
  | Lt =>
    obtain ⟨a, b, rfl, rfl, e⟩ := i2_inv e
    cases e; obtain ⟨t, rfl⟩ := hx; obtain ⟨t', rfl⟩ := hy
    exact PySem.P.lt_int h
  | LtE =>
    rcases or_some2 e with e | e
    · obtain ⟨a, b, rfl, rfl, e⟩ := i2_inv e
      cases e; obtain ⟨t, rfl⟩ := hx; obtain ⟨t', rfl⟩ := hy
      exact PySem.P.le_int h
    · obtain ⟨a, b, rfl, rfl, e⟩ := s2_inv e
      cases e; obtain ⟨t, rfl, _⟩ := hx; obtain ⟨t', rfl, _⟩ := hy
      refine PySem.P.le_str ?_
      simpa using h
  | Gt =>
    obtain ⟨a, b, rfl, rfl, e⟩ := i2_inv e
    cases e; obtain ⟨t, rfl⟩ := hx; obtain ⟨t', rfl⟩ := hy
    exact PySem.P.gt_int h
  | GtE =>
    obtain ⟨a, b, rfl, rfl, e⟩ := i2_inv e
    cases e; obtain ⟨t, rfl⟩ := hx; obtain ⟨t', rfl⟩ := hy
    exact PySem.P.ge_int h
  | Is =>
    have e : (if isNoneV y then (match x with
      | .a x => some (decide (x = .none))
      | .list _ => some false
      | _ => none) else none) = some r := e
    by_cases hn : isNoneV y = true
    · rw [if_pos hn] at e
      obtain rfl := isNoneV_inv hn
      cases hy
      cases x with
      | a x =>
        cases e
        cases x with
        | none => cases hx; exact wpAny_is_plain rfl h
        | bool b => cases hx; exact wpAny_is_other rfl nofun h
        | int b => obtain ⟨t, rfl⟩ := hx; exact wpAny_is_other rfl nofun h
        | str b => obtain ⟨t, rfl, _⟩ := hx; exact wpAny_is_other rfl nofun h
      | list xs =>
        cases e
        obtain ⟨a, vs, rfl, _⟩ := hx
        exact wpAny_is_other rfl nofun h
      | _ => cases e
    · rw [if_neg hn] at e; cases e
  | In =>
    have str : ∀ {y : PV}, Rep s.heap u y → s2 (fun a b => match a with
      | [c] => some (decide (c ∈ b))
      | _ => none) x y = some r → wpAny (model prog w) A (compareOp .In v u) Q E s := fun hy e => by
      obtain ⟨a, b, rfl, rfl, e⟩ := s2_inv e
      match a, e with
      | [c], e =>
        cases e; obtain ⟨t, rfl, _⟩ := hx; obtain ⟨t', rfl, _⟩ := hy
        refine PySem.P.in_str ?_
        have := StrLaws.found_one
        simp only [this]
        simpa using h
    cases y with
    | list xs =>
      obtain ⟨i, hi, e⟩ := bind_some2 (o := pInt x) e
      obtain ⟨ns, hn, rfl⟩ := map_some2 e
      obtain rfl := pInt_inv hi
      obtain ⟨t, rfl⟩ := hx
      obtain ⟨a, vs, rfl, hp, q, _⟩ := hy
      exact PyProof.Rows.in_list_ints (plain_isList hp) (intsAre_of q hn) h
    | a _ => exact str hy e
    | tup _ => exact str hy e
    | bytes _ => exact str hy e
  | NotIn =>
    obtain ⟨l, hl, e⟩ := bind_some2 (o := pStr x) e
    obtain ⟨xs, hxs, e⟩ := bind_some2 e
    obtain ⟨ns, hn, rfl⟩ := map_some2 e
    obtain rfl := pStr_inv hl
    obtain rfl := pList_inv hxs
    obtain ⟨t, rfl, _⟩ := hx
    obtain ⟨a, vs, rfl, hp, q, _⟩ := hy
    refine PyProof.Rows.notin_list_strs (plain_isList hp) (strsAre_of q hn) ?_
    rw [List.any_map]
    simp only [Function.comp_def, str_beq]
    exact h
  | _ => cases e
end
end Mine
end
section
open PySem PySem.Calls
set_option maxRecDepth 100000
namespace Mine
open Builtin.Str (occurrences strSub subAt glued tooLong strSliceIndices)

noncomputable def clip (n d : Nat) : Option Int → Nat
  | none => d
  | some i => if i < 0 then (i + n).toNat else min i.toNat n
noncomputable def pySlice {α : Type} (l : List α) (lo hi : Option Int) : List α := (l.take (clip l.length l.length hi)).drop (clip l.length 0 lo)

theorem clip_le (n : Nat) (o : Option Int) {d : Nat} (hd : d ≤ n) : clip n d o ≤ n := by
  cases o with
  | none => exact hd
  | some i => unfold clip; dsimp only; split <;> omega
noncomputable def clipI (n d : Int) : Option Int → Int
  | none => d
  | some i => max (0 : Int) (min (if i < (0 : Int) then i + n else i) n)
theorem clip_int (n d : Nat) (o : Option Int) : clipI (n : Int) (d : Int) o = ((clip n d o : Nat) : Int) := by
  cases o with
  | none => rfl
  | some i => unfold clip clipI; dsimp only; split <;> omega
theorem range_plain (a b : Nat) : sliceRange (a : Int) (b : Int) 1 = (List.range (b - a)).map (fun k => a + k) := by
  unfold sliceRange
  simp only [show ((1 : Int) > 0) = True from by simp, if_true]
  by_cases hlt : (a : Int) < b
  · have e3 : (((b : Int) - a + 1 - 1) / 1).toNat = b - a := by simp
    simp only [hlt, if_true, e3]
    refine List.map_congr_left fun k _ => ?_
    omega
  · have : b - a = 0 := by omega
    simp [hlt, this]
theorem indices_eq (lo hi : Option Int) (n : Nat) : strSliceIndices lo hi 1 n = (List.range (clip n n hi - clip n 0 lo)).map (fun k => clip n 0 lo + k) := by
  rw [← range_plain, ← clip_int, ← clip_int]
  unfold strSliceIndices
  cases lo <;> cases hi <;> simp [clipI]
theorem picks_all {α : Type} (l : List α) (a b : Nat) (hb : b ≤ l.length) : ((List.range (b - a)).map (fun k => a + k)).filterMap (l[·]?) = (l.take b).drop a := by
  by_cases h : a ≤ b
  · rw [StrLaws.picks l (b - a) a (by omega), List.drop_take]
  · have : b - a = 0 := by omega
    rw [this, List.drop_of_length_le (by rw [List.length_take]; omega)]; simp
theorem slice_str (l : List Nat) (lo hi : Option Int) : Txt.slice ⟨l.toArray⟩ lo hi = ⟨(pySlice l lo hi).toArray⟩ := by
  have e : ((strSliceIndices lo hi 1 l.length).filterMap (fun i => (l.toArray)[i]?)) = pySlice l lo hi := by
    rw [indices_eq]
    have := picks_all l (clip l.length 0 lo) (clip l.length l.length hi) (clip_le _ _ (Nat.le_refl _))
    simpa [pySlice] using this
  unfold Txt.slice
  have hl : (⟨l.toArray⟩ : Str).length = l.length := by simp [Str.length]
  rw [hl]
  split
  · rename_i h
    have h' : (strSliceIndices lo hi 1 l.length).length = l.length := by simpa using h
    rw [indices_eq] at h'
    have hc := clip_le l.length hi (Nat.le_refl l.length)
    simp at h'
    have : pySlice l lo hi = l := by
      unfold pySlice
      by_cases h0 : l.length = 0
      · have : l = [] := List.length_eq_zero_iff.mp h0
        subst this; simp
      · have h1 : clip l.length 0 lo = 0 := by omega
        have h2 : clip l.length l.length hi = l.length := by omega
        rw [h1, h2]; simp
    rw [this]
  · rw [← e]
theorem slice_list (l : List Value) (lo hi : Option Int) : slicePick l.toArray lo hi none = (pySlice l lo hi).toArray := by
  unfold slicePick
  congr 1
  have hb : (sliceBounds lo hi none l.toArray.size) = (((clip l.length 0 lo : Nat) : Int), ((clip l.length l.length hi : Nat) : Int), (1 : Int)) := by
    rw [← clip_int, ← clip_int]
    unfold sliceBounds
    cases lo <;> cases hi <;> simp [clipI]
  rw [hb]
  dsimp only
  rw [range_plain]
  have := picks_all l (clip l.length 0 lo) (clip l.length l.length hi) (clip_le _ _ (Nat.le_refl _))
  simpa [pySlice] using this
theorem pySlice_len {α : Type} (l : List α) (lo hi : Option Int) : (pySlice l lo hi).length ≤ l.length := by
  unfold pySlice; simp; omega
theorem paired_slice {vs : List Value} {xs : List At} (h : Paired RepA vs xs) (lo hi : Option Int) : Paired RepA (pySlice vs lo hi) (pySlice xs lo hi) := by
  unfold pySlice
  rw [paired_len h]
  exact paired_drop (paired_take h _) _

noncomputable def joinL (sep : List Nat) : List (List Nat) → List Nat
  | [] => []
  | [x] => x
  | x :: y :: r => x ++ (sep ++ joinL sep (y :: r))
theorem join_str (sep : List Nat) : ∀ ls : List (List Nat), Txt.join ⟨sep.toArray⟩ (ls.map fun l => ⟨l.toArray⟩) = ⟨(joinL sep ls).toArray⟩ := by
  intro ls
  show glued _ _ = _
  rw [StrLaws.glued_eq_join]
  induction ls with
  | nil => rfl
  | cons x r ih =>
    cases r with
    | nil => rfl
    | cons y r =>
      show ((⟨x.toArray⟩ : Str) ++ ⟨sep.toArray⟩ ++ Str.join ⟨sep.toArray⟩ ((y :: r).map fun l => ⟨l.toArray⟩)) = _
      rw [ih]
      show Str.mk (x.toArray ++ sep.toArray ++ (joinL sep (y :: r)).toArray) = _
      simp [joinL, List.append_assoc]
noncomputable def sumLen : List (List Nat) → Nat
  | [] => 0
  | x :: r => x.length + sumLen r
theorem joinOk_of {sep : List Nat} {ls : List (List Nat)} (h : sumLen ls + ls.length * sep.length ≤ sizeLine) : JoinOk ⟨sep.toArray⟩ (ls.map fun l => ⟨l.toArray⟩) = true := by
  unfold JoinOk
  rw [StrLaws.joinTotal]
  have e : ((ls.map fun l => (⟨l.toArray⟩ : Str)).map (·.length)).sum = sumLen ls := by
    clear h
    induction ls with
    | nil => rfl
    | cons x r ih => simp only [List.map_cons, List.sum_cons, sumLen, ih]; simp [Str.length]
  rw [e]
  simp [tooLong, Str.length]
  omega
theorem joinL_len (sep : List Nat) : ∀ ls : List (List Nat), (joinL sep ls).length ≤ sumLen ls + ls.length * sep.length
  | [] => by simp [joinL]
  | [x] => by simp [joinL, sumLen]
  | x :: y :: r => by
    have := joinL_len sep (y :: r)
    simp only [joinL, List.length_append, sumLen, List.length_cons] at *
    have e : (r.length + 1 + 1) * sep.length = (r.length + 1) * sep.length + sep.length := by rw [Nat.add_mul]; simp
    omega

noncomputable def findC (c : Nat) : List Nat → Int
  | [] => -1
  | x :: r => if x = c then 0 else (let k := findC c r; if k < 0 then -1 else k + 1)
theorem findC_spec (c : Nat) : ∀ l : List Nat, (findC c l = -1 ∧ c ∉ l) ∨ ∃ i : Nat, findC c l = i ∧ l[i]? = some c ∧ ∀ k, k < i → l[k]? ≠ some c
  | [] => .inl ⟨rfl, by simp⟩
  | x :: r => by
    by_cases h : x = c
    · exact .inr ⟨0, by simp [findC, h], by simp [h], fun k hk => absurd hk (Nat.not_lt_zero _)⟩
    · rcases findC_spec c r with ⟨e, hn⟩ | ⟨i, e, h1, h2⟩
      · refine .inl ⟨by simp [findC, h, e], ?_⟩
        simp only [List.mem_cons, not_or]
        exact ⟨fun q => h q.symm, hn⟩
      · refine .inr ⟨i + 1, ?_, by simpa using h1, ?_⟩
        · simp only [findC, h, if_false, e]
          rw [if_neg (by omega)]; rfl
        · intro k hk
          cases k with
          | zero => simpa using h
          | succ k => simpa using h2 k (by omega)
theorem find_one (l : List Nat) (c : Nat) : Txt.find ⟨l.toArray⟩ ⟨#[c]⟩ = findC c l := by
  have at_iff : ∀ i, StrLaws.At ⟨l.toArray⟩ ⟨#[c]⟩ (⟨l.toArray⟩ : Str).length i ↔ l[i]? = some c := fun i => by
    have := StrLaws.subAt_one ⟨l.toArray⟩ c i
    simpa [StrLaws.At] using this
  unfold Txt.find
  rcases StrLaws.occ_head ⟨l.toArray⟩ ⟨#[c]⟩ 1 (Nat.le_refl 1) with ⟨e, hn⟩ | ⟨i, r, e, h1, h2⟩
  · rw [e]
    rcases findC_spec c l with ⟨e', _⟩ | ⟨i, e', h1, _⟩
    · exact e'.symm
    · exact absurd ((at_iff i).mpr h1) (hn i)
  · rw [e]
    have h1' := (at_iff i).mp h1
    rcases findC_spec c l with ⟨e', hm⟩ | ⟨j, e', k1, k2⟩
    · exact absurd (List.mem_of_getElem? h1') hm
    · rw [e']
      have : i = j := by
        rcases Nat.lt_trichotomy i j with q | q | q
        · exact absurd h1' (k2 i q)
        · exact q
        · exact absurd ((at_iff j).mpr k1) (h2 j q)
      subst this; rfl

noncomputable def splitL (sep : List Nat) : Nat → List Nat → List (List Nat)
  | 0, l => [l]
  | _ + 1, [] => [[]]
  | n + 1, c :: r => if sep.isPrefixOf (c :: r) then [] :: splitL sep n ((c :: r).drop sep.length)
      else match splitL sep n r with
        | [] => [[c]]
        | h :: t => (c :: h) :: t
noncomputable def consFirst (p : List Nat) : List (List Nat) → List (List Nat)
  | [] => [p]
  | h :: t => (p ++ h) :: t
theorem splitL_ne (sep : List Nat) : ∀ n l, splitL sep n l ≠ [] := by
  intro n l
  cases n with
  | zero => simp [splitL]
  | succ n =>
    cases l with
    | nil => simp [splitL]
    | cons c r =>
      unfold splitL
      split
      · simp
      · split <;> simp
theorem splitL_skip (sep : List Nat) : ∀ (p rest : List Nat) (n : Nat), p.length ≤ n → (∀ k, k < p.length → sep.isPrefixOf ((p ++ rest).drop k) = false) →
    splitL sep n (p ++ rest) = consFirst p (splitL sep (n - p.length) rest)
  | [], rest, n, _, _ => by
    simp only [List.nil_append, List.length_nil, Nat.sub_zero]
    cases h : splitL sep n rest with
    | nil => exact absurd h (splitL_ne _ _ _)
    | cons a b => rfl
  | c :: p, rest, n, hn, hk => by
    cases n with
    | zero => simp at hn
    | succ n =>
      have h0 := hk 0 (by simp)
      simp only [List.drop_zero] at h0
      have ih := splitL_skip sep p rest n (by simpa using hn) (fun k hk' => by simpa using hk (k + 1) (by simpa using hk'))
      simp only [List.cons_append] at h0 ⊢
      rw [splitL, h0]
      simp only [Bool.false_eq_true, if_false, ih]
      have : n + 1 - (c :: p).length = n - p.length := by simp
      rw [this]
      cases h : splitL sep (n - p.length) rest with
      | nil => exact absurd h (splitL_ne _ _ _)
      | cons a b => rfl
theorem splitL_none (sep : List Nat) : ∀ (l : List Nat) (n : Nat), l.length < n → (∀ k, k < l.length → sep.isPrefixOf (l.drop k) = false) → splitL sep n l = [l] := by
  intro l n hn hk
  have := splitL_skip sep l [] n (Nat.le_of_lt hn) (by simpa using hk)
  rw [List.append_nil] at this
  rw [this]
  have : ∃ m, n - l.length = m + 1 := ⟨n - l.length - 1, by omega⟩
  obtain ⟨m, hm⟩ := this
  rw [hm]; simp [splitL, consFirst]
theorem at_prefix (l sep : List Nat) (i : Nat) (hs : sep ≠ []) : StrLaws.At ⟨l.toArray⟩ ⟨sep.toArray⟩ (⟨l.toArray⟩ : Str).length i ↔ sep.isPrefixOf (l.drop i) = true := by
  unfold StrLaws.At
  rw [StrLaws.subAt_eq]
  simp only [Str.length, List.size_toArray, beq_iff_eq, List.isPrefixOf_iff_prefix]
  constructor
  · rintro ⟨h1, h2⟩
    exact ⟨(l.drop i).drop sep.length, by
      have e := List.take_append_drop sep.length (l.drop i)
      rw [h2] at e; exact e⟩
  · rintro ⟨t, ht⟩
    refine ⟨?_, by rw [← ht]; simp⟩
    have := congrArg List.length ht
    simp at this
    have : 0 < sep.length := List.length_pos_iff.mpr hs
    omega
theorem split_chain (l sep : List Nat) (hs : sep ≠ []) : ∀ (cuts : List Nat) (a f n : Nat), StrLaws.ChainG ⟨l.toArray⟩ ⟨sep.toArray⟩ (⟨l.toArray⟩ : Str).length a cuts f → (∀ k, f ≤ k → ¬ StrLaws.At ⟨l.toArray⟩ ⟨sep.toArray⟩ (⟨l.toArray⟩ : Str).length k) → (l.drop a).length < n →
    (StrLaws.partsFrom ⟨l.toArray⟩ sep.length a cuts) = (splitL sep n (l.drop a)).map fun p => ⟨p.toArray⟩
  | [], a, f, n, hc, hf, hn => by
    have e : f = a := hc
    subst e
    rw [splitL_none sep (l.drop f) n hn fun k hk => ?_]
    · show [strSub ⟨l.toArray⟩ f l.toArray.size] = _
      rw [List.map_cons, List.map_nil]
      congr 1
      refine StrLaws.mk_of_toList ?_
      rw [StrLaws.strSub_toList]
      simp [List.take_of_length_le]
    · rw [List.drop_drop]
      have := hf (f + k) (by omega)
      rw [at_prefix l sep _ hs] at this
      exact Bool.eq_false_iff.mpr this
  | c :: r, a, f, n, ⟨h1, h2, h3, h4⟩, hf, hn => by
    have hlen : 0 < sep.length := List.length_pos_iff.mpr hs
    have h2' := (at_prefix l sep c hs).mp h2
    have hcl : c + sep.length ≤ l.length := by
      have := h2.1; simpa [Str.length] using this
    have hsplit : l.drop a = (l.drop a).take (c - a) ++ l.drop c := by
      have : l.drop c = (l.drop a).drop (c - a) := by rw [List.drop_drop]; congr 1; omega
      rw [this, List.take_append_drop]
    have hpl : ((l.drop a).take (c - a)).length = c - a := by simp; omega
    have hskip := splitL_skip sep ((l.drop a).take (c - a)) (l.drop c) n (by rw [hpl]; simp at hn; omega) (fun k hk => by
      rw [hpl] at hk
      rw [← hsplit, List.drop_drop]
      have := h3 (a + k) (by omega) (by omega)
      rw [at_prefix l sep _ hs] at this
      exact Bool.eq_false_iff.mpr this)
    rw [← hsplit, hpl] at hskip
    have hm : ∃ m, n - (c - a) = m + 1 := ⟨n - (c - a) - 1, by simp at hn; omega⟩
    obtain ⟨m, hm⟩ := hm
    rw [hm] at hskip
    have hne : ∃ x t, l.drop c = x :: t := by
      cases q : l.drop c with
      | nil => have := congrArg List.length q; simp at this; omega
      | cons x t => exact ⟨x, t, rfl⟩
    obtain ⟨x, t, hx⟩ := hne
    have hs1 : splitL sep (m + 1) (l.drop c) = [] :: splitL sep m (l.drop (c + sep.length)) := by
      rw [hx] at h2' ⊢
      rw [splitL, h2']
      simp only [if_true]
      rw [← hx, List.drop_drop]
    rw [hskip, hs1]
    have ih := split_chain l sep hs r (c + sep.length) f m (by simpa [Str.length] using h4) hf (by simp at hn ⊢; omega)
    show strSub ⟨l.toArray⟩ a c :: StrLaws.partsFrom ⟨l.toArray⟩ sep.length (c + sep.length) r = _
    rw [ih]
    simp only [consFirst, List.append_nil, List.map_cons]
    congr 1
    refine StrLaws.mk_of_toList ?_
    rw [StrLaws.strSub_toList]
theorem split_str (l sep : List Nat) (hs : sep ≠ []) (h256 : sep.all (· < 256) = true) : Txt.split ⟨l.toArray⟩ ⟨sep.toArray⟩ = (splitL sep (l.length + 1) l).map fun p => ⟨p.toArray⟩ := by
  have hk : Builtin.Str.strKind ⟨sep.toArray⟩ = 1 := by
    unfold Builtin.Str.strKind
    have : (sep.toArray.all fun x => decide (x < 256)) = true := by simpa using h256
    rw [if_pos this]
  have hk' : ¬ Builtin.Str.strKind ⟨l.toArray⟩ < 1 := by
    unfold Builtin.Str.strKind
    split
    · omega
    · split <;> omega
  have hlen : 1 ≤ (⟨sep.toArray⟩ : Str).length := by
    have := List.length_pos_iff.mpr hs
    show 1 ≤ sep.toArray.size
    rw [List.size_toArray]; exact this
  obtain ⟨f, hc, hf⟩ := StrLaws.occ_tight ⟨l.toArray⟩ ⟨sep.toArray⟩ hlen
  have main := split_chain l sep hs _ 0 f (l.length + 1) hc hf (by simp)
  rw [List.drop_zero] at main
  rw [← main]
  have hsl : (⟨sep.toArray⟩ : Str).length = sep.length := by simp [Str.length]
  unfold Txt.split
  rw [hk]
  split
  · rename_i h
    have h' : (⟨l.toArray⟩ : Str).length < (⟨sep.toArray⟩ : Str).length := by simpa [hk'] using h
    have : occurrences ⟨l.toArray⟩ ⟨sep.toArray⟩ 0 (⟨l.toArray⟩ : Str).length ((⟨l.toArray⟩ : Str).length + 1) = [] := by
      cases q : occurrences ⟨l.toArray⟩ ⟨sep.toArray⟩ 0 (⟨l.toArray⟩ : Str).length ((⟨l.toArray⟩ : Str).length + 1) with
      | nil => rfl
      | cons c r => rw [q] at hc; have := hc.2.1.1; omega
    rw [this]
    show _ = [strSub _ _ _]
    rw [StrLaws.sub_whole]
  · split
    · rename_i h
      have : occurrences ⟨l.toArray⟩ ⟨sep.toArray⟩ 0 (⟨l.toArray⟩ : Str).length ((⟨l.toArray⟩ : Str).length + 1) = [] := by simpa using h
      rw [this]
      show _ = [strSub _ _ _]
      rw [StrLaws.sub_whole]
    · rw [StrLaws.partsBetween_eq, hsl]
theorem splitL_count (sep : List Nat) (hs : sep ≠ []) : ∀ (n : Nat) (l : List Nat), (splitL sep n l).length ≤ l.length + 1
  | 0, l => by simp [splitL]
  | n + 1, [] => by simp [splitL]
  | n + 1, c :: r => by
    have hlen : 0 < sep.length := List.length_pos_iff.mpr hs
    unfold splitL
    split
    · have := splitL_count sep hs n ((c :: r).drop sep.length)
      simp at this ⊢; omega
    · have := splitL_count sep hs n r
      split
      · simp
      · rename_i h; rw [h] at this; simp at this ⊢; omega
theorem splitL_len (sep : List Nat) : ∀ (n : Nat) (l p : List Nat), p ∈ splitL sep n l → p.length ≤ l.length
  | 0, l, p, h => by simp [splitL] at h; simp [h]
  | n + 1, [], p, h => by simp [splitL] at h; simp [h]
  | n + 1, c :: r, p, h => by
    unfold splitL at h
    split at h
    · rcases List.mem_cons.mp h with rfl | h
      · simp
      · have := splitL_len sep n _ p h
        simp at this ⊢; omega
    · split at h
      · simp at h; simp [h]
      · rename_i a b q
        rcases List.mem_cons.mp h with rfl | h
        · have := splitL_len sep n r a (by rw [q]; exact .head _)
          simp at this ⊢; omega
        · have := splitL_len sep n r p (by rw [q]; exact .tail _ h)
          simp at this ⊢; omega

noncomputable def lowerC (c : Nat) : Nat := if 65 ≤ c ∧ c ≤ 90 then c + 32 else c
theorem lower_one : ∀ c, c < 128 → (Txt.lower ⟨#[c]⟩).cps = #[lowerC c] := by decide +kernel
end Mine
end
section
open PySem PySem.Calls
set_option maxRecDepth 100000
namespace Mine
open Builtin.Str (occurrences strSub subAt glued tooLong strSliceIndices)

noncomputable def minL : List Int → Option Int
  | [] => none
  | x :: r => some (match minL r with | none => x | some y => if y < x then y else x)
noncomputable def maxL : List Int → Option Int
  | [] => none
  | x :: r => some (match maxL r with | none => x | some y => if x < y then y else x)
theorem minL_of : ∀ {ns : List Int} {k m : Int}, minL ns = some k → m ∈ ns → (∀ a ∈ ns, m ≤ a) → m = k := by
  have key : ∀ {ns : List Int} {k : Int}, minL ns = some k → k ∈ ns ∧ ∀ a ∈ ns, k ≤ a := by
    intro ns
    induction ns with
    | nil => intro k e; cases e
    | cons x r ih =>
      intro k e
      unfold minL at e
      cases h : minL r with
      | none =>
        rw [h] at e; cases e
        have : r = [] := by cases r with
          | nil => rfl
          | cons a b => simp [minL] at h
        subst this; simp
      | some y =>
        rw [h] at e; cases e
        obtain ⟨h1, h2⟩ := ih h
        dsimp only
        split
        · rename_i hlt
          refine ⟨.tail _ h1, fun a ha => ?_⟩
          rcases List.mem_cons.mp ha with rfl | ha
          · omega
          · exact h2 a ha
        · rename_i hlt
          refine ⟨.head _, fun a ha => ?_⟩
          rcases List.mem_cons.mp ha with rfl | ha
          · omega
          · have := h2 a ha; omega
  intro ns k m e h1 h2
  obtain ⟨k1, k2⟩ := key e
  have := h2 k k1
  have := k2 m h1
  omega
theorem maxL_of : ∀ {ns : List Int} {k m : Int}, maxL ns = some k → m ∈ ns → (∀ a ∈ ns, a ≤ m) → m = k := by
  have key : ∀ {ns : List Int} {k : Int}, maxL ns = some k → k ∈ ns ∧ ∀ a ∈ ns, a ≤ k := by
    intro ns
    induction ns with
    | nil => intro k e; cases e
    | cons x r ih =>
      intro k e
      unfold maxL at e
      cases h : maxL r with
      | none =>
        rw [h] at e; cases e
        have : r = [] := by cases r with
          | nil => rfl
          | cons a b => simp [maxL] at h
        subst this; simp
      | some y =>
        rw [h] at e; cases e
        obtain ⟨h1, h2⟩ := ih h
        dsimp only
        split
        · rename_i hlt
          refine ⟨.tail _ h1, fun a ha => ?_⟩
          rcases List.mem_cons.mp ha with rfl | ha
          · omega
          · exact h2 a ha
        · rename_i hlt
          refine ⟨.head _, fun a ha => ?_⟩
          rcases List.mem_cons.mp ha with rfl | ha
          · omega
          · have := h2 a ha; omega
  intro ns k m e h1 h2
  obtain ⟨k1, k2⟩ := key e
  have := h2 k k1
  have := k2 m h1
  omega

noncomputable def textInt (i : Int) : List Nat := (Str.ofString (toString i)).cps.toList
inductive BI where | len | ord | str | min | max | sum | bytes
  deriving DecidableEq
noncomputable def byteOk (n : Int) : Bool := decide (0 ≤ n) && decide (n < 256)
noncomputable def arg1 {β : Type} (f : PV → Option β) (args : List PV) : Option β := match args with
  | [x] => f x
  | _ => none
theorem arg1_inv {β : Type} {f : PV → Option β} {args : List PV} {r : β} (h : arg1 f args = some r) : ∃ x, args = [x] ∧ f x = some r := by
  match args, h with
  | [x], h => exact ⟨x, rfl, h⟩
noncomputable def oneOf (l : List Nat) : Option Nat := match l with
  | [c] => some c
  | _ => none
theorem oneOf_inv {l : List Nat} {c : Nat} (h : oneOf l = some c) : l = [c] := by
  match l, h with
  | [x], h => cases h; rfl
noncomputable def bi (f : BI) (args : List PV) : Option PV := arg1 (fun x => match f with
  | .len => match x with
    | .list xs => some (.a (.int xs.length))
    | _ => (pStr x).map fun l => .a (.int l.length)
  | .ord => (pStr x).bind fun l => (oneOf l).map fun c : Nat => .a (.int (c : Int))
  | .str => (pInt x).bind fun i => if i.natAbs < 2 ^ 64 ∧ (textInt i).length ≤ sizeLine then some (.a (.str (textInt i))) else none
  | .min => (pList x).bind fun xs => (intsOf xs).bind fun ns => (minL ns).map fun k => .a (.int k)
  | .max => (pList x).bind fun xs => (intsOf xs).bind fun ns => (maxL ns).map fun k => .a (.int k)
  | .sum => (pList x).bind fun xs => (intsOf xs).map fun ns => .a (.int ns.sum)
  | .bytes => (pList x).bind fun xs => (intsOf xs).bind fun ns => if ns.all byteOk then some (.bytes (ns.map fun n => n.toNat.toUInt8)) else none) args
noncomputable def biVal : BI → Value
  | .len => .builtin "len" | .ord => .builtin "ord" | .str => .type "str" | .min => .builtin "min" | .max => .builtin "max" | .sum => .builtin "sum" | .bytes => .type "bytes"

section
variable {prog : Program} {w : World} {A : Around} {s : Shared}
theorem keeps_of {h' : Heap} {tk : Nat} (hk : ∀ b o, s.heap.get? b = some o → h'.get? b = some o) : Keeps s { s with heap := h', toks := tk } := ⟨h', tk, rfl, hk⟩

theorem paired0 {α β : Type} {F : α → β → Prop} {vs : List α} (h : Paired F vs []) : vs = [] := by cases h; rfl
theorem paired1 {α β : Type} {F : α → β → Prop} {vs : List α} {x : β} (h : Paired F vs [x]) : ∃ v, vs = [v] ∧ F v x := by
  cases h with
  | cons h t => cases t; exact ⟨_, rfl, h⟩
theorem min_sound {l : Addr} {vs : List Value} {ns : List Int} {k : Int} {fr : Bool} (hh : A.handled = none) (hl : s.heap.IsList l vs.toArray) (hi : PyProof.Rows.IntsAre vs ns) (e : minL ns = some k) :
    Ev prog w A (call (.builtin "min") [.ref l]) s fr (.a (.int k)) := by
  have hne : 0 < ns.length := by cases ns with
    | nil => cases e
    | cons a b => simp
  obtain ⟨xs, ex⟩ := hi.allInts.items
  have hns : ns = xs.toList.map (·.1) := by rw [← hi.numsOf, ← nums_intItems, ← ex]
  have hsz : 0 < xs.size := by
    have h3 := hne; rw [hns, List.length_map, Array.length_toList] at h3; exact h3
  rw [ex] at hl
  refine min_intList hh hl hsz fun v h' tk hv hk => ?_
  obtain ⟨t, rfl⟩ := intItems_at hv
  obtain ⟨h1, h2⟩ := argBest_lt (numAt xs) (xs.size - 1)
  refine end_atom (keeps_of hk) ⟨t, ?_⟩
  rw [minL_of e (m := numAt xs (argBest (fun i j => decide (numAt xs i < numAt xs j)) (xs.size - 1))) ?_ ?_]
  · rw [hns, numAt_eq]; exact getD_mem (by rw [List.length_map, Array.length_toList]; omega)
  · intro a ha
    rw [hns] at ha
    obtain ⟨j, hj, rfl⟩ := mem_getD ha
    rw [List.length_map, Array.length_toList] at hj
    rw [← numAt_eq]; exact h2 j (by omega)
theorem max_sound {l : Addr} {vs : List Value} {ns : List Int} {k : Int} {fr : Bool} (hh : A.handled = none) (hl : s.heap.IsList l vs.toArray) (hi : PyProof.Rows.IntsAre vs ns) (e : maxL ns = some k) :
    Ev prog w A (call (.builtin "max") [.ref l]) s fr (.a (.int k)) := by
  have hne : 0 < ns.length := by cases ns with
    | nil => cases e
    | cons a b => simp
  obtain ⟨xs, ex⟩ := hi.allInts.items
  have hns : ns = xs.toList.map (·.1) := by rw [← hi.numsOf, ← nums_intItems, ← ex]
  have hsz : 0 < xs.size := by
    have h3 := hne; rw [hns, List.length_map, Array.length_toList] at h3; exact h3
  rw [ex] at hl
  refine max_intList hh hl hsz fun v h' tk hv hk => ?_
  obtain ⟨t, rfl⟩ := intItems_at hv
  obtain ⟨h1, h2⟩ := argBest_gt (numAt xs) (xs.size - 1)
  refine end_atom (keeps_of hk) ⟨t, ?_⟩
  rw [maxL_of e (m := numAt xs (argBest (fun i j => decide (numAt xs i > numAt xs j)) (xs.size - 1))) ?_ ?_]
  · rw [hns, numAt_eq]; exact getD_mem (by rw [List.length_map, Array.length_toList]; omega)
  · intro a ha
    rw [hns] at ha
    obtain ⟨j, hj, rfl⟩ := mem_getD ha
    rw [List.length_map, Array.length_toList] at hj
    rw [← numAt_eq]; exact h2 j (by omega)
theorem sum_sound {l : Addr} {vs : List Value} {ns : List Int} {fr : Bool} (hh : A.handled = none) (hl : s.heap.IsList l vs.toArray) (hi : PyProof.Rows.IntsAre vs ns) :
    Ev prog w A (call (.builtin "sum") [.ref l]) s fr (.a (.int ns.sum)) := by
  obtain ⟨xs, ex⟩ := hi.allInts.items
  have hns : ns = xs.toList.map (·.1) := by rw [← hi.numsOf, ← nums_intItems, ← ex]
  rw [ex] at hl
  refine sum_intListG hh hl fun h' tk t' hk => ?_
  refine end_atom (keeps_of hk) ⟨t', ?_⟩
  rw [preSum_eq, List.take_of_length_le (by simp), hns]

theorem bi_sound {f : BI} {args : List PV} {vals : List Value} {r : PV} {fr : Bool} (hh : A.handled = none) (ha : Paired (fun v x => Rep s.heap v x) vals args) (e : bi f args = some r) :
    Ev prog w A (call (biVal f) vals) s fr r := by
  obtain ⟨x, rfl, e⟩ := arg1_inv e
  obtain ⟨v, rfl, h1⟩ := paired1 ha
  have asList : ∀ {o : List At → Option PV}, (pList x).bind o = some r → ∃ a vs xs, x = .list xs ∧ v = .ref a ∧ s.heap.PlainList a vs.toArray ∧ Paired RepA vs xs ∧ vs.length ≤ sizeLine ∧ o xs = some r := fun e => by
    obtain ⟨xs, hx, e⟩ := bind_some2 e
    obtain rfl := pList_inv hx
    obtain ⟨a, vs, rfl, hp, p, hl⟩ := h1
    exact ⟨a, vs, xs, rfl, rfl, hp, p, hl, e⟩
  cases f with
  | len =>
    have str : (pStr x).map (fun l => PV.a (.int l.length)) = some r → Ev prog w A (call (biVal .len) [v]) s fr r := fun e => by
      obtain ⟨l, hx, rfl⟩ := map_some2 e
      obtain rfl := pStr_inv hx
      obtain ⟨t, rfl, hl⟩ := h1
      refine PySem.P.len_str ?_ (end_atom (keeps_tok _ _) ⟨s.toks + 1, rfl⟩)
      simp [Str.length]; rw [sizeLine_eq] at hl; omega
    cases x with
    | list xs =>
      cases e
      obtain ⟨a, vs, rfl, hp, p, hl⟩ := h1
      refine PySem.Calls.call_len_list (plain_isList hp) ?_ (end_atom (keeps_tok _ _) ⟨s.toks + 1, ?_⟩)
      · simp; rw [sizeLine_eq] at hl; omega
      · rw [← paired_len p]; rfl
    | a _ => exact str e
    | tup _ => exact str e
    | bytes _ => exact str e
  | ord =>
    obtain ⟨l, hx, e⟩ := bind_some2 (o := pStr x) e
    obtain ⟨c, hc, rfl⟩ := map_some2 e
    obtain rfl := pStr_inv hx
    obtain rfl := oneOf_inv hc
    obtain ⟨t, rfl, hl⟩ := h1
    exact PySem.P.ord_of_char (end_atom (keeps_tok _ _) ⟨_, rfl⟩)
  | str =>
    obtain ⟨i, hx, e⟩ := bind_some2 (o := pInt x) e
    obtain ⟨hm, rfl⟩ := if_some2 e
    obtain rfl := pInt_inv hx
    obtain ⟨t, rfl⟩ := h1
    refine PySem.P.str_of_int ?_ (end_atom (keeps_tok _ _) ⟨_, rfl, hm.2⟩)
    have := log2_lt_of hm.1 (by decide)
    omega
  | min =>
    obtain ⟨a, vs, xs, rfl, rfl, hp, p, hl, e⟩ := asList e
    obtain ⟨ns, hn, e⟩ := bind_some2 e
    obtain ⟨k, hk, rfl⟩ := map_some2 e
    exact min_sound hh (plain_isList hp) (intsAre_of p hn) hk
  | max =>
    obtain ⟨a, vs, xs, rfl, rfl, hp, p, hl, e⟩ := asList e
    obtain ⟨ns, hn, e⟩ := bind_some2 e
    obtain ⟨k, hk, rfl⟩ := map_some2 e
    exact max_sound hh (plain_isList hp) (intsAre_of p hn) hk
  | sum =>
    obtain ⟨a, vs, xs, rfl, rfl, hp, p, hl, e⟩ := asList e
    obtain ⟨ns, hn, rfl⟩ := map_some2 e
    exact sum_sound hh (plain_isList hp) (intsAre_of p hn)
  | bytes =>
    obtain ⟨a, vs, xs, rfl, rfl, hp, p, hl, e⟩ := asList e
    obtain ⟨ns, hn, e⟩ := bind_some2 e
    obtain ⟨hb, rfl⟩ := if_some2 e
    refine PySem.call_bytes_ints (plain_isList hp) (intsAre_of p hn) (fun n hm => ?_) hl hh fun h' t k hk => ⟨keeps_of hk, ⟨t, rfl⟩, fun _ a e => nomatch e⟩
    obtain ⟨h1, h2⟩ := Bool.and_eq_true_iff.mp (List.all_eq_true.mp hb n hm)
    exact ⟨of_decide_eq_true h1, of_decide_eq_true h2⟩
end
end Mine
end
section
open PySem PySem.Calls
set_option maxRecDepth 100000
namespace Mine
open Builtin.Str (occurrences strSub subAt glued tooLong strSliceIndices partsBetween)

inductive ME where | split | find | join | lower | count | index
  deriving DecidableEq
noncomputable def meName : ME → Str
  | .split => Str.ofString "split" | .find => Str.ofString "find" | .join => Str.ofString "join" | .lower => Str.ofString "lower" | .count => Str.ofString "count" | .index => Str.ofString "index"
noncomputable def meT : ME → String
  | .split | .find | .join | .lower => "str"
  | .count | .index => "list"
noncomputable def meId : ME → String
  | .split => "str.split" | .find => "str.find" | .join => "str.join" | .lower => "str.lower" | .count => "list.count" | .index => "list.index"
noncomputable def boolsOf : List At → Option (List Bool)
  | [] => some []
  | .bool i :: r => (boolsOf r).map (i :: ·)
  | _ :: _ => none
noncomputable def arg0 {β : Type} (o : Option β) (args : List PV) : Option β := match args with
  | [] => o
  | _ => none
theorem arg0_inv {β : Type} {o : Option β} {args : List PV} {r : β} (h : arg0 o args = some r) : args = [] ∧ o = some r := by
  match args, h with
  | [], h => exact ⟨rfl, h⟩
noncomputable def pBool (x : PV) : Option Bool := match x with
  | .a y => match y with
    | .bool b => some b
    | _ => none
  | _ => none
theorem pBool_inv {x : PV} {b : Bool} (h : pBool x = some b) : x = .a (.bool b) := by
  cases x with
  | a y => cases y <;> first | (cases h; done) | (cases h; rfl)
  | _ => cases h
noncomputable def me (m : ME) (x : PV) (args : List PV) : Option PV := match m with
  | .split => (pStr x).bind fun l => arg1 (fun y => (pStr y).bind fun sep => if sep ≠ [] ∧ sep.all (· < 256) = true ∧ l.length < sizeLine then some (.list ((splitL sep (l.length + 1) l).map .str)) else none) args
  | .find => (pStr x).bind fun l => arg1 (fun y => (pStr y).bind fun q => (oneOf q).map fun c => .a (.int (findC c l))) args
  | .join => (pStr x).bind fun sep => arg1 (fun y => (pList y).bind fun xs => (strsOf xs).bind fun ls => if sumLen ls + ls.length * sep.length ≤ sizeLine then some (.a (.str (joinL sep ls))) else none) args
  | .lower => (pStr x).bind fun q => (oneOf q).bind fun c => arg0 (if c < 128 then some (.a (.str [lowerC c])) else none) args
  | .count => (pList x).bind fun xs => arg1 (fun y => match pBool y with
    | some b => (boolsOf xs).map fun bs => .a (.int (bs.countP (· == b) : Nat))
    | none => (pStr y).bind fun l => (strsOf xs).map fun ss => .a (.int (ss.countP (· == l) : Nat))) args
  | .index => (pList x).bind fun xs => arg1 (fun y => (pStr y).bind fun l => (strsOf xs).bind fun ss => if l ∈ ss then some (.a (.int (ss.idxOf l : Nat))) else none) args
noncomputable def meRecv (m : ME) (x : PV) : Bool := match m with
  | .count => (pList x).isSome
  | .index => (pList x).isSome
  | _ => (pStr x).isSome
theorem bind_isSome {α β : Type} {o : Option α} {f : α → Option β} {r : β} (h : o.bind f = some r) : o.isSome = true := by
  obtain ⟨a, ha, _⟩ := bind_some2 h
  rw [ha]; rfl
theorem me_recv {m : ME} {x : PV} {args : List PV} {r : PV} (e : me m x args = some r) : meRecv m x = true := by
  cases m <;> exact bind_isSome e

theorem me_plain (m : ME) : PlainAttrs (meT m) := by cases m <;> first | exact PySem.F.plainAttrs_str | exact PySem.F.plainAttrs_list
theorem me_slot (m : ME) : Slot (meT m) (meName m) (meId m) := by
  cases m
  · exact PySem.F.slot_str_split
  · exact PySem.F.slot_str_find
  · exact PySem.F.slot_str_join
  · exact PySem.F.slot_str_lower
  · exact PySem.F.slot_list_count
  · exact PySem.F.slot_list_index
theorem me_type (m : ME) : typeOf (.builtin (meId m)) = pure (.type "method_descriptor") := by
  cases m
  · exact PySem.F.type_str_split
  · exact PySem.F.type_str_find
  · exact PySem.F.type_str_join
  · exact PySem.F.type_str_lower
  · exact PySem.F.type_list_count
  · exact PySem.F.type_list_index

theorem paired_strs (ls : List (List Nat)) (hz : ∀ l ∈ ls, l.length ≤ sizeLine) : ∀ tk, Paired RepA (strsFrom tk (ls.map fun l => ⟨l.toArray⟩)) (ls.map .str) := by
  induction ls with
  | nil => intro tk; exact .nil
  | cons x r ih => intro tk; exact .cons ⟨tk, rfl, hz x (.head _)⟩ (ih (fun l hl => hz l (.tail _ hl)) _)
theorem strsFrom_len : ∀ (tk : Nat) (xs : List Str), (strsFrom tk xs).length = xs.length
  | _, [] => rfl
  | tk, x :: r => by simp [strsFrom, strsFrom_len (tk + 1) r]
theorem strPairs {vs : List Value} {xs : List At} (p : Paired RepA vs xs) : ∀ {ls : List (List Nat)}, strsOf xs = some ls → ∃ l : List (Str × Tok), vs = strValues l ∧ l.map (·.1) = ls.map fun l => ⟨l.toArray⟩ := by
  induction p with
  | nil => intro ns e; cases e; exact ⟨[], rfl, rfl⟩
  | @cons v x _ r f _ ih =>
    intro ns e
    cases x with
    | str i =>
      obtain ⟨t, rfl, _⟩ := f
      simp only [strsOf, Option.map_eq_some_iff] at e
      obtain ⟨m, hm, rfl⟩ := e
      obtain ⟨l, h1, h2⟩ := ih hm
      exact ⟨(⟨i.toArray⟩, t) :: l, by rw [h1]; rfl, by simp [h2]⟩
    | _ => cases e
theorem countP_strs {vs : List Value} {xs : List At} (p : Paired RepA vs xs) (k : List Nat) : ∀ {ls : List (List Nat)}, strsOf xs = some ls → vs.countP (PyProof.Rows.isStrOf ⟨k.toArray⟩) = ls.countP (· == k) := by
  induction p with
  | nil => intro ns e; cases e; rfl
  | @cons v x _ r f _ ih =>
    intro ns e
    cases x with
    | str i =>
      obtain ⟨t, rfl, _⟩ := f
      simp only [strsOf, Option.map_eq_some_iff] at e
      obtain ⟨m, hm, rfl⟩ := e
      rw [List.countP_cons, List.countP_cons, ih hm]
      simp only [PyProof.Rows.isStrOf, str_beq]
    | _ => cases e
theorem isStr_at {vs : List Value} {xs : List At} (p : Paired RepA vs xs) (k : List Nat) : ∀ {ls : List (List Nat)}, strsOf xs = some ls → ∀ (j : Nat) (v : Value), vs[j]? = some v → ∃ l, ls[j]? = some l ∧ PyProof.Rows.isStrOf ⟨k.toArray⟩ v = (l == k) := by
  induction p with
  | nil => intro ns e j v h; simp at h
  | @cons v x _ r f _ ih =>
    intro ns e j u hu
    cases x with
    | str i =>
      obtain ⟨t, rfl, _⟩ := f
      simp only [strsOf, Option.map_eq_some_iff] at e
      obtain ⟨m, hm, rfl⟩ := e
      cases j with
      | zero => simp at hu; subst hu; exact ⟨i, by simp, by simp only [PyProof.Rows.isStrOf, str_beq]⟩
      | succ j => simpa using ih hm j u (by simpa using hu)
    | _ => cases e
theorem strsOf_len : ∀ {xs : List At} {ls : List (List Nat)}, strsOf xs = some ls → ls.length = xs.length
  | [], _, e => by cases e; rfl
  | .str i :: r, _, e => by
    simp only [strsOf, Option.map_eq_some_iff] at e
    obtain ⟨m, hm, rfl⟩ := e
    simp [strsOf_len hm]
  | .none :: _, _, e => by cases e
  | .bool _ :: _, _, e => by cases e
  | .int _ :: _, _, e => by cases e
theorem bools_eq {vs : List Value} {xs : List At} (p : Paired RepA vs xs) (k : Bool) : ∀ {bs : List Bool}, boolsOf xs = some bs → vs.countP (PyProof.Rows.isBoolOf k) = bs.countP (· == k) ∧ ∀ y ∈ vs, ∀ (A : Around) (s : Shared), SeqAt.EqAt A s y (.bool k) (PyProof.Rows.isBoolOf k y) := by
  induction p with
  | nil => intro ns e; cases e; exact ⟨rfl, fun y hy => nomatch hy⟩
  | @cons v x _ r f _ ih =>
    intro ns e
    cases x with
    | bool i =>
      cases f
      simp only [boolsOf, Option.map_eq_some_iff] at e
      obtain ⟨m, hm, rfl⟩ := e
      obtain ⟨h1, h2⟩ := ih hm
      refine ⟨?_, fun y hy A s => ?_⟩
      · rw [List.countP_cons, List.countP_cons, h1]; simp only [PyProof.Rows.isBoolOf]; rfl
      · rcases List.mem_cons.mp hy with rfl | hy
        · exact SeqAt.EqAt.bool_bool i k
        · exact h2 y hy A s
    | _ => cases e

theorem before_idx {k : List Nat} : ∀ {ns : List (List Nat)} {j : Nat}, j < ns.idxOf k → ∀ (h2 : j < ns.length), (ns[j] == k) = false
  | [], _, h, _ => by simp at h
  | n :: r, 0, h, _ => by
    by_cases e : n = k
    · subst e; simp at h
    · simpa using e
  | n :: r, j + 1, h, h2 => by
    by_cases e : n = k
    · subst e; simp at h
    · rw [List.idxOf_cons] at h
      have : (n == k) = false := by simpa using e
      simp only [this, cond_false] at h
      simpa using before_idx (ns := r) (j := j) (by simpa using h) (by simpa using h2)
section
variable {prog : Program} {w : World} {A : Around} {s : Shared}
theorem split_sound {l sep : List Nat} {t u : Tok} {fr : Bool} (hs : sep ≠ []) (h256 : sep.all (· < 256) = true) (hl' : l.length < sizeLine) :
    Ev prog w A (call (.builtin "str.split") [.str ⟨l.toArray⟩ t, .str ⟨sep.toArray⟩ u]) s fr (.list ((splitL sep (l.length + 1) l).map .str)) := by
  have hl : l.length ≤ sizeLine := Nat.le_of_lt hl'
  have key := split_str l sep hs h256
  have hy : ((⟨sep.toArray⟩ : Str).length == 0) = false := by
    have := List.length_pos_iff.mpr hs
    simp [Str.length, hs]
  have hcount : (splitL sep (l.length + 1) l).length ≤ sizeLine := Nat.le_trans (splitL_count sep hs _ _) (by omega)
  have hz : ∀ p ∈ splitL sep (l.length + 1) l, p.length ≤ sizeLine := fun p hp => Nat.le_trans (splitL_len sep _ _ _ hp) hl
  have one : ∀ {tk : Tok}, (splitL sep (l.length + 1) l).map (fun p => (⟨p.toArray⟩ : Str)) = [⟨l.toArray⟩] → Paired RepA [Value.str ⟨l.toArray⟩ tk] ((splitL sep (l.length + 1) l).map .str) := by
    intro tk e
    cases q : splitL sep (l.length + 1) l with
    | nil => rw [q] at e; cases e
    | cons a b =>
      rw [q] at e
      cases b with
      | nil =>
        simp only [List.map_cons, List.map_nil, List.cons.injEq, and_true] at e
        have : a = l := by simpa using congrArg (fun z : Str => z.cps.toList) e
        subst this
        exact .cons ⟨tk, rfl, hl⟩ .nil
      | cons c d => simp at e
  have onelen : (1 : Nat) ≤ sizeLine := by rw [sizeLine_eq]; omega
  unfold Txt.split at key
  cases h1 : (decide ((⟨l.toArray⟩ : Str).length < (⟨sep.toArray⟩ : Str).length) || decide (Builtin.Str.strKind ⟨l.toArray⟩ < Builtin.Str.strKind ⟨sep.toArray⟩))
  · rw [h1] at key
    simp only [Bool.false_eq_true, if_false] at key
    cases hf : (occurrences ⟨l.toArray⟩ ⟨sep.toArray⟩ 0 (⟨l.toArray⟩ : Str).length ((⟨l.toArray⟩ : Str).length + 1)).isEmpty
    · rw [hf] at key
      simp only [Bool.false_eq_true, if_false] at key
      have hn : (partsBetween ⟨l.toArray⟩ (occurrences ⟨l.toArray⟩ ⟨sep.toArray⟩ 0 (⟨l.toArray⟩ : Str).length ((⟨l.toArray⟩ : Str).length + 1)) (⟨sep.toArray⟩ : Str).length).length ≤ sizeLine := by
        rw [key, List.length_map]
        exact hcount
      refine call_meets F.slot_str_split (typeIs_str _ _ _) F.entry_str_split (F.args_str_split_2 _ _) (meets_str_split_sep ⟨l.toArray⟩ ⟨sep.toArray⟩ t u h1 hy hf (by simpa [Str.length] using hl) hn) ?_
      rw [key]
      have hlen : (strsFrom s.toks ((splitL sep (l.length + 1) l).map fun p => (⟨p.toArray⟩ : Str))).length ≤ sizeLine := by
        rw [strsFrom_len, ← key]; exact hn
      exact end_new _ rfl (paired_strs _ hz _) hlen
    · rw [hf] at key
      simp only [if_true] at key
      exact call_meets F.slot_str_split (typeIs_str _ _ _) F.entry_str_split (F.args_str_split_2 _ _) (meets_str_split_not_found ⟨l.toArray⟩ ⟨sep.toArray⟩ t u h1 hy hf)
        (end_new s.toks rfl (one key.symm) onelen)
  · rw [h1] at key
    simp only [if_true] at key
    exact call_meets F.slot_str_split (typeIs_str _ _ _) F.entry_str_split (F.args_str_split_2 _ _) (meets_str_split_cannot_occur ⟨l.toArray⟩ ⟨sep.toArray⟩ t u h1)
      (end_new s.toks rfl (one key.symm) onelen)

theorem paired2 {α β : Type} {F : α → β → Prop} {vs : List α} {x y : β} (h : Paired F vs [x, y]) : ∃ v u, vs = [v, u] ∧ F v x ∧ F u y := by
  cases h with
  | cons h t => obtain ⟨u, rfl, h2⟩ := paired1 t; exact ⟨_, u, rfl, h, h2⟩

theorem me_sound {m : ME} {x : PV} {v : Value} {args : List PV} {vals : List Value} {r : PV} {fr : Bool} (hx : Rep s.heap v x) (ha : Paired (fun v x => Rep s.heap v x) vals args) (e : me m x args = some r) :
    Ev prog w A (call (.builtin (meId m)) (v :: vals)) s fr r := by
  have asStr1 : ∀ {o : List Nat → PV → Option PV}, (pStr x).bind (fun l => arg1 (o l) args) = some r → ∃ t l u y, x = .a (.str l) ∧ v = .str ⟨l.toArray⟩ t ∧ vals = [u] ∧ Rep s.heap u y ∧ o l y = some r := fun e => by
    obtain ⟨l, hl, e⟩ := bind_some2 e
    obtain ⟨y, rfl, e⟩ := arg1_inv e
    obtain rfl := pStr_inv hl
    obtain ⟨t, rfl, h1⟩ := hx
    obtain ⟨u, rfl, h2⟩ := paired1 ha
    exact ⟨t, l, u, y, rfl, rfl, rfl, h2, e⟩
  have asList1 : ∀ {o : List At → PV → Option PV}, (pList x).bind (fun xs => arg1 (o xs) args) = some r → ∃ a vs n xs u y, x = .list xs ∧ v = .ref a ∧ s.heap.get? a = some { cls := .type "list", data := .seq vs.toArray n } ∧ Paired RepA vs xs ∧ vs.length ≤ sizeLine ∧ vals = [u] ∧ Rep s.heap u y ∧ o xs y = some r := fun e => by
    obtain ⟨xs, hl, e⟩ := bind_some2 e
    obtain ⟨y, rfl, e⟩ := arg1_inv e
    obtain rfl := pList_inv hl
    obtain ⟨a, vs, rfl, ⟨n, hp⟩, p, hl⟩ := hx
    obtain ⟨u, rfl, h2⟩ := paired1 ha
    exact ⟨a, vs, n, xs, u, y, rfl, rfl, hp, p, hl, rfl, h2, e⟩
  cases m with
  | split =>
    obtain ⟨t, l, u, y, rfl, rfl, rfl, h2, e⟩ := asStr1 e
    obtain ⟨sep, hs, e⟩ := bind_some2 e
    obtain ⟨hm, rfl⟩ := if_some2 e
    obtain rfl := pStr_inv hs
    obtain ⟨t', rfl, h3⟩ := h2
    exact split_sound hm.1 hm.2.1 hm.2.2
  | find =>
    obtain ⟨t, l, u, y, rfl, rfl, rfl, h2, e⟩ := asStr1 e
    obtain ⟨sep, hs, e⟩ := bind_some2 e
    obtain ⟨c, hc, rfl⟩ := map_some2 e
    obtain rfl := pStr_inv hs
    obtain rfl := oneOf_inv hc
    obtain ⟨t', rfl, h3⟩ := h2
    refine SC.find (end_atom (keeps_tok _ _) ⟨s.toks, ?_⟩)
    rw [find_one]
  | join =>
    obtain ⟨t, l, u, y, rfl, rfl, rfl, h2, e⟩ := asStr1 e
    obtain ⟨xs, hxs, e⟩ := bind_some2 e
    obtain ⟨ls, hn, e⟩ := bind_some2 e
    obtain ⟨hm, rfl⟩ := if_some2 e
    obtain rfl := pList_inv hxs
    obtain ⟨a, vs, rfl, hp, p, hl⟩ := h2
    obtain ⟨l, rfl, hl2⟩ := strPairs p hn
    refine SC.join (plain_isList hp) hl2 (joinOk_of hm) fun t' k => end_atom (keeps_tok _ _) ⟨t', ?_, ?_⟩
    · rw [join_str]
    · exact Nat.le_trans (joinL_len _ _) hm
  | lower =>
    obtain ⟨q, hq, e⟩ := bind_some2 (o := pStr x) e
    obtain ⟨c, hc, e⟩ := bind_some2 e
    obtain ⟨rfl, e⟩ := arg0_inv e
    obtain ⟨hm, rfl⟩ := if_some2 e
    obtain rfl := pStr_inv hq
    obtain rfl := oneOf_inv hc
    obtain ⟨t, rfl, h1⟩ := hx
    cases paired0 ha
    have hcl : Txt.lower ⟨[c].toArray⟩ = ⟨#[lowerC c]⟩ := Str.ext' (lower_one c hm)
    refine SC.lower ?_ (end_atom (keeps_tok _ _) ⟨s.toks, ?_, ?_⟩)
    · rw [hcl]; rfl
    · rw [hcl]
    · rw [sizeLine_eq]; exact Nat.le_of_ble_eq_true rfl
  | count =>
    obtain ⟨a, vs, n, xs, u, y, rfl, rfl, hp, p, hl, rfl, h2, e⟩ := asList1 e
    cases hb : pBool y with
    | some b =>
      have e : (match pBool y with
        | some b => (boolsOf xs).map fun bs => PV.a (.int (bs.countP (· == b) : Nat))
        | none => (pStr y).bind fun l => (strsOf xs).map fun ss => .a (.int (ss.countP (· == l) : Nat))) = some r := e
      rw [hb] at e
      obtain ⟨bs, hn, rfl⟩ := map_some2 e
      obtain rfl := pBool_inv hb
      cases h2
      obtain ⟨h1, h2⟩ := bools_eq p b hn
      refine call_meets PySem.F.slot_list_count ⟨_, hp, rfl⟩ PySem.F.entry_list_count (PySem.F.args_list_count_2 _ _) (SeqAt.list_countAt a vs.toArray n none #[] (.bool b) (PyProof.Rows.isBoolOf b)) ⟨hp, fun y hy => h2 y (by simpa using hy) _ _, ?_⟩
      rw [show vs.toArray.toList = vs from rfl, h1]
      exact end_atom (keeps_tok _ _) ⟨_, rfl⟩
    | none =>
      have e : (match pBool y with
        | some b => (boolsOf xs).map fun bs => PV.a (.int (bs.countP (· == b) : Nat))
        | none => (pStr y).bind fun l => (strsOf xs).map fun ss => .a (.int (ss.countP (· == l) : Nat))) = some r := e
      rw [hb] at e
      obtain ⟨k, hk, e⟩ := bind_some2 e
      obtain ⟨bs, hn, rfl⟩ := map_some2 e
      obtain rfl := pStr_inv hk
      obtain ⟨t', rfl, h3⟩ := h2
      refine call_meets PySem.F.slot_list_count ⟨_, hp, rfl⟩ PySem.F.entry_list_count (PySem.F.args_list_count_2 _ _) (SeqAt.list_countAt a vs.toArray n none #[] (.str ⟨k.toArray⟩ t') (PyProof.Rows.isStrOf ⟨k.toArray⟩)) ⟨hp, fun y hy => (PyProof.Rows.eq_isStrOf _ t' (strsAre_of p hn) y (by simpa using hy)).at _ _, ?_⟩
      rw [show vs.toArray.toList = vs from rfl, countP_strs p k hn]
      exact end_atom (keeps_tok _ _) ⟨_, rfl⟩
  | index =>
    obtain ⟨a, vs, n, xs, u, y, rfl, rfl, hp, p, hl, rfl, h2, e⟩ := asList1 e
    obtain ⟨k, hk, e⟩ := bind_some2 e
    obtain ⟨ls, hn, e⟩ := bind_some2 e
    obtain ⟨hm, rfl⟩ := if_some2 e
    obtain rfl := pStr_inv hk
    obtain ⟨t', rfl, h3⟩ := h2
    have hj : ls.idxOf k < ls.length := List.idxOf_lt_length_iff.mpr hm
    have hlen : ls.length = vs.length := by rw [strsOf_len hn, paired_len p]
    rw [sizeLine_eq] at hl
    refine call_meets PySem.F.slot_list_index ⟨_, hp, rfl⟩ PySem.F.entry_list_index (PySem.F.args_list_index_2 _ _)
      (SeqAt.list_indexAt a vs.toArray n none #[] (.str ⟨k.toArray⟩ t') (PyProof.Rows.isStrOf ⟨k.toArray⟩) (ls.idxOf k) (by simpa [← hlen] using hj) (by omega) ?_ ?_) ⟨hp, fun y hy => (PyProof.Rows.eq_isStrOf _ t' (strsAre_of p hn) y (by simpa using hy)).at _ _, end_atom (keeps_tok _ _) ⟨_, rfl⟩⟩
    · obtain ⟨l, h1, h2⟩ := isStr_at p k hn (ls.idxOf k) vs[ls.idxOf k] (by simp)
      show PyProof.Rows.isStrOf _ vs[ls.idxOf k] = true
      rw [h2]
      rw [List.getElem?_eq_getElem hj, List.getElem_idxOf hj] at h1
      cases h1; simp
    · intro j hjs hlt
      have hjs' : j < vs.length := by simpa using hjs
      obtain ⟨l, h1, h2⟩ := isStr_at p k hn j vs[j] (by simp)
      show PyProof.Rows.isStrOf _ vs[j] = false
      rw [h2]
      rw [List.getElem?_eq_getElem (by omega)] at h1
      cases h1
      exact before_idx hlt _
end
end Mine
end
section
open PySem PySem.Calls
set_option maxRecDepth 100000
namespace Mine

inductive IK where | val | range
inductive E where
  | none | bool (b : Bool) | int (i : Int) | str (l : List Nat)
  | var (i : Nat)
  | bin (op : Operator) (l r : E)
  | notE (x : E)
  | cmp (op : CmpOp) (l r : E)
  | cmp2 (o1 o2 : CmpOp) (a b c : E)
  | boolE (isAnd : Bool) (args : E)
  | ite (c a b : E)
  | call (f : Nat) (args : E)
  | nil | cons (h t : E)
  | bi (f : BI) (args : E)
  | me (m : ME) (o args : E)
  | idx (o i : E)
  | slice (o lo hi : E)
  | list (args : E) | tup (args : E)
  | comp (elt : E) (x : Nat) (k : IK) (it test : E)
  | dictIdx (keys : List (List Nat)) (vals i : E)

inductive S where
  | nil | seq (h t : S)
  | assign (i : Nat) (e : E)
  | assign2 (i j : Nat) (e : E)
  | ret (e : E)
  | retD (i : Nat)
  | freeze (t : S)
  | ite (c : E) (t f : S)
  | forS (x : Nat) (k : IK) (it : E) (body : S)
  | forEnum (i x : Nat) (it : E) (body : S)
  | whileS (n : Nat) (c : E) (body : S)
  | append (x : Nat) (e : E)
  | setItem (x : Nat) (i e : E)
  | raiseS

noncomputable def E.isNil : E → Bool
  | .nil => true
  | _ => false
noncomputable def E.isNone : E → Bool
  | .none => true
  | _ => false

noncomputable abbrev Store := List (Option PV)
noncomputable def get : Store → Nat → Option PV
  | [], _ => none
  | x :: _, 0 => x
  | _ :: r, i + 1 => get r i
noncomputable def set : Store → Nat → PV → Store
  | [], _, _ => []
  | _ :: r, 0, v => some v :: r
  | x :: r, i + 1, v => x :: set r i v
theorem get_set_ne : ∀ {ρ : Store} {i j : Nat} {v : PV}, i ≠ j → get (set ρ i v) j = get ρ j
  | [], _, _, _, _ => rfl
  | _ :: _, 0, 0, _, h => absurd rfl h
  | _ :: _, 0, _ + 1, _, _ => rfl
  | _ :: _, _ + 1, 0, _, _ => rfl
  | _ :: r, i + 1, j + 1, _, h => get_set_ne (ρ := r) (i := i) (j := j) (by omega)
theorem get_set_eq : ∀ {ρ : Store} {i : Nat} {v u : PV}, get (set ρ i v) i = some u → u = v
  | [], _, _, _, h => by cases h
  | _ :: _, 0, _, _, h => by cases h; rfl
  | _ :: r, i + 1, _, _, h => get_set_eq (ρ := r) (i := i) h

noncomputable def truth : PV → Option Bool
  | .a (.bool b) => some b
  | _ => none
noncomputable def atom : PV → Option At
  | .a x => some x
  | _ => none
theorem atom_inv {v : PV} {a : At} (h : atom v = some a) : v = .a a := by
  cases v with
  | a y => cases h; rfl
  | _ => cases h
noncomputable def atoms : List PV → Option (List At)
  | [] => some []
  | .a x :: r => (atoms r).map (x :: ·)
  | _ :: _ => none
noncomputable def rangeL (a : Int) : Nat → List At
  | 0 => []
  | n + 1 => .int a :: rangeL (a + 1) n
noncomputable def rangeD (a : Int) : Nat → List At
  | 0 => []
  | n + 1 => .int a :: rangeD (a - 1) n
noncomputable def valItems (x : PV) : Option (List At) := match x with
  | .list xs => some xs
  | .tup xs => some xs
  | .a y => (pStr (.a y)).map fun l => l.map fun c => .str [c]
  | .bytes b => if b.length ≤ sizeLine then some (b.map fun c => .int (c.toNat : Int)) else none
noncomputable def iterItems (k : IK) (args : List PV) : Option (List At) := match k with
  | .val => match args with
    | [x] => valItems x
    | _ => none
  | .range => match args with
    | [x] => (pInt x).bind fun n => if -1000000 < n ∧ n < 1000000 then some (rangeL 0 n.toNat) else none
    | [x, y, z] => (pInt x).bind fun a => (pInt y).bind fun b => (pInt z).bind fun c => if c = -1 ∧ -1000000 < a ∧ a < 1000000 ∧ -1000000 < b ∧ b < 1000000 then some (rangeD a (a - b).toNat) else none
    | _ => none
noncomputable def index (o i : PV) : Option PV := (pInt i).bind fun i => if 0 ≤ i then (match o with
  | .list xs => (xs[i.toNat]?).map .a
  | .a y => (pStr (.a y)).bind fun l => (l[i.toNat]?).map fun c => .a (.str [c])
  | _ => none) else none
noncomputable def part : Option PV → Option (Option Int)
  | some (.a .none) => some none
  | some (.a (.int i)) => some (some i)
  | _ => none
noncomputable def sliceV (o : PV) (lo hi : Option Int) : Option PV := match o with
  | .a y => (pStr (.a y)).map fun l => .a (.str (pySlice l lo hi))
  | .list xs => some (.list (pySlice xs lo hi))
  | _ => none
noncomputable def compGo (tst : At → Option Bool) (elt : At → Option At) : List At → Option (List At)
  | [] => some []
  | a :: r => (tst a).bind fun b => if b then (elt a).bind fun y => (compGo tst elt r).map (y :: ·) else compGo tst elt r
noncomputable def dictGet : List (List Nat) → List At → List Nat → Option At
  | k :: ks, v :: vs, l => if k = l then some v else dictGet ks vs l
  | _, _, _ => none

mutual
noncomputable def ev (Φ : Nat → List PV → Option PV) : E → Store → Option PV
  | .none, _ => some (.a .none)
  | .bool b, _ => some (.a (.bool b))
  | .int i, _ => some (.a (.int i))
  | .str l, _ => if l.length ≤ sizeLine then some (.a (.str l)) else none
  | .var i, ρ => get ρ i
  | .bin op l r, ρ => (ev Φ l ρ).bind fun a => (ev Φ r ρ).bind fun b => binop op a b
  | .notE x, ρ => ((ev Φ x ρ).bind truth).map fun b => .a (.bool (!b))
  | .cmp op l r, ρ => (ev Φ l ρ).bind fun a => (ev Φ r ρ).bind fun b => (cmpop op a b).map fun c => .a (.bool c)
  | .cmp2 o1 o2 a b c, ρ => (ev Φ a ρ).bind fun x => (ev Φ b ρ).bind fun y => (cmpop o1 x y).bind fun r => if r then (ev Φ c ρ).bind fun z => (cmpop o2 y z).map fun q => .a (.bool q) else some (.a (.bool false))
  | .boolE isAnd args, ρ => (evb Φ isAnd args ρ).map fun b => .a (.bool b)
  | .ite c a b, ρ => ((ev Φ c ρ).bind truth).bind fun t => if t then ev Φ a ρ else ev Φ b ρ
  | .call f args, ρ => (evs Φ args ρ).bind fun vs => Φ f vs
  | .nil, _ => none
  | .cons _ _, _ => none
  | .bi f args, ρ => (evs Φ args ρ).bind fun vs => bi f vs
  | .me m o args, ρ => (ev Φ o ρ).bind fun x => (evs Φ args ρ).bind fun vs => me m x vs
  | .idx o i, ρ => (ev Φ o ρ).bind fun x => (ev Φ i ρ).bind fun y => index x y
  | .slice o lo hi, ρ => (ev Φ o ρ).bind fun x => (part (ev Φ lo ρ)).bind fun a => (part (ev Φ hi ρ)).bind fun b => sliceV x a b
  | .list args, ρ => (evs Φ args ρ).bind fun vs => if vs.length ≤ sizeLine then (atoms vs).map .list else none
  | .tup args, ρ => (evs Φ args ρ).bind fun vs => if vs.length ≤ sizeLine then (atoms vs).map .tup else none
  | .comp elt x k it test, ρ => (evs Φ it ρ).bind fun vs => (iterItems k vs).bind fun items =>
      (compGo (fun a => if test.isNil then some true else (ev Φ test (set ρ x (.a a))).bind truth) (fun a => (ev Φ elt (set ρ x (.a a))).bind atom) items).map .list
  | .dictIdx keys vals i, ρ => (evs Φ vals ρ).bind fun vs => (atoms vs).bind fun xs => (ev Φ i ρ).bind fun k => (pStr k).bind fun l => (dictGet keys xs l).map .a
termination_by structural e => e
noncomputable def evs (Φ : Nat → List PV → Option PV) : E → Store → Option (List PV)
  | .nil, _ => some []
  | .cons h t, ρ => (ev Φ h ρ).bind fun v => (evs Φ t ρ).map (v :: ·)
  | _, _ => none
termination_by structural e => e
noncomputable def evb (Φ : Nat → List PV → Option PV) (isAnd : Bool) : E → Store → Option Bool
  | .nil, _ => some isAnd
  | .cons h t, ρ => ((ev Φ h ρ).bind truth).bind fun b => if b = isAnd then evb Φ isAnd t ρ else some b
  | _, _ => none
termination_by structural e => e
end

noncomputable def fresh : E → Bool
  | .var _ => false
  | .ite _ a b => fresh a && fresh b
  | _ => true
noncomputable def isAt : PV → Bool
  | .a _ => true
  | _ => false
inductive Fl where | next | ret (v : PV)
noncomputable def forGo (body : At → Store → Option (Fl × Store)) : List At → Store → Option (Fl × Store)
  | [], ρ => some (.next, ρ)
  | a :: r, ρ => (body a ρ).bind fun p => match p.1 with
    | .next => forGo body r p.2
    | .ret v => some (.ret v, p.2)
noncomputable def enumGo (body : Int → At → Store → Option (Fl × Store)) : Int → List At → Store → Option (Fl × Store)
  | _, [], ρ => some (.next, ρ)
  | k, a :: r, ρ => (body k a ρ).bind fun p => match p.1 with
    | .next => enumGo body (k + 1) r p.2
    | .ret v => some (.ret v, p.2)
noncomputable def whileGo (c : Store → Option Bool) (body : Store → Option (Fl × Store)) : Nat → Store → Option (Fl × Store)
  | 0, _ => none
  | n + 1, ρ => (c ρ).bind fun b => if b then (body ρ).bind fun p => match p.1 with
      | .next => whileGo c body n p.2
      | .ret v => some (.ret v, p.2)
    else some (.next, ρ)

noncomputable def ex (Φ : Nat → List PV → Option PV) : S → Store → Option (Fl × Store)
  | .nil, ρ => some (.next, ρ)
  | .seq h t, ρ => (ex Φ h ρ).bind fun p => match p.1 with
    | .next => ex Φ t p.2
    | .ret v => some (.ret v, p.2)
  | .assign i e, ρ => (ev Φ e ρ).map fun v => (.next, set ρ i v)
  | .assign2 i j e, ρ => (ev Φ e ρ).bind fun v => (pTup v).map fun q => (.next, set (set ρ i (.a q.1)) j (.a q.2))
  | .ret e, ρ => (ev Φ e ρ).bind fun v => if fresh e || isAt v then some (.ret v, ρ) else none
  | .retD i, ρ => (get ρ i).map fun v => (.ret v, ρ)
  | .freeze t, ρ => (ex Φ t ρ).bind fun p => match p.1 with
    | .ret v => some (.ret v, p.2)
    | .next => none
  | .ite c t f, ρ => ((ev Φ c ρ).bind truth).bind fun b => if b then ex Φ t ρ else ex Φ f ρ
  | .forS x k it body, ρ => (evs Φ it ρ).bind fun vs => (iterItems k vs).bind fun items => forGo (fun a ρ => ex Φ body (set ρ x (.a a))) items ρ
  | .forEnum i x it body, ρ => (ev Φ it ρ).bind fun v => (pList v).bind fun xs => enumGo (fun k a ρ => ex Φ body (set (set ρ i (.a (.int k))) x (.a a))) 0 xs ρ
  | .whileS n c body, ρ => whileGo (fun ρ => (ev Φ c ρ).bind truth) (fun ρ => ex Φ body ρ) n ρ
  | .append x e, ρ => (ev Φ e ρ).bind fun v => (get ρ x).bind fun l => (pList l).bind fun xs => (atom v).bind fun a => if xs.length < sizeLine then some (.next, set ρ x (.list (xs ++ [a]))) else none
  | .setItem x i e, ρ => (ev Φ e ρ).bind fun v => (ev Φ i ρ).bind fun k => (get ρ x).bind fun l => (pList l).bind fun xs => (pInt k).bind fun k => (atom v).bind fun a => if 0 ≤ k ∧ k < xs.length then some (.next, set ρ x (.list (xs.set k.toNat a))) else none
  | .raiseS, _ => none
termination_by structural s => s

structure Cx where
  sl : List (Option Str)
  kinds : List (Str × NameKind)
  fn : Nat → Option Str
  top : Bool
noncomputable def Cx.glob (c : Cx) (x : Str) : Bool := c.kinds.lookup x == some .globalImplicit
noncomputable def biName : BI → Str
  | .len => Str.ofString "len" | .ord => Str.ofString "ord" | .str => Str.ofString "str" | .min => Str.ofString "min" | .max => Str.ofString "max" | .sum => Str.ofString "sum" | .bytes => Str.ofString "bytes"
noncomputable def rangeName : Str := Str.ofString "range"
noncomputable def debugName : Str := Str.ofString "__debug__"
noncomputable def baseOk : Expr → Bool
  | .Call (.Name _ _) [] [] _ => false
  | _ => true
noncomputable def relab (c : Cx) (names : List (Str × NameKind)) : List (Str × NameKind) :=
  names.map fun p => if (p.2 == NameKind.free && c.kinds.lookup p.1 == some NameKind.cell) then (p.1, NameKind.cell) else p
noncomputable def setAt : List (Option Str) → Nat → Option Str → List (Option Str)
  | [], _, _ => []
  | _ :: r, 0, v => v :: r
  | x :: r, i + 1, v => x :: setAt r i v
noncomputable def compSl (c : Cx) (names : List (Str × NameKind)) (k : Nat) (x : Str) : List (Option Str) :=
  setAt (c.sl.map fun o => match o with
    | some y => if names.lookup y == some .free && c.kinds.lookup y == some .cell then some y else none
    | none => none) k (some x)
noncomputable def compCx (c : Cx) (names : List (Str × NameKind)) (k : Nat) (x : Str) : Cx := { sl := compSl c names k x, kinds := relab c names, fn := c.fn, top := false }
noncomputable def scopeOk (c : Cx) (sc : Scope) (k : Nat) (x : Str) : Bool :=
  c.top && sc.kind == .function && sc.names.all (fun p => p.2 != .cell) && sc.names.all (fun p => p.2 != .local || sc.names.lookup p.1 == some .local) && sc.names.lookup x == some .local &&
  sc.names.all (fun p => p.2 != .free || c.kinds.lookup p.1 == some .cell) && (sc.names.map (·.1)).eraseDups.length == sc.names.length && decide (k < c.sl.length) && (c.sl[k]? == some none)

noncomputable def okO (n : Bool) (r : Expr → Bool) : Option Expr → Bool
  | none => n
  | some x => r x
noncomputable def okT (n : Bool) (r : Expr → Bool) : List Expr → Bool
  | [] => n
  | [x] => r x
  | _ => false
theorem any_inv {α : Type} {o : Option α} {p : α → Bool} (h : o.any p = true) : ∃ a, o = some a ∧ p a = true := by
  cases o with
  | none => exact (Bool.false_ne_true h).elim
  | some a => exact ⟨a, rfl, h⟩
theorem dite_some {c : Prop} [Decidable c] {α : Type} {f : c → α} {q : α} (h : (if h : c then some (f h) else none) = some q) : ∃ h, f h = q := by
  by_cases hc : c
  · rw [dif_pos hc] at h; exact ⟨hc, Option.some.inj h⟩
  · rw [dif_neg hc] at h; cases h
noncomputable def pkConst (x : Expr) (h : x.ctorIdx = 19) : Const × Nat × Pos := Expr.Constant.elim (motive_1 := fun _ => Const × Nat × Pos) x h fun v k p => (v, k, p)
noncomputable def asConst (x : Expr) : Option (Const × Nat × Pos) := if h : x.ctorIdx = 19 then some (pkConst x h) else none
theorem asConst_inv {x : Expr} {q : Const × Nat × Pos} (h : asConst x = some q) : x = .Constant q.1 q.2.1 q.2.2 := by
  obtain ⟨hc, rfl⟩ := dite_some h
  exact Expr.Constant.elim (motive_1 := fun x => ∀ hc : x.ctorIdx = 19, x = .Constant (pkConst x hc).1 (pkConst x hc).2.1 (pkConst x hc).2.2) x hc (fun _ _ _ _ => rfl) hc
noncomputable def pkUn (x : Expr) (h : x.ctorIdx = 3) : UnaryOp × Expr × Pos := Expr.UnaryOp.elim (motive_1 := fun _ => UnaryOp × Expr × Pos) x h fun op y p => (op, y, p)
noncomputable def asUn (x : Expr) : Option (UnaryOp × Expr × Pos) := if h : x.ctorIdx = 3 then some (pkUn x h) else none
theorem asUn_inv {x : Expr} {q : UnaryOp × Expr × Pos} (h : asUn x = some q) : x = .UnaryOp q.1 q.2.1 q.2.2 := by
  obtain ⟨hc, rfl⟩ := dite_some h
  exact Expr.UnaryOp.elim (motive_1 := fun x => ∀ hc : x.ctorIdx = 3, x = .UnaryOp (pkUn x hc).1 (pkUn x hc).2.1 (pkUn x hc).2.2) x hc (fun _ _ _ _ => rfl) hc
noncomputable def pkName (x : Expr) (h : x.ctorIdx = 23) : Str × Pos := Expr.Name.elim (motive_1 := fun _ => Str × Pos) x h fun y p => (y, p)
noncomputable def asName (x : Expr) : Option (Str × Pos) := if h : x.ctorIdx = 23 then some (pkName x h) else none
theorem asName_inv {x : Expr} {q : Str × Pos} (h : asName x = some q) : x = .Name q.1 q.2 := by
  obtain ⟨hc, rfl⟩ := dite_some h
  exact Expr.Name.elim (motive_1 := fun x => ∀ hc : x.ctorIdx = 23, x = .Name (pkName x hc).1 (pkName x hc).2) x hc (fun _ _ _ => rfl) hc
noncomputable def pkBin (x : Expr) (h : x.ctorIdx = 2) : Expr × Operator × Expr × Pos := Expr.BinOp.elim (motive_1 := fun _ => Expr × Operator × Expr × Pos) x h fun l op r p => (l, op, r, p)
noncomputable def asBin (x : Expr) : Option (Expr × Operator × Expr × Pos) := if h : x.ctorIdx = 2 then some (pkBin x h) else none
theorem asBin_inv {x : Expr} {q : Expr × Operator × Expr × Pos} (h : asBin x = some q) : x = .BinOp q.1 q.2.1 q.2.2.1 q.2.2.2 := by
  obtain ⟨hc, rfl⟩ := dite_some h
  exact Expr.BinOp.elim (motive_1 := fun x => ∀ hc : x.ctorIdx = 2, x = .BinOp (pkBin x hc).1 (pkBin x hc).2.1 (pkBin x hc).2.2.1 (pkBin x hc).2.2.2) x hc (fun _ _ _ _ _ => rfl) hc
noncomputable def pkCmp (x : Expr) (h : x.ctorIdx = 15) : Expr × List CmpOp × List Expr × Pos := Expr.Compare.elim (motive_1 := fun _ => Expr × List CmpOp × List Expr × Pos) x h fun l os rs p => (l, os, rs, p)
noncomputable def asCmp (x : Expr) : Option (Expr × List CmpOp × List Expr × Pos) := if h : x.ctorIdx = 15 then some (pkCmp x h) else none
theorem asCmp_inv {x : Expr} {q : Expr × List CmpOp × List Expr × Pos} (h : asCmp x = some q) : x = .Compare q.1 q.2.1 q.2.2.1 q.2.2.2 := by
  obtain ⟨hc, rfl⟩ := dite_some h
  exact Expr.Compare.elim (motive_1 := fun x => ∀ hc : x.ctorIdx = 15, x = .Compare (pkCmp x hc).1 (pkCmp x hc).2.1 (pkCmp x hc).2.2.1 (pkCmp x hc).2.2.2) x hc (fun _ _ _ _ _ => rfl) hc
noncomputable def pkBool (x : Expr) (h : x.ctorIdx = 0) : BoolOp × List Expr × Pos := Expr.BoolOp.elim (motive_1 := fun _ => BoolOp × List Expr × Pos) x h fun op es p => (op, es, p)
noncomputable def asBool (x : Expr) : Option (BoolOp × List Expr × Pos) := if h : x.ctorIdx = 0 then some (pkBool x h) else none
theorem asBool_inv {x : Expr} {q : BoolOp × List Expr × Pos} (h : asBool x = some q) : x = .BoolOp q.1 q.2.1 q.2.2 := by
  obtain ⟨hc, rfl⟩ := dite_some h
  exact Expr.BoolOp.elim (motive_1 := fun x => ∀ hc : x.ctorIdx = 0, x = .BoolOp (pkBool x hc).1 (pkBool x hc).2.1 (pkBool x hc).2.2) x hc (fun _ _ _ _ => rfl) hc
noncomputable def pkIf (x : Expr) (h : x.ctorIdx = 5) : Expr × Expr × Expr × Pos := Expr.IfExp.elim (motive_1 := fun _ => Expr × Expr × Expr × Pos) x h fun t a b p => (t, a, b, p)
noncomputable def asIf (x : Expr) : Option (Expr × Expr × Expr × Pos) := if h : x.ctorIdx = 5 then some (pkIf x h) else none
theorem asIf_inv {x : Expr} {q : Expr × Expr × Expr × Pos} (h : asIf x = some q) : x = .IfExp q.1 q.2.1 q.2.2.1 q.2.2.2 := by
  obtain ⟨hc, rfl⟩ := dite_some h
  exact Expr.IfExp.elim (motive_1 := fun x => ∀ hc : x.ctorIdx = 5, x = .IfExp (pkIf x hc).1 (pkIf x hc).2.1 (pkIf x hc).2.2.1 (pkIf x hc).2.2.2) x hc (fun _ _ _ _ _ => rfl) hc
noncomputable def pkCall (x : Expr) (h : x.ctorIdx = 16) : Expr × List Expr × List Keyword × Pos := Expr.Call.elim (motive_1 := fun _ => Expr × List Expr × List Keyword × Pos) x h fun f es ks p => (f, es, ks, p)
noncomputable def asCall (x : Expr) : Option (Expr × List Expr × List Keyword × Pos) := if h : x.ctorIdx = 16 then some (pkCall x h) else none
theorem asCall_inv {x : Expr} {q : Expr × List Expr × List Keyword × Pos} (h : asCall x = some q) : x = .Call q.1 q.2.1 q.2.2.1 q.2.2.2 := by
  obtain ⟨hc, rfl⟩ := dite_some h
  exact Expr.Call.elim (motive_1 := fun x => ∀ hc : x.ctorIdx = 16, x = .Call (pkCall x hc).1 (pkCall x hc).2.1 (pkCall x hc).2.2.1 (pkCall x hc).2.2.2) x hc (fun _ _ _ _ _ => rfl) hc
noncomputable def pkAttr (x : Expr) (h : x.ctorIdx = 20) : Expr × Str × Pos := Expr.Attribute.elim (motive_1 := fun _ => Expr × Str × Pos) x h fun o n p => (o, n, p)
noncomputable def asAttr (x : Expr) : Option (Expr × Str × Pos) := if h : x.ctorIdx = 20 then some (pkAttr x h) else none
theorem asAttr_inv {x : Expr} {q : Expr × Str × Pos} (h : asAttr x = some q) : x = .Attribute q.1 q.2.1 q.2.2 := by
  obtain ⟨hc, rfl⟩ := dite_some h
  exact Expr.Attribute.elim (motive_1 := fun x => ∀ hc : x.ctorIdx = 20, x = .Attribute (pkAttr x hc).1 (pkAttr x hc).2.1 (pkAttr x hc).2.2) x hc (fun _ _ _ _ => rfl) hc
noncomputable def pkSub (x : Expr) (h : x.ctorIdx = 21) : Expr × Expr × Pos := Expr.Subscript.elim (motive_1 := fun _ => Expr × Expr × Pos) x h fun o i p => (o, i, p)
noncomputable def asSub (x : Expr) : Option (Expr × Expr × Pos) := if h : x.ctorIdx = 21 then some (pkSub x h) else none
theorem asSub_inv {x : Expr} {q : Expr × Expr × Pos} (h : asSub x = some q) : x = .Subscript q.1 q.2.1 q.2.2 := by
  obtain ⟨hc, rfl⟩ := dite_some h
  exact Expr.Subscript.elim (motive_1 := fun x => ∀ hc : x.ctorIdx = 21, x = .Subscript (pkSub x hc).1 (pkSub x hc).2.1 (pkSub x hc).2.2) x hc (fun _ _ _ _ => rfl) hc
noncomputable def pkSlice (x : Expr) (h : x.ctorIdx = 26) : Option Expr × Option Expr × Option Expr × Pos := Expr.Slice.elim (motive_1 := fun _ => Option Expr × Option Expr × Option Expr × Pos) x h fun l h t p => (l, h, t, p)
noncomputable def asSlice (x : Expr) : Option (Option Expr × Option Expr × Option Expr × Pos) := if h : x.ctorIdx = 26 then some (pkSlice x h) else none
theorem asSlice_inv {x : Expr} {q : Option Expr × Option Expr × Option Expr × Pos} (h : asSlice x = some q) : x = .Slice q.1 q.2.1 q.2.2.1 q.2.2.2 := by
  obtain ⟨hc, rfl⟩ := dite_some h
  exact Expr.Slice.elim (motive_1 := fun x => ∀ hc : x.ctorIdx = 26, x = .Slice (pkSlice x hc).1 (pkSlice x hc).2.1 (pkSlice x hc).2.2.1 (pkSlice x hc).2.2.2) x hc (fun _ _ _ _ _ => rfl) hc
noncomputable def pkList (x : Expr) (h : x.ctorIdx = 24) : List Expr × Pos := Expr.List.elim (motive_1 := fun _ => List Expr × Pos) x h fun es p => (es, p)
noncomputable def asList (x : Expr) : Option (List Expr × Pos) := if h : x.ctorIdx = 24 then some (pkList x h) else none
theorem asList_inv {x : Expr} {q : List Expr × Pos} (h : asList x = some q) : x = .List q.1 q.2 := by
  obtain ⟨hc, rfl⟩ := dite_some h
  exact Expr.List.elim (motive_1 := fun x => ∀ hc : x.ctorIdx = 24, x = .List (pkList x hc).1 (pkList x hc).2) x hc (fun _ _ _ => rfl) hc
noncomputable def pkTup (x : Expr) (h : x.ctorIdx = 25) : List Expr × Nat × Pos := Expr.Tuple.elim (motive_1 := fun _ => List Expr × Nat × Pos) x h fun es k p => (es, k, p)
noncomputable def asTup (x : Expr) : Option (List Expr × Nat × Pos) := if h : x.ctorIdx = 25 then some (pkTup x h) else none
theorem asTup_inv {x : Expr} {q : List Expr × Nat × Pos} (h : asTup x = some q) : x = .Tuple q.1 q.2.1 q.2.2 := by
  obtain ⟨hc, rfl⟩ := dite_some h
  exact Expr.Tuple.elim (motive_1 := fun x => ∀ hc : x.ctorIdx = 25, x = .Tuple (pkTup x hc).1 (pkTup x hc).2.1 (pkTup x hc).2.2) x hc (fun _ _ _ _ => rfl) hc
noncomputable def pkComp (x : Expr) (h : x.ctorIdx = 8) : Expr × List Comprehension × Scope × Pos := Expr.ListComp.elim (motive_1 := fun _ => Expr × List Comprehension × Scope × Pos) x h fun e gs sc p => (e, gs, sc, p)
noncomputable def asComp (x : Expr) : Option (Expr × List Comprehension × Scope × Pos) := if h : x.ctorIdx = 8 then some (pkComp x h) else none
theorem asComp_inv {x : Expr} {q : Expr × List Comprehension × Scope × Pos} (h : asComp x = some q) : x = .ListComp q.1 q.2.1 q.2.2.1 q.2.2.2 := by
  obtain ⟨hc, rfl⟩ := dite_some h
  exact Expr.ListComp.elim (motive_1 := fun x => ∀ hc : x.ctorIdx = 8, x = .ListComp (pkComp x hc).1 (pkComp x hc).2.1 (pkComp x hc).2.2.1 (pkComp x hc).2.2.2) x hc (fun _ _ _ _ _ => rfl) hc
noncomputable def pkDict (x : Expr) (h : x.ctorIdx = 6) : List (Option Expr) × List Expr × Pos := Expr.Dict.elim (motive_1 := fun _ => List (Option Expr) × List Expr × Pos) x h fun ks vs p => (ks, vs, p)
noncomputable def asDict (x : Expr) : Option (List (Option Expr) × List Expr × Pos) := if h : x.ctorIdx = 6 then some (pkDict x h) else none
theorem asDict_inv {x : Expr} {q : List (Option Expr) × List Expr × Pos} (h : asDict x = some q) : x = .Dict q.1 q.2.1 q.2.2 := by
  obtain ⟨hc, rfl⟩ := dite_some h
  exact Expr.Dict.elim (motive_1 := fun x => ∀ hc : x.ctorIdx = 6, x = .Dict (pkDict x hc).1 (pkDict x hc).2.1 (pkDict x hc).2.2) x hc (fun _ _ _ _ => rfl) hc
noncomputable def isNone : Const → Bool
  | .none => true
  | _ => false
noncomputable def isBool (b : Bool) : Const → Bool
  | .bool d => b == d
  | _ => false
noncomputable def isInt (i : Int) : Const → Bool
  | .int j => i == j
  | _ => false
noncomputable def isStr (l : List Nat) : Const → Bool
  | .str y => y.cps.toList == l
  | _ => false
noncomputable def isNeg : UnaryOp → Bool
  | .USub => true
  | _ => false
noncomputable def isNot : UnaryOp → Bool
  | .Not => true
  | _ => false
theorem isNone_inv {v : Const} (h : isNone v = true) : v = .none := by cases v <;> first | rfl | exact (Bool.false_ne_true h).elim
theorem isBool_inv {b : Bool} {v : Const} (h : isBool b v = true) : v = .bool b := by
  cases v with
  | bool d => rw [show b = d from eq_of_beq h]
  | _ => exact (Bool.false_ne_true h).elim
theorem isInt_inv {i : Int} {v : Const} (h : isInt i v = true) : v = .int i := by
  cases v with
  | int d => rw [show i = d from eq_of_beq h]
  | _ => exact (Bool.false_ne_true h).elim
theorem isStr_inv {l : List Nat} {v : Const} (h : isStr l v = true) : ∃ y, v = .str y ∧ y.cps.toList = l := by
  cases v with
  | str y => exact ⟨y, rfl, eq_of_beq h⟩
  | _ => exact (Bool.false_ne_true h).elim
theorem isNeg_inv {v : UnaryOp} (h : isNeg v = true) : v = .USub := by cases v <;> first | rfl | exact (Bool.false_ne_true h).elim
theorem isNot_inv {v : UnaryOp} (h : isNot v = true) : v = .Not := by cases v <;> first | rfl | exact (Bool.false_ne_true h).elim
noncomputable def okK : List (List Nat) → List (Option Expr) → Bool
  | [], ks => ks.isEmpty
  | k :: r, ks => match ks with
    | [] => false
    | o :: t => (o.any fun x => (asConst x).any fun q => isStr k q.1) && okK r t
theorem okK_nil {ks : List (Option Expr)} (h : okK [] ks = true) : ks = [] := List.isEmpty_iff.mp h
theorem okK_cons {k : List Nat} {r : List (List Nat)} {ks : List (Option Expr)} (h : okK (k :: r) ks = true) : ∃ y kk p t, ks = some (.Constant (.str y) kk p) :: t ∧ y.cps.toList = k ∧ okK r t = true := by
  cases ks with
  | nil => exact (Bool.false_ne_true h).elim
  | cons o t =>
    obtain ⟨h1, h2⟩ := Bool.and_eq_true_iff.mp h
    obtain ⟨x, rfl, h1⟩ := any_inv h1
    obtain ⟨q, hq, h1⟩ := any_inv (o := asConst x) h1
    obtain ⟨y, hy, hl⟩ := isStr_inv h1
    exact ⟨y, q.2.1, q.2.2, t, by rw [asConst_inv hq, hy], hl, h2⟩
mutual
noncomputable def okE (c : Cx) (e : E) (x : Expr) : Bool := match e with
  | .none => (asConst x).any fun q => isNone q.1
  | .bool b => (asConst x).any fun q => isBool b q.1
  | .int i => ((asConst x).any fun q => isInt i q.1) || (asUn x).any fun q => isNeg q.1 && (asConst q.2.1).any fun q => isInt (-i) q.1
  | .str l => (asConst x).any fun q => isStr l q.1
  | .var i => (asName x).any fun q => c.sl[i]? == some (some q.1) && !(q.1 == debugName)
  | .bin op l r => (asBin x).any fun q => op == q.2.1 && okE c l q.1 && okE c r q.2.2.1
  | .notE t => (asUn x).any fun q => isNot q.1 && okE c t q.2.1
  | .cmp op l r => (asCmp x).any fun q => (one q.2.1).any fun o => (one q.2.2.1).any fun r' => op == o && okE c l q.1 && okE c r r'
  | .cmp2 o1 o2 a b d => (asCmp x).any fun q => (two q.2.1).any fun o => (two q.2.2.1).any fun r => o1 == o.1 && o2 == o.2 && okE c a q.1 && okE c b r.1 && okE c d r.2
  | .boolE isAnd args => (asBool x).any fun q => (q.1 == (if isAnd then .And else .Or)) && okEs c args q.2.1 && !q.2.1.isEmpty
  | .ite t a b => (asIf x).any fun q => okE c t q.1 && okE c a q.2.1 && okE c b q.2.2.1
  | .call f args => (asCall x).any fun q => (asName q.1).any fun y => q.2.2.1.isEmpty && c.fn f == some y.1 && c.glob y.1 && !(y.1 == debugName) && okEs c args q.2.1 && decide (q.2.1.length ≤ 30)
  | .bi f args => (asCall x).any fun q => (asName q.1).any fun y => q.2.2.1.isEmpty && biName f == y.1 && c.glob y.1 && okEs c args q.2.1
  | .me m o args => (asCall x).any fun q => (asAttr q.1).any fun a => q.2.2.1.isEmpty && meName m == a.2.1 && baseOk a.1 && (a.2.2.endLine == q.2.2.2.line) && okE c o a.1 && okEs c args q.2.1 && decide (q.2.1.length < 29)
  | .idx o i => (asSub x).any fun q => okE c o q.1 && okE c i q.2.1
  | .slice o lo hi => (asSub x).any fun q => (asSlice q.2.1).any fun t => t.2.2.1.isNone && okE c o q.1 && okO lo.isNone (okE c lo) t.1 && okO hi.isNone (okE c hi) t.2.1
  | .list args => (asList x).any fun q => okEs c args q.1
  | .tup args => (asTup x).any fun q => okEs c args q.1
  | .comp elt sx k args test => (asComp x).any fun q => (one q.2.1).any fun g => (asName g.target).any fun y => (match k with
          | .val => okEs c args [g.iter]
          | .range => (asCall g.iter).any fun r => (asName r.1).any fun z => r.2.2.1.isEmpty && rangeName == z.1 && c.glob z.1 && okEs c args r.2.1) &&
        (g.is_async == 0 && scopeOk c q.2.2.1 sx y.1 && okE (compCx c q.2.2.1.names sx y.1) elt q.1 && okT test.isNil (okE (compCx c q.2.2.1.names sx y.1) test) g.ifs)
  | .dictIdx keys vals i => (asSub x).any fun q => (asDict q.1).any fun d => okEs c vals d.2.1 && okE c i q.2.1 && okK keys d.1 && decide (keys.length ≤ 15) && decide (keys ≠ []) && decide (keys.length = d.2.1.length) && decide keys.Nodup
  | .nil => false
  | .cons _ _ => false
termination_by structural e
noncomputable def okEs (c : Cx) (e : E) (xs : List Expr) : Bool := match e with
  | .nil => match xs with
    | [] => true
    | _ :: _ => false
  | .cons h t => match xs with
    | x :: es => okE c h x && okEs c t es
    | [] => false
  | _ => false
termination_by structural e
end
end Mine
end
section
open PySem PySem.Calls
set_option maxRecDepth 100000
namespace Mine

noncomputable def usedNames : List Str := rangeName :: Str.ofString "enumerate" :: [biName .len, biName .ord, biName .str, biName .min, biName .max, biName .sum, biName .bytes]
structure Gd (mg mb : Str → Option Value) (h : Heap) : Prop where
  g : h.Ns mainGlobals mg
  b : h.Ns builtinsNs mb
  bi : ∀ x : Str, x ≠ "__name__" → mb x = bootBuiltins x
  nolimit : h.NoLimit
  nob : ∀ x ∈ usedNames, mg x = none
structure AOk (n : Nat) (A : Around) : Prop where
  handled : A.handled = none
  depth : A.depth + n < recursionLimit
  units : A.units + 8 * n + 128 < cLine
theorem AOk.mono {n m : Nat} {A : Around} (x : AOk n A) (h : m ≤ n) : AOk m A := ⟨x.handled, by have := x.depth; omega, by have := x.units; omega⟩
theorem AOk.deeper {n : Nat} {A : Around} {env : Env} (x : AOk (n + 1) A) : AOk n (A.deeper env) :=
  ⟨x.handled, by have := x.depth; show A.depth + 1 + n < _; omega, by have := x.units; show A.units + 3 + 8 * n + 128 < _; omega⟩

structure EnvOk (c : Cx) (env : Env) : Prop where
  kind : env.scope.kind = .function
  globals : env.globals = mainGlobals
  builtins : env.builtins = builtinsNs
  names : env.scope.names = c.kinds
  cells : c.top = true → ∀ y, c.kinds.lookup y = some .cell → ∃ a, env.cells.lookup y = some a
noncomputable def NameIs (env : Env) (h : Heap) (x : Str) (r : PV) : Prop :=
  (env.kindOf x = some .local ∧ ∃ m v, h.Ns env.locals m ∧ m x = some v ∧ Rep h v r) ∨
  (env.kindOf x = some .cell ∧ ∃ a v, env.cells.lookup x = some a ∧ h.IsCell a (some v) ∧ Rep h v r)
theorem NameIs.mono {env : Env} {h h' : Heap} {x : Str} {r : PV} (q : NameIs env h x r) (k : Sub h h') : NameIs env h' x r := by
  rcases q with ⟨e, m, v, hn, hm, hr⟩ | ⟨e, a, v, hc, hi, hr⟩
  · exact .inl ⟨e, m, v, hn.keeps k, hm, hr.mono k⟩
  · exact .inr ⟨e, a, v, hc, hi.keeps k, hr.mono k⟩
noncomputable def Inv (c : Cx) (ρ : Store) (env : Env) (h : Heap) : Prop := ∀ i x r, c.sl[i]? = some (some x) → get ρ i = some r → NameIs env h x r
theorem Inv.mono {c : Cx} {ρ : Store} {env : Env} {h h' : Heap} (q : Inv c ρ env h) (k : Sub h h') : Inv c ρ env h' := fun i x r a b => (q i x r a b).mono k

noncomputable def FnOk (prog : Program) (w : World) (mg : Str → Option Value) (H₀ : Heap) (n : Nat) (name : Str) (F : List PV → Option PV) : Prop :=
  ∃ a o fd, mg name = some (.ref a) ∧ H₀.get? a = some o ∧ o.data = .func fd ∧
    ∀ A s vals args r, AOk n A → Sub H₀ s.heap → Paired (fun v x => Rep s.heap v x) vals args → F args = some r →
      codeAny (model prog w) A (.call (.ref a) ⟨vals, []⟩) (fun res s' => ∃ v, res = .ok (.ret v) ∧ Keeps s s' ∧ Rep s'.heap v r ∧ Fresh s.heap v) s

structure Cok (prog : Program) (w : World) (mg mb : Str → Option Value) (H₀ : Heap) (n : Nat) (Φ : Nat → List PV → Option PV) (c : Cx) (env : Env) (ρ : Store) (h : Heap) : Prop where
  eo : EnvOk c env
  inv : Inv c ρ env h
  base : Sub H₀ h
  fns : ∀ f name, c.fn f = some name → FnOk prog w mg H₀ n name (Φ f)

section
variable {prog : Program} {w : World} {mg mb : Str → Option Value} {H₀ : Heap} {n : Nat} {Φ : Nat → List PV → Option PV} {A : Around}
theorem Cok.mono {c : Cx} {env : Env} {ρ : Store} {h h' : Heap} (q : Cok prog w mg mb H₀ n Φ c env ρ h) (k : Sub h h') : Cok prog w mg mb H₀ n Φ c env ρ h' :=
  ⟨q.eo, q.inv.mono k, q.base.trans k, q.fns⟩


variable (prog w mg mb H₀ n Φ A) in
noncomputable def EOk (e : E) : Prop := ∀ c x ρ env s r, okE c e x = true → Cok prog w mg mb H₀ n Φ c env ρ s.heap → ev Φ e ρ = some r → Ev prog w A (eval x env) s (fresh e) r
variable (prog w mg mb H₀ n Φ A) in
noncomputable def TOk (e : E) : Prop := ∀ c x ρ env s b, okE c e x = true → Cok prog w mg mb H₀ n Φ c env ρ s.heap → ev Φ e ρ = some (.a (.bool b)) →
  wpAny (model prog w) A (isTrue x env (eval x env)) (fun b' s' => b' = b ∧ Keeps s s') (fun _ _ => False) s
variable (prog w mg mb H₀ n Φ A) in
noncomputable def AsOk (e : E) : Prop := ∀ c es ρ env s vs pos, okEs c e es = true → Cok prog w mg mb H₀ n Φ c env ρ s.heap → evs Φ e ρ = some vs →
  wpAny (model prog w) A (spliced (backTo pos (starEach es env))) (fun us s' => Keeps s s' ∧ Paired (fun v x => Rep s'.heap v x) us vs) (fun _ _ => False) s
variable (prog w mg mb H₀ n Φ A) in
noncomputable def BsOk (e : E) : Prop := ∀ isAnd c es ρ env s b, okEs c e es = true → Cok prog w mg mb H₀ n Φ c env ρ s.heap → evb Φ isAnd e ρ = some b →
  (∀ pos, es ≠ [] → wpAny (model prog w) A (boolOp pos (if isAnd then .And else .Or) (evalEach es env)) (fun v s' => v = .bool b ∧ Keeps s s') (fun _ _ => False) s) ∧
  wpAny (model prog w) A (allTrue (if isAnd then .And else .Or) es env) (fun b' s' => b' = b ∧ Keeps s s') (fun _ _ => False) s
variable (prog w mg mb H₀ n Φ A) in
noncomputable def PsOk (e : E) : Prop := ∀ c (keys : List (List Nat)) ks es ρ env s vs pos, okEs c e es = true → okK keys ks = true → keys.length = es.length → Cok prog w mg mb H₀ n Φ c env ρ s.heap → evs Φ e ρ = some vs →
  wpAny (model prog w) A (evalPairs (pairTrees ks es env pos)) (fun ps s' => Keeps s s' ∧ ∃ kvs : List (Str × Value), Carries (PySem.strKind prog w) ps kvs ∧ kvs.map (·.1) = keys.map (fun k => ⟨k.toArray⟩) ∧ Paired (fun v x => Rep s'.heap v x) (kvs.map (·.2)) vs) (fun _ _ => False) s
structure All (prog : Program) (w : World) (mg mb : Str → Option Value) (H₀ : Heap) (n : Nat) (Φ : Nat → List PV → Option PV) (A : Around) (e : E) : Prop where
  pe : EOk prog w mg mb H₀ n Φ A e
  pt : TOk prog w mg mb H₀ n Φ A e
  pas : AsOk prog w mg mb H₀ n Φ A e
  pbs : BsOk prog w mg mb H₀ n Φ A e
  pps : PsOk prog w mg mb H₀ n Φ A e

theorem inv_none {c : Cx} {x : Expr} (h : okE c .none x = true) : ∃ k p, x = .Constant .none k p := by
  obtain ⟨q, hq, h⟩ := any_inv (o := asConst x) h
  exact ⟨q.2.1, q.2.2, by rw [asConst_inv hq, isNone_inv h]⟩
theorem inv_bool {c : Cx} {b : Bool} {x : Expr} (h : okE c (.bool b) x = true) : ∃ k p, x = .Constant (.bool b) k p := by
  obtain ⟨q, hq, h⟩ := any_inv (o := asConst x) h
  exact ⟨q.2.1, q.2.2, by rw [asConst_inv hq, isBool_inv h]⟩
theorem inv_int {c : Cx} {i : Int} {x : Expr} (h : okE c (.int i) x = true) : (∃ k p, x = .Constant (.int i) k p) ∨ ∃ k p p', x = .UnaryOp .USub (.Constant (.int (-i)) k p) p' := by
  rcases Bool.or_eq_true_iff.mp h with h | h
  · obtain ⟨q, hq, h⟩ := any_inv (o := asConst x) h
    exact .inl ⟨q.2.1, q.2.2, by rw [asConst_inv hq, isInt_inv h]⟩
  · obtain ⟨q, hq, h⟩ := any_inv (o := asUn x) h
    obtain ⟨h1, h2⟩ := Bool.and_eq_true_iff.mp h
    obtain ⟨r, hr, h3⟩ := any_inv (o := asConst q.2.1) h2
    exact .inr ⟨r.2.1, r.2.2, q.2.2, by rw [asUn_inv hq, isNeg_inv h1, asConst_inv hr, isInt_inv h3]⟩
theorem inv_str {c : Cx} {l : List Nat} {x : Expr} (h : okE c (.str l) x = true) : ∃ y k p, x = .Constant (.str y) k p ∧ y.cps.toList = l := by
  obtain ⟨q, hq, h⟩ := any_inv (o := asConst x) h
  obtain ⟨y, hy, hl⟩ := isStr_inv h
  exact ⟨y, q.2.1, q.2.2, by rw [asConst_inv hq, hy], hl⟩
theorem inv_var {c : Cx} {i : Nat} {x : Expr} (h : okE c (.var i) x = true) : ∃ y p, x = .Name y p ∧ c.sl[i]? = some (some y) ∧ (y == debugName) = false := by
  obtain ⟨q, hq, h⟩ := any_inv (o := asName x) h
  obtain ⟨h1, h2⟩ := Bool.and_eq_true_iff.mp h
  exact ⟨q.1, q.2, asName_inv hq, eq_of_beq h1, (Bool.not_eq_true' _).mp h2⟩
theorem inv_bin {c : Cx} {op : Operator} {l r : E} {x : Expr} (h : okE c (.bin op l r) x = true) : ∃ l' r' p, x = .BinOp l' op r' p ∧ okE c l l' = true ∧ okE c r r' = true := by
  obtain ⟨q, hq, h⟩ := any_inv (o := asBin x) h
  obtain ⟨h, h2⟩ := Bool.and_eq_true_iff.mp h
  obtain ⟨h0, h1⟩ := Bool.and_eq_true_iff.mp h
  exact ⟨q.1, q.2.2.1, q.2.2.2, by rw [asBin_inv hq, show op = q.2.1 from eq_of_beq h0], h1, h2⟩
theorem inv_notE {c : Cx} {t : E} {x : Expr} (h : okE c (.notE t) x = true) : ∃ x' p, x = .UnaryOp .Not x' p ∧ okE c t x' = true := by
  obtain ⟨q, hq, h⟩ := any_inv (o := asUn x) h
  obtain ⟨h1, h2⟩ := Bool.and_eq_true_iff.mp h
  exact ⟨q.2.1, q.2.2, by rw [asUn_inv hq, isNot_inv h1], h2⟩
theorem inv_cmp {c : Cx} {op : CmpOp} {l r : E} {x : Expr} (h : okE c (.cmp op l r) x = true) : ∃ l' r' p, x = .Compare l' [op] [r'] p ∧ okE c l l' = true ∧ okE c r r' = true := by
  obtain ⟨q, hq, h⟩ := any_inv (o := asCmp x) h
  obtain ⟨o, ho, h⟩ := any_inv (o := one q.2.1) h
  obtain ⟨r', hr, h⟩ := any_inv (o := one q.2.2.1) h
  obtain ⟨h, h2⟩ := Bool.and_eq_true_iff.mp h
  obtain ⟨h0, h1⟩ := Bool.and_eq_true_iff.mp h
  exact ⟨q.1, r', q.2.2.2, by rw [asCmp_inv hq, one_inv ho, one_inv hr, show op = o from eq_of_beq h0], h1, h2⟩
theorem inv_cmp2 {c : Cx} {o1 o2 : CmpOp} {a b d : E} {x : Expr} (h : okE c (.cmp2 o1 o2 a b d) x = true) : ∃ a' b' d' p, x = .Compare a' [o1, o2] [b', d'] p ∧ okE c a a' = true ∧ okE c b b' = true ∧ okE c d d' = true := by
  obtain ⟨q, hq, h⟩ := any_inv (o := asCmp x) h
  obtain ⟨o, ho, h⟩ := any_inv (o := two q.2.1) h
  obtain ⟨r, hr, h⟩ := any_inv (o := two q.2.2.1) h
  obtain ⟨h, h5⟩ := Bool.and_eq_true_iff.mp h
  obtain ⟨h, h4⟩ := Bool.and_eq_true_iff.mp h
  obtain ⟨h, h3⟩ := Bool.and_eq_true_iff.mp h
  obtain ⟨h1, h2⟩ := Bool.and_eq_true_iff.mp h
  exact ⟨q.1, r.1, r.2, q.2.2.2, by rw [asCmp_inv hq, two_inv ho, two_inv hr, show o1 = o.1 from eq_of_beq h1, show o2 = o.2 from eq_of_beq h2], h3, h4, h5⟩
theorem inv_boolE {c : Cx} {isAnd : Bool} {args : E} {x : Expr} (h : okE c (.boolE isAnd args) x = true) : ∃ es p, x = .BoolOp (if isAnd then .And else .Or) es p ∧ okEs c args es = true ∧ es ≠ [] := by
  obtain ⟨q, hq, h⟩ := any_inv (o := asBool x) h
  obtain ⟨h, h2⟩ := Bool.and_eq_true_iff.mp h
  obtain ⟨h0, h1⟩ := Bool.and_eq_true_iff.mp h
  exact ⟨q.2.1, q.2.2, by rw [asBool_inv hq, show q.1 = _ from eq_of_beq h0], h1, fun e => by rw [e] at h2; exact (Bool.false_ne_true h2).elim⟩
theorem inv_ite {c : Cx} {t a b : E} {x : Expr} (h : okE c (.ite t a b) x = true) : ∃ t' a' b' p, x = .IfExp t' a' b' p ∧ okE c t t' = true ∧ okE c a a' = true ∧ okE c b b' = true := by
  obtain ⟨q, hq, h⟩ := any_inv (o := asIf x) h
  obtain ⟨h, h2⟩ := Bool.and_eq_true_iff.mp h
  obtain ⟨h0, h1⟩ := Bool.and_eq_true_iff.mp h
  exact ⟨q.1, q.2.1, q.2.2.1, q.2.2.2, asIf_inv hq, h0, h1, h2⟩
theorem inv_call {c : Cx} {f : Nat} {args : E} {x : Expr} (h : okE c (.call f args) x = true) : ∃ y np es pos, x = .Call (.Name y np) es [] pos ∧ c.fn f = some y ∧ c.glob y = true ∧ (y == debugName) = false ∧ okEs c args es = true := by
  obtain ⟨q, hq, h⟩ := any_inv (o := asCall x) h
  obtain ⟨y, hy, h⟩ := any_inv (o := asName q.1) h
  obtain ⟨h, _⟩ := Bool.and_eq_true_iff.mp h
  obtain ⟨h, h4⟩ := Bool.and_eq_true_iff.mp h
  obtain ⟨h, h3⟩ := Bool.and_eq_true_iff.mp h
  obtain ⟨h, h2⟩ := Bool.and_eq_true_iff.mp h
  obtain ⟨h0, h1⟩ := Bool.and_eq_true_iff.mp h
  exact ⟨y.1, y.2, q.2.1, q.2.2.2, by rw [asCall_inv hq, asName_inv hy, List.isEmpty_iff.mp h0], eq_of_beq h1, h2, (Bool.not_eq_true' _).mp h3, h4⟩
theorem inv_bi {c : Cx} {f : BI} {args : E} {x : Expr} (h : okE c (.bi f args) x = true) : ∃ np es pos, x = .Call (.Name (biName f) np) es [] pos ∧ c.glob (biName f) = true ∧ okEs c args es = true := by
  obtain ⟨q, hq, h⟩ := any_inv (o := asCall x) h
  obtain ⟨y, hy, h⟩ := any_inv (o := asName q.1) h
  obtain ⟨h, h3⟩ := Bool.and_eq_true_iff.mp h
  obtain ⟨h, h2⟩ := Bool.and_eq_true_iff.mp h
  obtain ⟨h0, h1⟩ := Bool.and_eq_true_iff.mp h
  have e : biName f = y.1 := eq_of_beq h1
  exact ⟨y.2, q.2.1, q.2.2.2, by rw [asCall_inv hq, asName_inv hy, List.isEmpty_iff.mp h0, e], by rw [e]; exact h2, h3⟩
theorem inv_me {c : Cx} {m : ME} {o args : E} {x : Expr} (h : okE c (.me m o args) x = true) : ∃ o' ap es pos, x = .Call (.Attribute o' (meName m) ap) es [] pos ∧ baseOk o' = true ∧ (ap.endLine == pos.line) = true ∧ okE c o o' = true ∧ okEs c args es = true ∧ es.length < 29 := by
  obtain ⟨q, hq, h⟩ := any_inv (o := asCall x) h
  obtain ⟨y, hy, h⟩ := any_inv (o := asAttr q.1) h
  obtain ⟨h, h6⟩ := Bool.and_eq_true_iff.mp h
  obtain ⟨h, h5⟩ := Bool.and_eq_true_iff.mp h
  obtain ⟨h, h4⟩ := Bool.and_eq_true_iff.mp h
  obtain ⟨h, h3⟩ := Bool.and_eq_true_iff.mp h
  obtain ⟨h, h2⟩ := Bool.and_eq_true_iff.mp h
  obtain ⟨h0, h1⟩ := Bool.and_eq_true_iff.mp h
  exact ⟨y.1, y.2.2, q.2.1, q.2.2.2, by rw [asCall_inv hq, asAttr_inv hy, List.isEmpty_iff.mp h0, show meName m = y.2.1 from eq_of_beq h1], h2, h3, h4, h5, of_decide_eq_true h6⟩
theorem inv_idx {c : Cx} {o i : E} {x : Expr} (h : okE c (.idx o i) x = true) : ∃ o' i' p, x = .Subscript o' i' p ∧ okE c o o' = true ∧ okE c i i' = true := by
  obtain ⟨q, hq, h⟩ := any_inv (o := asSub x) h
  obtain ⟨h1, h2⟩ := Bool.and_eq_true_iff.mp h
  exact ⟨q.1, q.2.1, q.2.2, asSub_inv hq, h1, h2⟩
theorem inv_slice {c : Cx} {o lo hi : E} {x : Expr} (h : okE c (.slice o lo hi) x = true) : ∃ o' lo' hi' p p', x = .Subscript o' (.Slice lo' hi' none p) p' ∧ okE c o o' = true ∧ okO lo.isNone (okE c lo) lo' = true ∧ okO hi.isNone (okE c hi) hi' = true := by
  obtain ⟨q, hq, h⟩ := any_inv (o := asSub x) h
  obtain ⟨t, ht, h⟩ := any_inv (o := asSlice q.2.1) h
  obtain ⟨h, h3⟩ := Bool.and_eq_true_iff.mp h
  obtain ⟨h, h2⟩ := Bool.and_eq_true_iff.mp h
  obtain ⟨h0, h1⟩ := Bool.and_eq_true_iff.mp h
  exact ⟨q.1, t.1, t.2.1, t.2.2.2, q.2.2, by rw [asSub_inv hq, asSlice_inv ht, Option.isNone_iff_eq_none.mp h0], h1, h2, h3⟩
theorem inv_list {c : Cx} {args : E} {x : Expr} (h : okE c (.list args) x = true) : ∃ es p, x = .List es p ∧ okEs c args es = true := by
  obtain ⟨q, hq, h⟩ := any_inv (o := asList x) h
  exact ⟨q.1, q.2, asList_inv hq, h⟩
theorem inv_tup {c : Cx} {args : E} {x : Expr} (h : okE c (.tup args) x = true) : ∃ es k p, x = .Tuple es k p ∧ okEs c args es = true := by
  obtain ⟨q, hq, h⟩ := any_inv (o := asTup x) h
  exact ⟨q.1, q.2.1, q.2.2, asTup_inv hq, h⟩
theorem inv_dictIdx {c : Cx} {keys : List (List Nat)} {vals i : E} {x : Expr} (h : okE c (.dictIdx keys vals i) x = true) : ∃ ks vs dp i' p, x = .Subscript (.Dict ks vs dp) i' p ∧ okEs c vals vs = true ∧ okE c i i' = true ∧ okK keys ks = true ∧ keys.length ≤ 15 ∧ keys ≠ [] ∧ keys.length = vs.length ∧ keys.Nodup := by
  obtain ⟨q, hq, h⟩ := any_inv (o := asSub x) h
  obtain ⟨d, hd, h⟩ := any_inv (o := asDict q.1) h
  obtain ⟨h, h7⟩ := Bool.and_eq_true_iff.mp h
  obtain ⟨h, h6⟩ := Bool.and_eq_true_iff.mp h
  obtain ⟨h, h5⟩ := Bool.and_eq_true_iff.mp h
  obtain ⟨h, h4⟩ := Bool.and_eq_true_iff.mp h
  obtain ⟨h, h3⟩ := Bool.and_eq_true_iff.mp h
  obtain ⟨h1, h2⟩ := Bool.and_eq_true_iff.mp h
  exact ⟨d.1, d.2.1, d.2.2, q.2.1, q.2.2, by rw [asSub_inv hq, asDict_inv hd], h1, h2, h3, of_decide_eq_true h4, of_decide_eq_true h5, of_decide_eq_true h6, of_decide_eq_true h7⟩
theorem okE_noStar {c : Cx} {e : E} {x : Expr} (h : okE c e x = true) : ∀ y p, x ≠ .Starred y p := by
  intro y p q
  subst q
  cases e <;> exact (Bool.false_ne_true h).elim
theorem starEach_cons {x : Expr} {es : List Expr} {env : Env} (h : ∀ y p, x ≠ .Starred y p) : starEach (x :: es) env = (false, eval x env) :: starEach es env := by
  cases x <;> first | rfl | exact absurd rfl (h _ _)
noncomputable def plainTest : Expr → Bool
  | .UnaryOp .Not _ _ => false
  | .BoolOp _ _ _ => false
  | .IfExp _ _ _ _ => false
  | .Compare _ _ _ _ => false
  | _ => true
theorem test_plain {x : Expr} {env : Env} {s : Shared} {b fr : Bool} (h : plainTest x = true) (q : Ev prog w A (eval x env) s fr (.a (.bool b))) :
    wpAny (model prog w) A (isTrue x env (eval x env)) (fun b' s' => b' = b ∧ Keeps s s') (fun _ _ => False) s := by
  have e : isTrue x env (eval x env) = (do let v ← eval x env; standAt x.pos; holding [v] (truthy v)) := by
    cases x <;> first | rfl | (cases h) | skip
    rename_i op _ _
    cases op <;> first | rfl | cases h
  refine wpAny_isTrue_value (q.use fun v s' k r _ => ?_) e
  cases r
  exact wpAny_truthy_bool ⟨rfl, k⟩

theorem not_as {e : E} (h1 : ∀ Φ ρ, evs Φ e ρ = none) : AsOk prog w mg mb H₀ n Φ A e := fun _ _ _ _ _ _ _ _ _ e => by rw [h1] at e; cases e
theorem not_ps {e : E} (h1 : ∀ Φ ρ, evs Φ e ρ = none) : PsOk prog w mg mb H₀ n Φ A e := fun _ _ _ _ _ _ _ _ _ _ _ _ _ e => by rw [h1] at e; cases e
theorem not_bs {e : E} (h1 : ∀ Φ i ρ, evb Φ i e ρ = none) : BsOk prog w mg mb H₀ n Φ A e := fun _ _ _ _ _ _ _ _ _ e => by rw [h1] at e; cases e
theorem not_e {e : E} (h1 : ∀ Φ ρ, ev Φ e ρ = none) : EOk prog w mg mb H₀ n Φ A e := fun _ _ _ _ _ _ _ _ e => by rw [h1] at e; cases e
theorem not_t {e : E} (h1 : ∀ Φ ρ, ev Φ e ρ = none) : TOk prog w mg mb H₀ n Φ A e := fun _ _ _ _ _ _ _ _ e => by rw [h1] at e; cases e

theorem all_none : All prog w mg mb H₀ n Φ A .none := by
  refine ⟨fun c x ρ env s r h q e => ?_, fun _ _ _ _ _ _ _ _ e => (by cases e), not_as (fun _ _ => rfl), not_bs (fun _ _ _ => rfl), not_ps (fun _ _ => rfl)⟩
  obtain ⟨k, p, rfl⟩ := inv_none h
  cases e
  exact wpAny_Constant_none ⟨keeps_refl _, rfl, fun _ => fresh_atom (x := .none) rfl⟩
theorem all_of {e : E} (he : EOk prog w mg mb H₀ n Φ A e) (hp : ∀ c x, okE c e x = true → plainTest x = true) (h1 : ∀ Φ ρ, evs Φ e ρ = none) (h2 : ∀ Φ i ρ, evb Φ i e ρ = none) : All prog w mg mb H₀ n Φ A e :=
  ⟨he, fun c x ρ env s _ h q e => test_plain (hp c x h) (he c x ρ env s _ h q e), not_as h1, not_bs h2, not_ps h1⟩
theorem all_bool {b : Bool} : All prog w mg mb H₀ n Φ A (.bool b) := by
  refine all_of (fun c x ρ env s r h q e => ?_) (fun c x h => by obtain ⟨k, p, rfl⟩ := inv_bool h; rfl) (fun _ _ => rfl) (fun _ _ _ => rfl)
  obtain ⟨k, p, rfl⟩ := inv_bool h
  cases e
  exact wpAny_Constant_bool ⟨keeps_refl _, rfl, fun _ => fresh_atom (x := .bool b) rfl⟩
theorem all_int {i : Int} : All prog w mg mb H₀ n Φ A (.int i) := by
  refine ⟨fun c x ρ env s r h q e => ?_, fun _ _ _ _ _ _ _ _ e => (by cases e), not_as (fun _ _ => rfl), not_bs (fun _ _ _ => rfl), not_ps (fun _ _ => rfl)⟩
  cases e
  rcases inv_int h with ⟨k, p, rfl⟩ | ⟨k, p, p', rfl⟩
  · exact wpAny_Constant_int (end_atom (keeps_tok _ _) ⟨_, rfl⟩)
  · exact wpAny_UnaryOp (wpAny_Constant_int (PySem.P.neg_int (end_atom ⟨s.heap, _, rfl, fun _ _ e => e⟩ ⟨_, by rw [Int.neg_neg]⟩)))
theorem ev_str_some {l : List Nat} {ρ : Store} {r : PV} (e : ev Φ (.str l) ρ = some r) : r = .a (.str l) ∧ l.length ≤ sizeLine := by
  have e : (if l.length ≤ sizeLine then some (PV.a (.str l)) else none) = some r := e
  by_cases h : l.length ≤ sizeLine
  · rw [if_pos h] at e; cases e; exact ⟨rfl, h⟩
  · rw [if_neg h] at e; cases e
theorem all_str {l : List Nat} : All prog w mg mb H₀ n Φ A (.str l) := by
  refine ⟨fun c x ρ env s r h q e => ?_, fun _ _ _ _ _ _ _ _ e => (by cases (ev_str_some e).1), not_as (fun _ _ => rfl), not_bs (fun _ _ _ => rfl), not_ps (fun _ _ => rfl)⟩
  obtain ⟨y, k, p, rfl, rfl⟩ := inv_str h
  obtain ⟨rfl, hl⟩ := ev_str_some e
  exact wpAny_Constant_str (end_atom (keeps_tok _ _) ⟨s.toks, rfl, hl⟩)
theorem all_var {i : Nat} : All prog w mg mb H₀ n Φ A (.var i) := by
  refine all_of (fun c x ρ env s r h q e => ?_) (fun c x h => by obtain ⟨y, p, rfl, _⟩ := inv_var h; rfl) (fun _ _ => rfl) (fun _ _ _ => rfl)
  obtain ⟨y, p, rfl, h1, h2⟩ := inv_var h
  refine wpAny_Name ?_ h2
  rcases q.inv i y r h1 e with ⟨hk, m, v, hn, hm, hr⟩ | ⟨hk, a, v, hc, hi, hr⟩
  · exact wpAny_loadName_local q.eo.kind hk hn hm ⟨keeps_refl _, hr, fun h => by cases h⟩
  · exact wpAny_loadName_cell q.eo.kind hk hc hi ⟨keeps_refl _, hr, fun h => by cases h⟩

theorem all_bin {op : Operator} {l r : E} (hl : All prog w mg mb H₀ n Φ A l) (hr : All prog w mg mb H₀ n Φ A r) : All prog w mg mb H₀ n Φ A (.bin op l r) := by
  refine all_of (fun c x ρ env s v h q e => ?_) (fun c x h => by obtain ⟨_, _, _, rfl, _⟩ := inv_bin h; rfl) (fun _ _ => rfl) (fun _ _ _ => rfl)
  obtain ⟨l', r', p, rfl, h1, h2⟩ := inv_bin h
  obtain ⟨a, ha, e⟩ := bind_some2 e
  obtain ⟨b, hb, e⟩ := bind_some2 e
  refine wpAny_BinOp ((hl.pe c l' ρ env s a h1 q ha).use fun va s₁ k₁ r₁ _ => (hr.pe c r' ρ env s₁ b h2 (q.mono (keeps_sub k₁)) hb).use fun vb s₂ k₂ r₂ _ => ?_)
  exact (binop_sound (fr := true) (r₁.mono (keeps_sub k₂)) r₂ e).use fun v' s₃ k₃ r₃ f₃ => ⟨keeps_trans k₁ (keeps_trans k₂ k₃), r₃, fun _ => (f₃ rfl).sub ((keeps_sub k₁).trans (keeps_sub k₂))⟩
end
end Mine
end
section
open PySem PySem.Calls
set_option maxRecDepth 100000
namespace Mine
section
variable {prog : Program} {w : World} {mg mb : Str → Option Value} {H₀ : Heap} {n : Nat} {Φ : Nat → List PV → Option PV} {A : Around}

theorem truth_some {v : PV} {b : Bool} (h : truth v = some b) : v = .a (.bool b) := by
  unfold truth at h
  split at h
  · cases h; rfl
  · cases h
theorem truth_eq {o : Option PV} {b : Bool} (h : o.bind truth = some b) : o = some (.a (.bool b)) := by
  obtain ⟨v, hv, h⟩ := bind_some2 h
  rw [hv, truth_some h]

theorem all_notE {x : E} (hx : All prog w mg mb H₀ n Φ A x) : All prog w mg mb H₀ n Φ A (.notE x) := by
  have ht : TOk prog w mg mb H₀ n Φ A (.notE x) := by
    intro c y ρ env s b h q e
    obtain ⟨x', p, rfl, h'⟩ := inv_notE h
    obtain ⟨b', hb, e⟩ := map_some2 e
    cases e
    refine wpAny_isTrue_Not (wpAny_mono (hx.pt c x' ρ env s b' h' q (truth_eq hb)) (fun v s' k => ?_) fun _ _ e => e)
    obtain ⟨rfl, k⟩ := k
    exact ⟨rfl, k⟩
  refine ⟨?_, ht, not_as (fun _ _ => rfl), not_bs (fun _ _ _ => rfl), not_ps (fun _ _ => rfl)⟩
  intro c y ρ env s r h q e
  obtain ⟨x', p, rfl, h'⟩ := inv_notE h
  obtain ⟨b', hb, rfl⟩ := map_some2 e
  refine wpAny_UnaryOp ((hx.pe c x' ρ env s _ h' q (truth_eq hb)).use fun v s' k rr _ => ?_)
  cases rr
  exact wpAny_bind (wpAny_truthy_bool (wpAny_pure (end_atom (x := .bool (!b')) k rfl)))

theorem noMark {c : Cx} {e : E} {x : Expr} {op : CmpOp} (h : okE c e x = true) : behindInMarks op x = false := by
  cases x <;> first | rfl | (cases e <;> exact (Bool.false_ne_true h).elim)
theorem all_cmp {op : CmpOp} {l r : E} (hA : AOk n A) (hl : All prog w mg mb H₀ n Φ A l) (hr : All prog w mg mb H₀ n Φ A r) : All prog w mg mb H₀ n Φ A (.cmp op l r) := by
  have hu : A.units + 64 < cLine := by have := hA.units; omega
  have inv : ∀ {c : Cx} {y : Expr}, okE c (.cmp op l r) y = true → ∃ l' r' p, y = .Compare l' [op] [r'] p ∧ okE c l l' = true ∧ okE c r r' = true ∧ behindInMarks op r' = false := by
    intro c y h
    obtain ⟨l', r', p, e, h1, h2⟩ := inv_cmp h
    exact ⟨l', r', p, e, h1, h2, noMark h2⟩
  have main : ∀ {c : Cx} {l' r' : Expr} {ρ : Store} {env : Env} {s : Shared} {b : Bool} {Q : Value → Shared → Prop} {F : Value → Shared → Prop}, okE c l l' = true → okE c r r' = true → Cok prog w mg mb H₀ n Φ c env ρ s.heap →
      ev Φ (.cmp op l r) ρ = some (.a (.bool b)) → (∀ s', Keeps s s' → Q (.bool b) s') →
      wpAny (model prog w) A (eval l' env) (fun a s₁ => wpAny (model prog w) A (eval r' env) (fun b s₂ => wpAny (model prog w) A (compareOp op a b) Q F s₂) F s₁) F s := by
    intro c l' r' ρ env s b Q F h1 h2 q e hQ
    obtain ⟨a, ha, e⟩ := bind_some2 e
    obtain ⟨b', hb, e⟩ := bind_some2 e
    obtain ⟨d, hd, e⟩ := map_some2 e
    cases e
    exact (hl.pe c l' ρ env s a h1 q ha).use fun va s₁ k₁ r₁ _ => (hr.pe c r' ρ env s₁ b' h2 (q.mono (keeps_sub k₁)) hb).use fun vb s₂ k₂ r₂ _ =>
      cmpop_sound (r₁.mono (keeps_sub k₂)) r₂ hu hd (hQ _ (keeps_trans k₁ k₂))
  have isb : ∀ {ρ v}, ev Φ (.cmp op l r) ρ = some v → ∃ b, v = .a (.bool b) := by
    intro ρ v e
    obtain ⟨a, ha, e⟩ := bind_some2 e
    obtain ⟨b', hb, e⟩ := bind_some2 e
    obtain ⟨d, hd, e⟩ := map_some2 e
    exact ⟨d, e.symm⟩
  refine ⟨?_, ?_, not_as (fun _ _ => rfl), not_bs (fun _ _ _ => rfl), not_ps (fun _ _ => rfl)⟩
  · intro c y ρ env s v h q e
    obtain ⟨l', r', p, rfl, h1, h2, hm⟩ := inv h
    obtain ⟨b, rfl⟩ := isb e
    exact wpAny_Compare1 (main h1 h2 q e fun s' k => end_atom (x := .bool b) k rfl) hm
  · intro c y ρ env s b h q e
    obtain ⟨l', r', p, rfl, h1, h2, hm⟩ := inv h
    exact wpAny_isTrue_Compare1 (main h1 h2 q e fun s' k => wpAny_truthy_bool ⟨rfl, k⟩) hm

theorem all_cmp2 {o1 o2 : CmpOp} {a b d : E} (hA : AOk n A) (ha : All prog w mg mb H₀ n Φ A a) (hb : All prog w mg mb H₀ n Φ A b) (hd : All prog w mg mb H₀ n Φ A d) : All prog w mg mb H₀ n Φ A (.cmp2 o1 o2 a b d) := by
  have hu : A.units + 64 < cLine := by have := hA.units; omega
  have main : ∀ {c : Cx} {a' b' d' : Expr} {ρ : Store} {env : Env} {s : Shared} {r : Bool}, okE c a a' = true → okE c b b' = true → okE c d d' = true → Cok prog w mg mb H₀ n Φ c env ρ s.heap →
      ev Φ (.cmp2 o1 o2 a b d) ρ = some (.a (.bool r)) → ∃ x y q, ev Φ a ρ = some x ∧ ev Φ b ρ = some y ∧ cmpop o1 x y = some q ∧ ((q = false ∧ r = false) ∨ (q = true ∧ ∃ z, ev Φ d ρ = some z ∧ cmpop o2 y z = some r)) := by
    intro c a' b' d' ρ env s r h1 h2 h3 q e
    obtain ⟨x, hx, e⟩ := bind_some2 e
    obtain ⟨y, hy, e⟩ := bind_some2 e
    obtain ⟨q', hq, e⟩ := bind_some2 e
    refine ⟨x, y, q', hx, hy, hq, ?_⟩
    cases q' with
    | false => cases e; exact .inl ⟨rfl, rfl⟩
    | true =>
      obtain ⟨z, hz, e⟩ := bind_some2 (o := ev Φ d ρ) e
      obtain ⟨r', hr, e⟩ := map_some2 e
      cases e
      exact .inr ⟨rfl, z, hz, hr⟩
  have isb : ∀ {ρ v}, ev Φ (.cmp2 o1 o2 a b d) ρ = some v → ∃ b, v = .a (.bool b) := by
    intro ρ v e
    obtain ⟨x, hx, e⟩ := bind_some2 e
    obtain ⟨y, hy, e⟩ := bind_some2 e
    obtain ⟨q', hq, e⟩ := bind_some2 e
    cases q' with
    | false => cases e; exact ⟨false, rfl⟩
    | true =>
      obtain ⟨z, hz, e⟩ := bind_some2 (o := ev Φ d ρ) e
      obtain ⟨r', hr, e⟩ := map_some2 e
      exact ⟨r', e.symm⟩
  refine ⟨?_, ?_, not_as (fun _ _ => rfl), not_bs (fun _ _ _ => rfl), not_ps (fun _ _ => rfl)⟩
  · intro c y ρ env s v h q e
    obtain ⟨a', b', d', p, rfl, h1, h2, h3⟩ := inv_cmp2 h
    obtain ⟨r, rfl⟩ := isb e
    obtain ⟨x, y, q', hx, hy, hq, hr⟩ := main h1 h2 h3 q e
    have hm : lastMarks [o1, o2] [b', d'] = false := noMark h3
    refine PyProof.Rows.Compare_chain (rs := []) (ops := []) ((ha.pe c a' ρ env s x h1 q hx).use fun va s₁ k₁ r₁ _ => PyProof.Rows.chain_link ((hb.pe c b' ρ env s₁ y h2 (q.mono (keeps_sub k₁)) hy).use fun vb s₂ k₂ r₂ _ =>
      cmpop_sound (r₁.mono (keeps_sub k₂)) r₂ hu hq (wpAny_truthy_bool ?_))) hm
    rcases hr with ⟨rfl, rfl⟩ | ⟨rfl, z, hz, hr⟩
    · exact end_atom (x := .bool false) (keeps_trans k₁ k₂) rfl
    · refine PyProof.Rows.chain_last ((hd.pe c d' ρ env s₂ z h3 ((q.mono (keeps_sub k₁)).mono (keeps_sub k₂)) hz).use fun vd s₃ k₃ r₃ _ =>
        cmpop_sound (r₂.mono (keeps_sub k₃)) r₃ hu hr (end_atom (x := .bool r) (keeps_trans k₁ (keeps_trans k₂ k₃)) rfl))
  · intro c y ρ env s r h q e
    obtain ⟨a', b', d', p, rfl, h1, h2, h3⟩ := inv_cmp2 h
    obtain ⟨x, y, q', hx, hy, hq, hr⟩ := main h1 h2 h3 q e
    have hm : lastMarks [o1, o2] [b', d'] = false := noMark h3
    refine PyProof.Rows.isTrue_chain (rs := []) (ops := []) ((ha.pe c a' ρ env s x h1 q hx).use fun va s₁ k₁ r₁ _ => PyProof.Rows.test_link ((hb.pe c b' ρ env s₁ y h2 (q.mono (keeps_sub k₁)) hy).use fun vb s₂ k₂ r₂ _ =>
      cmpop_sound (r₁.mono (keeps_sub k₂)) r₂ hu hq (wpAny_truthy_bool ?_))) hm
    rcases hr with ⟨rfl, rfl⟩ | ⟨rfl, z, hz, hr⟩
    · exact ⟨rfl, keeps_trans k₁ k₂⟩
    · refine PyProof.Rows.test_last ((hd.pe c d' ρ env s₂ z h3 ((q.mono (keeps_sub k₁)).mono (keeps_sub k₂)) hz).use fun vd s₃ k₃ r₃ _ =>
        cmpop_sound (r₂.mono (keeps_sub k₃)) r₃ hu hr (wpAny_truthy_bool ⟨rfl, keeps_trans k₁ (keeps_trans k₂ k₃)⟩))

theorem all_nil : All prog w mg mb H₀ n Φ A .nil := by
  refine ⟨not_e (fun _ _ => rfl), not_t (fun _ _ => rfl), ?_, ?_, ?_⟩
  rotate_left 2
  · intro c keys ks es ρ env s vs pos h hk hl q e
    cases es with
    | cons _ _ => exact (Bool.false_ne_true h).elim
    | nil =>
      cases e
      obtain rfl := List.length_eq_zero_iff.mp hl
      obtain rfl := okK_nil hk
      exact pairTrees_nil_walk ⟨keeps_refl _, [], trivial, rfl, .nil⟩
  · intro c es ρ env s vs pos h q e
    cases es with
    | cons _ _ => exact (Bool.false_ne_true h).elim
    | nil =>
      cases e
      exact Calls.spliced_nil ⟨keeps_refl _, .nil⟩
  · intro isAnd c es ρ env s b h q e
    cases es with
    | cons _ _ => exact (Bool.false_ne_true h).elim
    | nil =>
      cases e
      refine ⟨fun _ h => absurd rfl h, ?_⟩
      cases isAnd
      · exact wpAny_allTrue_Or_nil ⟨rfl, keeps_refl _⟩
      · exact wpAny_allTrue_And_nil ⟨rfl, keeps_refl _⟩
theorem inv_cons {c : Cx} {x r : E} {es : List Expr} (h : okEs c (.cons x r) es = true) : ∃ y t, es = y :: t ∧ okE c x y = true ∧ okEs c r t = true := by
  cases es with
  | nil => exact (Bool.false_ne_true h).elim
  | cons y t => exact ⟨y, t, rfl, Bool.and_eq_true_iff.mp h⟩
theorem evb_nil {c : Cx} {r : E} {isAnd b : Bool} {ρ : Store} (h : okEs c r [] = true) (e : evb Φ isAnd r ρ = some b) : b = isAnd := by
  cases r with
  | nil => cases e; rfl
  | _ => exact (Bool.false_ne_true h).elim
theorem Keeps.post {s s₁ s₂ : Shared} {α : Type} {v b : α} (k : Keeps s s₁) (z : v = b ∧ Keeps s₁ s₂) : v = b ∧ Keeps s s₂ := ⟨z.1, keeps_trans k z.2⟩
theorem all_cons {x r : E} (hx : All prog w mg mb H₀ n Φ A x) (hr : All prog w mg mb H₀ n Φ A r) : All prog w mg mb H₀ n Φ A (.cons x r) := by
  refine ⟨not_e (fun _ _ => rfl), not_t (fun _ _ => rfl), ?_, ?_, ?_⟩
  rotate_left 2
  · intro c keys ks es ρ env s vs pos h hk hl q e
    obtain ⟨y, es, rfl, h1, h2⟩ := inv_cons h
    obtain ⟨v, hv, e⟩ := bind_some2 e
    obtain ⟨us, hus, rfl⟩ := map_some2 e
    cases keys with
    | nil => cases hl
    | cons key keys =>
      obtain ⟨kx, _, _, ks, rfl, h5, hk'⟩ := okK_cons hk
      obtain rfl : kx = ⟨key.toArray⟩ := Str.ext' (by rw [← h5])
      refine pairTrees_cons_walk (wpAny_Constant_str ?_)
      have k0 : Keeps s { s with toks := s.toks + 1 } := keeps_tok _ _
      refine (hx.pe c y ρ env _ v h1 (q.mono (keeps_sub k0)) hv).use fun v' s₁ k₁ r₁ _ => wpAny_mono (hr.pps c keys ks es ρ env s₁ us pos h2 hk' (Nat.succ.inj hl) ((q.mono (keeps_sub k0)).mono (keeps_sub k₁)) hus) (fun ps s₂ k₂ => ?_) fun _ _ e => e
      obtain ⟨k₂, kvs, hc, hn, hp⟩ := k₂
      exact ⟨keeps_trans k0 (keeps_trans k₁ k₂), (⟨key.toArray⟩, v') :: kvs, ⟨strKind_is prog w _ _, rfl, hc⟩, by rw [List.map_cons, List.map_cons, hn], .cons (r₁.mono (keeps_sub k₂)) hp⟩
  · intro c es ρ env s vs pos h q e
    obtain ⟨y, es, rfl, h1, h2⟩ := inv_cons h
    obtain ⟨v, hv, e⟩ := bind_some2 e
    obtain ⟨us, hus, rfl⟩ := map_some2 e
    have e1 : backTo pos (starEach (y :: es) env) = (false, eval y env) :: backTo pos (starEach es env) := by
      rw [starEach_cons (okE_noStar h1)]; rfl
    rw [e1]
    refine Calls.spliced_cons ((hx.pe c y ρ env s v h1 q hv).use fun v' s₁ k₁ r₁ _ => wpAny_mono (hr.pas c es ρ env s₁ us pos h2 (q.mono (keeps_sub k₁)) hus) (fun us' s₂ k₂ => ?_) fun _ _ e => e)
    exact ⟨keeps_trans k₁ k₂.1, .cons (r₁.mono (keeps_sub k₂.1)) k₂.2⟩
  · intro isAnd c es ρ env s b h q e
    obtain ⟨y, es, rfl, h1, h2⟩ := inv_cons h
    obtain ⟨b', hb, e⟩ := bind_some2 e
    have hb := truth_eq hb
    have e : (if b' = isAnd then evb Φ isAnd r ρ else some b') = some b := e
    refine ⟨fun pos _ => ?_, ?_⟩
    · cases es with
      | nil =>
        have he : b' = b := by
          by_cases hi : b' = isAnd
          · rw [if_pos hi] at e; rw [hi, evb_nil h2 e]
          · rw [if_neg hi] at e; exact Option.some.inj e
        subst he
        show wpAny (model prog w) A (eval y env) _ _ s
        refine (hx.pe c y ρ env s _ h1 q hb).use fun v s₁ k₁ r₁ _ => ?_
        cases r₁
        exact ⟨rfl, k₁⟩
      | cons y' es =>
        show wpAny (model prog w) A (do
          let v ← eval y env
          standAt pos
          let t ← holding [v] (truthy v)
          match (if isAnd then BoolOp.And else BoolOp.Or), t with
          | .And, false | .Or, true => pure v
          | _, _ => boolOp pos (if isAnd then .And else .Or) (evalEach (y' :: es) env)) _ _ s
        refine wpAny_bind ((hx.pe c y ρ env s _ h1 q hb).use fun v s₁ k₁ r₁ _ => wpAny_bind (wpAny_standAt (wpAny_bind (wpAny_holding ?_))))
        cases r₁
        refine wpAny_truthy_bool ?_
        by_cases hba : b' = isAnd
        · rw [if_pos hba] at e
          have rest := wpAny_mono ((hr.pbs isAnd c (y' :: es) ρ env s₁ b h2 (q.mono (keeps_sub k₁)) e).1 pos (fun q => nomatch q)) (Q' := fun v s' => v = .bool b ∧ Keeps s s') (fun _ _ z => Keeps.post k₁ z) (fun _ _ z => z)
          subst hba
          cases b' <;> exact rest
        · rw [if_neg hba] at e
          cases e
          cases b <;> cases isAnd <;> first | exact wpAny_pure ⟨rfl, k₁⟩ | exact absurd rfl hba
    · have t1 := hx.pt c y ρ env s b' h1 q hb
      cases isAnd
      · refine wpAny_allTrue_Or_cons (wpAny_mono t1 (fun v s₁ k => ?_) fun _ _ e => e)
        obtain ⟨rfl, k₁⟩ := k
        cases v
        · exact wpAny_mono (hr.pbs false c es ρ env s₁ b h2 (q.mono (keeps_sub k₁)) e).2 (fun _ _ z => Keeps.post k₁ z) (fun _ _ z => z)
        · cases e; exact ⟨rfl, k₁⟩
      · refine wpAny_allTrue_And_cons (wpAny_mono t1 (fun v s₁ k => ?_) fun _ _ e => e)
        obtain ⟨rfl, k₁⟩ := k
        cases v
        · cases e; exact ⟨rfl, k₁⟩
        · exact wpAny_mono (hr.pbs true c es ρ env s₁ b h2 (q.mono (keeps_sub k₁)) e).2 (fun _ _ z => Keeps.post k₁ z) (fun _ _ z => z)
theorem all_boolE {isAnd : Bool} {args : E} (ha : All prog w mg mb H₀ n Φ A args) : All prog w mg mb H₀ n Φ A (.boolE isAnd args) := by
  refine ⟨?_, ?_, not_as (fun _ _ => rfl), not_bs (fun _ _ _ => rfl), not_ps (fun _ _ => rfl)⟩
  · intro c y ρ env s v h q e
    obtain ⟨es, p, rfl, h1, h2⟩ := inv_boolE h
    obtain ⟨b, hb, rfl⟩ := map_some2 e
    show wpAny (model prog w) A (boolOp p _ (evalEach es env)) _ _ s
    refine wpAny_mono ((ha.pbs isAnd c es ρ env s b h1 q hb).1 p h2) (fun v s' k => ?_) fun _ _ e => e
    obtain ⟨rfl, k⟩ := k
    exact end_atom (x := .bool b) k rfl
  · intro c y ρ env s b h q e
    obtain ⟨es, p, rfl, h1, h2⟩ := inv_boolE h
    obtain ⟨b', hb, e⟩ := map_some2 e
    cases e
    exact wpAny_isTrue_BoolOp (ha.pbs isAnd c es ρ env s b h1 q hb).2
theorem all_ite {t a b : E} (ht : All prog w mg mb H₀ n Φ A t) (ha : All prog w mg mb H₀ n Φ A a) (hb : All prog w mg mb H₀ n Φ A b) : All prog w mg mb H₀ n Φ A (.ite t a b) := by
  refine ⟨?_, ?_, not_as (fun _ _ => rfl), not_bs (fun _ _ _ => rfl), not_ps (fun _ _ => rfl)⟩
  · intro c y ρ env s v h q e
    obtain ⟨t', a', b', p, rfl, h1, h2, h3⟩ := inv_ite h
    obtain ⟨d, hd, e⟩ := bind_some2 e
    refine wpAny_IfExp (wpAny_mono (ht.pt c t' ρ env s d h1 q (truth_eq hd)) (fun d' s₁ k => ?_) fun _ _ e => e)
    obtain ⟨rfl, k₁⟩ := k
    cases d'
    · exact (hb.pe c b' ρ env s₁ v h3 (q.mono (keeps_sub k₁)) e).use fun v' s₂ k₂ r₂ f₂ => ⟨keeps_trans k₁ k₂, r₂, fun hf => (f₂ (Bool.and_eq_true_iff.mp hf).2).sub (keeps_sub k₁)⟩
    · exact (ha.pe c a' ρ env s₁ v h2 (q.mono (keeps_sub k₁)) e).use fun v' s₂ k₂ r₂ f₂ => ⟨keeps_trans k₁ k₂, r₂, fun hf => (f₂ (Bool.and_eq_true_iff.mp hf).1).sub (keeps_sub k₁)⟩
  · intro c y ρ env s v h q e
    obtain ⟨t', a', b', p, rfl, h1, h2, h3⟩ := inv_ite h
    obtain ⟨d, hd, e⟩ := bind_some2 e
    show wpAny (model prog w) A (do if ← isTrue t' env (eval t' env) then isTrue a' env (eval a' env) else isTrue b' env (eval b' env)) _ _ s
    refine wpAny_bind (wpAny_mono (ht.pt c t' ρ env s d h1 q (truth_eq hd)) (fun d' s₁ k => ?_) fun _ _ e => e)
    obtain ⟨rfl, k₁⟩ := k
    cases d'
    · exact wpAny_mono (hb.pt c b' ρ env s₁ v h3 (q.mono (keeps_sub k₁)) e) (fun _ _ z => ⟨z.1, keeps_trans k₁ z.2⟩) (fun _ _ z => z)
    · exact wpAny_mono (ha.pt c a' ρ env s₁ v h2 (q.mono (keeps_sub k₁)) e) (fun _ _ z => ⟨z.1, keeps_trans k₁ z.2⟩) (fun _ _ z => z)
end
end Mine
end
section
open PySem PySem.Calls
set_option maxRecDepth 100000
namespace Mine
section
variable {prog : Program} {w : World} {mg mb : Str → Option Value} {H₀ : Heap} {n : Nat} {Φ : Nat → List PV → Option PV} {A : Around}

theorem inv_es {c : Cx} {args : E} {y : Expr} {es : List Expr} (h : okEs c args (y :: es) = true) : ∃ a r, args = .cons a r ∧ okE c a y = true ∧ okEs c r es = true := by
  cases args with
  | cons a r => exact ⟨a, r, rfl, Bool.and_eq_true_iff.mp h⟩
  | _ => exact (Bool.false_ne_true h).elim
theorem inv_es_nil {c : Cx} {args : E} (h : okEs c args [] = true) : args = .nil := by
  cases args with
  | nil => rfl
  | _ => exact (Bool.false_ne_true h).elim
theorem trees_plain {c : Cx} {env : Env} {pos : Pos} : ∀ {args : E} {es : List Expr}, okEs c args es = true → (backTo pos (starEach es env)).any (·.1) = false ∧ (backTo pos (starEach es env)).all (fun x => !x.1) = true
  | args, [], _ => ⟨rfl, rfl⟩
  | args, y :: es, h => by
    obtain ⟨a, r, rfl, h1, h2⟩ := inv_es h
    have e1 : backTo pos (starEach (y :: es) env) = (false, eval y env) :: backTo pos (starEach es env) := by
      rw [starEach_cons (okE_noStar h1)]; rfl
    rw [e1]
    exact trees_plain (env := env) (pos := pos) h2
theorem args_eval {args : E} (ha : All prog w mg mb H₀ n Φ A args) {c : Cx} {es : List Expr} {ρ : Store} {env : Env} {s : Shared} {vs : List PV} {pos : Pos} {f : Value} (h : okEs c args es = true)
    (q : Cok prog w mg mb H₀ n Φ c env ρ s.heap) (e : evs Φ args ρ = some vs) :
    wpAny (model prog w) A (evalArgs f true (backTo pos (starEach es env)) []) (fun a s' => a.kw = [] ∧ Keeps s s' ∧ Paired (fun v x => Rep s'.heap v x) a.pos vs) (fun _ _ => False) s := by
  have key := ha.pas c es ρ env s vs pos h q e
  cases es with
  | nil =>
    obtain rfl := inv_es_nil h
    cases e
    exact PyProof.Rows.evalArgs_nil3 ⟨rfl, keeps_refl _, .nil⟩
  | cons y es =>
    obtain ⟨a, r, rfl, h1, _⟩ := inv_es h
    have e1 : backTo pos (starEach (y :: es) env) = (false, eval y env) :: backTo pos (starEach es env) := by
      rw [starEach_cons (okE_noStar h1)]; rfl
    rw [e1] at key ⊢
    exact Calls.evalArgs_plain (wpAny_mono key (fun us s' k => ⟨rfl, k.1, k.2⟩) fun _ _ e => e)
theorem glob_kind {c : Cx} {env : Env} {x : Str} (he : EnvOk c env) (h : c.glob x = true) : env.kindOf x = some .globalImplicit := by
  unfold Env.kindOf
  rw [he.names]
  simpa [Cx.glob] using h
theorem call_fn {args : E} (G : Gd mg mb H₀) (hA : AOk n A) (ha : All prog w mg mb H₀ n Φ A args) {f : Nat} {c : Cx} {x : Str} {np pos : Pos} {es : List Expr} {ρ : Store} {env : Env} {s : Shared} {r : PV} {fr : Bool}
    (h1 : c.fn f = some x) (h2 : c.glob x = true) (h3 : (x == debugName) = false) (h4 : okEs c args es = true) (q : Cok prog w mg mb H₀ n Φ c env ρ s.heap) (e : ev Φ (.call f args) ρ = some r) :
    Ev prog w A (eval (.Call (.Name x np) es [] pos) env) s fr r := by
  obtain ⟨vs, hvs, e⟩ := bind_some2 e
  obtain ⟨a, o, fd, hm, ho, hd, hc⟩ := q.fns f x h1
  refine wpAny_Call_NameR (Calls.Name_function_global q.eo.kind (glob_kind q.eo h2) (Calls.loadGlobal_global (by rw [q.eo.globals]; exact G.g.keeps q.base) hm ?_) h3)
  refine Calls.callWith_function (o := o) (fd := fd) (wpAny_mono (args_eval ha h4 q hvs) (fun b s₁ k => ?_) fun _ _ e => e)
  obtain ⟨kw, k₁, hp⟩ := k
  have hs := q.base.trans (keeps_sub k₁)
  refine ⟨⟨hs _ _ ho, hd⟩, ?_⟩
  rw [kw]
  refine wpAny_call (codeAny_mono (hc A s₁ b.pos vs r hA hs hp e) fun res s' h => ?_)
  obtain ⟨v, rfl, k₂, r₂, f₂⟩ := h
  exact ⟨keeps_trans k₁ k₂, r₂, fun _ => f₂.sub (keeps_sub k₁)⟩
theorem all_call {f : Nat} {args : E} (G : Gd mg mb H₀) (hA : AOk n A) (ha : All prog w mg mb H₀ n Φ A args) : All prog w mg mb H₀ n Φ A (.call f args) := by
  have he : EOk prog w mg mb H₀ n Φ A (.call f args) := by
    intro c y ρ env s r h q e
    obtain ⟨x, np, es, pos, rfl, h1, h2, h3, h4⟩ := inv_call h
    exact call_fn G hA ha h1 h2 h3 h4 q e
  refine ⟨he, fun c x ρ env s b' h q e => test_plain ?_ (he c x ρ env s _ h q e), not_as (fun _ _ => rfl), not_bs (fun _ _ _ => rfl), not_ps (fun _ _ => rfl)⟩
  obtain ⟨x, np, es, pos, rfl, _⟩ := inv_call h
  rfl

theorem bi_boot (f : BI) : bootBuiltins (biName f) = some (biVal f) := by
  cases f
  · exact PyProof.Rows.Boot.«len»
  · exact PyProof.Rows.Boot.«ord»
  · exact PyProof.Rows.Boot.«str»
  · exact PyProof.Rows.Boot.«min»
  · exact PyProof.Rows.Boot.«max»
  · exact PyProof.Rows.Boot.«sum»
  · exact PyProof.Rows.Boot.«bytes»
theorem bi_used (f : BI) : biName f ∈ usedNames := by cases f <;> decide
theorem bi_ne (f : BI) : biName f ≠ "__name__" := by cases f <;> decide
theorem bi_dbg (f : BI) : (biName f == ("__debug__" : Str)) = false := by cases f <;> decide
theorem all_bi {f : BI} {args : E} (G : Gd mg mb H₀) (hA : AOk n A) (ha : All prog w mg mb H₀ n Φ A args) : All prog w mg mb H₀ n Φ A (.bi f args) := by
  have he : EOk prog w mg mb H₀ n Φ A (.bi f args) := by
    intro c y ρ env s r h q e
    obtain ⟨np, es, pos, rfl, h2, h4⟩ := inv_bi h
    obtain ⟨vs, hvs, e⟩ := bind_some2 e
    refine wpAny_Call_NameR (Calls.Name_function_global q.eo.kind (glob_kind q.eo h2) (Calls.loadGlobal_builtin (v := biVal f) (by rw [q.eo.globals]; exact G.g.keeps q.base) (G.nob _ (bi_used f)) (by rw [q.eo.builtins]; exact G.b.keeps q.base)
      (by rw [G.bi _ (bi_ne f)]; exact bi_boot f) ?_) (bi_dbg f))
    have fin : ∀ (b : Args) (s₁ : Shared), b.kw = [] ∧ Keeps s s₁ ∧ Paired (fun v x => Rep s₁.heap v x) b.pos vs →
        wpAny (model prog w) A (call (biVal f) ([] ++ b.pos) b.kw) (fun v s' => Keeps s s' ∧ Rep s'.heap v r ∧ (true = true → Fresh s.heap v)) (fun _ _ => False) s₁ := by
      intro b s₁ k
      obtain ⟨kw, k₁, hp⟩ := k
      rw [kw]
      exact (bi_sound (fr := true) hA.handled hp e).use fun v s₂ k₂ r₂ f₂ => ⟨keeps_trans k₁ k₂, r₂, fun _ => (f₂ rfl).sub (keeps_sub k₁)⟩
    have hpl := (trees_plain (env := env) (pos := pos) h4).1
    have run := args_eval (f := biVal f) (pos := pos) ha h4 q hvs
    cases f
    · exact Calls.callWith_builtin hpl (wpAny_mono run fin fun _ _ e => e)
    · exact Calls.callWith_builtin hpl (wpAny_mono run fin fun _ _ e => e)
    · exact PySem.callWith_type hpl (wpAny_mono run fin fun _ _ e => e)
    · exact Calls.callWith_builtin hpl (wpAny_mono run fin fun _ _ e => e)
    · exact Calls.callWith_builtin hpl (wpAny_mono run fin fun _ _ e => e)
    · exact Calls.callWith_builtin hpl (wpAny_mono run fin fun _ _ e => e)
    · exact PySem.callWith_type hpl (wpAny_mono run fin fun _ _ e => e)
  refine ⟨he, fun c x ρ env s b' h q e => test_plain ?_ (he c x ρ env s _ h q e), not_as (fun _ _ => rfl), not_bs (fun _ _ _ => rfl), not_ps (fun _ _ => rfl)⟩
  obtain ⟨np, es, pos, rfl, _⟩ := inv_bi h
  rfl

theorem base_ok {o : Expr} {name : Str} {env : Env} (h : baseOk o = true) : attributeBase o name env (eval o env) = eval o env := by
  unfold attributeBase
  split
  · exact (Bool.false_ne_true h).elim
  · rfl
theorem recv_type {m : ME} {x : PV} {v : Value} {s : Shared} (h : Rep s.heap v x) (e : meRecv m x = true) : s.TypeIs v (meT m) ∧ ∀ a, v = .ref a → ∃ ob, s.heap.get? a = some ob ∧ ob.dict = none := by
  have hs : (pStr x).isSome = true → s.TypeIs v "str" ∧ ∀ a, v = .ref a → ∃ ob, s.heap.get? a = some ob ∧ ob.dict = none := fun e => by
    obtain ⟨l, hl⟩ := Option.isSome_iff_exists.mp e
    obtain rfl := pStr_inv hl
    obtain ⟨t, rfl, _⟩ := h
    exact ⟨typeIs_str _ _ _, fun _ e => nomatch e⟩
  have hl : (pList x).isSome = true → s.TypeIs v "list" ∧ ∀ a, v = .ref a → ∃ ob, s.heap.get? a = some ob ∧ ob.dict = none := fun e => by
    obtain ⟨l, hl⟩ := Option.isSome_iff_exists.mp e
    obtain rfl := pList_inv hl
    obtain ⟨a, vs, rfl, ⟨n, hp⟩, _⟩ := h
    exact ⟨⟨_, hp, rfl⟩, fun _ e => by cases e; exact ⟨_, hp, rfl⟩⟩
  cases m
  · exact hs e
  · exact hs e
  · exact hs e
  · exact hs e
  · exact hl e
  · exact hl e
theorem all_me {m : ME} {o args : E} (ho : All prog w mg mb H₀ n Φ A o) (ha : All prog w mg mb H₀ n Φ A args) : All prog w mg mb H₀ n Φ A (.me m o args) := by
  have he : EOk prog w mg mb H₀ n Φ A (.me m o args) := by
    intro c y ρ env s r h q e
    obtain ⟨o', ap, es, pos, rfl, h1, h2, h3, h4, h5⟩ := inv_me h
    obtain ⟨x, hx, e⟩ := bind_some2 e
    obtain ⟨vs, hvs, e⟩ := bind_some2 e
    have hpl := trees_plain (env := env) (pos := pos) h4
    refine wpAny_Call_method (base_ok h1) ?_ h2 (me_plain m) (me_slot m) (me_type m) ((ho.pe c o' ρ env s x h3 q hx).use fun v s₁ k₁ r₁ _ => ?_)
    · rw [hpl.2]; simp [backToKw, keywordEach]; omega
    · obtain ⟨t1, t2⟩ := recv_type r₁ (me_recv e)
      refine ⟨t1, t2, Calls.callWith_builtin hpl.1 (wpAny_mono (args_eval ha h4 (q.mono (keeps_sub k₁)) hvs) (fun b s₂ k => ?_) fun _ _ e => e)⟩
      obtain ⟨kw, k₂, hp⟩ := k
      rw [kw]
      exact (me_sound (fr := true) (r₁.mono (keeps_sub k₂)) hp e).use fun v s₃ k₃ r₃ f₃ => ⟨keeps_trans k₁ (keeps_trans k₂ k₃), r₃, fun _ => (f₃ rfl).sub ((keeps_sub k₁).trans (keeps_sub k₂))⟩
  refine ⟨he, fun c x ρ env s b' h q e => test_plain ?_ (he c x ρ env s _ h q e), not_as (fun _ _ => rfl), not_bs (fun _ _ _ => rfl), not_ps (fun _ _ => rfl)⟩
  obtain ⟨o', ap, es, pos, rfl, _⟩ := inv_me h
  rfl

theorem atoms_paired {h : Heap} : ∀ {vs : List PV} {us : List Value} {xs : List At}, Paired (fun v x => Rep h v x) us vs → atoms vs = some xs → Paired RepA us xs
  | [], _, _, p, e => by cases p; cases e; exact .nil
  | .a x :: r, _, _, p, e => by
    simp only [atoms, Option.map_eq_some_iff] at e
    obtain ⟨ys, hy, rfl⟩ := e
    cases p with
    | cons f t => exact .cons f (atoms_paired t hy)
  | .list _ :: _, _, _, _, e => by cases e
  | .tup _ :: _, _, _, _, e => by cases e
  | .bytes _ :: _, _, _, _, e => by cases e
theorem all_list {args : E} (ha : All prog w mg mb H₀ n Φ A args) : All prog w mg mb H₀ n Φ A (.list args) := by
  have shape : ∀ {ρ : Store} {r : PV}, ev Φ (.list args) ρ = some r → ∃ vs xs, evs Φ args ρ = some vs ∧ vs.length ≤ sizeLine ∧ atoms vs = some xs ∧ r = .list xs := by
    intro ρ r e
    obtain ⟨vs, hvs, e⟩ := bind_some2 e
    have e : (if vs.length ≤ sizeLine then (atoms vs).map .list else none) = some r := e
    by_cases hl : vs.length ≤ sizeLine
    · rw [if_pos hl] at e
      obtain ⟨xs, hx, rfl⟩ := map_some2 e
      exact ⟨vs, xs, hvs, hl, hx, rfl⟩
    · rw [if_neg hl] at e; cases e
  refine ⟨fun c y ρ env s r h q e => ?_, fun c y ρ env s b h q e => ?_, not_as (fun _ _ => rfl), not_bs (fun _ _ _ => rfl), not_ps (fun _ _ => rfl)⟩
  · obtain ⟨es, p, rfl, h⟩ := inv_list h
    obtain ⟨vs, xs, hvs, hl, hx, rfl⟩ := shape e
    refine wpAny_List (wpAny_mono (ha.pas c _ ρ env s vs _ h q hvs) (fun us s₁ k => ?_) fun _ _ e => e)
    obtain ⟨k₁, hp⟩ := k
    have hz : us.length ≤ sizeLine := hp.length ▸ hl
    have end' := end_new (s := s₁) (fr := true) (n := 0) s₁.toks (o := { cls := .type "list", data := .seq us.toArray }) rfl (atoms_paired hp hx) hz
    exact ⟨hz, keeps_trans k₁ end'.1, end'.2.1, fun _ => (end'.2.2 rfl).sub (keeps_sub k₁)⟩
  · obtain ⟨vs, xs, _, _, _, e⟩ := shape e
    cases e
theorem all_tup {args : E} (ha : All prog w mg mb H₀ n Φ A args) : All prog w mg mb H₀ n Φ A (.tup args) := by
  have shape : ∀ {ρ : Store} {r : PV}, ev Φ (.tup args) ρ = some r → ∃ vs xs, evs Φ args ρ = some vs ∧ vs.length ≤ sizeLine ∧ atoms vs = some xs ∧ r = .tup xs := by
    intro ρ r e
    obtain ⟨vs, hvs, e⟩ := bind_some2 e
    have e : (if vs.length ≤ sizeLine then (atoms vs).map .tup else none) = some r := e
    by_cases hl : vs.length ≤ sizeLine
    · rw [if_pos hl] at e
      obtain ⟨xs, hx, rfl⟩ := map_some2 e
      exact ⟨vs, xs, hvs, hl, hx, rfl⟩
    · rw [if_neg hl] at e; cases e
  refine ⟨fun c y ρ env s r h q e => ?_, fun c y ρ env s b h q e => ?_, not_as (fun _ _ => rfl), not_bs (fun _ _ _ => rfl), not_ps (fun _ _ => rfl)⟩
  · obtain ⟨es, k, p, rfl, h⟩ := inv_tup h
    obtain ⟨vs, xs, hvs, hl, hx, rfl⟩ := shape e
    refine wpAny_Tuple (wpAny_mono (ha.pas c _ ρ env s vs _ h q hvs) (fun us s₁ k => ?_) fun _ _ e => e)
    obtain ⟨k₁, hp⟩ := k
    have hz : us.length ≤ sizeLine := hp.length ▸ hl
    have end' := end_newT (s := s₁) (fr := true) (n := 0) s₁.toks (o := { cls := .type "tuple", data := .seq us.toArray }) rfl (atoms_paired hp hx) hz
    exact ⟨hz, keeps_trans k₁ end'.1, end'.2.1, fun _ => (end'.2.2 rfl).sub (keeps_sub k₁)⟩
  · obtain ⟨vs, xs, _, _, _, e⟩ := shape e
    cases e
end
end Mine
end
section
open PySem PySem.Calls
set_option maxRecDepth 100000
namespace Mine
section
variable {prog : Program} {w : World} {mg mb : Str → Option Value} {H₀ : Heap} {n : Nat} {Φ : Nat → List PV → Option PV} {A : Around}

theorem subscripted_plain {c : Cx} {e : E} {x : Expr} (h : okE c e x = true) (o i : Value) : subscripted x false o i = operate [o, i] (getItem o i) := by
  cases x <;> first | rfl | (cases e <;> exact (Bool.false_ne_true h).elim)
theorem index_cases {o i r : PV} (q : index o i = some r) : (∃ l k c, o = .a (.str l) ∧ i = .a (.int k) ∧ 0 ≤ k ∧ l[k.toNat]? = some c ∧ r = .a (.str [c])) ∨ (∃ xs k y, o = .list xs ∧ i = .a (.int k) ∧ 0 ≤ k ∧ xs[k.toNat]? = some y ∧ r = .a y) := by
  obtain ⟨k, hk, q1⟩ := bind_some2 q
  have hi := pInt_inv hk
  by_cases h0 : 0 ≤ k
  · rw [if_pos h0] at q1
    cases o with
    | list xs =>
      obtain ⟨y, hy, rfl⟩ := map_some2 q1
      exact .inr ⟨xs, k, y, rfl, hi, h0, hy, rfl⟩
    | a z =>
      obtain ⟨l, hl, q2⟩ := bind_some2 (o := pStr (.a z)) q1
      obtain ⟨c, hc, rfl⟩ := map_some2 q2
      exact .inl ⟨l, k, c, pStr_inv hl, hi, h0, hc, rfl⟩
    | _ => cases q1
  · rw [if_neg h0] at q1; cases q1
theorem index_sound {s : Shared} {o i r : PV} {v u : Value} {fr : Bool} {value : Expr} {c : Cx} {e : E} {x : Expr} (h : okE c e x = true) (ho : Rep s.heap v o) (hi : Rep s.heap u i) (q : index o i = some r) :
    Ev prog w A (PyProof.Rows.subscriptTail value x v u) s fr r := by
  rcases index_cases q with ⟨l, k, cc, rfl, rfl, h0, hc, rfl⟩ | ⟨xs, k, y, rfl, rfl, h0, hy, rfl⟩
  · obtain ⟨t, rfl, hl⟩ := ho
    obtain ⟨t', rfl⟩ := hi
    have hlt : k.toNat < l.length := (List.getElem?_eq_some_iff.mp hc).1
    rw [sizeLine_eq] at hl
    have hch : Txt.charAt ⟨l.toArray⟩ k = some cc := StrLaws.at_nonneg (x := ⟨l.toArray⟩) h0 (n := cc) ((List.getElem?_toArray ..).trans hc)
    refine PyProof.Rows.tail_any (typeIs_str _ _ _) F.slot_str_getitem.lookup (SB.getItem ?_ (by rw [hch]; rfl) ?_) (subscripted_plain h _ _)
    · simp [fitsSsize]; omega
    · refine end_atom (keeps_tok _ _) ⟨s.toks, ?_, ?_⟩
      · unfold Txt.item; rw [hch]; rfl
      · rw [sizeLine_eq]; exact Nat.le_of_ble_eq_true rfl
  · obtain ⟨a, vs, rfl, hp, p, hl⟩ := ho
    obtain ⟨t', rfl⟩ := hi
    obtain ⟨z, hz, hr⟩ := paired_get p hy
    have hlt : k.toNat < vs.length := (List.getElem?_eq_some_iff.mp hz).1
    rw [sizeLine_eq] at hl
    exact PyProof.Rows.tail_any (list_type hp) slot_list_getitem.lookup (wpAny_getItem_list (plain_isList hp) h0 (by omega) ((List.getElem?_toArray ..).trans hz) (end_atom (keeps_refl _) hr)) (subscripted_plain h _ _)

theorem all_idx {o i : E} (ho : All prog w mg mb H₀ n Φ A o) (hi : All prog w mg mb H₀ n Φ A i) : All prog w mg mb H₀ n Φ A (.idx o i) := by
  refine all_of (fun c y ρ env s r h q e => ?_) (fun c x h => by obtain ⟨_, _, _, rfl, _⟩ := inv_idx h; rfl) (fun _ _ => rfl) (fun _ _ _ => rfl)
  obtain ⟨o', i', p, rfl, h1, h2⟩ := inv_idx h
  obtain ⟨a, ha, e⟩ := bind_some2 e
  obtain ⟨b, hb, e⟩ := bind_some2 e
  exact PyProof.Rows.Subscript_ ((ho.pe c _ ρ env s a h1 q ha).use fun va s₁ k₁ r₁ _ => (hi.pe c _ ρ env s₁ b h2 (q.mono (keeps_sub k₁)) hb).use fun vb s₂ k₂ r₂ _ =>
    (index_sound (fr := true) h2 (r₁.mono (keeps_sub k₂)) r₂ e).use fun v s₃ k₃ r₃ f₃ => ⟨keeps_trans k₁ (keeps_trans k₂ k₃), r₃, fun _ => (f₃ rfl).sub ((keeps_sub k₁).trans (keeps_sub k₂))⟩)

theorem part_sound {e : E} (h : All prog w mg mb H₀ n Φ A e) {c : Cx} {x : Option Expr} {ρ : Store} {env : Env} {s : Shared} {p : Option Int} (ok : okO e.isNone (okE c e) x = true) (q : Cok prog w mg mb H₀ n Φ c env ρ s.heap) (hp : part (ev Φ e ρ) = some p) :
    wpAny (model prog w) A (evalPart x env) (fun v s' => Keeps s s' ∧ IsPart v p) (fun _ _ => False) s := by
  cases x with
  | none =>
    cases e with
    | none => cases hp; exact wpAny_pure ⟨keeps_refl _, .none⟩
    | _ => exact (Bool.false_ne_true ok).elim
  | some x =>
    have ok : okE c e x = true := ok
    cases hv : ev Φ e ρ with
    | none => rw [hv] at hp; cases hp
    | some v =>
      rw [hv] at hp
      refine (h.pe c x ρ env s v ok q hv).use fun v' s₁ k₁ r₁ _ => ⟨k₁, ?_⟩
      cases v with
      | a y =>
        cases y with
        | none => cases hp; cases r₁; exact .none
        | int i => cases hp; obtain ⟨t, rfl⟩ := r₁; exact .int _ _
        | _ => cases hp
      | _ => cases hp
theorem part_val {v : Value} {p : Option Int} (h : IsPart v p) : ∃ l : Option (Int × Tok), v = partValue l ∧ p = l.map (·.1) := by
  cases h with
  | none => exact ⟨none, rfl, rfl⟩
  | int i t => exact ⟨some (i, t), rfl, rfl⟩

theorem At.str_of {x : At} {l : List Nat} (h : pStr (.a x) = some l) : x = .str l := PV.a.inj (pStr_inv h)
theorem all_slice {o lo hi : E} (ho : All prog w mg mb H₀ n Φ A o) (hl : All prog w mg mb H₀ n Φ A lo) (hh : All prog w mg mb H₀ n Φ A hi) : All prog w mg mb H₀ n Φ A (.slice o lo hi) := by
  have he : EOk prog w mg mb H₀ n Φ A (.slice o lo hi) := by
    intro c y ρ env s r h q e
    obtain ⟨o', lo', hi', p, p', rfl, h1, h2, h3⟩ := inv_slice h
    obtain ⟨x, hx, e⟩ := bind_some2 e
    obtain ⟨a, ha, e⟩ := bind_some2 e
    obtain ⟨b, hb, e⟩ := bind_some2 e
    refine PyProof.Rows.Subscript_ ((ho.pe c _ ρ env s x h1 q hx).use fun v s₁ k₁ r₁ _ => wpAny_Slice (wpAny_mono (part_sound hl h2 (q.mono (keeps_sub k₁)) ha) (fun vl s₂ k₂ =>
      wpAny_mono (part_sound hh h3 ((q.mono (keeps_sub k₁)).mono (keeps_sub k₂.1)) hb) (fun vu s₃ k₃ => wpAny_pure ?_) fun _ _ e => e.elim) fun _ _ e => e.elim))
    obtain ⟨k₂, p₂⟩ := k₂
    obtain ⟨k₃, p₃⟩ := k₃
    have kk := keeps_trans k₁ (keeps_trans k₂ k₃)
    have k₄ : Keeps s₃ { s₃ with heap := s₃.heap.push { cls := .type "slice", data := .fields #[vl, vu, .none] } } := keeps_push' _ _
    have r₃ := (r₁.mono (keeps_sub k₂)).mono (keeps_sub k₃)
    obtain ⟨pl, rfl, rfl⟩ := part_val p₂
    obtain ⟨pu, rfl, rfl⟩ := part_val p₃
    cases x with
    | a x =>
      obtain ⟨l, hl, rfl⟩ := map_some2 (o := pStr (.a x)) e
      obtain rfl := At.str_of hl
      obtain ⟨t, rfl, hsz⟩ := r₃
      refine PyProof.Rows.tail_any (ops := [_, _]) (typeIs_str _ _ _) F.slot_str_getitem.lookup (wpAny_getItem_str_slice (l := pl) (u := pu) (st := none) ⟨_, Heap.get?_push_size _ rfl, rfl, rfl⟩ rfl
        (post_val_or_str ⟨?_, fun t' k => ?_⟩)) rfl
      · have e1 := slice_str l (pl.map (·.1)) (pu.map (·.1))
        show (Txt.slice ⟨l.toArray⟩ (pl.map (·.1)) (pu.map (·.1))).length ≤ sizeLine
        rw [e1]
        have := pySlice_len l (pl.map (·.1)) (pu.map (·.1))
        simp [Str.length]; omega
      · have e1 := slice_str l (pl.map (·.1)) (pu.map (·.1))
        show _ ∧ Rep _ (.str (Txt.slice ⟨l.toArray⟩ (pl.map (·.1)) (pu.map (·.1))) t') _ ∧ _
        rw [e1]
        have := pySlice_len l (pl.map (·.1)) (pu.map (·.1))
        exact ⟨keeps_trans kk ⟨_, k, rfl, keeps_sub k₄⟩, ⟨t', rfl, by omega⟩, fun _ a e => nomatch e⟩
    | list xs =>
      cases e
      obtain ⟨a, vs, rfl, hp, pp, hsz⟩ := r₃
      have hp' : (s₃.heap.push { cls := .type "slice", data := .fields #[partValue pl, partValue pu, .none] }).PlainList a vs.toArray := by
        obtain ⟨n', e⟩ := hp; exact ⟨n', Heap.get?_push_of_some _ e⟩
      refine PyProof.Rows.tail_any (ops := [_, .ref a]) (list_type (s := { s₃ with heap := _ }) hp') slot_list_getitem.lookup (wpAny_getItem_list_slice (plain_isList hp') (Heap.IsSliceOf.new ..) p₂ p₃ .none (by simp) ?_ (by simpa using hsz)) rfl
      rw [slice_list]
      have hlen : (pySlice vs (pl.map (·.1)) (pu.map (·.1))).length ≤ sizeLine := Nat.le_trans (pySlice_len _ _ _) hsz
      have end' := end_new (s := { s₃ with heap := s₃.heap.push { cls := .type "slice", data := .fields #[partValue pl, partValue pu, .none] } }) (fr := true) (n := 0) s₃.toks (o := { cls := .type "list", data := .seq (pySlice vs (pl.map (·.1)) (pu.map (·.1))).toArray }) rfl (paired_slice pp _ _) hlen
      exact ⟨keeps_trans kk (keeps_trans k₄ end'.1), end'.2.1, fun _ => (end'.2.2 rfl).sub (keeps_sub (keeps_trans kk k₄))⟩
    | _ => cases e
  refine ⟨he, fun c x ρ env s b' h q e => test_plain ?_ (he c x ρ env s _ h q e), not_as (fun _ _ => rfl), not_bs (fun _ _ _ => rfl), not_ps (fun _ _ => rfl)⟩
  obtain ⟨o', lo', hi', p, p', rfl, _⟩ := inv_slice h
  rfl

theorem dictGet_valueAt : ∀ {keys : List (List Nat)} {vs : List At} {kvs : List (Str × Value)} {l : List Nat} {r : At}, kvs.map (·.1) = keys.map (fun k => (⟨k.toArray⟩ : Str)) → Paired RepA (kvs.map (·.2)) vs →
    dictGet keys vs l = some r → ∃ v, valueAt kvs ⟨l.toArray⟩ = some v ∧ RepA v r
  | [], _, _, _, _, _, _, e => by cases e
  | k :: ks, vs, kvs, l, r, h1, h2, e => by
    cases kvs with
    | nil => cases h1
    | cons p rest =>
      obtain ⟨pk, pv⟩ := p
      simp only [List.map_cons, List.cons.injEq] at h1
      obtain ⟨rfl, h1⟩ := h1
      cases h2 with
      | cons f t =>
        simp only [dictGet] at e
        split at e
        · rename_i hk; cases e; subst hk
          exact ⟨pv, by simp [valueAt], f⟩
        · rename_i hk
          obtain ⟨v, hv, hr⟩ := dictGet_valueAt h1 t e
          refine ⟨v, ?_, hr⟩
          have : ¬ ((⟨k.toArray⟩ : Str) = ⟨l.toArray⟩) := fun q => hk (by simpa using congrArg (fun z : Str => z.cps.toList) q)
          unfold valueAt at hv ⊢
          rw [List.find?_cons_of_neg (by simpa using this)]
          exact hv
theorem okK_all : ∀ {keys : List (List Nat)} {ks : List (Option Expr)}, okK keys ks = true → ks.all (·.isSome) = true ∧ ks.length = keys.length
  | [], ks, h => by obtain rfl := okK_nil h; exact ⟨rfl, rfl⟩
  | k :: keys, ks, h => by
    obtain ⟨y, kk, p, t, rfl, _, h2⟩ := okK_cons h
    obtain ⟨h1, h3⟩ := okK_all h2
    exact ⟨h1, congrArg Nat.succ h3⟩
theorem all_dictIdx {keys : List (List Nat)} {vals i : E} (hv : All prog w mg mb H₀ n Φ A vals) (hi : All prog w mg mb H₀ n Φ A i) : All prog w mg mb H₀ n Φ A (.dictIdx keys vals i) := by
  have he : EOk prog w mg mb H₀ n Φ A (.dictIdx keys vals i) := by
    intro c y ρ env s r h q e
    obtain ⟨ks, es, dp, i', p, rfl, h1, h2, h3, h4, h5, h6, h7⟩ := inv_dictIdx h
    obtain ⟨vs, hvs, e⟩ := bind_some2 e
    obtain ⟨xs, hxs, e⟩ := bind_some2 e
    obtain ⟨k, hk, e⟩ := bind_some2 e
    obtain ⟨hka, hkl⟩ := okK_all h3
    have k0 : Keeps s { s with heap := s.heap.push { cls := .type "dict", data := .dict #[] } } := keeps_push' _ _
    refine PyProof.Rows.Subscript_ (wpAny_Dict_walk (knd := PySem.strKind prog w) hka (by omega) (by intro q; rw [q] at hkl; simp at hkl; exact h5 (List.length_eq_zero_iff.mp hkl.symm)) (by omega)
      (wpAny_mono (hv.pps c keys ks es ρ env _ vs dp h1 h3 h6 (q.mono (keeps_sub k0)) hvs) (fun ps s₁ k₁ => ?_) fun _ _ e => e.elim))
    obtain ⟨k₁, kvs, hc, hn, hp⟩ := k₁
    refine ⟨kvs, hc, ?_, fun h' hd hs => ?_⟩
    · exact (Heap.DictOf.new s.heap).keep (keeps_sub k₁)
    · have hnd : (kvs.map (·.1)).Nodup := by
        rw [hn]
        refine List.pairwise_map.mpr (List.Pairwise.imp (fun {a b} ne e => ne ?_) h7)
        simpa using congrArg (fun z : Str => z.cps.toList) e
      rw [merged_nil_of_nodup kvs hnd] at hd
      have hsz : s.heap.get? s.heap.objs.size = none := fresh_size s.heap _ rfl
      have k₂ : Keeps s { s₁ with heap := h', toks := s₁.toks + ps.length } := by
        obtain ⟨h₁, t₁, rfl, kk⟩ := k₁
        refine ⟨h', _, rfl, fun b o hb => ?_⟩
        refine (hs.2 b ?_).trans (kk b o (Heap.get?_push_of_some _ hb))
        intro eq; rw [eq] at hb; rw [hsz] at hb; cases hb
      refine (hi.pe c i' ρ env _ k h2 (q.mono (keeps_sub k₂)) hk).use fun vi s₂ k₃ r₃ _ => ?_
      obtain ⟨l, hl, e1⟩ := bind_some2 (o := pStr k) e
      obtain ⟨y, e2, rfl⟩ := map_some2 e1
      obtain rfl := pStr_inv hl
      · skip
        obtain ⟨t, rfl, hl⟩ := r₃
        obtain ⟨v, hv, hr⟩ := dictGet_valueAt hn (atoms_paired hp hxs) e2
        have hd2 : s₂.heap.DictOf (PySem.strKind prog w) s.heap.objs.size kvs := hd.keep (keeps_sub k₃)
        refine PyProof.Rows.tail_any hd2.typeIs slot_dict_getitem.lookup (wpAny_getItem_of (knd := PySem.strKind prog w) (strKind_is prog w _ _) hd2.mapOf hv ?_) (subscripted_plain h2 _ _)
        have k₄ := keeps_trans k₂ (keeps_trans k₃ (keeps_tok s₂ (s₂.toks + 1)))
        exact end_atom k₄ hr
  refine ⟨he, fun c x ρ env s b' h q e => test_plain ?_ (he c x ρ env s _ h q e), not_as (fun _ _ => rfl), not_bs (fun _ _ _ => rfl), not_ps (fun _ _ => rfl)⟩
  obtain ⟨ks, es, dp, i', p, rfl, _⟩ := inv_dictIdx h
  rfl
end
end Mine
end
section
open PySem PySem.Calls
set_option maxRecDepth 100000
namespace Mine
section
variable {prog : Program} {w : World} {mg mb : Str → Option Value} {H₀ : Heap} {n : Nat} {Φ : Nat → List PV → Option PV} {A : Around}

theorem walks_weaken {A : Around} {I : Addr} {fp wr : List Addr} {n m : Nat} {P P' : Nat → Value → Prop} {St : Nat → Heap → Prop} (W : Walks prog w A I fp wr n P St) (hm : n = m) (h : ∀ i v, P i v → P' i v) : Walks prog w A I fp wr m P' St := by
  subst hm
  exact ⟨W.sub, W.frame, fun i s Q E hi st hQ => W.item i s Q E hi st fun v h' tk p => hQ v h' tk (h i v p), W.done, W.self⟩

noncomputable def ItAt (prog : Program) (w : World) (s s₂ : Shared) (it : Value) (x : Value) (items : List At) : Prop :=
  ∃ I fp St, it = .ref I ∧ s.heap.get? I = none ∧ Keeps s s₂ ∧ (∀ b ∈ fp, b < s₂.heap.objs.size ∧ (b = I ∨ (x = .ref b ∧ ∃ o its k, s.heap.get? b = some o ∧ o.data = .seq its k))) ∧ items.length ≤ sizeLine ∧ St 0 s₂.heap ∧
    (∀ i h, St i h → ∃ o, h.get? I = some o ∧ ∀ its k, o.data ≠ .seq its k) ∧
    ∀ A : Around, A.handled = none → Walks prog w A I fp [I] items.length (fun i v => ∃ y, items[i]? = some y ∧ RepA v y) St

theorem lt_push {h : Heap} {o : Obj} {a : Addr} {o' : Obj} (e : h.get? a = some o') : a < (h.push o).objs.size := by
  rw [Heap.size_push]; exact Nat.lt_succ_of_lt (Heap.lt_size e)
theorem self_push {h : Heap} {o : Obj} : h.objs.size < (h.push o).objs.size := by
  rw [Heap.size_push]; exact Nat.lt_succ_self _
theorem size_none (h : Heap) : h.get? h.objs.size = none := fresh_size h _ rfl

theorem tup_isTuple {h : Heap} {a : Addr} {its : Array Value} (x : PlainTup h a its) : h.IsTuple a its := by
  obtain ⟨n, e⟩ := x; exact ⟨_, e, rfl, n, rfl⟩
theorem iter_dat {St : Nat → Heap → Prop} {I : Addr} (x : ∀ h i, St i h → ∃ o fs, h.get? I = some o ∧ o.data = .fields fs) : ∀ i h, St i h → ∃ o, h.get? I = some o ∧ ∀ its k, o.data ≠ .seq its k := fun i h st => by
  obtain ⟨o, fs, ho, hd⟩ := x h i st
  exact ⟨o, ho, fun its k e => by rw [hd] at e; cases e⟩
theorem pyIter_sound {s : Shared} {v : Value} {pv : PV} {items : List At} {E : Value → Shared → Prop} (r : Rep s.heap v pv) (q : iterItems .val [pv] = some items) :
    wpAny (model prog w) A (pyIter v) (fun it s₂ => ItAt prog w s s₂ it v items) E s := by
  cases pv with
  | a x =>
    obtain ⟨l, hl', rfl⟩ := map_some2 (o := pStr (.a x)) q
    obtain rfl := At.str_of hl'
    obtain ⟨t, rfl, hl⟩ := r
    have fin : ∀ i v, SignAt ⟨l.toArray⟩ i v → ∃ y, (l.map fun c => At.str [c])[i]? = some y ∧ RepA v y := by
      rintro i v ⟨c, u, hc, rfl⟩
      refine ⟨.str [c], ?_, u, rfl, by rw [sizeLine_eq]; simp⟩
      simp at hc
      simp [hc]
    have one : ∀ b ∈ [s.heap.objs.size], ∀ o : Obj, b < (s.heap.push o).objs.size ∧ (b = s.heap.objs.size ∨ (Value.str ⟨l.toArray⟩ t = .ref b ∧ ∃ o its k, s.heap.get? b = some o ∧ o.data = .seq its k)) := by
      intro b hb o; rw [List.mem_singleton.mp hb]; exact ⟨self_push, .inl rfl⟩
    have dat : ∀ ty i (h : Heap), h.IsStrIter s.heap.objs.size ty ⟨l.toArray⟩ t i → ∃ o, h.get? s.heap.objs.size = some o ∧ ∀ its k, o.data ≠ .seq its k := by
      rintro ty i h ⟨o, ho, _, hd⟩
      exact ⟨o, ho, fun its k e => by rw [hd] at e; cases e⟩
    cases ha : (⟨l.toArray⟩ : Str).cps.all (· < 128)
    · exact wpAny_pyIter_wide ha ⟨_, _, _, rfl, size_none _, keeps_push' _ _, fun b hb => one b hb _, by simpa using hl, ⟨_, Heap.get?_push_size _ rfl, rfl, rfl⟩, fun i h st => dat _ i h st,
        fun A' hA => walks_weaken (Walks.strWide hA _ ⟨l.toArray⟩ t) (by simp) fin⟩
    · exact wpAny_pyIter_ascii ha ⟨_, _, _, rfl, size_none _, keeps_push' _ _, fun b hb => one b hb _, by simpa using hl, ⟨_, Heap.get?_push_size _ rfl, rfl, rfl⟩, fun i h st => dat _ i h st,
        fun A' hA => walks_weaken (Walks.strAscii hA _ ⟨l.toArray⟩ t) (by simp) fin⟩
  | list xs =>
    cases q
    obtain ⟨a, vs, rfl, hp, p, hl⟩ := r
    obtain ⟨k, hg⟩ := id hp
    have hne : a ≠ s.heap.objs.size := Nat.ne_of_lt (Heap.lt_size hg)
    refine wpAny_pyIter_list (plain_isList hp) ⟨_, [s.heap.objs.size, a], _, rfl, size_none _, keeps_push' _ _, ?_, ?_, ?_, iter_dat fun h i st => (let ⟨⟨o, ho, _, hd⟩, _⟩ := st; ⟨o, _, ho, hd⟩), fun A' hA => walks_weaken (Walks.list hA s.heap.objs.size a hne vs.toArray) ?_ ?_⟩
    · intro b hb
      simp at hb
      rcases hb with rfl | rfl
      · exact ⟨self_push, .inl rfl⟩
      · exact ⟨lt_push hg, .inr ⟨rfl, _, _, _, hg, rfl⟩⟩
    · rw [← p.length]; exact hl
    · exact ⟨⟨_, Heap.get?_push_size _ rfl, rfl, rfl⟩, plain_isList ⟨k, Heap.get?_push_of_some _ hg⟩⟩
    · simp [p.length]
    · intro i v e
      obtain ⟨y, hy, hr⟩ := paired_get' p (i := i) (v := v) (by simpa using e)
      exact ⟨y, hy, hr⟩
  | tup xs =>
    cases q
    obtain ⟨a, vs, rfl, hp, p, hl⟩ := r
    obtain ⟨k, hg⟩ := id hp
    have hne : a ≠ s.heap.objs.size := Nat.ne_of_lt (Heap.lt_size hg)
    refine wpAny_pyIter_tuple (tup_isTuple hp) ⟨_, [s.heap.objs.size, a], _, rfl, size_none _, keeps_push' _ _, ?_, ?_, ?_, iter_dat fun h i st => (let ⟨⟨o, ho, _, hd⟩, _⟩ := st; ⟨o, _, ho, hd⟩), fun A' hA => walks_weaken (Walks.tuple hA s.heap.objs.size a hne vs.toArray) ?_ ?_⟩
    · intro b hb
      simp at hb
      rcases hb with rfl | rfl
      · exact ⟨self_push, .inl rfl⟩
      · exact ⟨lt_push hg, .inr ⟨rfl, _, _, _, hg, rfl⟩⟩
    · rw [← p.length]; exact hl
    · exact ⟨⟨_, Heap.get?_push_size _ rfl, rfl, rfl⟩, tup_isTuple ⟨k, Heap.get?_push_of_some _ hg⟩⟩
    · simp [p.length]
    · intro i v e
      obtain ⟨y, hy, hr⟩ := paired_get' p (i := i) (v := v) (by simpa using e)
      exact ⟨y, hy, hr⟩
  | bytes b =>
    obtain ⟨hl, rfl⟩ := if_some2 q
    · obtain ⟨t, rfl⟩ := r
      refine W.KBw.pyIter_bytes ⟨_, _, _, rfl, size_none _, keeps_push' _ _, ?_, ?_, ⟨_, Heap.get?_push_size _ rfl, rfl, rfl⟩, iter_dat fun h i st => (let ⟨o, ho, _, hd⟩ := st; ⟨o, _, ho, hd⟩), fun A' hA => walks_weaken (W.KBw.walks hA s.heap.objs.size b.toArray t) ?_ ?_⟩
      · intro b hb; rw [List.mem_singleton.mp hb]; exact ⟨self_push, .inl rfl⟩
      · simpa using hl
      · simp
      · rintro i v ⟨c, u, hc, rfl⟩
        simp at hc
        exact ⟨.int (c.toNat : Int), by simp [hc], u, rfl⟩

theorem rangeL_len (a : Int) : ∀ k, (rangeL a k).length = k
  | 0 => rfl
  | k + 1 => by simp [rangeL, rangeL_len (a + 1) k]
theorem rangeD_len (a : Int) : ∀ k, (rangeD a k).length = k
  | 0 => rfl
  | k + 1 => by simp [rangeD, rangeD_len (a - 1) k]
theorem rangeL_get : ∀ (k : Nat) (a : Int) (i : Nat), i < k → (rangeL a k)[i]? = some (.int (a + i))
  | 0, _, _, h => by omega
  | k + 1, a, 0, _ => by simp [rangeL]
  | k + 1, a, i + 1, h => by
    simp only [rangeL, List.getElem?_cons_succ]
    rw [rangeL_get k (a + 1) i (by omega)]
    congr 2; omega
theorem rangeD_get : ∀ (k : Nat) (a : Int) (i : Nat), i < k → (rangeD a k)[i]? = some (.int (a - i))
  | 0, _, _, h => by omega
  | k + 1, a, 0, _ => by simp [rangeD]
  | k + 1, a, i + 1, h => by
    simp only [rangeD, List.getElem?_cons_succ]
    rw [rangeD_get k (a - 1) i (by omega)]
    congr 2; omega
theorem fits_small {x : Int} (h : -4000000 < x) (k : x < 4000000) : Builtin.Range.rangeFitsLong x = true := by
  unfold Builtin.Range.rangeFitsLong; simp; omega
theorem walk_range {s₁ : Shared} {r : Addr} {a b c : Int} {t u v : Tok} {items : List At} {E : Value → Shared → Prop} (hr : IsRange s₁.heap r a b c t u v) (hs : Builtin.Range.small a b c = true)
    (hl : Builtin.Range.rangeSize a b c = (items.length : Int)) (hm : items.length ≤ sizeLine) (hg : ∀ i, i < items.length → items[i]? = some (.int (a + i * c))) :
    wpAny (model prog w) A (pyIter (.ref r)) (fun it s₂ => ItAt prog w s₁ s₂ it (.ref r) items) E s₁ := by
  refine wpAny_pyIter_range hr hs ?_
  refine ⟨_, [s₁.heap.objs.size], (fun i h => IsRangeIter h s₁.heap.objs.size (a + (i : Nat) * c) ((items.length : Int) - (i : Nat)) c), rfl, size_none _, keeps_push' _ _, ?_, hm, ?_, iter_dat fun h i st => ⟨_, _, st, rfl⟩, fun A' hA => ?_⟩
  rotate_left 2
  · have W := Walks.range (prog := prog) (w := w) hA s₁.heap.objs.size a c items.length
    refine ⟨W.sub, W.frame, fun i s Q E hi st hQ => W.item i s Q E hi st fun v h' tk p => hQ v h' tk ?_, W.done, W.self⟩
    obtain ⟨t, rfl⟩ := p
    exact ⟨_, hg i hi, t, rfl⟩
  · intro b hb; rw [List.mem_singleton.mp hb]; exact ⟨self_push, .inl rfl⟩
  · show (s₁.heap.push _).get? s₁.heap.objs.size = _
    rw [hl]
    refine (Heap.get?_push_size _ rfl).trans ?_
    simp

theorem range_size_up (m : Int) : Builtin.Range.rangeSize 0 m 1 = ((m.toNat : Nat) : Int) := by
  unfold Builtin.Range.rangeSize
  split
  · split <;> omega
  · rename_i h; exact absurd (by decide) h
theorem range_size_down (a b : Int) : Builtin.Range.rangeSize a b (-1) = (((a - b).toNat : Nat) : Int) := by
  unfold Builtin.Range.rangeSize
  split
  · rename_i h; exact absurd h (by decide)
  · split
    · rw [show (-(-1 : Int)) = 1 by rfl, Int.ediv_one]; omega
    · omega
theorem range_small_up {m : Int} (h : -1000000 < m) (k : m < 1000000) : Builtin.Range.small 0 m 1 = true := by
  unfold Builtin.Range.small
  rw [range_size_up, fits_small (by decide) (by decide), fits_small (x := m) (by omega) (by omega), fits_small (x := 1) (by decide) (by decide), fits_small (x := (m.toNat : Int)) (by omega) (by omega), if_pos (by decide), fits_small (x := m + (1 - 1)) (by omega) (by omega)]
  simp
theorem range_small_down {a b : Int} (h1 : -1000000 < a) (h2 : a < 1000000) (h3 : -1000000 < b) (h4 : b < 1000000) : Builtin.Range.small a b (-1) = true := by
  unfold Builtin.Range.small
  rw [range_size_down, fits_small (x := a) (by omega) (by omega), fits_small (x := b) (by omega) (by omega), fits_small (x := -1) (by decide) (by decide), fits_small (x := ((a - b).toNat : Int)) (by omega) (by omega), if_neg (by decide), fits_small (x := b + (-1 + 1)) (by omega) (by omega)]
  simp

noncomputable def okIt (c : Cx) (k : IK) (args : E) (x : Expr) : Bool := match k with
  | .val => okEs c args [x]
  | .range => (asCall x).any fun r => (asName r.1).any fun z => r.2.2.1.isEmpty && rangeName == z.1 && c.glob z.1 && okEs c args r.2.1
theorem inv_val {c : Cx} {args : E} {x : Expr} (h : okIt c .val args x = true) : ∃ it, args = .cons it .nil ∧ okE c it x = true := by
  obtain ⟨a, r, rfl, h1, h2⟩ := inv_es h
  obtain rfl := inv_es_nil h2
  exact ⟨a, rfl, h1⟩
theorem inv_range {c : Cx} {args : E} {x : Expr} (h : okIt c .range args x = true) : ∃ np es pos, x = .Call (.Name rangeName np) es [] pos ∧ c.glob rangeName = true ∧ okEs c args es = true := by
  obtain ⟨q, hq, h⟩ := any_inv (o := asCall x) h
  obtain ⟨y, hy, h⟩ := any_inv (o := asName q.1) h
  obtain ⟨h, h3⟩ := Bool.and_eq_true_iff.mp h
  obtain ⟨h, h2⟩ := Bool.and_eq_true_iff.mp h
  obtain ⟨h0, h1⟩ := Bool.and_eq_true_iff.mp h
  have e : rangeName = y.1 := eq_of_beq h1
  exact ⟨y.2, q.2.1, q.2.2.2, by rw [asCall_inv hq, asName_inv hy, List.isEmpty_iff.mp h0, e], by rw [e]; exact h2, h3⟩
noncomputable def freshIt (k : IK) (args : E) : Bool :=
  match k, args with
  | .val, .cons it _ => fresh it
  | _, _ => true
theorem iter_sound (G : Gd mg mb H₀) (hA : AOk n A) {k : IK} {args : E} (ha : All prog w mg mb H₀ n Φ A args) (hi : ∀ it r, args = .cons it r → All prog w mg mb H₀ n Φ A it) {c : Cx} {x : Expr} {ρ : Store} {env : Env} {s : Shared} {vs : List PV} {items : List At}
    (h : okIt c k args x = true) (q : Cok prog w mg mb H₀ n Φ c env ρ s.heap) (e : evs Φ args ρ = some vs) (e' : iterItems k vs = some items) :
    wpAny (model prog w) A (eval x env) (fun xv s₁ => Keeps s s₁ ∧ (freshIt k args = true → Fresh s.heap xv) ∧ wpAny (model prog w) A (pyIter xv) (fun it s₂ => ItAt prog w s₁ s₂ it xv items) (fun _ _ => False) s₁) (fun _ _ => False) s := by
  cases k with
  | val =>
    obtain ⟨it, rfl, h'⟩ := inv_val h
    obtain ⟨v, hv, e1⟩ := bind_some2 e
    cases e1
    exact (((hi it _ rfl).pe c x ρ env s v h' q hv).use fun xv s₁ k₁ r₁ f₁ => ⟨k₁, f₁, pyIter_sound r₁ e'⟩)
  | range =>
    obtain ⟨np, es, pos, rfl, h2, h4⟩ := inv_range h
    have hne : rangeName ≠ "__name__" := by decide
    have hb : (rangeName == ("__debug__" : Str)) = false := by decide
    refine wpAny_Call_NameR (Calls.Name_function_global q.eo.kind (glob_kind q.eo h2) (Calls.loadGlobal_builtin (v := .type "range") (by rw [q.eo.globals]; exact G.g.keeps q.base) (G.nob _ (List.Mem.head _)) (by rw [q.eo.builtins]; exact G.b.keeps q.base)
      (by rw [G.bi _ hne]; exact PyProof.Rows.Boot.«range») ?_) hb)
    refine PySem.callWith_type (trees_plain (env := env) (pos := pos) h4).1 (wpAny_mono (args_eval (f := .type "range") (pos := pos) ha h4 q e) (fun b s₁ k₁ => ?_) fun _ _ e => e)
    obtain ⟨kw, k₁, hp⟩ := k₁
    rw [kw]
    obtain ⟨bp, bk⟩ := b
    simp only at hp kw ⊢
    cases hp with
    | nil => cases e'
    | cons f t =>
      cases t with
      | nil =>
        obtain ⟨m, hm, e'⟩ := bind_some2 e'
        obtain ⟨hn, rfl⟩ := if_some2 e'
        obtain rfl := pInt_inv hm
        obtain ⟨t, rfl⟩ := f
        refine PySem.call_range_1 ?_
        refine ⟨keeps_trans k₁ (keeps_push s₁ _ _), fun _ => (fresh_size _).sub (keeps_sub k₁), ?_⟩
        refine walk_range (Heap.get?_push_size _ rfl) ?_ ?_ ?_ ?_
        · rw [range_small_up hn.1 hn.2]
        · rw [rangeL_len, range_size_up]
        · rw [rangeL_len, sizeLine_eq]; omega
        · intro i hi
          rw [rangeL_len] at hi
          rw [rangeL_get _ _ _ hi, Int.mul_one]
      | cons f' t =>
        cases t with
        | nil => cases e'
        | cons f'' t =>
          cases t with
          | cons _ _ => cases e'
          | nil =>
            obtain ⟨a, ha', e'⟩ := bind_some2 e'
            obtain ⟨b, hb', e'⟩ := bind_some2 e'
            obtain ⟨c', hc', e'⟩ := bind_some2 e'
            obtain ⟨⟨rfl, h1, h2, h3, h5⟩, rfl⟩ := if_some2 e'
            obtain rfl := pInt_inv ha'
            obtain rfl := pInt_inv hb'
            obtain rfl := pInt_inv hc'
            obtain ⟨t, rfl⟩ := f
            obtain ⟨t', rfl⟩ := f'
            obtain ⟨t'', rfl⟩ := f''
            refine call_range_3 (by decide) ?_ (.inl (PyProof.noPylong_small (by omega)))
            refine ⟨keeps_trans k₁ (keeps_push s₁ _ _), fun _ => (fresh_size _).sub (keeps_sub k₁), ?_⟩
            refine walk_range (Heap.get?_push_size _ rfl) ?_ ?_ ?_ ?_
            · exact range_small_down h1 h2 h3 h5
            · rw [rangeD_len, range_size_down]
            · rw [rangeD_len, sizeLine_eq]; omega
            · intro i hi
              rw [rangeD_len] at hi
              rw [rangeD_get _ _ _ hi]; congr 2; omega
end
end Mine
end
section
open PySem PySem.Calls
set_option maxRecDepth 100000
namespace Mine
section
variable {prog : Program} {w : World} {mg mb : Str → Option Value} {H₀ : Heap} {n : Nat} {Φ : Nat → List PV → Option PV} {A : Around}

theorem closureFor_free {scope : Scope} {env : Env} (h : ∀ p ∈ scope.names, p.2 = .free → ∃ a, env.cells.lookup p.1 = some a) :
    ∃ cl, closureFor scope env = pure cl ∧ ∀ y a, scope.names.lookup y = some .free → env.cells.lookup y = some a → cl.lookup y = some a := by
  have gen : ∀ (names : List (Str × NameKind)) (acc : List (Str × Addr)), (∀ p ∈ names, p.2 = .free → ∃ a, env.cells.lookup p.1 = some a) → (∀ p ∈ acc, env.cells.lookup p.1 = some p.2) →
      ∃ cl, (forIn names acc fun (x : Str × NameKind) (cs : List (Str × Addr)) => if (x.2 == NameKind.free) = true then do let a ← cellOf env x.1; pure (ForInStep.yield ((x.1, a) :: cs)) else pure (ForInStep.yield cs) : Sem (List (Str × Addr))) = pure cl ∧
        (∀ p ∈ cl, env.cells.lookup p.1 = some p.2) ∧ (∀ p ∈ acc, p ∈ cl) ∧ (∀ p ∈ names, p.2 = .free → ∃ a, (p.1, a) ∈ cl) := by
    intro names
    induction names with
    | nil => intro acc _ ha; exact ⟨acc, rfl, ha, fun _ h => h, fun _ h => by cases h⟩
    | cons p r ih =>
      intro acc hn ha
      by_cases hk : p.2 = .free
      · obtain ⟨a, he⟩ := hn p (by simp) hk
        have hcell : cellOf env p.1 = pure a := by unfold cellOf; rw [he]
        obtain ⟨cl, h1, h2, h3, h4⟩ := ih ((p.1, a) :: acc) (fun q hq => hn q (by simp [hq])) (by
          intro q hq
          rcases List.mem_cons.mp hq with rfl | hq
          · exact he
          · exact ha q hq)
        refine ⟨cl, ?_, h2, fun q hq => h3 q (by simp [hq]), fun q hq hf => ?_⟩
        · rw [List.forIn_cons, if_pos (by rw [hk]; rfl), hcell]
          exact h1
        · rcases List.mem_cons.mp hq with rfl | hq
          · exact ⟨a, h3 _ (by simp)⟩
          · exact h4 q hq hf
      · obtain ⟨cl, h1, h2, h3, h4⟩ := ih acc (fun q hq => hn q (by simp [hq])) ha
        refine ⟨cl, ?_, h2, h3, fun q hq hf => ?_⟩
        · rw [List.forIn_cons, if_neg (by intro h; exact hk (by simpa using h))]
          exact h1
        · rcases List.mem_cons.mp hq with rfl | hq
          · exact absurd hf hk
          · exact h4 q hq hf
  obtain ⟨cl, h1, h2, h3, h4⟩ := gen scope.names [] h (by simp)
  refine ⟨cl, ?_, fun y a hy ha => ?_⟩
  · unfold closureFor
    exact (congrArg (fun m : Sem (List (Str × Addr)) => m >>= fun cs => pure cs) h1).trans rfl
  · have mem : ∃ k, (y, k) ∈ scope.names ∧ k = .free := by
      clear h1 h2 h3 h4 h gen
      revert hy
      induction scope.names with
      | nil => intro h; cases h
      | cons p r ih =>
        intro h
        rw [List.lookup_cons] at h
        by_cases e : (y == p.1) = true
        · rw [e] at h
          have h : p.2 = .free := by simpa using h
          have : y = p.1 := by simpa using e
          exact ⟨p.2, by rw [this]; simp, h⟩
        · simp only [Bool.not_eq_true] at e
          rw [e] at h
          obtain ⟨k, h1, h2⟩ := ih h
          exact ⟨k, by simp [h1], h2⟩
    obtain ⟨k, hm, hf⟩ := mem
    obtain ⟨b, hb⟩ := h4 _ hm hf
    have look : ∀ l : List (Str × Addr), (∀ p ∈ l, env.cells.lookup p.1 = some p.2) → (∃ b, (y, b) ∈ l) → l.lookup y = some a := by
      intro l
      induction l with
      | nil => intro _ h; obtain ⟨_, h⟩ := h; cases h
      | cons p r ih =>
        intro hl hx
        rw [List.lookup_cons]
        by_cases e : (y == p.1) = true
        · rw [e]
          have e' : y = p.1 := by simpa using e
          have := hl p (by simp)
          rw [← e', ha] at this
          rw [Option.some.inj this]
        · simp only [Bool.not_eq_true] at e
          rw [e]
          refine ih (fun q hq => hl q (by simp [hq])) ?_
          obtain ⟨b, hb⟩ := hx
          rcases List.mem_cons.mp hb with h | h
          · rw [← h] at e; simp at e
          · exact ⟨b, h⟩
    exact look cl h2 ⟨b, hb⟩
end
end Mine
end
section
open PySem PySem.Calls
set_option maxRecDepth 100000
namespace Mine
section
variable {prog : Program} {w : World} {mg mb : Str → Option Value} {H₀ : Heap} {n : Nat} {Φ : Nat → List PV → Option PV} {A : Around}

structure ScOk (c : Cx) (sc : Scope) (k : Nat) (x : Str) : Prop where
  top : c.top = true
  kind : sc.kind = .function
  nocell : ∀ y ∈ sc.names, y.2 ≠ .cell
  names : ∀ y ∈ sc.names, y.2 = .local → sc.names.lookup y.1 = some .local
  x : sc.names.lookup x = some .local
  free : ∀ y ∈ sc.names, y.2 = .free → c.kinds.lookup y.1 = some .cell
theorem scopeOk_spec {c : Cx} {sc : Scope} {k : Nat} {x : Str} (h : scopeOk c sc k x = true) : ScOk c sc k x := by
  simp only [scopeOk, Bool.and_eq_true, List.all_eq_true] at h
  obtain ⟨⟨⟨⟨⟨⟨⟨⟨h1, h2⟩, h3⟩, h4⟩, h5⟩, h6⟩, _⟩, _⟩, _⟩ := h
  refine ⟨h1, by simpa using h2, fun y hy => by simpa using h3 y hy, fun y hy e => ?_, by simpa using h5, fun y hy e => ?_⟩
  · have := h4 y hy; rw [e] at this; simpa using this
  · have := h6 y hy; rw [e] at this; simpa using this

theorem setAt_get : ∀ {l : List (Option Str)} {k i : Nat} {v u : Option Str}, (setAt l k v)[i]? = some u → (i = k ∧ u = v) ∨ (i ≠ k ∧ l[i]? = some u)
  | [], _, _, _, _, h => by simp [setAt] at h
  | _ :: _, 0, 0, _, _, h => by simp [setAt] at h; exact .inl ⟨rfl, h.symm⟩
  | _ :: _, 0, i + 1, _, _, h => by simp [setAt] at h; exact .inr ⟨by omega, by simpa using h⟩
  | _ :: _, k + 1, 0, _, _, h => by simp [setAt] at h; exact .inr ⟨by omega, by simpa using h⟩
  | _ :: r, k + 1, i + 1, _, _, h => by
    simp only [setAt, List.getElem?_cons_succ] at h
    rcases setAt_get h with ⟨e, f⟩ | ⟨e, f⟩
    · exact .inl ⟨by omega, f⟩
    · exact .inr ⟨by omega, by simpa using f⟩
theorem relab_eq {c : Cx} {sc : Scope} {env : Env} (he : EnvOk c env) : (relabel sc env).names = relab c sc.names := by
  unfold relabel relab
  refine List.map_congr_left fun p _ => ?_
  obtain ⟨nm, k⟩ := p
  show (if (k == .free && env.scope.kind == .function && env.kindOf nm == some .cell) = true then (nm, NameKind.cell) else (nm, k)) = (if (k == NameKind.free && c.kinds.lookup nm == some NameKind.cell) = true then (nm, NameKind.cell) else (nm, k))
  have : env.kindOf nm = c.kinds.lookup nm := by unfold Env.kindOf; rw [he.names]
  rw [this, he.kind]
  simp
theorem relab_free {c : Cx} {y : Str} : ∀ {names : List (Str × NameKind)}, names.lookup y = some .free → c.kinds.lookup y = some .cell → (relab c names).lookup y = some .cell
  | [], h, _ => by simp at h
  | (m, k) :: r, h, hc => by
    show List.lookup y ((if (k == NameKind.free && c.kinds.lookup m == some NameKind.cell) = true then (m, NameKind.cell) else (m, k)) :: relab c r) = _
    rw [List.lookup_cons] at h
    by_cases e : (y == m) = true
    · rw [e] at h
      have hk : k = .free := by simpa using h
      have hm : y = m := by simpa using e
      subst hm hk
      rw [if_pos (by rw [hc]; rfl), List.lookup_cons, e]
    · simp only [Bool.not_eq_true] at e
      rw [e] at h
      have := relab_free (names := r) h hc
      split <;> (rw [List.lookup_cons, e]; exact this)

theorem inner_ok {c : Cx} {sc : Scope} {k : Nat} {x : Str} {env : Env} {ρ : Store} {s s₃ : Shared} {cl : List (Str × Addr)} {C : Addr} {m₃ : Str → Option Value} {v : Value} {a : At} (hs : ScOk c sc k x)
    (q : Cok prog w mg mb H₀ n Φ c env ρ s.heap) (hcl : ∀ y a, sc.names.lookup y = some .free → env.cells.lookup y = some a → cl.lookup y = some a) (k₃ : Sub s.heap s₃.heap)
    (hn : s₃.heap.Ns C m₃) (hm : m₃ x = some v) (hr : RepA v a) : Cok prog w mg mb H₀ n Φ (compCx c sc.names k x) (compEnvC sc cl C env) (set ρ k (.a a)) s₃.heap := by
  have hnm : (compEnvC sc cl C env).scope.names = relab c sc.names := relab_eq (sc := sc) q.eo
  refine ⟨⟨hs.kind, q.eo.globals, q.eo.builtins, hnm, fun h => by cases h⟩, ?_, q.base.trans k₃, q.fns⟩
  intro i y r hi hg
  rcases setAt_get (l := c.sl.map _) hi with ⟨rfl, e⟩ | ⟨hne, e⟩
  · cases e
    have : r = .a a := get_set_eq hg
    subst this
    refine .inl ⟨?_, m₃, v, hn, hm, hr⟩
    exact lookup_relabel_local hs.x
  · rw [get_set_ne (by omega)] at hg
    rw [List.getElem?_map] at e
    simp only [Option.map_eq_some_iff] at e
    obtain ⟨o, ho, e⟩ := e
    cases o with
    | none => cases e
    | some z =>
      simp only at e
      split at e
      · rename_i hc
        cases e
        simp only [Bool.and_eq_true, beq_iff_eq] at hc
        obtain ⟨hf, hcell⟩ := hc
        have hk : env.kindOf y = some .cell := by unfold Env.kindOf; rw [q.eo.names]; exact hcell
        rcases q.inv i y r ho hg with ⟨h1, _⟩ | ⟨h1, a', v', hc', hi', hr'⟩
        · rw [hk] at h1; cases h1
        · refine .inr ⟨?_, a', v', hcl y a' hf hc', hi'.keeps k₃, hr'.mono k₃⟩
          show List.lookup y (compEnvC sc cl C env).scope.names = _
          rw [hnm]
          exact relab_free hf hcell
      · cases e

noncomputable def atOf : Value → At
  | .bool b => .bool b
  | .int i _ => .int i
  | .str x _ => .str x.cps.toList
  | _ => .none
theorem atOf_eq {v : Value} {a : At} (h : RepA v a) : atOf v = a := by
  cases a with
  | none => cases h; rfl
  | bool b => cases h; rfl
  | int i => obtain ⟨t, rfl⟩ := h; rfl
  | str l => obtain ⟨t, rfl, _⟩ := h; rfl

theorem compGo_all {tst : At → Option Bool} {elt : At → Option At} : ∀ {items out : List At}, compGo tst elt items = some out → ∀ a ∈ items, ∃ b, tst a = some b ∧ (b = true → ∃ y, elt a = some y)
  | [], _, _, _, h => by cases h
  | a :: r, out, e, b, hb => by
    simp only [compGo, Option.bind_eq_some_iff] at e
    obtain ⟨t, ht, e⟩ := e
    rcases List.mem_cons.mp hb with rfl | hb
    · refine ⟨t, ht, fun h => ?_⟩
      subst h
      rw [if_pos rfl, Option.bind_eq_some_iff] at e
      obtain ⟨y, hy, _⟩ := e
      exact ⟨y, hy⟩
    · cases t with
      | true =>
        rw [if_pos rfl, Option.bind_eq_some_iff] at e
        obtain ⟨y, hy, e⟩ := e
        simp only [Option.map_eq_some_iff] at e
        obtain ⟨ys, hys, _⟩ := e
        exact compGo_all hys b hb
      | false =>
        rw [if_neg (by decide)] at e
        exact compGo_all e b hb
theorem compGo_paired {tst : At → Option Bool} {elt : At → Option At} : ∀ {vs : List Value} {items out : List At} {ys : List Value}, Paired RepA vs items → compGo tst elt items = some out →
    Paired (fun v y => ∃ z, elt (atOf v) = some z ∧ RepA y z) (vs.filter fun v => (tst (atOf v)).getD false) ys → Paired RepA ys out
  | [], _, _, _, p, e, q => by cases p; cases e; cases q; exact .nil
  | v :: r, _, out, ys, p, e, q => by
    cases p with
    | cons f t =>
      simp only [compGo, Option.bind_eq_some_iff] at e
      obtain ⟨b, hb, e⟩ := e
      rw [List.filter_cons, atOf_eq f, hb] at q
      cases b with
      | true =>
        rw [if_pos rfl, Option.bind_eq_some_iff] at e
        obtain ⟨y, hy, e⟩ := e
        simp only [Option.map_eq_some_iff] at e
        obtain ⟨zs, hzs, rfl⟩ := e
        rw [if_pos (show (some true).getD false = true from rfl)] at q
        cases q with
        | cons g u =>
          obtain ⟨z, hz, hr⟩ := g
          rw [atOf_eq f, hy] at hz
          cases hz
          exact .cons hr (compGo_paired t hzs u)
      | false =>
        rw [if_neg (by decide)] at e
        rw [if_neg (show ¬ (some false).getD false = true by decide)] at q
        exact compGo_paired t e q
theorem paired_of_items {vs : List Value} {items : List At} (hl : vs.length = items.length) (h : ∀ (j : Nat) v, vs[j]? = some v → ∃ y, items[j]? = some y ∧ RepA v y) : Paired RepA vs items := by
  induction vs generalizing items with
  | nil => cases items with
    | nil => exact .nil
    | cons _ _ => simp at hl
  | cons v r ih =>
    cases items with
    | nil => simp at hl
    | cons a t =>
      obtain ⟨y, hy, hr⟩ := h 0 v rfl
      simp at hy
      subst hy
      exact .cons hr (ih (by simpa using hl) fun j v hj => by simpa using h (j + 1) v (by simpa using hj))

theorem quiet_ok {elt test : E} {c : Cx} {sc : Scope} {k : Nat} {x : Str} {env : Env} {ρ : Store} {s s₁ s₂ : Shared} {cl : List (Str × Addr)} {elt' : Expr} {ifs : List Expr} {items out : List At} {I : Addr}
    (he : All prog w mg mb H₀ n Φ A elt) (ht : All prog w mg mb H₀ n Φ A test) (hs : ScOk c sc k x) (q : Cok prog w mg mb H₀ n Φ c env ρ s.heap)
    (hcl : ∀ y a, sc.names.lookup y = some .free → env.cells.lookup y = some a → cl.lookup y = some a) (k₁ : Sub s.heap s₁.heap) (hI : s₁.heap.get? I = none) (k₂ : Sub s₁.heap s₂.heap)
    (ok : okE (compCx c sc.names k x) elt elt' = true) (okt : okT test.isNil (okE (compCx c sc.names k x) test) ifs = true)
    (e : compGo (fun a => if test.isNil then some true else (ev Φ test (set ρ k (.a a))).bind truth) (fun a => (ev Φ elt (set ρ k (.a a))).bind atom) items = some out) :
    QuietOnC prog w A env sc cl x ifs elt' [I] (fun i v => ∃ y, items[i]? = some y ∧ RepA v y) (fun v => ((fun a => if test.isNil then some true else (ev Φ test (set ρ k (.a a))).bind truth) (atOf v)).getD false)
      (fun v y => ∃ z, (fun a => (ev Φ elt (set ρ k (.a a))).bind atom) (atOf v) = some z ∧ RepA y z) s₂ := by
  have sub : ∀ {s₃ : Shared}, (∀ b o, b ∉ [I] → s₂.heap.get? b = some o → s₃.heap.get? b = some o) → Sub s.heap s₃.heap := by
    intro s₃ hk b o hb
    have h1 := k₁ b o hb
    exact hk b o (by intro h; rw [List.mem_singleton.mp h] at h1; rw [hI] at h1; cases h1) (k₂ b o h1)
  constructor
  · intro C i v s₃ m₃ E' _ hP hn hm hk _
    obtain ⟨a, ha, hr⟩ := hP
    have hin := compGo_all e a (List.mem_of_getElem? ha)
    obtain ⟨b, hb, _⟩ := hin
    have qi := inner_ok hs q hcl (sub hk) hn hm hr
    refine wpAny_mono (Q := fun ok s₄ => ok = b ∧ Keeps s₃ s₄) (E := fun _ _ => False) ?_ (fun ok s₄ h => ⟨h.1.trans (by simp only [atOf_eq hr]; rw [hb]; rfl), h.2⟩) (fun _ _ f => f.elim)
    cases ifs with
    | nil =>
      have hnil : test.isNil = true := okt
      rw [if_pos hnil] at hb
      cases hb
      exact wpAny_pure ⟨rfl, keeps_refl _⟩
    | cons t r =>
      cases r with
      | cons _ _ => simp [okT] at okt
      | nil =>
        have okt : okE (compCx c sc.names k x) test t = true := okt
        have hnil : test.isNil = false := by cases test <;> first | rfl | (simp [okE] at okt; done)
        rw [if_neg (by rw [hnil]; decide)] at hb
        rw [List.forIn_cons, if_pos rfl]
        refine wpAny_bind (wpAny_bind (wpAny_mono (ht.pt _ t _ _ s₃ b okt qi (truth_eq hb)) (fun b' s₄ h => wpAny_pure ?_) fun _ _ f => f.elim))
        exact wpAny_pure h
  · intro C i v s₃ m₃ E' _ hP hpv hn hm hk _
    obtain ⟨a, ha, hr⟩ := hP
    have hin := compGo_all e a (List.mem_of_getElem? ha)
    obtain ⟨b, hb, hy⟩ := hin
    have qi := inner_ok hs q hcl (sub hk) hn hm hr
    simp only [atOf_eq hr] at hpv
    rw [hb] at hpv
    obtain ⟨y, hy⟩ := hy hpv
    simp only [Option.bind_eq_some_iff] at hy
    obtain ⟨z, hz, hzy⟩ := hy
    have hz' : z = .a y := by cases z <;> simp [atom] at hzy; subst hzy; rfl
    subst hz'
    refine wpAny_mono (he.pe _ elt' _ _ s₃ _ ok qi hz) (fun yv s₄ h => ⟨⟨y, ?_, h.2.1⟩, h.1⟩) fun _ _ f => f.elim
    simp only [atOf_eq hr]
    rw [hz]; rfl
end
end Mine
end
section
open PySem PySem.Calls
set_option maxRecDepth 100000
namespace Mine
section
variable {prog : Program} {w : World} {mg mb : Str → Option Value} {H₀ : Heap} {n : Nat} {Φ : Nat → List PV → Option PV} {A : Around}

theorem comp_inv {c : Cx} {elt args test : E} {x : Nat} {k : IK} {e : Expr} (h : okE c (.comp elt x k args test) e = true) :
    ∃ elt' y px it' ifs sc pos, e = .ListComp elt' [⟨.Name y px, it', ifs, 0⟩] sc pos ∧ scopeOk c sc x y = true ∧ okIt c k args it' = true ∧ okE (compCx c sc.names x y) elt elt' = true ∧ okT test.isNil (okE (compCx c sc.names x y) test) ifs = true := by
  obtain ⟨q, hq, h⟩ := any_inv (o := asComp e) h
  obtain ⟨g, hg, h⟩ := any_inv (o := one q.2.1) h
  obtain ⟨y, hy, h⟩ := any_inv (o := asName g.target) h
  obtain ⟨h0, h⟩ := Bool.and_eq_true_iff.mp h
  obtain ⟨h, h4⟩ := Bool.and_eq_true_iff.mp h
  obtain ⟨h, h3⟩ := Bool.and_eq_true_iff.mp h
  obtain ⟨h1, h2⟩ := Bool.and_eq_true_iff.mp h
  refine ⟨q.1, y.1, y.2, g.iter, g.ifs, q.2.2.1, q.2.2.2, ?_, h2, by cases k <;> exact h0, h3, h4⟩
  rw [asComp_inv hq, one_inv hg]
  obtain ⟨t, it, ifs, b⟩ := g
  rw [show t = _ from asName_inv hy, show b = 0 from eq_of_beq h1]
theorem okIt_folded {c : Cx} {k : IK} {args : E} {x : Expr} {env : Env} (h : okIt c k args x = true) : ∀ v, foldedSetIterable x env v = pure v := by
  intro v
  cases k with
  | range =>
    obtain ⟨np, es, pos, rfl, _⟩ := inv_range h
    rfl
  | val =>
    obtain ⟨it, rfl, h'⟩ := inv_val h
    cases x <;> first | rfl | (cases it <;> exact (Bool.false_ne_true h').elim)

theorem closure_ok {c : Cx} {sc : Scope} {k : Nat} {x : Str} {env : Env} (hs : ScOk c sc k x) (he : EnvOk c env) :
    ∃ cl, closureFor sc env = pure cl ∧ ∀ y a, sc.names.lookup y = some .free → env.cells.lookup y = some a → cl.lookup y = some a :=
  closureFor_free fun p hp hf => he.cells hs.top p.1 (hs.free p hp hf)

theorem filter_len {p : Value → Bool} {vs : List Value} : (vs.filter p).length ≤ vs.length := List.length_filter_le _ _

noncomputable def compP (Φ : Nat → List PV → Option PV) (test : E) (x : Nat) (ρ : Store) (v : Value) : Bool := ((fun a => if test.isNil then some true else (ev Φ test (set ρ x (.a a))).bind truth) (atOf v)).getD false
noncomputable def compF (Φ : Nat → List PV → Option PV) (elt : E) (x : Nat) (ρ : Store) (v y : Value) : Prop := ∃ z, (fun a => (ev Φ elt (set ρ x (.a a))).bind atom) (atOf v) = some z ∧ RepA y z
theorem comp_core (G : Gd mg mb H₀) (hA : AOk n A) {elt args test : E} (he : All prog w mg mb H₀ n Φ A elt) (ha : All prog w mg mb H₀ n Φ A args) (hi : ∀ it r, args = .cons it r → All prog w mg mb H₀ n Φ A it) (ht : All prog w mg mb H₀ n Φ A test)
    {c : Cx} {k : IK} {x : Nat} {y : Str} {ρ : Store} {env : Env} {s : Shared} {sc : Scope} {cl : List (Str × Addr)} {it' elt' : Expr} {ifs : List Expr} {r : PV} {E : Value → Shared → Prop}
    (hs : ScOk c sc x y) (hcl : ∀ y a, sc.names.lookup y = some .free → env.cells.lookup y = some a → cl.lookup y = some a) (h2 : okIt c k args it' = true) (h3 : okE (compCx c sc.names x y) elt elt' = true)
    (h4 : okT test.isNil (okE (compCx c sc.names x y) test) ifs = true) (q : Cok prog w mg mb H₀ n Φ c env ρ s.heap) (e : ev Φ (.comp elt x k args test) ρ = some r) :
    wpAny (model prog w) A (eval it' env) (fun xv s₁ => wpAny (model prog w) A (pyIter xv) (fun it s₂ => ∃ I fp n P St, it = .ref I ∧ Walks prog w A I fp [I] n P St ∧ n ≤ sizeLine ∧ St 0 s₂.heap ∧ (∀ b ∈ fp, b < s₂.heap.objs.size) ∧
      Keeps s s₂ ∧ s.heap.get? I = none ∧ QuietOnC prog w A env sc cl y ifs elt' [I] P (compP Φ test x ρ) (compF Φ elt x ρ) s₂ ∧
      (∀ D h' ys (vs : List Value), h'.PlainList D ys → vs.length = n → (∀ j v, vs[j]? = some v → P j v) → Paired (compF Φ elt x ρ) (vs.filter (compP Φ test x ρ)) ys.toList → Rep h' (.ref D) r)) E s₁) E s := by
  obtain ⟨vs, hvs, e⟩ := bind_some2 e
  obtain ⟨items, hit, e⟩ := bind_some2 e
  obtain ⟨out, eo, rfl⟩ := map_some2 e
  refine wpAny_mono (iter_sound G hA ha hi h2 q hvs hit) (fun xv s₁ h => ?_) fun _ _ f => f.elim
  obtain ⟨k₁, _, h⟩ := h
  refine wpAny_mono h (fun it s₂ h => ?_) fun _ _ f => f.elim
  obtain ⟨I, fp, St, rfl, hI, k₂, hfp, hl, st, _, W⟩ := h
  have hI0 : s.heap.get? I = none := by
    cases g : s.heap.get? I with
    | none => rfl
    | some o => have := keeps_sub k₁ I o g; rw [hI] at this; cases this
  refine ⟨I, fp, items.length, _, St, rfl, W A hA.handled, hl, st, fun b hb => (hfp b hb).1, keeps_trans k₁ k₂, hI0, quiet_ok he ht hs q hcl (keeps_sub k₁) hI (keeps_sub k₂) h3 h4 eo, ?_⟩
  intro D h' ys us hp hlen hP hF
  have pr := compGo_paired (paired_of_items hlen hP) eo hF
  refine ⟨D, ys.toList, rfl, by simpa using hp, pr, ?_⟩
  have := hF.length
  have := filter_len (p := compP Φ test x ρ) (vs := us)
  omega

theorem all_comp (G : Gd mg mb H₀) (hA : AOk n A) {elt args test : E} {x : Nat} {k : IK} (he : All prog w mg mb H₀ n Φ A elt) (ha : All prog w mg mb H₀ n Φ A args) (hi : ∀ it r, args = .cons it r → All prog w mg mb H₀ n Φ A it) (ht : All prog w mg mb H₀ n Φ A test) :
    All prog w mg mb H₀ n Φ A (.comp elt x k args test) := by
  refine ⟨?_, ?_, not_as (fun _ _ => rfl), not_bs (fun _ _ _ => rfl), not_ps (fun _ _ => rfl)⟩
  · intro c e' ρ env s r h q e
    obtain ⟨elt', y, px, it', ifs, sc, pos, rfl, h1, h2, h3, h4⟩ := comp_inv h
    have hs := scopeOk_spec h1
    obtain ⟨cl, hclos, hcl⟩ := closure_ok hs q.eo
    refine wpAny_ListComp_free (compP Φ test x ρ) (compF Φ elt x ρ) hclos hs.nocell hs.kind hs.names hs.x (wpAny_mono (comp_core G hA he ha hi ht hs hcl h2 h3 h4 q e) (fun xv s₁ h => wpAny_mono h (fun it s₂ h => ?_) fun _ _ f => f) fun _ _ f => f) (okIt_folded h2)
    obtain ⟨I, fp, m, P, St, rfl, W, hl, st, hfp, k, hI, hq, hR⟩ := h
    refine ⟨I, fp, [I], m, P, St, rfl, W, hl, st, hfp, hq, fun D h' tk ys vs hD _ hp hlen hP hF hk => ?_⟩
    have hs' : Sub s.heap h' := fun b o hb => hk b o (by intro h; rw [List.mem_singleton.mp h] at hb; rw [hI] at hb; cases hb) (keeps_sub k b o hb)
    refine ⟨?_, hR D h' ys vs hp hlen hP hF, fun _ a e => ?_⟩
    · obtain ⟨h₁, t₁, rfl, _⟩ := k
      exact ⟨h', tk, rfl, hs'⟩
    · cases e
      cases g : s.heap.get? D with
      | none => rfl
      | some o => have := keeps_sub k D o g; rw [hD] at this; cases this
  · intro c y ρ env s b h q e
    obtain ⟨vs, hvs, e⟩ := bind_some2 e
    obtain ⟨items, hit, e⟩ := bind_some2 e
    obtain ⟨out, _, e⟩ := map_some2 e
    cases e

theorem all_ok (G : Gd mg mb H₀) (hA : AOk n A) : ∀ e : E, All prog w mg mb H₀ n Φ A e ∧ ∀ h r, e = .cons h r → All prog w mg mb H₀ n Φ A h := by
  intro e
  induction e with
  | none => exact ⟨all_none, fun _ _ h => nomatch h⟩
  | bool b => exact ⟨all_bool, fun _ _ h => nomatch h⟩
  | int i => exact ⟨all_int, fun _ _ h => nomatch h⟩
  | str l => exact ⟨all_str, fun _ _ h => nomatch h⟩
  | var i => exact ⟨all_var, fun _ _ h => nomatch h⟩
  | bin op l r hl hr => exact ⟨all_bin hl.1 hr.1, fun _ _ h => nomatch h⟩
  | notE x hx => exact ⟨all_notE hx.1, fun _ _ h => nomatch h⟩
  | cmp op l r hl hr => exact ⟨all_cmp hA hl.1 hr.1, fun _ _ h => nomatch h⟩
  | cmp2 o1 o2 a b c ha hb hc => exact ⟨all_cmp2 hA ha.1 hb.1 hc.1, fun _ _ h => nomatch h⟩
  | boolE isAnd args ha => exact ⟨all_boolE ha.1, fun _ _ h => nomatch h⟩
  | ite c a b hc ha hb => exact ⟨all_ite hc.1 ha.1 hb.1, fun _ _ h => nomatch h⟩
  | call f args ha => exact ⟨all_call G hA ha.1, fun _ _ h => nomatch h⟩
  | nil => exact ⟨all_nil, fun _ _ h => nomatch h⟩
  | cons h t hh ht => exact ⟨all_cons hh.1 ht.1, fun _ _ e => by cases e; exact hh.1⟩
  | bi f args ha => exact ⟨all_bi G hA ha.1, fun _ _ h => nomatch h⟩
  | me m o args ho ha => exact ⟨all_me ho.1 ha.1, fun _ _ h => nomatch h⟩
  | idx o i ho hi => exact ⟨all_idx ho.1 hi.1, fun _ _ h => nomatch h⟩
  | slice o lo hi ho hl hh => exact ⟨all_slice ho.1 hl.1 hh.1, fun _ _ h => nomatch h⟩
  | list args ha => exact ⟨all_list ha.1, fun _ _ h => nomatch h⟩
  | tup args ha => exact ⟨all_tup ha.1, fun _ _ h => nomatch h⟩
  | comp elt x k it test he hi ht => exact ⟨all_comp G hA he.1 hi.1 hi.2 ht.1, fun _ _ h => nomatch h⟩
  | dictIdx keys vals i hv hi => exact ⟨all_dictIdx hv.1 hi.1, fun _ _ h => nomatch h⟩
end
end Mine
end
section
open PySem PySem.Calls
set_option maxRecDepth 100000
namespace Mine
section
variable {prog : Program} {w : World} {mg mb : Str → Option Value} {H₀ : Heap} {n : Nat} {Φ : Nat → List PV → Option PV} {A : Around}

noncomputable def NV (env : Env) (m cm : Str → Option Value) (x : Str) (v : Value) : Prop :=
  (env.kindOf x = some .local ∧ m x = some v) ∨ (env.kindOf x = some .cell ∧ ∃ a, env.cells.lookup x = some a ∧ cm x = some v)
structure FI (c : Cx) (ρ : Store) (env : Env) (D : Option Nat) (s₀ : Shared) (d : Option Addr) (s : Shared) : Prop where
  ic : ∃ m cm, InCallC s₀ env.locals m env.cells cm s ∧ ∀ i x r, c.sl[i]? = some (some x) → get ρ i = some r →
    ∃ v, NV env m cm x v ∧ Rep s.heap v r ∧ (D = some i → ∀ a, v = .ref a → d = some a) ∧ (D ≠ some i → ∀ a, d = some a → v ≠ .ref a)
  dd : ∀ a, d = some a → s₀.heap.get? a = none ∧ ∃ o its k, s.heap.get? a = some o ∧ o.data = .seq its k
  dn : D = none → d = none
structure Kp (env : Env) (d : Option Addr) (s s' : Shared) : Prop where
  keep : ∀ b o, s.heap.get? b = some o → b ≠ env.locals → (∀ x a, env.cells.lookup x = some a → b ≠ a) → d ≠ some b → s'.heap.get? b = some o
  live : ∀ b o, s.heap.get? b = some o → ∃ o', s'.heap.get? b = some o'
noncomputable def DOk (s : Shared) (d d' : Option Addr) : Prop := d' = d ∨ ∀ a, d' = some a → s.heap.get? a = none
theorem Kp.refl {env : Env} {d : Option Addr} (s : Shared) : Kp env d s s := ⟨fun _ _ e _ _ _ => e, fun _ o e => ⟨o, e⟩⟩
theorem Kp.keeps {env : Env} {d : Option Addr} {s s' : Shared} (k : Keeps s s') : Kp env d s s' := ⟨fun b o e _ _ _ => keeps_sub k b o e, fun b o e => ⟨o, keeps_sub k b o e⟩⟩
theorem Kp.trans {env : Env} {d d' : Option Addr} {s s' s'' : Shared} (x : Kp env d s s') (y : Kp env d' s' s'') (h : DOk s d d') : Kp env d s s'' :=
  ⟨fun b o e h1 h2 h3 => y.keep b o (x.keep b o e h1 h2 h3) h1 h2 (by
    rcases h with rfl | h
    · exact h3
    · intro q; have := h b q; rw [e] at this; cases this),
  fun b o e => let ⟨o', e'⟩ := x.live b o e; y.live b o' e'⟩
theorem DOk.refl (s : Shared) (d : Option Addr) : DOk s d d := .inl rfl
theorem DOk.trans {s s' : Shared} {d d' d'' : Option Addr} (x : DOk s d d') (y : DOk s' d' d'') (k : ∀ b o, s.heap.get? b = some o → ∃ o', s'.heap.get? b = some o') : DOk s d d'' := by
  rcases y with rfl | y
  · exact x
  · refine .inr fun a e => ?_
    cases g : s.heap.get? a with
    | none => rfl
    | some o => obtain ⟨o', h⟩ := k a o g; rw [y a e] at h; cases h

theorem inCallC_keeps {s₀ s s' : Shared} {L : Addr} {m cm : Str → Option Value} {cs : List (Str × Addr)} (x : InCallC s₀ L m cs cm s) (k : Keeps s s') : InCallC s₀ L m cs cm s' := by
  obtain ⟨h, tk, rfl, kk⟩ := k
  obtain ⟨⟨⟨h₁, t₁, rfl⟩, ns, keep, fr⟩, cell, apart, above⟩ := x
  exact ⟨⟨⟨h, tk, rfl⟩, ns.keeps kk, fun b o e => kk b o (keep b o e), fr⟩, fun y a e => (cell y a e).keeps kk, apart, above⟩
theorem FI.keeps {c : Cx} {ρ : Store} {env : Env} {D : Option Nat} {s₀ s s' : Shared} {d : Option Addr} (f : FI c ρ env D s₀ d s) (k : Keeps s s') : FI c ρ env D s₀ d s' := by
  obtain ⟨⟨m, cm, ic, hv⟩, dd, dn⟩ := f
  refine ⟨⟨m, cm, inCallC_keeps ic k, fun i x r h1 h2 => ?_⟩, fun a e => ?_, ?_⟩
  · obtain ⟨v, h3, h4, h5⟩ := hv i x r h1 h2
    exact ⟨v, h3, h4.mono (keeps_sub k), h5⟩
  · obtain ⟨h1, o, its, n, h2, h3⟩ := dd a e
    exact ⟨h1, o, its, n, keeps_sub k a o h2, h3⟩
  · exact dn
theorem FI.free {c : Cx} {ρ : Store} {env : Env} {D : Option Nat} {s₀ s : Shared} {d : Option Addr} (f : FI c ρ env D s₀ d s) : FI c ρ env none s₀ none s := by
  obtain ⟨⟨m, cm, ic, hv⟩, dd, dn⟩ := f
  refine ⟨⟨m, cm, ic, fun i x r h1 h2 => ?_⟩, (fun a e => nomatch e), fun _ => rfl⟩
  obtain ⟨v, h3, h4, _⟩ := hv i x r h1 h2
  exact ⟨v, h3, h4, (fun e => nomatch e), (fun _ _ e => nomatch e)⟩
theorem FI.inv {c : Cx} {ρ : Store} {env : Env} {D : Option Nat} {s₀ s : Shared} {d : Option Addr} (f : FI c ρ env D s₀ d s) : Inv c ρ env s.heap := by
  obtain ⟨⟨m, cm, ic, hv⟩, dd, dn⟩ := f
  intro i x r h1 h2
  obtain ⟨v, h3, h4, _⟩ := hv i x r h1 h2
  rcases h3 with ⟨k, e⟩ | ⟨k, a, ha, e⟩
  · exact .inl ⟨k, m, v, ic.toInCall.ns, e, h4⟩
  · exact .inr ⟨k, a, v, ha, e ▸ ic.cell x a ha, h4⟩
theorem FI.keep₀ {c : Cx} {ρ : Store} {env : Env} {D : Option Nat} {s₀ s : Shared} {d : Option Addr} (f : FI c ρ env D s₀ d s) : Keeps s₀ s := by
  obtain ⟨⟨m, cm, ic, hv⟩, dd, dn⟩ := f
  obtain ⟨h, tk, e, k⟩ := ic.done
  exact ⟨h, tk, e, k⟩

structure Fix (prog : Program) (w : World) (mg : Str → Option Value) (H₀ : Heap) (n : Nat) (Φ : Nat → List PV → Option PV) (c : Cx) (env : Env) (s₀ : Shared) : Prop where
  eo : EnvOk c env
  base : Sub H₀ s₀.heap
  fns : ∀ f name, c.fn f = some name → FnOk prog w mg H₀ n name (Φ f)
  uniq : ∀ (i j : Nat) (x : Str), c.sl[i]? = some (some x) → c.sl[j]? = some (some x) → i = j
  kinds : ∀ (i : Nat) (x : Str), c.sl[i]? = some (some x) → env.kindOf x = some .local ∨ (env.kindOf x = some .cell ∧ ∃ a, env.cells.lookup x = some a)
theorem FI.cok {c : Cx} {ρ : Store} {env : Env} {D : Option Nat} {s₀ s : Shared} {d : Option Addr} (X : Fix prog w mg H₀ n Φ c env s₀) (f : FI c ρ env D s₀ d s) : Cok prog w mg mb H₀ n Φ c env ρ s.heap :=
  ⟨X.eo, f.inv, X.base.trans (keeps_sub f.keep₀), X.fns⟩

theorem Rep.keepSeq {h h' : Heap} {v : Value} {r : PV} (x : Rep h v r) (k : ∀ a o its n, v = .ref a → h.get? a = some o → o.data = .seq its n → h'.get? a = some o) : Rep h' v r := by
  cases r with
  | a _ => exact x
  | bytes _ => exact x
  | list _ => obtain ⟨a, vs, rfl, ⟨n, hp⟩, hx, hl⟩ := x; exact ⟨a, vs, rfl, ⟨n, k a _ _ _ rfl hp rfl⟩, hx, hl⟩
  | tup _ => obtain ⟨a, vs, rfl, ⟨n, hp⟩, hx, hl⟩ := x; exact ⟨a, vs, rfl, ⟨n, k a _ _ _ rfl hp rfl⟩, hx, hl⟩
theorem Rep.isSeq {h : Heap} {a : Addr} {r : PV} (x : Rep h (.ref a) r) : ∃ o its n, h.get? a = some o ∧ o.data = .seq its n := by
  cases r with
  | a y => cases y <;> simp [Rep, RepA] at x
  | bytes _ => obtain ⟨t, e⟩ := x; cases e
  | list _ => obtain ⟨a, vs, e, ⟨n, hp⟩, hx, hl⟩ := x; cases e; exact ⟨_, _, _, hp, rfl⟩
  | tup _ => obtain ⟨a, vs, e, ⟨n, hp⟩, hx, hl⟩ := x; cases e; exact ⟨_, _, _, hp, rfl⟩

theorem store_any {s₀ s : Shared} {env : Env} {m cm : Str → Option Value} {y : Str} {v : Value} {Q : Unit → Shared → Prop} {E : Value → Shared → Prop} (x : InCallC s₀ env.locals m env.cells cm s) (hk : env.scope.kind = .function)
    (hy : env.kindOf y = some .local ∨ (env.kindOf y = some .cell ∧ ∃ a, env.cells.lookup y = some a))
    (h : ∀ h' tk b, (b = env.locals ∨ env.cells.lookup y = some b) → Heap.SameBut b s.heap h' → (∃ o', h'.get? b = some o') → (∀ o its k, s.heap.get? b = some o → o.data ≠ .seq its k) →
      (∃ m' cm', InCallC s₀ env.locals m' env.cells cm' { s with heap := h', toks := tk } ∧ NV env m' cm' y v ∧ ∀ z u, z ≠ y → NV env m cm z u → NV env m' cm' z u) → Q () { s with heap := h', toks := tk }) :
    wpAny (model prog w) A (storeName env y v) Q E s := by
  have same : ∀ h' t, ∃ h tk, ({ s with heap := h', toks := t } : Shared) = { s₀ with heap := h, toks := tk } := fun h' t => by
    obtain ⟨h₁, tk, rfl⟩ := x.toInCall.same; exact ⟨h', t, rfl⟩
  rcases hy with hl | ⟨hl, a, ha⟩
  · refine wpAny_storeName_local hl x.toInCall.ns (fun h' hn' hs' => h h' _ env.locals (.inl rfl) hs' ?_ ?_ ⟨fun z => if z = y then some v else m z, cm, ⟨⟨same h' _, hn', fun b o e => ?_, x.toInCall.fresh⟩, fun k c hc => ?_, x.apart, x.above⟩, ?_, ?_⟩) (by rw [hk]; rfl)
    · obtain ⟨o, _, _, ho, _⟩ := hn'; exact ⟨o, ho⟩
    · intro o its k ho e
      obtain ⟨o', _, _, ho', hd', _⟩ := x.toInCall.ns
      rw [ho] at ho'; cases ho'; rw [hd'] at e; cases e
    · exact hs'.extBut b o (Nat.ne_of_lt (Nat.lt_of_lt_of_le (Heap.lt_size e) x.toInCall.fresh)) (x.toInCall.keep b o e)
    · exact (x.cell k c hc).sameBut hs' (Nat.ne_of_gt (x.above k c (mem_of_lookup hc)))
    · exact .inl ⟨hl, by simp⟩
    · intro z u hz hu
      rcases hu with ⟨k, e⟩ | ⟨k, e⟩
      · exact .inl ⟨k, by simp only [if_neg hz]; exact e⟩
      · exact .inr ⟨k, e⟩
  · have hLc := x.above y a (mem_of_lookup ha)
    refine wpAny_storeName_cell hk hl ha (x.cell y a ha) fun h' hc' hs' => h h' s.toks a (.inr ha) hs' ?_ ?_ ⟨m, fun z => if z = y then some v else cm z, ⟨⟨same h' _, x.toInCall.ns.sameBut hs' (Nat.ne_of_lt hLc), fun b o e => ?_, x.toInCall.fresh⟩, fun k c' hk' => ?_, x.apart, x.above⟩, ?_, ?_⟩
    · obtain ⟨o, ho, _⟩ := hc'; exact ⟨o, ho⟩
    · intro o its k ho e
      obtain ⟨o', ho', hd'⟩ := x.cell y a ha
      rw [ho] at ho'; cases ho'; rw [hd'] at e; cases e
    · exact hs'.extBut b o (Nat.ne_of_lt (Nat.lt_trans (Nat.lt_of_lt_of_le (Heap.lt_size e) x.toInCall.fresh) hLc)) (x.toInCall.keep b o e)
    · by_cases hkn : k = y
      · subst hkn
        rw [ha] at hk'; cases hk'
        simpa using hc'
      · rw [if_neg hkn]
        exact (x.cell k c' hk').sameBut hs' fun e => hkn (name_of_addr x.apart (mem_of_lookup hk') (e ▸ mem_of_lookup ha))
    · exact .inr ⟨hl, a, ha, by simp⟩
    · intro z u hz hu
      rcases hu with ⟨k, e⟩ | ⟨k, c', e1, e2⟩
      · exact .inl ⟨k, e⟩
      · exact .inr ⟨k, c', e1, by simp only [if_neg hz]; exact e2⟩

noncomputable def addrOf : Value → Option Addr
  | .ref a => some a
  | _ => none
noncomputable def newD (D : Option Nat) (i : Nat) (d : Option Addr) (v : Value) : Option Addr := if D = some i then addrOf v else d

theorem seq_apart {s₀ s : Shared} {env : Env} {m cm : Str → Option Value} (x : InCallC s₀ env.locals m env.cells cm s) {a : Addr} {o : Obj} {its : Array Value} {q : Nat} (ho : s.heap.get? a = some o) (hd : o.data = .seq its q) :
    a ≠ env.locals ∧ ∀ z c, env.cells.lookup z = some c → a ≠ c := by
  constructor
  · rintro rfl
    obtain ⟨o', _, _, ho', hd', _⟩ := x.toInCall.ns
    rw [ho] at ho'; cases ho'; rw [hd'] at hd; cases hd
  · rintro z c hc rfl
    obtain ⟨o', ho', hd'⟩ := x.cell z a hc
    rw [ho] at ho'; cases ho'; rw [hd'] at hd; cases hd

theorem FI.put {c : Cx} {ρ : Store} {env : Env} {D : Option Nat} {s₀ s s' : Shared} {d : Option Addr} {i : Nat} {x : Str} {v : Value} {r : PV} {m cm m' cm' : Str → Option Value} (X : Fix prog w mg H₀ n Φ c env s₀) (f : FI c ρ env D s₀ d s)
    (ic : InCallC s₀ env.locals m env.cells cm s)
    (hv : ∀ i x r, c.sl[i]? = some (some x) → get ρ i = some r → ∃ v, NV env m cm x v ∧ Rep s.heap v r ∧ (D = some i → ∀ a, v = .ref a → d = some a) ∧ (D ≠ some i → ∀ a, d = some a → v ≠ .ref a))
    (hi : c.sl[i]? = some (some x)) (ic' : InCallC s₀ env.locals m' env.cells cm' s') (hvx : NV env m' cm' x v) (hvo : ∀ z u, z ≠ x → NV env m cm z u → NV env m' cm' z u)
    (hkeep : ∀ b o, s.heap.get? b = some o → b ≠ env.locals → (∀ z a, env.cells.lookup z = some a → b ≠ a) → s'.heap.get? b = some o) (hlive : ∀ b o, s.heap.get? b = some o → ∃ o', s'.heap.get? b = some o')
    (hr : Rep s'.heap v r) (hf : D ≠ none → Fresh s.heap v) : FI c (set ρ i r) env D s₀ (newD D i d v) s' ∧ Kp env d s s' ∧ DOk s d (newD D i d v) := by
  have keep : ∀ a o its q, s.heap.get? a = some o → o.data = .seq its q → s'.heap.get? a = some o := fun a o its q ho e => let ⟨h1, h2⟩ := seq_apart ic ho e; hkeep a o ho h1 h2
  have hfd : D = some i → Fresh s.heap v := fun e => hf (by rw [e]; exact fun h => by cases h)
  have dok : DOk s d (newD D i d v) := by
    unfold newD
    split
    · rename_i e
      refine .inr fun a ha => hfd e a ?_
      cases v <;> simp [addrOf] at ha
      rw [ha]
    · exact .inl rfl
  refine ⟨⟨⟨m', cm', ic', fun j y q hj hg => ?_⟩, fun a e => ?_, ?_⟩, ⟨fun b' o e h1 h2 h3 => hkeep b' o e h1 h2, hlive⟩, dok⟩
  · by_cases hij : i = j
    · subst hij
      rw [hi] at hj
      cases hj
      have := get_set_eq hg
      subst this
      refine ⟨v, hvx, hr, fun e a ha => ?_, fun e a ha hva => ?_⟩
      · unfold newD; rw [if_pos e, ha]; rfl
      · unfold newD at ha; rw [if_neg e] at ha
        obtain ⟨_, o, _, _, ho, _⟩ := f.dd a ha
        by_cases hD : D = none
        · rw [f.dn hD] at ha; cases ha
        · have := hf hD a hva
          rw [ho] at this; cases this
    · rw [get_set_ne hij] at hg
      have hxy : y ≠ x := fun e => hij (X.uniq i j x hi (e ▸ hj))
      obtain ⟨u, h1, h2, h3, h4⟩ := hv j y q hj hg
      refine ⟨u, hvo y u hxy h1, h2.keepSeq fun a o its n _ => keep a o its n, fun e a ha => ?_, fun e a ha hua => ?_⟩
      · unfold newD; rw [if_neg (by rw [e]; intro h; exact hij (Option.some.inj h).symm)]
        exact h3 e a ha
      · unfold newD at ha
        split at ha
        · rename_i hD
          have hva : v = .ref a := by cases v <;> simp [addrOf] at ha; rw [ha]
          have := hfd hD a hva
          rw [hua] at h2
          obtain ⟨o, its, q', ho, _⟩ := h2.isSeq
          rw [ho] at this; cases this
        · exact h4 e a ha hua
  · unfold newD at e
    split at e
    · rename_i hD
      have hva : v = .ref a := by cases v <;> simp [addrOf] at e; rw [e]
      have := hfd hD a hva
      subst hva
      obtain ⟨o, its, q, ho, hd⟩ := hr.isSeq
      refine ⟨?_, o, its, q, ho, hd⟩
      cases g : s₀.heap.get? a with
      | none => rfl
      | some o' => rw [keeps_sub f.keep₀ a o' g] at this; cases this
    · obtain ⟨h1, o, its, q, ho, hd⟩ := f.dd a e
      exact ⟨h1, o, its, q, keep a o its q ho hd, hd⟩
  · unfold newD; intro e; rw [if_neg (by rw [e]; exact fun h => by cases h)]; exact f.dn e

theorem FI.store {c : Cx} {ρ : Store} {env : Env} {D : Option Nat} {s₀ s s₁ : Shared} {d : Option Addr} {i : Nat} {x : Str} {v : Value} {r : PV} {E : Value → Shared → Prop} (X : Fix prog w mg H₀ n Φ c env s₀) (f : FI c ρ env D s₀ d s) (k : Keeps s s₁)
    (hi : c.sl[i]? = some (some x)) (hr : Rep s₁.heap v r) (hf : D ≠ none → Fresh s.heap v) :
    wpAny (model prog w) A (storeName env x v) (fun _ s' => FI c (set ρ i r) env D s₀ (newD D i d v) s' ∧ Kp env d s s' ∧ DOk s d (newD D i d v)) E s₁ := by
  have f₀ := f
  obtain ⟨⟨m, cm, ic₀, hv⟩, _, _⟩ := f₀
  refine store_any (inCallC_keeps ic₀ k) X.eo.kind (X.kinds i x hi) fun h' tk b hb hs hlive hns hm => ?_
  obtain ⟨m', cm', ic', hvx, hvo⟩ := hm
  refine f.put X ic₀ hv hi ic' hvx hvo (fun b' o e h1 h2 => ?_) (fun b' o e => ?_) (hr.keepSeq fun a o its q _ ho e => hs.extBut a o (by rintro rfl; exact hns o its q ho e) ho) hf
  · refine hs.extBut b' o ?_ (keeps_sub k b' o e)
    rcases hb with rfl | hb
    · exact h1
    · exact h2 x b hb
  · by_cases hbb : b' = b
    · subst hbb; exact hlive
    · exact ⟨o, hs.extBut b' o hbb (keeps_sub k b' o e)⟩

theorem FI.change {c : Cx} {ρ : Store} {env : Env} {s₀ s : Shared} {d : Option Addr} {i : Nat} {x : Str} {xs ys : List At} {a : Addr} {us : List Value} {h' : Heap} {tk : Nat} (X : Fix prog w mg H₀ n Φ c env s₀) (f : FI c ρ env (some i) s₀ d s)
    (hi : c.sl[i]? = some (some x)) (hda : d = some a) (hs : Heap.SameBut a s.heap h') (hp : h'.PlainList a us.toArray) (pr : Paired RepA us ys) (hl : us.length ≤ sizeLine) (hx : get ρ i = some (.list xs)) :
    FI c (set ρ i (.list ys)) env (some i) s₀ d { s with heap := h', toks := tk } ∧ Kp env d s { s with heap := h', toks := tk } := by
  have f₀ := f
  obtain ⟨⟨m, cm, ic, hv⟩, dd, _⟩ := f₀
  obtain ⟨hfr, o, its, q, ho, hd⟩ := dd a hda
  obtain ⟨ha1, ha2⟩ := seq_apart ic ho hd
  have kp : Kp env d s { s with heap := h', toks := tk } := ⟨fun b o' e _ _ h3 => hs.extBut b o' (fun q => h3 (by rw [hda, q])) e, fun b o' e => by
    by_cases hb : b = a
    · subst hb; obtain ⟨k, e⟩ := hp; exact ⟨_, e⟩
    · exact ⟨o', hs.extBut b o' hb e⟩⟩
  refine ⟨⟨⟨m, cm, ⟨⟨?_, ic.toInCall.ns.sameBut hs (Ne.symm ha1), fun b o' e => ?_, ic.toInCall.fresh⟩, fun z c' hc => (ic.cell z c' hc).sameBut hs (Ne.symm (ha2 z c' hc)), ic.apart, ic.above⟩, fun j y r hj hg => ?_⟩, fun a' e => ?_, fun e => nomatch e⟩, kp⟩
  · obtain ⟨h₁, t₁, e⟩ := ic.toInCall.same
    exact ⟨h', tk, by rw [e]⟩
  · refine hs.extBut b o' (fun q => ?_) (ic.toInCall.keep b o' e)
    rw [q, hfr] at e; cases e
  · by_cases hij : i = j
    · subst hij
      have := get_set_eq hg
      subst this
      obtain ⟨v, h1, h2, h3, h4⟩ := hv i y (.list xs) hj hx
      obtain ⟨a', vs, rfl, _⟩ := h2
      have := h3 rfl a' rfl
      rw [hda] at this
      cases this
      exact ⟨.ref a, h1, ⟨a, us, rfl, hp, pr, hl⟩, h3, h4⟩
    · rw [get_set_ne hij] at hg
      obtain ⟨u, h1, h2, h3, h4⟩ := hv j y r hj hg
      refine ⟨u, h1, h2.keepSeq fun b o' its' n' hb ho' _ => ?_, h3, h4⟩
      exact hs.extBut b o' (fun q => h4 (fun e => hij (Option.some.inj e)) a hda (by rw [hb, q])) ho'
  · rw [hda] at e
    cases e
    obtain ⟨k, e⟩ := hp
    exact ⟨hfr, _, _, _, e, rfl⟩
end
end Mine
end
section
open PySem PySem.Calls
set_option maxRecDepth 100000
namespace Mine

noncomputable def isName (c : Cx) (i : Nat) (x : Str) : Bool := c.sl[i]? == some (some x)
noncomputable def compLocal (c : Cx) (v : Expr) (x : Str) (p : Pos) : Bool :=
  match v with
  | .ListComp _ _ sc q => c.kinds.lookup x == some .local && p.line == q.line && !(sc.names.any fun (n, k) => n == x && (k == .local || k == .cell))
  | _ => false
noncomputable def compCell (c : Cx) (v : Expr) (x : Str) : Bool :=
  match v with
  | .ListComp _ _ _ _ => c.kinds.lookup x == some .cell
  | _ => true
noncomputable def folded2 (v : Expr) : Bool := match asTup v with
  | some q => (two q.1).any fun ab => foldedForSure 8 ab.1 && foldedForSure 8 ab.2
  | none => (asComp v).isNone
noncomputable def swap2 (c : Cx) (x y : Str) (p1 p2 : Pos) (v : Expr) : Bool := (asTup v).any fun q => (two q.1).any fun ab =>
  c.kinds.lookup x == some .local && c.kinds.lookup y == some .local && p1.line == p2.line && !(x == y) && !(foldedForSure 8 ab.1 && foldedForSure 8 ab.2) && !(constantsAlone 8 ab.1 && constantsAlone 8 ab.2) && !(ab.1.ctorIdx == 22) && !(ab.2.ctorIdx == 22)
noncomputable def enumName : Str := Str.ofString "enumerate"
noncomputable def varOf (e : E) : Option Nat := match e with
  | .var j => some j
  | _ => none
noncomputable def headVar (e : E) : Option Nat := match e with
  | .cons x _ => varOf x
  | _ => none
noncomputable def isVal (k : IK) : Bool := match k with
  | .val => true
  | .range => false
noncomputable def itD (D : Option Nat) (k : IK) (args : E) : Bool := D == none || freshIt k args || (isVal k && (headVar args).any fun j => !(D == some j))
theorem varOf_inv {e : E} {j : Nat} (h : varOf e = some j) : e = .var j := by
  cases e with
  | var i => cases h; rfl
  | _ => cases h
theorem ne_of_beq {α : Type} [BEq α] [LawfulBEq α] {a b : α} (h : (!(a == b)) = true) : a ≠ b := fun e => by subst e; rw [beq_self_eq_true] at h; exact Bool.false_ne_true h
noncomputable def pkAssign (x : Stmt) (h : x.ctorIdx = 5) : List Expr × Expr × Pos := Stmt.Assign.elim (motive_2 := fun _ => List Expr × Expr × Pos) x h fun ts v p => (ts, v, p)
noncomputable def asAssign (x : Stmt) : Option (List Expr × Expr × Pos) := if h : x.ctorIdx = 5 then some (pkAssign x h) else none
theorem asAssign_inv {x : Stmt} {q : List Expr × Expr × Pos} (h : asAssign x = some q) : x = .Assign q.1 q.2.1 q.2.2 := by
  obtain ⟨hc, rfl⟩ := dite_some h
  exact Stmt.Assign.elim (motive_2 := fun x => ∀ hc : x.ctorIdx = 5, x = .Assign (pkAssign x hc).1 (pkAssign x hc).2.1 (pkAssign x hc).2.2) x hc (fun _ _ _ _ => rfl) hc
noncomputable def pkRet (x : Stmt) (h : x.ctorIdx = 3) : Option Expr × Pos := Stmt.Return.elim (motive_2 := fun _ => Option Expr × Pos) x h fun v p => (v, p)
noncomputable def asRet (x : Stmt) : Option (Option Expr × Pos) := if h : x.ctorIdx = 3 then some (pkRet x h) else none
theorem asRet_inv {x : Stmt} {q : Option Expr × Pos} (h : asRet x = some q) : x = .Return q.1 q.2 := by
  obtain ⟨hc, rfl⟩ := dite_some h
  exact Stmt.Return.elim (motive_2 := fun x => ∀ hc : x.ctorIdx = 3, x = .Return (pkRet x hc).1 (pkRet x hc).2) x hc (fun _ _ _ => rfl) hc
noncomputable def pkIfS (x : Stmt) (h : x.ctorIdx = 12) : Expr × List Stmt × List Stmt × Pos := Stmt.If.elim (motive_2 := fun _ => Expr × List Stmt × List Stmt × Pos) x h fun t a b p => (t, a, b, p)
noncomputable def asIfS (x : Stmt) : Option (Expr × List Stmt × List Stmt × Pos) := if h : x.ctorIdx = 12 then some (pkIfS x h) else none
theorem asIfS_inv {x : Stmt} {q : Expr × List Stmt × List Stmt × Pos} (h : asIfS x = some q) : x = .If q.1 q.2.1 q.2.2.1 q.2.2.2 := by
  obtain ⟨hc, rfl⟩ := dite_some h
  exact Stmt.If.elim (motive_2 := fun x => ∀ hc : x.ctorIdx = 12, x = .If (pkIfS x hc).1 (pkIfS x hc).2.1 (pkIfS x hc).2.2.1 (pkIfS x hc).2.2.2) x hc (fun _ _ _ _ _ => rfl) hc
noncomputable def pkFor (x : Stmt) (h : x.ctorIdx = 9) : Expr × Expr × List Stmt × List Stmt × Pos := Stmt.For.elim (motive_2 := fun _ => Expr × Expr × List Stmt × List Stmt × Pos) x h fun t i b e p => (t, i, b, e, p)
noncomputable def asFor (x : Stmt) : Option (Expr × Expr × List Stmt × List Stmt × Pos) := if h : x.ctorIdx = 9 then some (pkFor x h) else none
theorem asFor_inv {x : Stmt} {q : Expr × Expr × List Stmt × List Stmt × Pos} (h : asFor x = some q) : x = .For q.1 q.2.1 q.2.2.1 q.2.2.2.1 q.2.2.2.2 := by
  obtain ⟨hc, rfl⟩ := dite_some h
  exact Stmt.For.elim (motive_2 := fun x => ∀ hc : x.ctorIdx = 9, x = .For (pkFor x hc).1 (pkFor x hc).2.1 (pkFor x hc).2.2.1 (pkFor x hc).2.2.2.1 (pkFor x hc).2.2.2.2) x hc (fun _ _ _ _ _ _ => rfl) hc
noncomputable def pkWhile (x : Stmt) (h : x.ctorIdx = 11) : Expr × List Stmt × List Stmt × Pos := Stmt.While.elim (motive_2 := fun _ => Expr × List Stmt × List Stmt × Pos) x h fun t b e p => (t, b, e, p)
noncomputable def asWhile (x : Stmt) : Option (Expr × List Stmt × List Stmt × Pos) := if h : x.ctorIdx = 11 then some (pkWhile x h) else none
theorem asWhile_inv {x : Stmt} {q : Expr × List Stmt × List Stmt × Pos} (h : asWhile x = some q) : x = .While q.1 q.2.1 q.2.2.1 q.2.2.2 := by
  obtain ⟨hc, rfl⟩ := dite_some h
  exact Stmt.While.elim (motive_2 := fun x => ∀ hc : x.ctorIdx = 11, x = .While (pkWhile x hc).1 (pkWhile x hc).2.1 (pkWhile x hc).2.2.1 (pkWhile x hc).2.2.2) x hc (fun _ _ _ _ _ => rfl) hc
noncomputable def pkExprS (x : Stmt) (h : x.ctorIdx = 24) : Expr × Pos := Stmt.Expr.elim (motive_2 := fun _ => Expr × Pos) x h fun v p => (v, p)
noncomputable def asExprS (x : Stmt) : Option (Expr × Pos) := if h : x.ctorIdx = 24 then some (pkExprS x h) else none
theorem asExprS_inv {x : Stmt} {q : Expr × Pos} (h : asExprS x = some q) : x = .Expr q.1 q.2 := by
  obtain ⟨hc, rfl⟩ := dite_some h
  exact Stmt.Expr.elim (motive_2 := fun x => ∀ hc : x.ctorIdx = 24, x = .Expr (pkExprS x hc).1 (pkExprS x hc).2) x hc (fun _ _ _ => rfl) hc
mutual
noncomputable def okS1 (c : Cx) (D : Option Nat) (st : S) (x : Stmt) : Bool := match st with
  | .assign i e => (asAssign x).any fun q => (one q.1).any fun t => (asName t).any fun y => isName c i y.1 && okE c e q.2.1 && (D == none || fresh e) && (compLocal c q.2.1 y.1 y.2 || compCell c q.2.1 y.1)
  | .assign2 i j e => (asAssign x).any fun q => (one q.1).any fun t => (asTup t).any fun u => (two u.1).any fun ab => (asName ab.1).any fun y => (asName ab.2).any fun z =>
      D == none && !(i == j) && isName c i y.1 && isName c j z.1 && okE c e q.2.1 && (folded2 q.2.1 || swap2 c y.1 z.1 y.2 z.2 q.2.1)
  | .ret e => (asRet x).any fun q => q.1.any fun v => okE c e v
  | .retD i => (asRet x).any fun q => q.1.any fun v => (asName v).any fun y => D == some i && isName c i y.1 && !(y.1 == debugName)
  | .ite e t f => (asIfS x).any fun q => okE c e q.1 && okSs c D t q.2.1 && okSs c D f q.2.2.1
  | .forS i k it body => (asFor x).any fun q => (asName q.1).any fun y => q.2.2.2.1.isEmpty && isName c i y.1 && !(D == some i) && okIt c k it q.2.1 && itD D k it && okSs c D body q.2.2.1
  | .forEnum i xi ev body => (varOf ev).any fun j => (asFor x).any fun q => (asTup q.1).any fun u => (two u.1).any fun ab => (asName ab.1).any fun y1 => (asName ab.2).any fun y2 => (asCall q.2.1).any fun r => (asName r.1).any fun en => (one r.2.1).any fun z' => (asName z').any fun z =>
      q.2.2.2.1.isEmpty && r.2.2.1.isEmpty && isName c i y1.1 && isName c xi y2.1 && isName c j z.1 && !(i == xi) && !(D == some i) && !(D == some xi) && !(D == some j) && en.1 == enumName && c.glob enumName && !(z.1 == debugName) && okSs c D body q.2.2.1
  | .whileS _ e body => (asWhile x).any fun q => q.2.2.1.isEmpty && okE c e q.1 && okSs c D body q.2.1
  | .append xi e => (asExprS x).any fun q => (asCall q.1).any fun r => (one r.2.1).any fun v => (asAttr r.1).any fun at' => (asName at'.1).any fun z =>
      r.2.2.1.isEmpty && D == some xi && isName c xi z.1 && at'.2.1 == Str.ofString "append" && okE c e v && (at'.2.2.endLine == r.2.2.2.line) && !(z.1 == debugName)
  | .setItem xi i e => (asAssign x).any fun q => (one q.1).any fun t => (asSub t).any fun u => (asName u.1).any fun y => D == some xi && isName c xi y.1 && okE c i u.2.1 && okE c e q.2.1 && !(y.1 == debugName) && !(asComp q.2.1).isSome
  | .raiseS => true
  | .nil => false
  | .seq _ _ => false
  | .freeze _ => false
termination_by structural st
noncomputable def okSs (c : Cx) (D : Option Nat) (st : S) (xs : List Stmt) : Bool := match st with
  | .nil => match xs with
    | [] => true
    | _ :: _ => false
  | .seq h t => match xs with
    | x :: r => okS1 c D h x && okSs c D t r
    | [] => false
  | .freeze t => okSs c none t xs
  | _ => false
termination_by structural st
end
theorem inv_assign {c : Cx} {D : Option Nat} {i : Nat} {e : E} {x : Stmt} (h : okS1 c D (.assign i e) x = true) : ∃ y px v pos, x = .Assign [.Name y px] v pos ∧ isName c i y = true ∧ okE c e v = true ∧ (D == none || fresh e) = true ∧ (compLocal c v y px || compCell c v y) = true := by
  obtain ⟨q, hq, h⟩ := any_inv (o := asAssign x) h
  obtain ⟨t, ht, h⟩ := any_inv (o := one q.1) h
  obtain ⟨y, hy, h⟩ := any_inv (o := asName t) h
  obtain ⟨h, h4⟩ := Bool.and_eq_true_iff.mp h
  obtain ⟨h, h3⟩ := Bool.and_eq_true_iff.mp h
  obtain ⟨h1, h2⟩ := Bool.and_eq_true_iff.mp h
  exact ⟨y.1, y.2, q.2.1, q.2.2, by rw [asAssign_inv hq, one_inv ht, asName_inv hy], h1, h2, h3, h4⟩
theorem inv_assign2 {c : Cx} {D : Option Nat} {i j : Nat} {e : E} {x : Stmt} (h : okS1 c D (.assign2 i j e) x = true) : ∃ y p1 z p2 q1 q2 v pos, x = .Assign [.Tuple [.Name y p1, .Name z p2] q1 q2] v pos ∧ D = none ∧ i ≠ j ∧ isName c i y = true ∧ isName c j z = true ∧ okE c e v = true ∧ (folded2 v || swap2 c y z p1 p2 v) = true := by
  obtain ⟨q, hq, h⟩ := any_inv (o := asAssign x) h
  obtain ⟨t, ht, h⟩ := any_inv (o := one q.1) h
  obtain ⟨u, hu, h⟩ := any_inv (o := asTup t) h
  obtain ⟨ab, hab, h⟩ := any_inv (o := two u.1) h
  obtain ⟨y, hy, h⟩ := any_inv (o := asName ab.1) h
  obtain ⟨z, hz, h⟩ := any_inv (o := asName ab.2) h
  obtain ⟨h, h6⟩ := Bool.and_eq_true_iff.mp h
  obtain ⟨h, h5⟩ := Bool.and_eq_true_iff.mp h
  obtain ⟨h, h4⟩ := Bool.and_eq_true_iff.mp h
  obtain ⟨h, h3⟩ := Bool.and_eq_true_iff.mp h
  obtain ⟨h1, h2⟩ := Bool.and_eq_true_iff.mp h
  exact ⟨y.1, y.2, z.1, z.2, u.2.1, u.2.2, q.2.1, q.2.2, by rw [asAssign_inv hq, one_inv ht, asTup_inv hu, two_inv hab, asName_inv hy, asName_inv hz], eq_of_beq h1, ne_of_beq h2, h3, h4, h5, h6⟩
theorem inv_ret {c : Cx} {D : Option Nat} {e : E} {x : Stmt} (h : okS1 c D (.ret e) x = true) : ∃ v pos, x = .Return (some v) pos ∧ okE c e v = true := by
  obtain ⟨q, hq, h⟩ := any_inv (o := asRet x) h
  obtain ⟨v, hv, h⟩ := any_inv (o := q.1) h
  exact ⟨v, q.2, by rw [asRet_inv hq, hv], h⟩
theorem inv_retD {c : Cx} {D : Option Nat} {i : Nat} {x : Stmt} (h : okS1 c D (.retD i) x = true) : ∃ y q pos, x = .Return (some (.Name y q)) pos ∧ D = some i ∧ isName c i y = true ∧ (y == debugName) = false := by
  obtain ⟨q, hq, h⟩ := any_inv (o := asRet x) h
  obtain ⟨v, hv, h⟩ := any_inv (o := q.1) h
  obtain ⟨y, hy, h⟩ := any_inv (o := asName v) h
  obtain ⟨h, h3⟩ := Bool.and_eq_true_iff.mp h
  obtain ⟨h1, h2⟩ := Bool.and_eq_true_iff.mp h
  exact ⟨y.1, y.2, q.2, by rw [asRet_inv hq, hv, asName_inv hy], eq_of_beq h1, h2, (Bool.not_eq_true' _).mp h3⟩
theorem inv_if {c : Cx} {D : Option Nat} {e : E} {t f : S} {x : Stmt} (h : okS1 c D (.ite e t f) x = true) : ∃ test body orelse pos, x = .If test body orelse pos ∧ okE c e test = true ∧ okSs c D t body = true ∧ okSs c D f orelse = true := by
  obtain ⟨q, hq, h⟩ := any_inv (o := asIfS x) h
  obtain ⟨h, h3⟩ := Bool.and_eq_true_iff.mp h
  obtain ⟨h1, h2⟩ := Bool.and_eq_true_iff.mp h
  exact ⟨q.1, q.2.1, q.2.2.1, q.2.2.2, asIfS_inv hq, h1, h2, h3⟩
theorem inv_for {c : Cx} {D : Option Nat} {i : Nat} {k : IK} {it : E} {body : S} {x : Stmt} (h : okS1 c D (.forS i k it body) x = true) : ∃ y py iter body' pos, x = .For (.Name y py) iter body' [] pos ∧ isName c i y = true ∧ D ≠ some i ∧ okIt c k it iter = true ∧ itD D k it = true ∧ okSs c D body body' = true := by
  obtain ⟨q, hq, h⟩ := any_inv (o := asFor x) h
  obtain ⟨y, hy, h⟩ := any_inv (o := asName q.1) h
  obtain ⟨h, h5⟩ := Bool.and_eq_true_iff.mp h
  obtain ⟨h, h4⟩ := Bool.and_eq_true_iff.mp h
  obtain ⟨h, h3⟩ := Bool.and_eq_true_iff.mp h
  obtain ⟨h, h2⟩ := Bool.and_eq_true_iff.mp h
  obtain ⟨h0, h1⟩ := Bool.and_eq_true_iff.mp h
  exact ⟨y.1, y.2, q.2.1, q.2.2.1, q.2.2.2.2, by rw [asFor_inv hq, asName_inv hy, List.isEmpty_iff.mp h0], h1, ne_of_beq h2, h3, h4, h5⟩
theorem inv_forEnum {c : Cx} {D : Option Nat} {i xi : Nat} {it : E} {body : S} {x : Stmt} (h : okS1 c D (.forEnum i xi it body) x = true) : ∃ j y1 p1 y2 p2 q1 q2 p3 z p4 p5 body' pos, it = .var j ∧ x = .For (.Tuple [.Name y1 p1, .Name y2 p2] q1 q2) (.Call (.Name enumName p3) [.Name z p4] [] p5) body' [] pos ∧
      isName c i y1 = true ∧ isName c xi y2 = true ∧ isName c j z = true ∧ i ≠ xi ∧ D ≠ some i ∧ D ≠ some xi ∧ D ≠ some j ∧ c.glob enumName = true ∧ (z == debugName) = false ∧ okSs c D body body' = true := by
  obtain ⟨j, hj, h⟩ := any_inv (o := varOf it) h
  obtain ⟨q, hq, h⟩ := any_inv (o := asFor x) h
  obtain ⟨u, hu, h⟩ := any_inv (o := asTup q.1) h
  obtain ⟨ab, hab, h⟩ := any_inv (o := two u.1) h
  obtain ⟨y1, hy1, h⟩ := any_inv (o := asName ab.1) h
  obtain ⟨y2, hy2, h⟩ := any_inv (o := asName ab.2) h
  obtain ⟨r, hr, h⟩ := any_inv (o := asCall q.2.1) h
  obtain ⟨en, hen, h⟩ := any_inv (o := asName r.1) h
  obtain ⟨z', hz', h⟩ := any_inv (o := one r.2.1) h
  obtain ⟨z, hz, h⟩ := any_inv (o := asName z') h
  obtain ⟨h, h11⟩ := Bool.and_eq_true_iff.mp h
  obtain ⟨h, h10⟩ := Bool.and_eq_true_iff.mp h
  obtain ⟨h, h9⟩ := Bool.and_eq_true_iff.mp h
  obtain ⟨h, h8⟩ := Bool.and_eq_true_iff.mp h
  obtain ⟨h, h7⟩ := Bool.and_eq_true_iff.mp h
  obtain ⟨h, h6⟩ := Bool.and_eq_true_iff.mp h
  obtain ⟨h, h5⟩ := Bool.and_eq_true_iff.mp h
  obtain ⟨h, h4⟩ := Bool.and_eq_true_iff.mp h
  obtain ⟨h, h3⟩ := Bool.and_eq_true_iff.mp h
  obtain ⟨h, h2⟩ := Bool.and_eq_true_iff.mp h
  obtain ⟨h, h1⟩ := Bool.and_eq_true_iff.mp h
  obtain ⟨e1, e2⟩ := Bool.and_eq_true_iff.mp h
  exact ⟨j, y1.1, y1.2, y2.1, y2.2, u.2.1, u.2.2, en.2, z.1, z.2, r.2.2.2, q.2.2.1, q.2.2.2.2, varOf_inv hj,
    by rw [asFor_inv hq, asTup_inv hu, two_inv hab, asName_inv hy1, asName_inv hy2, asCall_inv hr, asName_inv hen, one_inv hz', asName_inv hz, List.isEmpty_iff.mp e1, List.isEmpty_iff.mp e2, show en.1 = enumName from eq_of_beq h8],
    h1, h2, h3, ne_of_beq h4, ne_of_beq h5, ne_of_beq h6, ne_of_beq h7, h9, (Bool.not_eq_true' _).mp h10, h11⟩
theorem inv_while {c : Cx} {D : Option Nat} {m : Nat} {e : E} {body : S} {x : Stmt} (h : okS1 c D (.whileS m e body) x = true) : ∃ test body' pos, x = .While test body' [] pos ∧ okE c e test = true ∧ okSs c D body body' = true := by
  obtain ⟨q, hq, h⟩ := any_inv (o := asWhile x) h
  obtain ⟨h, h2⟩ := Bool.and_eq_true_iff.mp h
  obtain ⟨h0, h1⟩ := Bool.and_eq_true_iff.mp h
  exact ⟨q.1, q.2.1, q.2.2.2, by rw [asWhile_inv hq, List.isEmpty_iff.mp h0], h1, h2⟩
theorem inv_append {c : Cx} {D : Option Nat} {xi : Nat} {e : E} {x : Stmt} (h : okS1 c D (.append xi e) x = true) : ∃ y py ap v pos q, x = .Expr (.Call (.Attribute (.Name y py) (Str.ofString "append") ap) [v] [] pos) q ∧ D = some xi ∧ isName c xi y = true ∧ okE c e v = true ∧ (ap.endLine == pos.line) = true ∧ (y == debugName) = false := by
  obtain ⟨q, hq, h⟩ := any_inv (o := asExprS x) h
  obtain ⟨r, hr, h⟩ := any_inv (o := asCall q.1) h
  obtain ⟨v, hv, h⟩ := any_inv (o := one r.2.1) h
  obtain ⟨t, ht, h⟩ := any_inv (o := asAttr r.1) h
  obtain ⟨z, hz, h⟩ := any_inv (o := asName t.1) h
  obtain ⟨h, h6⟩ := Bool.and_eq_true_iff.mp h
  obtain ⟨h, h5⟩ := Bool.and_eq_true_iff.mp h
  obtain ⟨h, h4⟩ := Bool.and_eq_true_iff.mp h
  obtain ⟨h, h3⟩ := Bool.and_eq_true_iff.mp h
  obtain ⟨h, h2⟩ := Bool.and_eq_true_iff.mp h
  obtain ⟨h0, h1⟩ := Bool.and_eq_true_iff.mp h
  exact ⟨z.1, z.2, t.2.2, v, r.2.2.2, q.2, by rw [asExprS_inv hq, asCall_inv hr, one_inv hv, asAttr_inv ht, asName_inv hz, List.isEmpty_iff.mp h0, show t.2.1 = _ from eq_of_beq h3], eq_of_beq h1, h2, h4, h5, (Bool.not_eq_true' _).mp h6⟩
theorem inv_setItem {c : Cx} {D : Option Nat} {xi : Nat} {i e : E} {x : Stmt} (h : okS1 c D (.setItem xi i e) x = true) : ∃ y py iv q v pos, x = .Assign [.Subscript (.Name y py) iv q] v pos ∧ D = some xi ∧ isName c xi y = true ∧ okE c i iv = true ∧ okE c e v = true ∧ (y == debugName) = false ∧ (∀ a b d f, v ≠ .ListComp a b d f) := by
  obtain ⟨q, hq, h⟩ := any_inv (o := asAssign x) h
  obtain ⟨t, ht, h⟩ := any_inv (o := one q.1) h
  obtain ⟨u, hu, h⟩ := any_inv (o := asSub t) h
  obtain ⟨y, hy, h⟩ := any_inv (o := asName u.1) h
  obtain ⟨h, h6⟩ := Bool.and_eq_true_iff.mp h
  obtain ⟨h, h5⟩ := Bool.and_eq_true_iff.mp h
  obtain ⟨h, h4⟩ := Bool.and_eq_true_iff.mp h
  obtain ⟨h, h3⟩ := Bool.and_eq_true_iff.mp h
  obtain ⟨h1, h2⟩ := Bool.and_eq_true_iff.mp h
  exact ⟨y.1, y.2, u.2.1, u.2.2, q.2.1, q.2.2, by rw [asAssign_inv hq, one_inv ht, asSub_inv hu, asName_inv hy], eq_of_beq h1, h2, h3, h4, (Bool.not_eq_true' _).mp h5, fun a b d f e => by rw [e] at h6; exact (Bool.false_ne_true h6).elim⟩
theorem inv_seq {c : Cx} {D : Option Nat} {h t : S} {xs : List Stmt} (hh : okSs c D (.seq h t) xs = true) : ∃ x r, xs = x :: r ∧ okS1 c D h x = true ∧ okSs c D t r = true := by
  cases xs with
  | nil => exact (Bool.false_ne_true hh).elim
  | cons x r => exact ⟨x, r, rfl, Bool.and_eq_true_iff.mp hh⟩

section
variable {prog : Program} {w : World} {mg mb : Str → Option Value} {H₀ : Heap} {n : Nat} {Φ : Nat → List PV → Option PV} {A : Around}

noncomputable def Post (c : Cx) (env : Env) (D : Option Nat) (s₀ : Shared) (d : Option Addr) (s : Shared) (p : Fl × Store) (f : Flow) (s' : Shared) : Prop :=
  match p.1 with
  | .next => f = .next ∧ ∃ d', FI c p.2 env D s₀ d' s' ∧ Kp env d s s' ∧ DOk s d d'
  | .ret r => ∃ v, f = .ret v ∧ Keeps s₀ s' ∧ Rep s'.heap v r ∧ Fresh s₀.heap v
variable (prog w mg mb H₀ n Φ A) in
noncomputable def S1Ok (st : S) : Prop := ∀ c D x ρ env s₀ d s p, okS1 c D st x = true → Fix prog w mg H₀ n Φ c env s₀ → FI c ρ env D s₀ d s → ex Φ st ρ = some p →
  wpAny (model prog w) A (exec x env) (Post c env D s₀ d s p) (fun _ _ => False) s
variable (prog w mg mb H₀ n Φ A) in
noncomputable def SsOk (st : S) : Prop := ∀ c D xs ρ env s₀ d s p, okSs c D st xs = true → Fix prog w mg H₀ n Φ c env s₀ → FI c ρ env D s₀ d s → ex Φ st ρ = some p →
  wpAny (model prog w) A (execs xs env) (Post c env D s₀ d s p) (fun _ _ => False) s
structure AllS (prog : Program) (w : World) (mg : Str → Option Value) (H₀ : Heap) (n : Nat) (Φ : Nat → List PV → Option PV) (A : Around) (st : S) : Prop where
  one : S1Ok prog w mg H₀ n Φ A st
  many : SsOk prog w mg H₀ n Φ A st

theorem not_many {st : S} (h : ∀ c D xs, okSs c D st xs = false) : SsOk prog w mg H₀ n Φ A st := fun c D xs _ _ _ _ _ _ e => by rw [h] at e; cases e
theorem not_one {st : S} (h : ∀ c D x, okS1 c D st x = false) : S1Ok prog w mg H₀ n Φ A st := fun c D x _ _ _ _ _ _ e => by rw [h] at e; cases e

theorem swaps_not {v : Expr} {t : Expr} {l : Nat} {env : Env} {c : Cx} {e : E} (h : okE c e v = true) (hv : ∀ a b d f, v ≠ .ListComp a b d f) : swapsWith v (some t) l env = pure false := by
  cases v <;> first | rfl | (exfalso; exact hv _ _ _ _ rfl) | skip
  all_goals (cases e <;> exact (Bool.false_ne_true h).elim)

theorem isName_spec {c : Cx} {i : Nat} {x : Str} (h : isName c i x = true) : c.sl[i]? = some (some x) := by simpa [isName] using h

theorem sto {c : Cx} {ρ : Store} {env : Env} {D : Option Nat} {s₀ s s₁ : Shared} {d : Option Addr} {i : Nat} {x : Str} {v : Value} {r : PV} {e : E} (X : Fix prog w mg H₀ n Φ c env s₀) (f : FI c ρ env D s₀ d s) (k : Keeps s s₁)
    (hi : isName c i x = true) (hr : Rep s₁.heap v r) (hf : (fresh e = true → Fresh s.heap v)) (hD : (D == none || fresh e) = true) :
    wpAny (model prog w) A (storeName env x v) (fun _ s' => Post c env D s₀ d s (.next, set ρ i r) .next s') (fun _ _ => False) s₁ := by
  refine wpAny_mono (f.store X k (isName_spec hi) hr (fun h => hf ?_)) (fun _ s' h => ⟨rfl, _, h⟩) fun _ _ f => f
  simp only [Bool.or_eq_true, beq_iff_eq] at hD
  rcases hD with h' | h'
  · exact absurd h' h
  · exact h'
theorem all_assign (G : Gd mg mb H₀) (hA : AOk n A) {i : Nat} {e : E} : AllS prog w mg H₀ n Φ A (.assign i e) := by
  refine ⟨?_, not_many fun c D xs => by cases xs <;> rfl⟩
  intro c D st ρ env s₀ d s p h X f hp
  obtain ⟨x, px, v, pos, rfl, h1, h2, h3, h4⟩ := inv_assign h
  obtain ⟨r, hr, rfl⟩ := map_some2 hp
  have AE := (all_ok (Φ := Φ) (prog := prog) (w := w) G hA e).1
  have plain : swapsWith v (some (.Name x px)) pos.line env = pure false → wpAny (model prog w) A (exec (.Assign [.Name x px] v pos) env) (Post c env D s₀ d s (.next, set ρ i r)) (fun _ _ => False) s := fun hs =>
    wpAny_Assign_Name ((AE.pe c v ρ env s r h2 (f.cok X) hr).use fun u s₁ k₁ r₁ f₁ => sto X f k₁ h1 r₁ f₁ h3) hs
  by_cases hc : ∃ a b sc q, v = .ListComp a b sc q
  · obtain ⟨a, b, sc, q, rfl⟩ := hc
    have hkind : env.kindOf x = c.kinds.lookup x := by unfold Env.kindOf; rw [X.eo.names]
    have hb : env.blockKind = .function := by unfold Env.blockKind; rw [X.eo.kind]; rfl
    simp only [Bool.or_eq_true] at h4
    rcases h4 with h4 | h4
    · simp only [compLocal, Bool.and_eq_true, beq_iff_eq] at h4
      obtain ⟨⟨h5, h6⟩, h7⟩ := h4
      have hkl : env.kindOf x = some .local := by rw [hkind]; exact h5
      cases e <;> first | (exact (Bool.false_ne_true h2).elim) | skip
      rename_i elt k' kk args test
      obtain ⟨elt', y, py, it', ifs, sc', pos', e1, o1, o2, o3, o4⟩ := comp_inv h2
      cases e1
      have hs := scopeOk_spec o1
      obtain ⟨cl, hclos, hcl⟩ := closure_ok hs X.eo
      have f₀ := f
      obtain ⟨⟨m, cm, ic, hv⟩, _, _⟩ := f₀
      refine wpAny_Assign_ListComp_free (compP Φ test k' ρ) (compF Φ elt k' ρ) ?_ hclos hs.nocell hs.kind hs.names hs.x hkl (by rw [X.eo.kind]; rfl)
        (wpAny_mono (comp_core G hA (all_ok G hA elt).1 (all_ok G hA args).1 (fun it r e => ((all_ok G hA args).2 it r e)) (all_ok G hA test).1 hs hcl o2 o3 o4 (f.cok X) hr) (fun xv s₁ h => wpAny_mono h (fun it s₂ h => ?_) fun _ _ f => f) fun _ _ f => f) (okIt_folded o2)
      · show (pure _ : Sem Bool) = _
        rw [hb, hkl]
        refine congrArg pure ?_
        rw [h7]
        have : (px.line == q.line) = true := by rw [h6]; simp
        show (ScopeKind.function == ScopeKind.function && (some NameKind.local == some NameKind.local) && (px.line == q.line) && true) = true
        rw [this]; rfl
      · obtain ⟨I, fp, q, P, St, rfl, W, hl, st, hfp, k, hI, hq, hR⟩ := h
        have ic₂ := inCallC_keeps ic k
        have live : ∀ b o, s.heap.get? b = some o → b ≠ I := fun b o e h => by rw [h, hI] at e; cases e
        have hLI : env.locals ≠ I := by obtain ⟨o, _, _, ho, _⟩ := ic.toInCall.ns; exact live _ o ho
        refine ⟨I, fp, [I], q, P, St, m, rfl, W, hl, st, hfp, by simpa using hLI, ic₂.toInCall.ns, hq, fun D' h' tk ys vs hD _ hp hlen hP hF hns hk => ?_⟩
        have hk' : ∀ b o, b ≠ env.locals → s.heap.get? b = some o → h'.get? b = some o := fun b o hb e => hk b o hb (by simpa using live b o e) (keeps_sub k b o e)
        have key := f.put X ic hv (isName_spec h1) (s' := { s₂ with heap := h', toks := tk }) (v := .ref D') (r := r) (m' := fun z => if z = x then some (.ref D') else m z) (cm' := cm)
          ⟨⟨?_, hns, fun b o e => ?_, ic.toInCall.fresh⟩, fun z c' hc => ?_, ic.apart, ic.above⟩ (.inl ⟨hkl, by simp⟩) ?_ (fun b o e hb _ => hk' b o hb e) (fun b o e => ?_) (hR D' h' ys vs hp hlen hP hF) (fun _ a e => ?_)
        · exact ⟨rfl, _, key⟩
        · obtain ⟨h₁, t₁, e⟩ := ic₂.toInCall.same
          exact ⟨h', tk, by rw [e]⟩
        · exact hk' b o (Nat.ne_of_lt (Nat.lt_of_lt_of_le (Heap.lt_size e) ic.toInCall.fresh)) (ic.toInCall.keep b o e)
        · obtain ⟨o, ho, hd⟩ := ic.cell z c' hc
          exact ⟨o, hk' c' o (Nat.ne_of_gt (ic.above z c' (mem_of_lookup hc))) ho, hd⟩
        · intro z u hz hu
          rcases hu with ⟨k, e⟩ | ⟨k, e⟩
          · exact .inl ⟨k, by simp only [if_neg hz]; exact e⟩
          · exact .inr ⟨k, e⟩
        · by_cases hb : b = env.locals
          · subst hb; obtain ⟨o', _, _, ho', _⟩ := hns; exact ⟨o', ho'⟩
          · exact ⟨o, hk' b o hb e⟩
        · cases e
          cases g : s.heap.get? D' with
          | none => rfl
          | some o => have := keeps_sub k D' o g; rw [hD] at this; cases this
    · refine plain ?_
      simp only [compCell, beq_iff_eq] at h4
      show (pure _ : Sem Bool) = _
      rw [hkind, h4]
      simp [show (NameKind.cell == NameKind.local) = false from rfl]
  · exact plain (swaps_not h2 fun a b d f e => hc ⟨a, b, d, f, e⟩)
end
end Mine
end
section
open PySem PySem.Calls
set_option maxRecDepth 100000
namespace Mine
section
variable {prog : Program} {w : World} {mg mb : Str → Option Value} {H₀ : Heap} {n : Nat} {Φ : Nat → List PV → Option PV} {A : Around}

theorem FI.name {c : Cx} {ρ : Store} {env : Env} {D : Option Nat} {s₀ s : Shared} {d : Option Addr} {i : Nat} {x : Str} {r : PV} {p : Pos} (X : Fix prog w mg H₀ n Φ c env s₀) (f : FI c ρ env D s₀ d s) (hi : isName c i x = true) (hd : (x == debugName) = false) (hg : get ρ i = some r) :
    ∃ v, (∀ (Q E : Value → Shared → Prop), Q v s → wpAny (model prog w) A (eval (.Name x p) env) Q E s) ∧ Rep s.heap v r ∧ (D = some i → ∀ a, v = .ref a → d = some a) ∧ (D ≠ some i → ∀ a, d = some a → v ≠ .ref a) := by
  obtain ⟨⟨m, cm, ic, hv⟩, _, _⟩ := f
  obtain ⟨v, h1, h2, h3⟩ := hv i x r (isName_spec hi) hg
  refine ⟨v, fun Q E q => wpAny_Name ?_ hd, h2, h3⟩
  rcases h1 with ⟨hk, e⟩ | ⟨hk, a, ha, e⟩
  · exact wpAny_loadName_local X.eo.kind hk ic.toInCall.ns e q
  · exact wpAny_loadName_cell X.eo.kind hk ha (e ▸ ic.cell x a ha) q

theorem all_ret (G : Gd mg mb H₀) (hA : AOk n A) {e : E} : AllS prog w mg H₀ n Φ A (.ret e) := by
  refine ⟨?_, not_many fun c D xs => by cases xs <;> rfl⟩
  intro c D st ρ env s₀ d s p h X f hp
  obtain ⟨v, pos, rfl, h1⟩ := inv_ret h
  obtain ⟨r, hr, hp⟩ := bind_some2 hp
  obtain ⟨hc, rfl⟩ := if_some2 hp
  · skip
    refine wpAny_Return_some (((all_ok (Φ := Φ) (prog := prog) (w := w) G hA e).1.pe c v ρ env s r h1 (f.cok X) hr).use fun u s₁ k₁ r₁ f₁ => ⟨u, rfl, keeps_trans f.keep₀ k₁, r₁, ?_⟩)
    simp only [Bool.or_eq_true] at hc
    rcases hc with hc | hc
    · exact (f₁ hc).sub (keeps_sub f.keep₀)
    · cases r with
      | a y => exact fresh_atom r₁
      | _ => exact (Bool.false_ne_true hc).elim
theorem all_retD {i : Nat} : AllS prog w mg H₀ n Φ A (.retD i) := by
  refine ⟨?_, not_many fun c D xs => by cases xs <;> rfl⟩
  intro c D st ρ env s₀ d s p h X f hp
  obtain ⟨x, q, pos, rfl, rfl, h1, h2⟩ := inv_retD h
  obtain ⟨r, hr, rfl⟩ := map_some2 hp
  obtain ⟨v, h3, h4, h5, _⟩ := f.name (A := A) (p := q) X h1 h2 hr
  refine wpAny_Return_some (h3 _ _ ⟨v, rfl, f.keep₀, h4, fun a e => ?_⟩)
  exact (f.dd a (h5 rfl a e)).1
theorem all_raise : AllS prog w mg H₀ n Φ A .raiseS := by
  refine ⟨?_, not_many fun c D xs => by cases xs <;> rfl⟩
  intro c D st ρ env s₀ d s p h X f hp
  cases hp
theorem all_nilS : AllS prog w mg H₀ n Φ A .nil := by
  refine ⟨not_one fun c D x => by cases x <;> rfl, ?_⟩
  intro c D xs ρ env s₀ d s p h X f hp
  cases xs with
  | cons _ _ => exact (Bool.false_ne_true h).elim
  | nil => cases hp; exact wpAny_execs_nil ⟨rfl, d, f, Kp.refl s, DOk.refl s d⟩
theorem all_seq {a b : S} (ha : AllS prog w mg H₀ n Φ A a) (hb : AllS prog w mg H₀ n Φ A b) : AllS prog w mg H₀ n Φ A (.seq a b) := by
  refine ⟨not_one fun c D x => by cases x <;> rfl, ?_⟩
  intro c D xs ρ env s₀ d s p h X f hp
  obtain ⟨x, xs, rfl, o1, o2⟩ := inv_seq h
  obtain ⟨⟨fl, ρ'⟩, h1, hp⟩ := bind_some2 hp
  · refine wpAny_execs_cons (wpAny_mono (ha.one c D x ρ env s₀ d s _ o1 X f h1) (fun fw s₁ h2 => ?_) fun _ _ f => f)
    cases fl with
    | next =>
      obtain ⟨rfl, d', f', kp, dk⟩ := h2
      refine wpAny_mono (hb.many c D xs ρ' env s₀ d' s₁ _ o2 X f' hp) (fun fw s₂ h3 => ?_) fun _ _ f => f
      obtain ⟨fl, ρ''⟩ := p
      cases fl with
      | next =>
        obtain ⟨rfl, d'', f'', kp', dk'⟩ := h3
        exact ⟨rfl, d'', f'', kp.trans kp' dk, dk.trans dk' kp.live⟩
      | ret r => exact h3
    | ret r =>
      cases hp
      obtain ⟨v, rfl, h3⟩ := h2
      exact ⟨v, rfl, h3⟩
theorem all_freeze {t : S} (ht : AllS prog w mg H₀ n Φ A t) : AllS prog w mg H₀ n Φ A (.freeze t) := by
  refine ⟨not_one fun c D x => by cases x <;> rfl, ?_⟩
  intro c D xs ρ env s₀ d s p h X f hp
  obtain ⟨⟨fl, ρ'⟩, h1, hp⟩ := bind_some2 hp
  refine wpAny_mono (ht.many c none xs ρ env s₀ none s _ h X f.free h1) (fun fw s₁ h2 => ?_) fun _ _ f => f
  cases fl with
  | next => cases hp
  | ret r => cases hp; exact h2
theorem all_iteS (G : Gd mg mb H₀) (hA : AOk n A) {e : E} {a b : S} (ha : AllS prog w mg H₀ n Φ A a) (hb : AllS prog w mg H₀ n Φ A b) : AllS prog w mg H₀ n Φ A (.ite e a b) := by
  refine ⟨?_, not_many fun c D xs => by cases xs <;> rfl⟩
  intro c D st ρ env s₀ d s p h X f hp
  obtain ⟨test, body, orelse, pos, rfl, h1, h2, h3⟩ := inv_if h
  obtain ⟨t, ht, hp⟩ := bind_some2 hp
  have hb' := truth_eq ht
  refine wpAny_If (wpAny_mono ((all_ok (Φ := Φ) (prog := prog) (w := w) G hA e).1.pt c test ρ env s t h1 (f.cok X) hb') (fun b' s₁ h4 => ?_) fun _ _ f => f)
  obtain ⟨rfl, k₁⟩ := h4
  have fin : ∀ xs (st : S), SsOk prog w mg H₀ n Φ A st → okSs c D st xs = true → ex Φ st ρ = some p → wpAny (model prog w) A (execs xs env) (Post c env D s₀ d s p) (fun _ _ => False) s₁ := fun xs st hst hok he =>
    wpAny_mono (hst c D xs ρ env s₀ d s₁ p hok X (f.keeps k₁) he) (fun fw s₂ h5 => by
      obtain ⟨fl, ρ'⟩ := p
      cases fl with
      | next =>
        obtain ⟨rfl, d', f', kp, dk⟩ := h5
        exact ⟨rfl, d', f', (Kp.keeps k₁).trans kp (DOk.refl s d), (DOk.refl s d).trans dk (Kp.keeps (env := env) (d := d) k₁).live⟩
      | ret r => exact h5) fun _ _ f => f
  cases b' with
  | true => exact fin body a ha.many h2 hp
  | false => exact fin orelse b hb.many h3 hp
end
end Mine
end
section
open PySem PySem.Calls
set_option maxRecDepth 100000
namespace Mine
section
variable {prog : Program} {w : World} {mg mb : Str → Option Value} {H₀ : Heap} {n : Nat} {Φ : Nat → List PV → Option PV} {A : Around}

theorem mapSeq_set_plain (its : Array Value) (k j : Nat) (x : Value) : ∃ k', Obj.mapSeq (·.setIfInBounds j x) { cls := .type "list", data := .seq its k } = { cls := .type "list", data := .seq (its.setIfInBounds j x) k' } := by
  exact ⟨_, rfl⟩
theorem setItem_plain {s : Shared} {E : Value → Shared → Prop} {l : Addr} {items : Array Value} {k : Int} {t : Tok} {v : Value} {Q : Unit → Shared → Prop} (hl : s.heap.PlainList l items)
    (h0 : 0 ≤ k) (hfit : k < 2 ^ 63) (hn : k < items.size)
    (hQ : ∀ h', h'.PlainList l (items.setIfInBounds k.toNat v) → Heap.SameBut l s.heap h' → Q () { s with heap := h' }) :
    wpAny (model prog w) A (setItem (.ref l) (.int k t) v) Q E s := by
  obtain ⟨q, ho⟩ := id hl
  have hT := list_type hl
  unfold setItem
  try with_reducible refine wpAny_holding ?_
  first | refine wpAny_bind (wpAny_pure ?_) | skip
  refine wpAny_bind (wpAny_sequenceKey hT (by decide) ?_)
  refine wpAny_bind (wpAny_callSpecial?_slot (name := Str.ofString "__setitem__") hT slot_list_setitem
    (wpAny_call_entry slot_list_setitem hT entry_list_setitem ?_ (args_list_setitem _ _ _)))
  show wpAny _ _ (Builtin.List.listSubscript? (.int k t) >>= _) _ _ s
  refine wpAny_bind (wpAny_listSubscript_int (fitsIndex_of h0 hfit) ?_)
  clear hfit
  obtain ⟨j, rfl⟩ := Int.eq_ofNat_of_zero_le h0
  have hj : j < items.size := by omega
  have hx' : items[j]? = some items[j] := Array.getElem?_eq_getElem hj
  show wpAny _ _ ((seqItemAt l j >>= fun r => pure (r.map (j, ·))) >>= _) _ _ s
  refine wpAny_bind (wpAny_bind (wpAny_seqItemAt ho rfl (wpAny_pure ?_)))
  rw [hx']
  show wpAny _ _ (setSeqItemAt l j v >>= _) _ _ s
  obtain ⟨q', e⟩ := mapSeq_set_plain items q j v
  have hfin : (s.heap.update l (Obj.mapSeq (·.setIfInBounds j v))).PlainList l (items.setIfInBounds j v) :=
    ⟨q', by rw [Heap.get?_update_self _ ho (by rw [e]; rfl), e]⟩
  refine wpAny_bind (wpAny_setSeqItemAt ho rfl ?_)
  first
    | exact wpAny_bind (wpAny_pure (wpAny_pure ⟨.none, rfl, wpAny_pure (hQ _ hfin (Heap.SameBut.update ..))⟩))
    | exact wpAny_pure ⟨.none, rfl, wpAny_pure (hQ _ hfin (Heap.SameBut.update ..))⟩

theorem all_append (G : Gd mg mb H₀) (hA : AOk n A) {i : Nat} {e : E} : AllS prog w mg H₀ n Φ A (.append i e) := by
  refine ⟨?_, not_many fun c D xs => by cases xs <;> rfl⟩
  intro c D st ρ env s₀ d s p h X f hp
  obtain ⟨y, py, ap, v, pos, q, rfl, rfl, h2, h3, h4, h5⟩ := inv_append h
  obtain ⟨r, hr, hp⟩ := bind_some2 hp
  obtain ⟨l, hg, hp⟩ := bind_some2 hp
  obtain ⟨xs, hxs, hp⟩ := bind_some2 hp
  obtain ⟨x, hx, hp⟩ := bind_some2 hp
  obtain ⟨hsz, rfl⟩ := if_some2 hp
  obtain rfl := pList_inv hxs
  obtain rfl := atom_inv hx
  · · obtain ⟨ov, n1, n2, n3, _⟩ := f.name (A := A) (p := py) X h2 h5 hg
      obtain ⟨a, vs, rfl, hpl, pr, hl⟩ := n2
      have hda := n3 rfl a rfl
      have hns := okE_noStar h3
      refine wpAny_Expr_any (wpAny_Call_append rfl ?_ h4 ?_ (n1 _ _ ⟨a, vs.toArray, rfl, ?_, ?_⟩)) ?_ rfl
      · rw [starEach_cons hns]; rfl
      · rw [starEach_cons hns]; rfl
      · obtain ⟨k, e⟩ := hpl; exact ⟨_, k, e, rfl, rfl, rfl⟩
      · refine ((all_ok (Φ := Φ) (prog := prog) (w := w) G hA e).1.pe c v ρ env s _ h3 (f.cok X) hr).use fun u s₁ k₁ r₁ _ => ?_
        have hpl₁ : s₁.heap.PlainList a vs.toArray := by obtain ⟨k, e⟩ := hpl; exact ⟨k, keeps_sub k₁ _ _ e⟩
        refine wpAny_list_append_plain hpl₁ (fun h' hp' hs => ?_) (by simpa using hl)
        have f₁ := f.keeps k₁
        have hlen := pr.length
        have key := f₁.change X (isName_spec h2) (ys := xs ++ [x]) (us := vs ++ [u]) (tk := s₁.toks) hda hs (by simpa using hp') (paired_app pr (.cons r₁ .nil)) (by simp; omega) hg
        exact ⟨rfl, d, key.1, (Kp.keeps k₁).trans key.2 (DOk.refl s d), DOk.refl s d⟩
      · show (env.scope.kind == .module && _) = false
        rw [X.eo.kind]; rfl

theorem all_setItem (G : Gd mg mb H₀) (hA : AOk n A) {i : Nat} {k e : E} : AllS prog w mg H₀ n Φ A (.setItem i k e) := by
  refine ⟨?_, not_many fun c D xs => by cases xs <;> rfl⟩
  intro c D st ρ env s₀ d s p h X f hp
  obtain ⟨y, py, iv, q, v, pos, rfl, rfl, h2, h3, h4, h5, h6⟩ := inv_setItem h
  obtain ⟨r, hr, hp⟩ := bind_some2 hp
  obtain ⟨kr, hkr, hp⟩ := bind_some2 hp
  obtain ⟨l, hg, hp⟩ := bind_some2 hp
  obtain ⟨xs, hxs, hp⟩ := bind_some2 hp
  obtain ⟨ki, hki, hp⟩ := bind_some2 hp
  obtain ⟨x, hx, hp⟩ := bind_some2 hp
  obtain ⟨hsz, rfl⟩ := if_some2 hp
  obtain rfl := pList_inv hxs
  obtain rfl := pInt_inv hki
  obtain rfl := atom_inv hx
  · · refine wpAny_Assign_Subscript (((all_ok (Φ := Φ) (prog := prog) (w := w) G hA e).1.pe c v ρ env s _ h4 (f.cok X) hr).use fun u s₁ k₁ r₁ _ => ?_) (swaps_not h4 h6)
      have f₁ := f.keeps k₁
      obtain ⟨ov, n1, n2, n3, _⟩ := f₁.name (A := A) (p := py) X h2 h5 hg
      obtain ⟨a, vs, rfl, hpl, pr, hl⟩ := n2
      have hda := n3 rfl a rfl
      refine n1 _ _ (((all_ok (Φ := Φ) (prog := prog) (w := w) G hA k).1.pe c iv ρ env s₁ _ h3 (f₁.cok X) hkr).use fun kv s₂ k₂ r₂ _ => ?_)
      obtain ⟨t, rfl⟩ := r₂
      have hpl₂ : s₂.heap.PlainList a vs.toArray := by obtain ⟨k, e⟩ := hpl; exact ⟨k, keeps_sub k₂ _ _ e⟩
      have hlen := pr.length
      rw [sizeLine_eq] at hl
      refine setItem_plain hpl₂ hsz.1 (by omega) (by simp; omega) fun h' hp' hs => ?_
      have f₂ := f₁.keeps k₂
      have key := f₂.change X (isName_spec h2) (ys := xs.set ki.toNat x) (us := vs.set ki.toNat u) (tk := s₂.toks) hda hs (by simpa using hp') (paired_set pr r₁ _) (by rw [sizeLine_eq]; simpa using hl) hg
      exact ⟨rfl, d, key.1, (Kp.keeps (keeps_trans k₁ k₂)).trans key.2 (DOk.refl s d), DOk.refl s d⟩
end
end Mine
end
section
open PySem PySem.Calls
set_option maxRecDepth 100000
namespace Mine
section
variable {prog : Program} {w : World} {mg mb : Str → Option Value} {H₀ : Heap} {n : Nat} {Φ : Nat → List PV → Option PV} {A : Around}

theorem wpAny_bindName' {M : Model} {A : Around} {E : Value → Shared → Prop} {s : Shared} {env : Env} {x : Str} {v : Value} {Q : Unit → Shared → Prop} (h : wpAny M A (storeName env x v) Q E s) : wpAny M A (bindName env x v) Q E s := wpAny_bindName h

theorem sto2 {c : Cx} {ρ : Store} {env : Env} {s₀ s s₁ : Shared} {i j : Nat} {x y : Str} {u v : Value} {a b : At} {Q : Unit → Shared → Prop} {E : Value → Shared → Prop} (X : Fix prog w mg H₀ n Φ c env s₀) (f : FI c ρ env none s₀ none s) (k : Keeps s s₁)
    (hi : isName c i x = true) (hj : isName c j y = true) (hu : RepA u a) (hv : RepA v b)
    (hQ : ∀ s', FI c (set (set ρ i (.a a)) j (.a b)) env none s₀ none s' → Kp env none s s' → Q () s') :
    wpAny (model prog w) A (storeName env x u) (fun _ s₂ => wpAny (model prog w) A (storeName env y v) Q E s₂) E s₁ := by
  have nd : ∀ (d : Option Addr) (i : Nat) (v : Value), newD none i d v = d := fun d i v => by unfold newD; rw [if_neg (fun h => nomatch h)]
  refine wpAny_mono (f.store X k (isName_spec hi) (r := .a a) hu fun h => absurd rfl h) (fun _ s₂ h => ?_) fun _ _ f => f
  obtain ⟨f₂, k₂, _⟩ := h
  rw [nd] at f₂
  refine wpAny_mono (f₂.store X (keeps_refl s₂) (isName_spec hj) (r := .a b) hv fun h => absurd rfl h) (fun _ s₃ h => ?_) fun _ _ f => f
  obtain ⟨f₃, k₃, _⟩ := h
  rw [nd] at f₃
  exact hQ s₃ f₃ (k₂.trans k₃ (DOk.refl _ _))
theorem set_comm : ∀ {ρ : Store} {i j : Nat} {u v : PV}, i ≠ j → set (set ρ i u) j v = set (set ρ j v) i u
  | [], _, _, _, _, _ => rfl
  | _ :: _, 0, 0, _, _, h => absurd rfl h
  | _ :: _, 0, _ + 1, _, _, _ => rfl
  | _ :: _, _ + 1, 0, _, _, _ => rfl
  | _ :: r, i + 1, j + 1, _, _, h => by simp only [set]; rw [set_comm (by omega)]

theorem Assign_swapped {targets : List Expr} {value : Expr} {pos : Pos} {env : Env} {names : List Str} {s : Shared} {Q : Flow → Shared → Prop} {E : Value → Shared → Prop}
    (h : wpAny (model prog w) A (eval value env) (fun v s₁ => wpAny (model prog w) A (unpackItems v names.length none) (fun items s₂ => wpAny (model prog w) A (assignInOrder (names.reverse.map fun n => bindName env n) items.reverse) (fun _ => Q .next) E s₂) E s₁) E s)
    (hs : swapsWithSole targets value pos.line env = pure false) (hw : swappedStores targets value env = pure (some names)) :
    wpAny (model prog w) A (exec (.Assign targets value pos) env) Q E s := by
  rw [exec_Assign_arm]
  refine wpAny_bind (wpAny_standAt ?_)
  rw [hs]
  refine wpAny_bind (wpAny_pure ?_)
  rw [if_neg (by decide)]
  refine wpAny_bind (wpAny_mono h (fun v s₁ h₁ => ?_) fun _ _ x => x)
  rw [hw]
  refine wpAny_bind (wpAny_pure ?_)
  show wpAny _ A (rule "assign.swapped-stores" >>= fun _ => unpackItems v names.length none >>= fun items => assignInOrder (names.reverse.map fun n => bindName env n) items.reverse >>= fun _ => pure .next) Q E s₁
  exact wpAny_bind (wpAny_rule (wpAny_bind (wpAny_mono h₁ (fun items s₂ h₂ => wpAny_bind (wpAny_mono h₂ (fun _ s₃ h₃ => wpAny_pure h₃) fun _ _ x => x)) fun _ _ x => x)))

theorem swapped_none {c : Cx} {e : E} {v : Expr} {x y : Str} {p1 p2 : Pos} {q1 q2} {env : Env} (h : folded2 v = true) (ok : okE c e v = true) (hb : env.blockKind = .function) :
    swappedStores [.Tuple [.Name x p1, .Name y p2] q1 q2] v env = pure none := by
  cases v <;> first | rfl | skip
  obtain ⟨ab, hab, h⟩ := any_inv (o := two _) h
  obtain rfl := two_inv hab
  obtain ⟨h1, h2⟩ := Bool.and_eq_true_iff.mp h
  simp [swappedStores, hb, h1, h2]
noncomputable def isStarred : Expr → Bool
  | .Starred .. => true
  | _ => false
theorem no_star {x : Expr} (h : (!(x.ctorIdx == 22)) = true) : isStarred x = false := by
  cases x <;> first | rfl | exact (Bool.false_ne_true h).elim
theorem swapped_some {c : Cx} {v : Expr} {x y : Str} {p1 p2 : Pos} {q1 q2} {env : Env} (h : swap2 c x y p1 p2 v = true) (hb : env.blockKind = .function) (hk : ∀ z, env.kindOf z = c.kinds.lookup z) :
    swappedStores [.Tuple [.Name x p1, .Name y p2] q1 q2] v env = pure (some [x, y]) := by
  obtain ⟨q, hq, h⟩ := any_inv (o := asTup v) h
  obtain ⟨ab, hab, h⟩ := any_inv (o := two q.1) h
  rw [asTup_inv hq, two_inv hab]
  obtain ⟨a, b⟩ := ab
  obtain ⟨h, h8⟩ := Bool.and_eq_true_iff.mp h
  obtain ⟨h, h7⟩ := Bool.and_eq_true_iff.mp h
  obtain ⟨h, h6⟩ := Bool.and_eq_true_iff.mp h
  obtain ⟨h, h5⟩ := Bool.and_eq_true_iff.mp h
  obtain ⟨h, h4⟩ := Bool.and_eq_true_iff.mp h
  obtain ⟨h, h3⟩ := Bool.and_eq_true_iff.mp h
  obtain ⟨h1, h2⟩ := Bool.and_eq_true_iff.mp h
  have h4' : x ≠ y := ne_of_beq h4
  have hx := (hk x).trans (eq_of_beq h1)
  have hy := (hk y).trans (eq_of_beq h2)
  have hn : ([.Name x p1, .Name y p2] : List Expr).filterMap (fun | .Name id pos => if env.kindOf id == some .local && pos.line == p1.line then some id else none | _ => none) = [x, y] := by
    simp only [List.filterMap_cons, hx, hy, List.filterMap_nil, ← show p1.line = p2.line from eq_of_beq h3, beq_self_eq_true, Bool.and_self, if_true]
  have hd : [x, y].eraseDups = [x, y] := by rw [List.eraseDups_cons, List.filter_cons_of_pos (by rw [beq_false_of_ne (Ne.symm h4')]; rfl)]; rfl
  refine (if_neg (by rw [hb]; exact Bool.false_ne_true)).trans ((if_neg ?_).trans ?_)
  · show ¬ (isStarred a || (isStarred b || false)) = true
    rw [no_star h7, no_star h8]
    exact Bool.false_ne_true
  · have key : ∀ (ns : List Str) (hns : ns = [x, y]) (R : Sem (Option (List Str))), (if (ns.length != 2 || ns.eraseDups.length != ns.length) = true then pure none else if (foldedForSure 8 a && (foldedForSure 8 b && true)) = true then pure none else if (constantsAlone 8 a && (constantsAlone 8 b && true)) = true then R else pure (some ns)) = (pure (some [x, y]) : Sem (Option (List Str))) := by
      rintro _ rfl R
      rw [hd, if_neg (show ¬ (([x, y].length != 2 || [x, y].length != [x, y].length) = true) from Bool.false_ne_true), Bool.and_true, (Bool.not_eq_true' _).mp h5, if_neg (by decide), Bool.and_true, (Bool.not_eq_true' _).mp h6, if_neg (by decide)]
    exact key _ hn _

theorem all_assign2 (G : Gd mg mb H₀) (hA : AOk n A) {i j : Nat} {e : E} : AllS prog w mg H₀ n Φ A (.assign2 i j e) := by
  refine ⟨?_, not_many fun c D xs => by cases xs <;> rfl⟩
  intro c D st ρ env s₀ d s p h X f hp
  obtain ⟨x, p1, y, p2, q1, q2, v, pos, rfl, rfl, hij, h1, h2, h3, h4⟩ := inv_assign2 h
  have hd := f.dn rfl
  subst hd
  obtain ⟨r, hr, hp⟩ := bind_some2 hp
  obtain ⟨⟨a, b⟩, hq, rfl⟩ := map_some2 hp
  obtain rfl := pTup_inv hq
  · skip
    have hb : env.blockKind = .function := by unfold Env.blockKind; rw [X.eo.kind]; rfl
    have hk : ∀ z, env.kindOf z = c.kinds.lookup z := fun z => by unfold Env.kindOf; rw [X.eo.names]
    have hsw : swapsWithSole [.Tuple [.Name x p1, .Name y p2] q1 q2] v pos.line env = pure false := by
      cases v <;> rfl
    have post : ∀ s', FI c (set (set ρ i (.a a)) j (.a b)) env none s₀ none s' → Kp env none s s' → Post c env none s₀ none s (.next, set (set ρ i (.a a)) j (.a b)) .next s' := fun s' f' k' => ⟨rfl, none, f', k', DOk.refl _ _⟩
    have val : ∀ {u : Value} {s₁ : Shared}, Rep s₁.heap u (.tup [a, b]) → ∃ t va vb, u = .ref t ∧ s₁.heap.IsTuple t #[va, vb] ∧ RepA va a ∧ RepA vb b := by
      rintro u s₁ ⟨t, vs, rfl, hp, pr, _⟩
      cases pr with
      | cons f1 r1 =>
        cases r1 with
        | cons f2 r2 =>
          cases r2
          exact ⟨t, _, _, rfl, tup_isTuple hp, f1, f2⟩
    have kext : ∀ {s₁ : Shared} {h' : Heap}, Heap.ExtBut s₁.heap.objs.size s₁.heap h' → Keeps s₁ { s₁ with heap := h' } := fun {s₁ h'} he => ⟨h', s₁.toks, rfl, fun b o e => he b o (Nat.ne_of_lt (Heap.lt_size e)) e⟩
    simp only [Bool.or_eq_true] at h4
    rcases h4 with h4 | h4
    · refine wpAny_Assign_stores (((all_ok (Φ := Φ) (prog := prog) (w := w) G hA e).1.pe c v ρ env s _ h3 (f.cok X) hr).use fun u s₁ k₁ r₁ _ => ?_) hsw (swapped_none h4 h3 hb)
      obtain ⟨t, va, vb, rfl, ht, ra, rb⟩ := val r₁
      show wpAny _ A (assign (.Tuple [.Name x p1, .Name y p2] q1 q2) env (.ref t)) _ _ _
      refine wpAny_assign_Tuple hA.handled ht rfl rfl fun h' he => ?_
      show wpAny _ A (do holding [vb] (assign (.Name x p1) env va); do holding [] (assign (.Name y p2) env vb); pure ()) _ _ _
      refine wpAny_bind (wpAny_holding (wpAny_assign_Name (wpAny_mono (sto2 (Q := fun _ => Post c env none s₀ none s (.next, set (set ρ i (.a a)) j (.a b)) .next) X f (keeps_trans k₁ (kext he)) h1 h2 ra rb post) (fun _ s₂ h => ?_) fun _ _ f => f)))
      exact wpAny_bind (wpAny_holding (wpAny_assign_Name (wpAny_mono h (fun _ s₃ h => wpAny_pure h) fun _ _ f => f)))
    · refine Assign_swapped (names := [x, y]) (((all_ok (Φ := Φ) (prog := prog) (w := w) G hA e).1.pe c v ρ env s _ h3 (f.cok X) hr).use fun u s₁ k₁ r₁ _ => ?_) hsw (swapped_some h4 hb hk)
      obtain ⟨t, va, vb, rfl, ht, ra, rb⟩ := val r₁
      rw [show ([x, y] : List Str).length = (#[va, vb] : Array Value).size from rfl]
      refine wpAny_unpackItems_tuple hA.handled ht fun h' he => ?_
      have e1 : ([x, y] : List Str).reverse.map (fun n => bindName env n) = [bindName env y, bindName env x] := rfl
      have e2 : (#[va, vb] : Array Value).toList.reverse = [vb, va] := rfl
      rw [e1, e2]
      simp only [assignInOrder]
      rw [set_comm hij]
      rw [set_comm hij] at post
      refine wpAny_bind (wpAny_holding (wpAny_bindName' (wpAny_mono (sto2 (Q := fun _ => Post c env none s₀ none s (.next, set (set ρ j (.a b)) i (.a a)) .next) X f (keeps_trans k₁ (kext he)) h2 h1 rb ra post) (fun _ s₂ h => ?_) fun _ _ f => f)))
      exact wpAny_bind (wpAny_holding (wpAny_bindName' (wpAny_mono h (fun _ s₃ h => wpAny_pure h) fun _ _ f => f)))
end
end Mine
end
section
open PySem PySem.Calls
set_option maxRecDepth 100000
namespace Mine
section
variable {prog : Program} {w : World} {mg mb : Str → Option Value} {H₀ : Heap} {n : Nat} {Φ : Nat → List PV → Option PV} {A : Around}

structure Apart (env : Env) (d : Option Addr) (b : Addr) : Prop where
  loc : b ≠ env.locals
  cel : ∀ x a, env.cells.lookup x = some a → b ≠ a
  lst : d ≠ some b
theorem Apart.next {env : Env} {d d' : Option Addr} {b : Addr} {s : Shared} {o : Obj} (x : Apart env d b) (h : DOk s d d') (hb : s.heap.get? b = some o) : Apart env d' b :=
  ⟨x.loc, x.cel, by
    rcases h with rfl | h
    · exact x.lst
    · intro q; have := h b q; rw [hb] at this; cases this⟩
theorem FI.live {c : Cx} {ρ : Store} {env : Env} {D : Option Nat} {s₀ s : Shared} {d : Option Addr} (f : FI c ρ env D s₀ d s) : (∃ o, s.heap.get? env.locals = some o) ∧ (∀ x a, env.cells.lookup x = some a → ∃ o, s.heap.get? a = some o) ∧ ∀ a, d = some a → ∃ o, s.heap.get? a = some o := by
  obtain ⟨⟨m, cm, ic, hv⟩, dd, _⟩ := f
  refine ⟨?_, fun x a h => ?_, fun a h => ?_⟩
  · obtain ⟨o, _, _, ho, _⟩ := ic.toInCall.ns; exact ⟨o, ho⟩
  · obtain ⟨o, ho, _⟩ := ic.cell x a h; exact ⟨o, ho⟩
  · obtain ⟨_, o, _, _, ho, _⟩ := dd a h; exact ⟨o, ho⟩
theorem FI.apart_new {c : Cx} {ρ : Store} {env : Env} {D : Option Nat} {s₀ s : Shared} {d : Option Addr} {b : Addr} (f : FI c ρ env D s₀ d s) (h : s.heap.get? b = none) : Apart env d b := by
  obtain ⟨⟨o, ho⟩, h2, h3⟩ := f.live
  refine ⟨?_, ?_, ?_⟩
  · rintro rfl; rw [ho] at h; cases h
  · rintro x a hx rfl; obtain ⟨o, ho⟩ := h2 x b hx; rw [ho] at h; cases h
  · intro e; obtain ⟨o, ho⟩ := h3 b e; rw [ho] at h; cases h
theorem FI.apart_seq {c : Cx} {ρ : Store} {env : Env} {D : Option Nat} {s₀ s : Shared} {d : Option Addr} {b : Addr} {o : Obj} {its : Array Value} {k : Nat} (f : FI c ρ env D s₀ d s) (h : s.heap.get? b = some o) (hd : o.data = .seq its k) (hl : d ≠ some b) : Apart env d b := by
  obtain ⟨⟨m, cm, ic, hv⟩, dd, _⟩ := f
  obtain ⟨h1, h2⟩ := seq_apart ic h hd
  exact ⟨h1, h2, hl⟩

theorem FI.shift {c : Cx} {ρ : Store} {env : Env} {D : Option Nat} {s₀ s : Shared} {d : Option Addr} {ws : List Addr} {h' : Heap} {tk : Nat} (f : FI c ρ env D s₀ d s) (ha : ∀ b ∈ ws, Apart env d b ∧ s₀.heap.get? b = none ∧ ∀ o its k, s.heap.get? b = some o → o.data ≠ .seq its k)
    (hk : ∀ b o, b ∉ ws → s.heap.get? b = some o → h'.get? b = some o) : FI c ρ env D s₀ d { s with heap := h', toks := tk } := by
  obtain ⟨⟨m, cm, ic, hv⟩, dd, dn⟩ := f
  have seq : ∀ a o its k, s.heap.get? a = some o → o.data = .seq its k → h'.get? a = some o := fun a o its k ho hd => hk a o (fun hm => (ha a hm).2.2 o its k ho hd) ho
  refine ⟨⟨m, cm, ⟨⟨?_, ic.toInCall.ns.at fun o e => hk _ o (fun hm => (ha _ hm).1.loc rfl) e, fun b o e => hk b o (fun hm => ?_) (ic.toInCall.keep b o e), ic.toInCall.fresh⟩, fun z a hc => ?_, ic.apart, ic.above⟩, fun j y r hj hg => ?_⟩, fun a e => ?_, dn⟩
  · obtain ⟨h₁, t₁, e⟩ := ic.toInCall.same
    exact ⟨h', tk, by rw [e]⟩
  · have := (ha b hm).2.1; rw [e] at this; cases this
  · obtain ⟨o, ho, hd⟩ := ic.cell z a hc
    exact ⟨o, hk a o (fun hm => (ha a hm).1.cel z a hc rfl) ho, hd⟩
  · obtain ⟨u, h1, h2, h3⟩ := hv j y r hj hg
    exact ⟨u, h1, h2.keepSeq fun a o its k _ => seq a o its k, h3⟩
  · obtain ⟨h1, o, its, k, ho, hd⟩ := dd a e
    exact ⟨h1, o, its, k, seq a o its k ho hd, hd⟩

theorem none_of {s s' : Shared} (k : Keeps s s') {b : Addr} (h : s'.heap.get? b = none) : s.heap.get? b = none := by
  cases g : s.heap.get? b with
  | none => rfl
  | some o => rw [keeps_sub k b o g] at h; cases h
theorem moved {c : Cx} {ρ : Store} {env : Env} {D : Option Nat} {s₀ s s' : Shared} {d d' : Option Addr} {ws : List Addr} {h' : Heap} {tk : Nat} (f : FI c ρ env D s₀ d' s') (kp : Kp env d s s')
    (ha : ∀ b ∈ ws, Apart env d' b ∧ (s.heap.get? b = none ∧ s₀.heap.get? b = none) ∧ ∀ o its k, s'.heap.get? b = some o → o.data ≠ .seq its k)
    (hk : ∀ b o, b ∉ ws → s'.heap.get? b = some o → h'.get? b = some o) : FI c ρ env D s₀ d' { s' with heap := h', toks := tk } ∧ Kp env d s { s' with heap := h', toks := tk } := by
  have old : ∀ b o, s.heap.get? b = some o → b ∉ ws := fun b o e hb => by rw [(ha b hb).2.1.1] at e; cases e
  refine ⟨f.shift (fun b hb => ⟨(ha b hb).1, (ha b hb).2.1.2, (ha b hb).2.2⟩) hk, fun b o e a1 a2 a3 => hk b o (old b o e) (kp.keep b o e a1 a2 a3), fun b o e => ?_⟩
  obtain ⟨o', e'⟩ := kp.live b o e
  exact ⟨o', hk b o' (old b o e) e'⟩

theorem src_ok (G : Gd mg mb H₀) (hA : AOk n A) {k : IK} {args : E} {c : Cx} {x : Expr} {ρ : Store} {env : Env} {D : Option Nat} {s₀ s : Shared} {d : Option Addr} {vs : List PV} {items : List At}
    (h : okIt c k args x = true) (hD : itD D k args = true) (X : Fix prog w mg H₀ n Φ c env s₀) (f : FI c ρ env D s₀ d s) (e : evs Φ args ρ = some vs) (e' : iterItems k vs = some items) :
    wpAny (model prog w) A (eval x env) (fun xv s₁ => wpAny (model prog w) A (pyIter xv) (fun it s₂ => Keeps s s₁ ∧ ItAt prog w s₁ s₂ it xv items ∧ ∀ a, d = some a → xv ≠ .ref a) (fun _ _ => False) s₁) (fun _ _ => False) s := by
  have main : (∀ xv, (freshIt k args = true → Fresh s.heap xv) → ∀ a, d = some a → xv ≠ .ref a) → _ := fun hx =>
    wpAny_mono (iter_sound G hA (all_ok (Φ := Φ) (prog := prog) (w := w) G hA args).1 (all_ok (Φ := Φ) (prog := prog) (w := w) G hA args).2 h (f.cok X) e e') (fun xv s₁ h1 =>
      wpAny_mono h1.2.2 (fun it s₂ h2 => (⟨h1.1, h2, hx xv h1.2.1⟩ : Keeps s s₁ ∧ ItAt prog w s₁ s₂ it xv items ∧ ∀ a, d = some a → xv ≠ .ref a)) fun _ _ f => f) fun _ _ (f : False) => (f : False)
  rcases Bool.or_eq_true_iff.mp hD with hD | hD
  · rcases Bool.or_eq_true_iff.mp hD with hD | hD
    · exact main fun xv _ a ha => by rw [f.dn (eq_of_beq hD)] at ha; cases ha
    · refine main fun xv hf a ha e => ?_
      obtain ⟨_, _, h3⟩ := f.live
      obtain ⟨o, ho⟩ := h3 a ha
      have := hf hD a e
      rw [ho] at this; cases this
  · obtain ⟨hk, hj⟩ := Bool.and_eq_true_iff.mp hD
    obtain ⟨j, hj, hne⟩ := any_inv hj
    cases k with
    | range => exact (Bool.false_ne_true hk).elim
    | val =>
      obtain ⟨it, rfl, ho⟩ := inv_val h
      obtain rfl := varOf_inv hj
      obtain ⟨y, p, rfl, h1, h2⟩ := inv_var ho
      obtain ⟨v, hv, e⟩ := bind_some2 e
      cases e
      obtain ⟨u, n1, n2, _, n4⟩ := f.name (A := A) (p := p) X (beq_iff_eq.mpr h1) h2 hv
      exact n1 _ _ (wpAny_mono (pyIter_sound n2 e') (fun it s₂ h2 => ⟨keeps_refl s, h2, n4 (ne_of_beq hne)⟩) fun _ _ f => f)
end
end Mine
end
section
open PySem PySem.Calls
set_option maxRecDepth 100000
namespace Mine
section
variable {prog : Program} {w : World} {mg mb : Str → Option Value} {H₀ : Heap} {n : Nat} {Φ : Nat → List PV → Option PV} {A : Around}

theorem drop_cons {α : Type} {l : List α} {j : Nat} {a : α} (h : l[j]? = some a) : l.drop j = a :: l.drop (j + 1) := by
  obtain ⟨hl, e⟩ := List.getElem?_eq_some_iff.mp h
  rw [List.drop_eq_getElem_cons hl, e]

inductive ForI (c : Cx) (env : Env) (D : Option Nat) (s₀ : Shared) (d : Option Addr) (s : Shared) (k : Nat) (I : Addr) (fp : List Addr) (St : Nat → Heap → Prop) (go : Nat → Store → Prop) (m : Nat) (s' : Shared) : Prop
  | mk (j : Nat) (ρ' : Store) (d' : Option Addr) (hm : m + j = k + 1) (hj : j ≤ k) (f : FI c ρ' env D s₀ d' s') (st : St j s'.heap) (kp : Kp env d s s') (dk : DOk s d d') (ap : ∀ b ∈ fp, Apart env d' b ∧ ∃ o, s'.heap.get? b = some o) (aI : Apart env d' I) (hgo : go j ρ')
inductive WhI (c : Cx) (env : Env) (D : Option Nat) (s₀ : Shared) (d : Option Addr) (s : Shared) (go : Nat → Store → Prop) (m : Nat) (s' : Shared) : Prop
  | mk (ρ' : Store) (d' : Option Addr) (f : FI c ρ' env D s₀ d' s') (kp : Kp env d s s') (dk : DOk s d d') (hgo : go m ρ')

theorem for_next {c : Cx} {env : Env} {D : Option Nat} {s₀ s t s₅ : Shared} {d d' d₅ : Option Addr} {ρ₂ : Store} {k j m : Nat} {I : Addr} {fp : List Addr} {St : Nat → Heap → Prop} {go : Nat → Store → Prop} (hm : m + j = k + 1) (hlt : j < k) (f₅ : FI c ρ₂ env D s₀ d₅ s₅) (st : St (j + 1) t.heap)
    (frame : ∀ h₁ h₂, St (j + 1) h₁ → (∀ b ∈ fp, ∀ o, h₁.get? b = some o → h₂.get? b = some o) → St (j + 1) h₂) (kp : Kp env d s t) (k₆ : Kp env d' t s₅) (dk : DOk s d d') (dk₆ : DOk t d' d₅) (live : ∀ b ∈ fp, ∃ o, t.heap.get? b = some o) (lI : ∃ o, t.heap.get? I = some o) (ap : ∀ b ∈ fp, Apart env d' b) (aI : Apart env d' I) (hgo : go (j + 1) ρ₂) :
    ∃ m', m' < m ∧ ForI c env D s₀ d s k I fp St go m' s₅ := by
  obtain ⟨o, ho⟩ := lI
  refine ⟨m - 1, by omega, j + 1, ρ₂, d₅, by omega, hlt, f₅, frame _ _ st fun b hb o ho => k₆.keep b o ho (ap b hb).loc (ap b hb).cel (ap b hb).lst, kp.trans k₆ dk, dk.trans dk₆ kp.live, fun b hb => ?_, aI.next dk₆ ho, hgo⟩
  obtain ⟨o, ho⟩ := live b hb
  exact ⟨(ap b hb).next dk₆ ho, k₆.live b o ho⟩

theorem all_forS (G : Gd mg mb H₀) (hA : AOk n A) {x : Nat} {k : IK} {it : E} {body : S} (hb : AllS prog w mg H₀ n Φ A body) : AllS prog w mg H₀ n Φ A (.forS x k it body) := by
  refine ⟨?_, not_many fun c D xs => by cases xs <;> rfl⟩
  intro c D st ρ env s₀ d s p h X f hp
  obtain ⟨y, py, iter, body', pos, rfl, h1, h2, h3, h4, h5⟩ := inv_for h
  obtain ⟨vs, hvs, hp⟩ := bind_some2 hp
  obtain ⟨items, hit, hp⟩ := bind_some2 hp
  refine wpAny_For (wpAny_mono (src_ok G hA h3 h4 X f hvs hit) (fun xv s₁ h => wpAny_mono h (fun it s₂ h => ?_) fun _ _ f => f.elim) fun _ _ f => f.elim) (okIt_folded h3)
  obtain ⟨k₁, ⟨I, fp, St, rfl, hI, k₂, hfp, hl, st0, hdat, W⟩, hxd⟩ := h
  have W := W A hA.handled
  have f₁ := f.keeps k₁
  have f₂ := f₁.keeps k₂
  have aI : Apart env d I := f₁.apart_new hI
  have apart : ∀ b ∈ fp, Apart env d b ∧ ∃ o, s₂.heap.get? b = some o := by
    intro b hbm
    rcases (hfp b hbm).2 with rfl | ⟨rfl, o, its, q, ho, hd⟩
    · obtain ⟨o, ho, _⟩ := hdat 0 _ st0
      exact ⟨aI, o, ho⟩
    · exact ⟨f₁.apart_seq ho hd (fun e => hxd b e rfl), o, keeps_sub k₂ b o ho⟩
  refine codeAny_forLoop_any (ForI c env D s₀ d s items.length I fp St fun j ρ' => forGo (fun a ρ => ex Φ body (set ρ x (.a a))) (items.drop j) ρ' = some p) ?_ (items.length + 1) ⟨0, ρ, d, rfl, Nat.zero_le _, f₂, st0, Kp.keeps (keeps_trans k₁ k₂), DOk.refl s d, apart, aI, hp⟩
  rintro m s' ⟨j, ρ', d', hm, hj, f', st', kp', dk', ap', aI', hgo⟩
  obtain ⟨oI, hoI, hIn⟩ := hdat j _ st'
  have ws : ∀ b ∈ [I], Apart env d' b ∧ (s.heap.get? b = none ∧ s₀.heap.get? b = none) ∧ ∀ o its k, s'.heap.get? b = some o → o.data ≠ .seq its k := by
    intro b hbm
    rw [List.mem_singleton.mp hbm]
    exact ⟨aI', ⟨none_of k₁ hI, none_of f₁.keep₀ hI⟩, fun o its k ho => by rw [hoI] at ho; cases ho; exact hIn its k⟩
  by_cases hlt : j < items.length
  · refine W.item j s' _ _ hlt st' fun v h' tk hP st₁ hk => ?_
    obtain ⟨a, ha, hr⟩ := hP
    rw [drop_cons ha] at hgo
    obtain ⟨⟨fl, ρ₂⟩, hex, hgo⟩ := bind_some2 hgo
    obtain ⟨f₃, k₃⟩ := moved (tk := tk) f' kp' ws hk
    obtain ⟨oI', hoI', _⟩ := hdat _ _ st₁
    have live : ∀ b ∈ fp, ∃ o, h'.get? b = some o := fun b hbm => by
      by_cases hbI : b = I
      · rw [hbI]; exact ⟨oI', hoI'⟩
      · obtain ⟨_, o, ho⟩ := ap' b hbm
        exact ⟨o, hk b o (fun h => hbI (List.mem_singleton.mp h)) ho⟩
    refine wpAny_pure (wpAny_assign_Name (wpAny_mono (f₃.store (E := fun _ _ => False) X (keeps_refl _) (isName_spec h1) (r := .a a) hr fun _ => fresh_atom hr) (fun _ s₄ h => ?_) fun _ _ f => f.elim))
    obtain ⟨f₄, k₄, dk₄⟩ := h
    rw [show newD D x d' v = d' from if_neg h2] at f₄
    refine wpAny_mono (hb.many c D body' (set ρ' x (.a a)) env s₀ d' s₄ _ h5 X f₄ hex) (fun fw s₅ h => ?_) fun _ _ f => f.elim
    cases fl with
    | ret r =>
      cases hgo
      obtain ⟨u, rfl, h⟩ := h
      exact ⟨u, rfl, h⟩
    | next =>
      obtain ⟨rfl, d₅, f₅, k₅, dk₅⟩ := h
      exact for_next hm hlt f₅ st₁ (W.frame _) k₃ (k₄.trans k₅ (DOk.refl _ _)) dk' ((DOk.refl _ d').trans dk₅ k₄.live) live ⟨oI', hoI'⟩ (fun b hb => (ap' b hb).1) aI' hgo
  · obtain rfl : j = items.length := Nat.le_antisymm hj (Nat.le_of_not_lt hlt)
    refine W.done s' _ _ st' fun h' tk hk => wpAny_execs_nil ?_
    rw [List.drop_length] at hgo
    cases hgo
    obtain ⟨f₃, k₃⟩ := moved (tk := tk) f' kp' ws hk
    exact ⟨rfl, d', f₃, k₃, dk'⟩

theorem all_whileS (G : Gd mg mb H₀) (hA : AOk n A) {q : Nat} {e : E} {body : S} (hb : AllS prog w mg H₀ n Φ A body) : AllS prog w mg H₀ n Φ A (.whileS q e body) := by
  refine ⟨?_, not_many fun c D xs => by cases xs <;> rfl⟩
  intro c D st ρ env s₀ d s p h X f hp
  obtain ⟨test, body', pos, rfl, h1, h2⟩ := inv_while h
  refine wpAny_While (codeAny_whileLoop (WhI c env D s₀ d s fun m ρ' => whileGo (fun ρ => (ev Φ e ρ).bind truth) (fun ρ => ex Φ body ρ) m ρ' = some p) ?_ q ⟨ρ, d, f, Kp.refl s, DOk.refl s d, hp⟩)
  rintro m s' ⟨ρ', d', f', kp', dk', hgo⟩
  cases m with
  | zero => cases hgo
  | succ m =>
    obtain ⟨b, hbv, hgo⟩ := bind_some2 hgo
    refine wpAny_mono ((all_ok (Φ := Φ) (prog := prog) (w := w) G hA e).1.pt c test ρ' env s' b h1 (f'.cok X) (truth_eq hbv)) (fun b' s₁ h => ?_) fun _ _ f => f.elim
    obtain ⟨rfl, k₁⟩ := h
    have f₁ := f'.keeps k₁
    have kp₁ := kp'.trans (Kp.keeps (env := env) (d := d') k₁) dk'
    cases b' with
    | false =>
      cases hgo
      exact wpAny_execs_nil ⟨rfl, d', f₁, kp₁, dk'⟩
    | true =>
      obtain ⟨⟨fl, ρ₂⟩, hex, hgo⟩ := bind_some2 hgo
      refine wpAny_mono (hb.many c D body' ρ' env s₀ d' s₁ _ h2 X f₁ hex) (fun fw s₂ h => ?_) fun _ _ f => f.elim
      cases fl with
      | ret r =>
        cases hgo
        obtain ⟨u, rfl, h⟩ := h
        exact ⟨u, rfl, h⟩
      | next =>
        obtain ⟨rfl, d₂, f₂, k₂, dk₂⟩ := h
        exact ⟨m, Nat.lt_succ_self m, ρ₂, d₂, f₂, kp₁.trans k₂ dk', dk'.trans dk₂ kp₁.live, hgo⟩
end
end Mine
end
section
open PySem PySem.Calls
set_option maxRecDepth 100000
namespace Mine
section
variable {prog : Program} {w : World} {mg mb : Str → Option Value} {H₀ : Heap} {n : Nat} {Φ : Nat → List PV → Option PV} {A : Around}

theorem enum_item {env : Env} {s : Shared} {I l : Addr} {j : Nat} {items : Array Value} {v old : Value} {y1 y2 : Str} {p1 p2 : Pos} {q1 : Nat} {q2 : Pos} {N Q : Shared → Prop} {E : Value → Shared → Prop} (hA : AOk n A)
    (he : IsEnum s.heap (I + 1) I j old) (hit : s.heap.IsListIter I l j) (hl : s.heap.IsList l items) (hx : items[j]? = some v) (hlE : l ≠ I + 1) (hlI : l ≠ I)
    (hQ : ∀ h', (∀ b o, b ≠ I + 1 → b ≠ I → s.heap.get? b = some o → h'.get? b = some o) → IsEnum h' (I + 1) I ((j + 1 : Nat) : Int) v → h'.IsListIter I l (j + 1) → h'.IsList l items →
      wpAny (model prog w) A (storeName env y1 (.int j s.toks)) (fun _ s₂ => wpAny (model prog w) A (storeName env y2 v) (fun _ s₃ => Q s₃) E s₂) E { s with heap := h', toks := s.toks + 1 }) :
    wpAny (model prog w) A (pyNext (.ref (I + 1))) (fun r s₁ => match r with
      | none => N s₁
      | some v => wpAny (model prog w) A (letOwnedTupleGo (.Tuple [.Name y1 p1, .Name y2 p2] q1 q2) (.ref (I + 1)) v) (fun _ s₂ => wpAny (model prog w) A (assign (.Tuple [.Name y1 p1, .Name y2 p2] q1 q2) env v) (fun _ s₃ => Q s₃) E s₂) E s₁) E s := by
  have hEI : I + 1 ≠ I := Nat.succ_ne_self _
  have hES : I + 1 < s.heap.objs.size := Heap.lt_size he
  refine wpAny_pyNext_enum_item he hit hl hx hEI fun h₁ heo hit₁ ht₁ hz₁ hk₁ => ?_
  refine wpAny_letOwnedTupleGo_enum heo fun h₂ he₂ hs₂ => ?_
  have hs₂ : Heap.SameBut (I + 1) h₁ h₂ := hs₂
  have hz₂ : h₂.objs.size = s.heap.objs.size + 1 := hs₂.1.trans hz₁
  refine wpAny_assign_Tuple hA.handled (items := #[.int j s.toks, v]) ⟨_, (hs₂.2 _ (Nat.ne_of_gt hES)).trans ht₁, rfl, _, rfl⟩ rfl rfl fun h₃ hx₃ => ?_
  have hx₃ : Heap.ExtBut h₂.objs.size h₂ h₃ := hx₃
  have up : ∀ b o, b < s.heap.objs.size → h₂.get? b = some o → h₃.get? b = some o := fun b o hb e => hx₃ b o (by rw [hz₂]; exact Nat.ne_of_lt (Nat.lt_succ_of_lt hb)) e
  have hk : ∀ b o, b ≠ I + 1 → b ≠ I → s.heap.get? b = some o → h₃.get? b = some o := fun b o h1 h2 e => up b o (Heap.lt_size e) (hs₂.extBut b o h1 (hk₁ b o h1 h2 e))
  obtain ⟨oI, hoI, _⟩ := hit
  obtain ⟨o, ho, hc⟩ := hit₁
  have hl' : h₃.IsList l items := hl.at fun o e => hk l o hlE hlI e
  exact wpAny_bind (wpAny_holding (wpAny_assign_Name (wpAny_mono (hQ h₃ hk (up _ _ hES he₂) ⟨o, up _ o (Heap.lt_size hoI) (hs₂.extBut I o (Ne.symm hEI) ho), hc⟩ hl')
    (fun _ _ h => wpAny_bind (wpAny_holding (wpAny_assign_Name (wpAny_mono h (fun _ _ h => wpAny_pure h) fun _ _ f => f)))) fun _ _ f => f)))

inductive EnI (c : Cx) (env : Env) (D : Option Nat) (s₀ : Shared) (d : Option Addr) (s : Shared) (k : Nat) (items : Array Value) (I l : Addr) (go : Nat → Store → Prop) (m : Nat) (s' : Shared) : Prop
  | mk (j : Nat) (ρ' : Store) (d' : Option Addr) (old : Value) (hm : m + j = k + 1) (hj : j ≤ k) (f : FI c ρ' env D s₀ d' s') (he : IsEnum s'.heap (I + 1) I ((j : Nat) : Int) old) (hit : s'.heap.IsListIter I l j) (hl : s'.heap.IsList l items)
      (kp : Kp env d s s') (dk : DOk s d d') (aE : Apart env d' (I + 1)) (aI : Apart env d' I) (aL : Apart env d' l) (hgo : go j ρ')

theorem enum_start {c : Cx} {ρ : Store} {env : Env} {D : Option Nat} {s₀ s : Shared} {d : Option Addr} {y : Str} {p4 p3 p5 : Pos} {lval : Value} {vs : List Value} {l : Addr} {E : Value → Shared → Prop} {Q : Value → Shared → Prop} (G : Gd mg mb H₀) (X : Fix prog w mg H₀ n Φ c env s₀) (f : FI c ρ env D s₀ d s)
    (hg : c.glob enumName = true) (n1 : ∀ Q E, Q lval s → wpAny (model prog w) A (eval (.Name y p4) env) Q E s) (e : lval = .ref l) (hpl : s.heap.PlainList l vs.toArray) 
    (hQ : ∀ h', IsEnum h' (s.heap.objs.size + 1) s.heap.objs.size 0 .none → h'.IsListIter s.heap.objs.size l 0 → (∀ b o, s.heap.get? b = some o → h'.get? b = some o) → Q (.ref (s.heap.objs.size + 1)) { s with heap := h' }) :
    wpAny (model prog w) A (eval (.Call (.Name enumName p3) [.Name y p4] [] p5) env) (fun xv s₁ => wpAny (model prog w) A (pyIter xv) (fun it s₂ => Q it s₂) E s₁) E s := by
  subst e
  have hne : enumName ≠ "__name__" := by decide
  have hdb : (enumName == ("__debug__" : Str)) = false := by decide
  refine wpAny_Call_NameR (Calls.Name_function_global X.eo.kind (glob_kind X.eo hg) (Calls.loadGlobal_builtin (v := .type "enumerate") (by rw [X.eo.globals]; exact G.g.keeps (X.base.trans (keeps_sub f.keep₀))) (G.nob _ (by simp [usedNames, enumName])) (by rw [X.eo.builtins]; exact G.b.keeps (X.base.trans (keeps_sub f.keep₀)))
      (by rw [G.bi _ hne]; exact PyProof.Rows.boot_enumerate) ?_) hdb)
  refine PySem.callWith_type rfl (Calls.evalArgs_plain (Calls.spliced_cons (n1 _ _ (Calls.spliced_nil ?_))))
  exact call_enumerate_list (plain_isList hpl) fun h' he hit _ hk => wpAny_pyIter_enum he (hQ h' he hit hk)

theorem all_forEnum (G : Gd mg mb H₀) (hA : AOk n A) {i x : Nat} {it : E} {body : S} (hb : AllS prog w mg H₀ n Φ A body) : AllS prog w mg H₀ n Φ A (.forEnum i x it body) := by
  refine ⟨?_, not_many fun c D xs => by cases xs <;> rfl⟩
  intro c D st ρ env s₀ d s p h X f hp
  obtain ⟨j, y1, p1, y2, p2, q1, q2, p3, z, p4, p5, body', pos, rfl, rfl, h1, h2, h3, hix, hDi, hDx, hDj, hg, hz, hbody⟩ := inv_forEnum h
  obtain ⟨lv, hlv, hp⟩ := bind_some2 hp
  obtain ⟨xs, hxs, hp⟩ := bind_some2 hp
  obtain rfl := pList_inv hxs
  obtain ⟨lval, n1, n2, _, n4⟩ := f.name (A := A) (p := p4) X h3 hz hlv
  obtain ⟨l, vs, el, hpl, pr, hl⟩ := n2
  have hld : ∀ a, d = some a → l ≠ a := fun a e h => n4 hDj a e (by rw [el, h])
  refine wpAny_For (enum_start G X f hg n1 el hpl fun h' he hit hk => ?_)
  have hIs : s.heap.get? s.heap.objs.size = none := size_none _
  have hEs : s.heap.get? (s.heap.objs.size + 1) = none := Heap.get?_none_of_le (Nat.le_succ _)
  generalize s.heap.objs.size = I at he hit hIs hEs ⊢
  obtain ⟨kl, hlo⟩ := id hpl
  have hlI : l ≠ I := by rintro rfl; rw [hlo] at hIs; cases hIs
  have hlE : l ≠ I + 1 := by rintro rfl; rw [hlo] at hEs; cases hEs
  have k₀ : Keeps s { s with heap := h' } := ⟨h', s.toks, rfl, hk⟩
  have ws : ∀ {s' : Shared} {d' : Option Addr} {i : Int} {j : Nat} {old : Value}, IsEnum s'.heap (I + 1) I i old → s'.heap.IsListIter I l j → Apart env d' (I + 1) → Apart env d' I →
      ∀ b ∈ [I + 1, I], Apart env d' b ∧ (s.heap.get? b = none ∧ s₀.heap.get? b = none) ∧ ∀ o its k, s'.heap.get? b = some o → o.data ≠ .seq its k := by
    intro s' d' i j old he hit aE aI b hbm
    rcases List.mem_cons.mp hbm with rfl | hbm
    · exact ⟨aE, ⟨hEs, none_of f.keep₀ hEs⟩, fun o its k ho e => by rw [he] at ho; cases ho; cases e⟩
    · obtain rfl := List.mem_singleton.mp hbm
      obtain ⟨o', ho', _, hd⟩ := hit
      exact ⟨aI, ⟨hIs, none_of f.keep₀ hIs⟩, fun o its k ho e => by rw [ho'] at ho; cases ho; rw [hd] at e; cases e⟩
  have out : ∀ {b : Addr}, b ∉ [I + 1, I] → b ≠ I + 1 ∧ b ≠ I := fun h => ⟨fun e => h (by rw [e]; exact List.mem_cons_self ..), fun e => h (by rw [e]; exact List.mem_cons_of_mem _ (List.mem_singleton.mpr rfl))⟩
  refine codeAny_forLoop_any (EnI c env D s₀ d s xs.length vs.toArray I l fun j ρ' => enumGo (fun k a ρ => ex Φ body (set (set ρ i (.a (.int k))) x (.a a))) (j : Int) (xs.drop j) ρ' = some p) ?_ (xs.length + 1)
    ⟨0, ρ, d, .none, rfl, Nat.zero_le _, f.keeps k₀, he, hit, (plain_isList hpl).at fun o e => hk _ o e, Kp.keeps k₀, DOk.refl s d, f.apart_new hEs, f.apart_new hIs, f.apart_seq hlo rfl (fun e => hld l e rfl), hp⟩
  rintro m s' ⟨j', ρ', d', old, hm, hj, f', he', hit', hl', kp', dk', aE, aI, aL, hgo⟩
  by_cases hlt : j' < xs.length
  · have ha : xs[j']? = some xs[j'] := List.getElem?_eq_getElem hlt
    generalize xs[j'] = a at ha
    obtain ⟨v, hv, hr⟩ := paired_get pr ha
    rw [drop_cons ha] at hgo
    obtain ⟨⟨fl, ρ₂⟩, hex, hgo⟩ := bind_some2 hgo
    refine enum_item hA he' hit' hl' (v := v) ((List.getElem?_toArray ..).trans hv) hlE hlI fun h₃ hk₃ he₃ hit₃ hl₃ => ?_
    obtain ⟨f₃, k₃⟩ := moved (tk := s'.toks + 1) f' kp' (ws he' hit' aE aI) fun b o hb e => hk₃ b o (out hb).1 (out hb).2 e
    generalize ht : ({ s' with heap := h₃, toks := s'.toks + 1 } : Shared) = t at f₃ k₃ ⊢
    have he₃ : IsEnum t.heap (I + 1) I ((j' + 1 : Nat) : Int) v := by rw [← ht]; exact he₃
    have hit₃ : t.heap.IsListIter I l (j' + 1) := by rw [← ht]; exact hit₃
    have hl₃ : t.heap.IsList l vs.toArray := by rw [← ht]; exact hl₃
    have nd : ∀ {y : Nat} (v : Value), D ≠ some y → newD D y d' v = d' := fun v h => if_neg h
    refine wpAny_mono (f₃.store (E := fun _ _ => False) X (keeps_refl _) (isName_spec h1) (v := .int j' s'.toks) (r := .a (.int j')) ⟨_, rfl⟩ fun _ => fresh_atom (x := .int j') ⟨_, rfl⟩) (fun _ s₄ h => ?_) fun _ _ f => f.elim
    obtain ⟨f₄, k₄, _⟩ := h
    rw [nd _ hDi] at f₄
    refine wpAny_mono (f₄.store (E := fun _ _ => False) X (keeps_refl _) (isName_spec h2) (v := v) (r := .a a) hr fun _ => fresh_atom hr) (fun _ s₅ h => ?_) fun _ _ f => f.elim
    obtain ⟨f₅, k₅, _⟩ := h
    rw [nd _ hDx] at f₅
    have k₄₅ := k₄.trans k₅ (DOk.refl _ _)
    refine wpAny_mono (hb.many c D body' _ env s₀ d' s₅ _ hbody X f₅ hex) (fun fw s₆ h => ?_) fun _ _ f => f.elim
    cases fl with
    | ret r =>
      cases hgo
      obtain ⟨u, rfl, h⟩ := h
      exact ⟨u, rfl, h⟩
    | next =>
      obtain ⟨rfl, d₆, f₆, k₆, dk₆⟩ := h
      have k₇ := k₄₅.trans k₆ (DOk.refl _ _)
      have dk₇ : DOk t d' d₆ := (DOk.refl _ d').trans dk₆ k₄₅.live
      obtain ⟨oI, hI1, hI2⟩ := hit₃
      obtain ⟨oL, hL1, hL2⟩ := hl₃
      exact ⟨m - 1, by omega, j' + 1, ρ₂, d₆, v, by omega, hlt, f₆, k₇.keep _ _ he₃ aE.loc aE.cel aE.lst, ⟨oI, k₇.keep _ _ hI1 aI.loc aI.cel aI.lst, hI2⟩, ⟨oL, k₇.keep _ _ hL1 aL.loc aL.cel aL.lst, hL2⟩, k₃.trans k₇ dk', dk'.trans dk₇ k₃.live,
        aE.next dk₇ he₃, aI.next dk₇ hI1, aL.next dk₇ hL1, hgo⟩
  · obtain rfl : j' = xs.length := Nat.le_antisymm hj (Nat.le_of_not_lt hlt)
    refine wpAny_pyNext_enum_end hA.handled he' hit' hl' (by rw [← pr.length, List.getElem?_toArray, List.getElem?_eq_none (Nat.le_refl _)]) fun h₁ hx => wpAny_execs_nil ?_
    rw [List.drop_length] at hgo
    cases hgo
    obtain ⟨f₃, k₃⟩ := moved (tk := s'.toks) f' kp' (ws he' hit' aE aI) fun b o hb e => hx b o (out hb).2 e
    exact ⟨rfl, d', f₃, k₃, dk'⟩
end
end Mine
end
section
open PySem PySem.Calls
set_option maxRecDepth 100000
namespace Mine
section
variable {prog : Program} {w : World} {mg mb : Str → Option Value} {H₀ : Heap} {n : Nat} {Φ : Nat → List PV → Option PV} {A : Around}

theorem alls_ok (G : Gd mg mb H₀) (hA : AOk n A) : ∀ st : S, AllS prog w mg H₀ n Φ A st := by
  intro st
  induction st with
  | nil => exact all_nilS
  | seq h t hh ht => exact all_seq hh ht
  | assign i e => exact all_assign G hA
  | assign2 i j e => exact all_assign2 G hA
  | ret e => exact all_ret G hA
  | retD i => exact all_retD
  | freeze t ht => exact all_freeze ht
  | ite c t f ht hf => exact all_iteS G hA ht hf
  | forS x k it body hb => exact all_forS G hA hb
  | forEnum i x it body hb => exact all_forEnum G hA hb
  | whileS n c body hb => exact all_whileS G hA hb
  | append x e => exact all_append G hA
  | setItem x i e => exact all_setItem G hA
  | raiseS => exact all_raise

theorem FnOk.mono {n m : Nat} {name : Str} {F : List PV → Option PV} (x : FnOk prog w mg H₀ n name F) (h : n ≤ m) : FnOk prog w mg H₀ m name F := by
  obtain ⟨a, o, fd, h1, h2, h3, h4⟩ := x
  exact ⟨a, o, fd, h1, h2, h3, fun A s vals args r hA => h4 A s vals args r (hA.mono h)⟩

theorem call_cells {s : Shared} {R : Result → Shared → Prop} {a : Addr} {o : Obj} {fd : FuncData} {body : List Stmt} {vals : List Value} {binds : List (Str × Value)}
    (hroom : A.depth < recursionLimit) (ho : s.heap.get? a = some o) (hdata : o.data = .func fd) (hlim : s.heap.NoLimit) (hcd : s.heap.CodeRec fd.code fd.qualname)
    (hbody : fd.body = .stmts body) (hbind : BindsTo s fd ⟨vals, []⟩ binds) (hclo : fd.closure = [])
    (hkind : ∀ x ∈ binds, fd.scope.names.lookup x.1 = some .local ∨ (fd.scope.names.lookup x.1 = some .cell ∧ ((cellsFrom (s.heap.objs.size + 1) fd.scope.names []).lookup x.1).isSome = true))
    (h : ∀ s₁, InCallC s (callEnvC fd s.heap.objs.size a).locals (bindL (callEnvC fd s.heap.objs.size a).kindOf binds fun _ => none) (callEnvC fd s.heap.objs.size a).cells
        (bindC (callEnvC fd s.heap.objs.size a).kindOf binds fun _ => none) s₁ →
      wpAny (model prog w) (A.deeper (callEnvC fd s.heap.objs.size a)) (execs body (callEnvC fd s.heap.objs.size a)) (fun f s' => R (.ok (.ret (match f with | .ret v => v | _ => .none))) s')
        (fun e s' => wpAny (model prog w) (A.deeper (callEnvC fd s.heap.objs.size a)) (leaving (callEnvC fd s.heap.objs.size a) e) (fun _ s'' => R (.error e) s'') (fun e' s'' => R (.error e') s'') s') s₁)
    (hco : fd.scope.isCoroutine = false) (hgen : fd.scope.isGenerator = false) (hk : fd.scope.kind = .function) :
    codeAny (model prog w) A (.call (.ref a) ⟨vals, []⟩) R s := by
  refine codeAny_call_function hroom ho hdata hco hgen hbody hcd (hbind _ _ _ _ ?_)
  rw [hclo]
  refine wpAny_newFunctionEnv_cells hk hkind fun env he s' x => ?_
  subst he
  exact ⟨hlim.keeps x.toInCall.keep, codeAny_func (h s' x)⟩

theorem bindL_not {K : Str → Option NameKind} {x : Str} : ∀ {binds : List (Str × Value)} {m : Str → Option Value}, x ∉ binds.map (·.1) → bindL K binds m x = m x
  | [], _, _ => rfl
  | (y, v) :: r, m, h => by
    simp only [List.map_cons, List.mem_cons, not_or] at h
    rw [bindL, bindL_not h.2]
    split
    · simp only [if_neg h.1]
    · rfl
theorem bindC_not {K : Str → Option NameKind} {x : Str} : ∀ {binds : List (Str × Value)} {m : Str → Option Value}, x ∉ binds.map (·.1) → bindC K binds m x = m x
  | [], _, _ => rfl
  | (y, v) :: r, m, h => by
    simp only [List.map_cons, List.mem_cons, not_or] at h
    rw [bindC, bindC_not h.2]
    split
    · rfl
    · simp only [if_neg h.1]
theorem bindL_at {K : Str → Option NameKind} {x : Str} {v : Value} (hk : K x = some .local) : ∀ {binds : List (Str × Value)} {m : Str → Option Value}, (binds.map (·.1)).Nodup → (x, v) ∈ binds → bindL K binds m x = some v
  | (y, u) :: r, m, hn, h => by
    simp only [List.map_cons, List.nodup_cons] at hn
    rw [bindL]
    rcases List.mem_cons.mp h with e | h
    · cases e
      rw [bindL_not hn.1, if_pos hk]; simp
    · exact bindL_at hk hn.2 h
theorem bindC_at {K : Str → Option NameKind} {x : Str} {v : Value} (hk : K x ≠ some .local) : ∀ {binds : List (Str × Value)} {m : Str → Option Value}, (binds.map (·.1)).Nodup → (x, v) ∈ binds → bindC K binds m x = some v
  | (y, u) :: r, m, hn, h => by
    simp only [List.map_cons, List.nodup_cons] at hn
    rw [bindC]
    rcases List.mem_cons.mp h with e | h
    · cases e
      rw [bindC_not hn.1, if_neg hk]; simp
    · exact bindC_at hk hn.2 h

structure PlanOk (c : Cx) (ps : List Str) (D : Option Nat) : Prop where
  top : c.top = true
  par : ∀ (i : Nat) (x : Str), ps[i]? = some x → c.sl[i]? = some (some x)
  nd : ps.Nodup
  uniq : (c.sl.filterMap id).Nodup
  kinds : ∀ x ∈ c.sl.filterMap id, c.kinds.lookup x = some .local ∨ c.kinds.lookup x = some .cell
  D : ∀ i, D = some i → ps.length ≤ i
noncomputable def planB (c : Cx) (ps : List Str) (D : Option Nat) : Bool :=
  c.top && (c.sl.take ps.length == ps.map some) && decide ((c.sl.filterMap id).Nodup) && decide ps.Nodup && (c.sl.filterMap id).all (fun x => c.kinds.lookup x == some .local || c.kinds.lookup x == some .cell) &&
    (match D with | some i => decide (ps.length ≤ i) | none => true)
theorem planB_spec {c : Cx} {ps : List Str} {D : Option Nat} (h : planB c ps D = true) : PlanOk c ps D := by
  simp only [planB, Bool.and_eq_true, decide_eq_true_eq, List.all_eq_true, Bool.or_eq_true, beq_iff_eq] at h
  obtain ⟨⟨⟨⟨⟨h1, h2⟩, h3⟩, hnd⟩, h4⟩, h5⟩ := h
  refine ⟨h1, fun i x hx => ?_, hnd, h3, h4, fun i e => ?_⟩
  · have hl : i < ps.length := (List.getElem?_eq_some_iff.mp hx).1
    have : (c.sl.take ps.length)[i]? = some (some x) := by rw [h2]; simp [hx]
    rw [List.getElem?_take_of_lt hl] at this
    exact this
  · subst e; simpa using h5
theorem uniq_of {sl : List (Option Str)} (h : (sl.filterMap id).Nodup) : ∀ (i j : Nat) (x : Str), sl[i]? = some (some x) → sl[j]? = some (some x) → i = j := by
  induction sl with
  | nil => intro i j x h; simp at h
  | cons o r ih =>
    intro i j x hi hj
    have mem : ∀ {k : Nat}, r[k]? = some (some x) → x ∈ r.filterMap id := fun {k} hk => List.mem_filterMap.mpr ⟨some x, List.mem_of_getElem? hk, rfl⟩
    cases o with
    | none =>
      simp only [List.filterMap_cons, id] at h
      cases i with
      | zero => simp at hi
      | succ i => cases j with
        | zero => simp at hj
        | succ j => rw [ih h i j x (by simpa using hi) (by simpa using hj)]
    | some y =>
      simp only [List.filterMap_cons, id, List.nodup_cons] at h
      cases i with
      | zero => cases j with
        | zero => rfl
        | succ j =>
          simp at hi hj
          subst hi
          exact absurd (mem hj) h.1
      | succ i => cases j with
        | zero =>
          simp at hi hj
          subst hj
          exact absurd (mem hi) h.1
        | succ j => rw [ih h.2 i j x (by simpa using hi) (by simpa using hj)]

noncomputable def initS (k : Nat) (args : List PV) : Store := args.map some ++ List.replicate (k - args.length) none
theorem get_init {k : Nat} : ∀ {args : List PV} {i : Nat} {r : PV}, get (initS k args) i = some r → args[i]? = some r := by
  have rep : ∀ (m i : Nat) (r : PV), get (List.replicate m none) i ≠ some r := by
    intro m
    induction m with
    | zero => intro i r h; cases i <;> cases h
    | succ m ih => intro i r h; cases i with
      | zero => cases h
      | succ i => exact ih i r h
  have gen : ∀ (args : List PV) (m i : Nat) (r : PV), get (args.map some ++ List.replicate m none) i = some r → args[i]? = some r := by
    intro args
    induction args with
    | nil => intro m i r h; exact absurd h (rep m i r)
    | cons a t ih => intro m i r h; cases i with
      | zero => simpa [get] using h
      | succ i => simpa using ih m i r h
  intro args i r h
  exact gen _ _ _ _ h

theorem paired_getR {α β : Type} {R : α → β → Prop} {us : List α} {xs : List β} (h : Paired R us xs) : ∀ {i : Nat} {x : β}, xs[i]? = some x → ∃ v, us[i]? = some v ∧ R v x := by
  induction h with
  | nil => intro i x e; simp at e
  | cons f _ ih =>
    intro i x e
    cases i with
    | zero => simp at e; subst e; exact ⟨_, by simp, f⟩
    | succ i => simpa using ih (by simpa using e)

theorem fnOk_of (G : Gd mg mb H₀) {name : Str} {F : List PV → Option PV} {a : Addr} {o : Obj} {fd : FuncData} {body : List Stmt} {c : Cx} {ps : List Str} {D : Option Nat} {st : S}
    (h1 : mg name = some (.ref a)) (h2 : H₀.get? a = some o) (h3 : o.data = .func fd) (h4 : H₀.CodeRec fd.code fd.qualname) (h5 : fd.body = .stmts body) (h6 : fd.closure = [])
    (h7 : fd.globals = mainGlobals) (h8 : fd.builtins = builtinsNs) (h9 : fd.scope.kind = .function) (h10 : fd.scope.names = c.kinds) (h11 : fd.scope.isCoroutine = false) (h12 : fd.scope.isGenerator = false)
    (hp : PlanOk c ps D) (ok : okSs c D st body = true) (fns : ∀ f nm, c.fn f = some nm → FnOk prog w mg H₀ n nm (Φ f))
    (hb : ∀ s vals args r, Sub H₀ s.heap → Paired (fun v x => Rep s.heap v x) vals args → F args = some r →
      ∃ vals' args' ρ', BindsTo s fd ⟨vals, []⟩ (ps.zip vals') ∧ Paired (fun v x => Rep s.heap v x) vals' args' ∧ vals'.length = ps.length ∧ ex Φ st (initS c.sl.length args') = some (.ret r, ρ')) :
    FnOk prog w mg H₀ (n + 1) name F := by
  refine ⟨a, o, fd, h1, h2, h3, fun A s vals args r hA hs hv hr => ?_⟩
  obtain ⟨vals', args', ρ', hbind, hv', hlen, hex⟩ := hb s vals args r hs hv hr
  have hlen' := hv'.length
  have hnames : ((ps.zip vals').map (·.1)) = ps := by
    rw [List.map_fst_zip]; omega
  have slmem : ∀ i x, c.sl[i]? = some (some x) → x ∈ c.sl.filterMap id := fun i x h => List.mem_filterMap.mpr ⟨some x, List.mem_of_getElem? h, rfl⟩
  have psnd : ps.Nodup := hp.nd
  have hkinds : ∀ x, x ∈ c.sl.filterMap id → fd.scope.names.lookup x = some .local ∨ (fd.scope.names.lookup x = some .cell ∧ ((cellsFrom (s.heap.objs.size + 1) fd.scope.names []).lookup x).isSome = true) := fun x hx => by
    rw [h10]
    rcases hp.kinds x hx with h | h
    · exact .inl h
    · exact .inr ⟨h, W.cellsFrom_some _ _ _ (.inl h)⟩
  refine call_cells (A := A) (by have := hA.depth; omega) (hs _ _ h2) h3 (G.nolimit.keeps hs) (h4.keeps hs) h5 hbind h6 (fun x hx => ?_) (fun s₁ ic => ?_) h11 h12 h9
  · have : x.1 ∈ ps := by rw [← hnames]; exact List.mem_map.mpr ⟨x, hx, rfl⟩
    obtain ⟨i, hi⟩ := List.getElem?_of_mem this
    exact hkinds x.1 (slmem i x.1 (hp.par i _ hi))
  · generalize hE : callEnvC fd s.heap.objs.size a = env at ic ⊢
    have eK : ∀ x, env.kindOf x = c.kinds.lookup x := fun x => by rw [← hE, ← h10]; rfl
    have X : Fix prog w mg H₀ n Φ c env s := by
      refine ⟨⟨by rw [← hE]; exact h9, by rw [← hE]; exact h7, by rw [← hE]; exact h8, by rw [← hE]; exact h10, fun _ y hy => ?_⟩, hs, fns, uniq_of hp.uniq, fun i x hx => ?_⟩
      · have := W.cellsFrom_some (x := y) fd.scope.names (s.heap.objs.size + 1) [] (.inl (by rw [h10]; exact hy))
        rw [← hE]
        exact Option.isSome_iff_exists.mp this
      · rcases hkinds x (slmem i x hx) with h | ⟨h, h'⟩
        · exact .inl (by rw [eK, ← h10]; exact h)
        · refine .inr ⟨by rw [eK, ← h10]; exact h, ?_⟩
          rw [← hE]
          exact Option.isSome_iff_exists.mp h'
    have keep₁ : Keeps s s₁ := by
      obtain ⟨h, tk, e, k⟩ := ic.done
      exact ⟨h, tk, e, k⟩
    have f : FI c (initS c.sl.length args') env D s none s₁ := by
      refine ⟨⟨_, _, ic, fun i x r hi hg => ?_⟩, (fun a e => nomatch e), fun _ => rfl⟩
      have hai := get_init hg
      have hil : i < args'.length := (List.getElem?_eq_some_iff.mp hai).1
      have hip : i < ps.length := by omega
      obtain ⟨y, hy⟩ : ∃ y, ps[i]? = some y := ⟨ps[i], List.getElem?_eq_getElem hip⟩
      have hxy : x = y := by
        have := hp.par i y hy
        rw [hi] at this; cases this; rfl
      subst hxy
      obtain ⟨v, hvi, hr⟩ : ∃ v, vals'[i]? = some v ∧ Rep s.heap v r := paired_getR hv' hai
      have hmem : (x, v) ∈ ps.zip vals' := by
        refine List.mem_of_getElem? (i := i) ?_
        rw [List.getElem?_zip_eq_some]
        exact ⟨hy, hvi⟩
      refine ⟨v, ?_, hr.mono (keeps_sub keep₁), fun e => ?_, fun _ _ e => nomatch e⟩
      · rcases X.kinds i x hi with h | ⟨h, ad, had⟩
        · exact .inl ⟨h, bindL_at h (by rw [hnames]; exact psnd) hmem⟩
        · exact .inr ⟨h, ad, had, bindC_at (by rw [h]; decide) (by rw [hnames]; exact psnd) hmem⟩
      · have := hp.D i e
        omega
    refine wpAny_mono ((alls_ok (Φ := Φ) (prog := prog) (w := w) G (hA.deeper (env := env)) st).many c D body _ env s none s₁ _ ok X f hex) (fun fw s₂ h => ?_) fun _ _ f => f.elim
    obtain ⟨v, rfl, k, r, fr⟩ := h
    exact ⟨v, rfl, k, r, fr⟩
end
end Mine
end
section
open PySem PySem.Calls
set_option maxRecDepth 100000
namespace Mine
noncomputable def fnNames : List Str := [Str.ofString "octets_of", Str.ofString "decimal_of", Str.ofString "hex_of", Str.ofString "hex_text", Str.ofString "ip4_of", Str.ofString "ip4_text", Str.ofString "groups_of", Str.ofString "ip6_of", Str.ofString "nought_run", Str.ofString "ip6_text", Str.ofString "mac_of", Str.ofString "mac_text", Str.ofString "mask_of", Str.ofString "prefix_of", Str.ofString "_law_digit", Str.ofString "_law_hex", Str.ofString "_law_text4", Str.ofString "_law_text6", Str.ofString "_law_textmac", Str.ofString "_law_read4", Str.ofString "_law_group", Str.ofString "_law_read6", Str.ofString "_law_readmac", Str.ofString "_law_prefix", Str.ofString "_law_groups", Str.ofString "_law_built", Str.ofString "_law_changed", Str.ofString "_law_edges6", Str.ofString "_law_edges4", Str.ofString "_law_lengths", Str.ofString "_law_edgesmac", Str.ofString "_law_is_written", Str.ofString "_law_is_read6", Str.ofString "_law_is_read4", Str.ofString "law"]
noncomputable def fnName (k : Nat) : Option Str := fnNames[k]?
noncomputable def cOctetsOf1 : E := (.comp (.bin .BitAnd (.bin .RShift (.var 0) (.bin .Mult (.int 8) (.bin .Sub (.bin .Sub (.var 1) (.int 1)) (.var 2)))) (.int 255)) 2 .range (.cons (.var 1) .nil) .nil)
noncomputable def bOctetsOf : S :=
    (.seq (.ite (.boolE false (.cons (.cmp .Lt (.var 0) (.int 0)) (.cons (.cmp .NotEq (.bin .RShift (.var 0) (.bin .Mult (.int 8) (.var 1))) (.int 0)) .nil))) (.seq .raiseS
      .nil) .nil)
      (.seq (.ret (.bi .bytes (.cons cOctetsOf1 .nil)))
      .nil))
noncomputable def slOctetsOf : List (Option Str) := [some (Str.ofString "number"), some (Str.ofString "size"), none]
noncomputable def psOctetsOf : List Str := [Str.ofString "number", Str.ofString "size"]
noncomputable def dOctetsOf : Option Nat := none
noncomputable def lDecimalOf1 : S :=
    (.seq (.ite (.notE (.cmp2 .LtE .LtE (.str [48]) (.var 3) (.str [57]))) (.seq (.ret .none)
      .nil) .nil)
      (.seq (.assign 2 (.bin .Sub (.bin .Add (.bin .Mult (.var 2) (.int 10)) (.bi .ord (.cons (.var 3) .nil))) (.bi .ord (.cons (.str [48]) .nil))))
      .nil))
noncomputable def bDecimalOf : S :=
    (.seq (.ite (.boolE false (.cons (.cmp .Eq (.var 0) (.str [])) (.cons (.cmp .Gt (.bi .len (.cons (.var 0) .nil)) (.int 3)) (.cons (.boolE true (.cons (.cmp .Eq (.idx (.var 0) (.int 0)) (.str [48])) (.cons (.cmp .NotEq (.var 0) (.str [48])) .nil))) .nil)))) (.seq (.ret .none)
      .nil) .nil)
      (.seq (.assign 2 (.int 0))
      (.seq (.forS 3 .val (.cons (.var 0) .nil) lDecimalOf1)
      (.seq (.ret (.ite (.cmp .LtE (.var 2) (.var 1)) (.var 2) .none))
      .nil))))
noncomputable def slDecimalOf : List (Option Str) := [some (Str.ofString "text"), some (Str.ofString "most"), some (Str.ofString "number"), some (Str.ofString "sign")]
noncomputable def psDecimalOf : List Str := [Str.ofString "text", Str.ofString "most"]
noncomputable def dDecimalOf : Option Nat := none
noncomputable def lHexOf1 : S :=
    (.seq (.assign 4 (.me .find (.str [48, 49, 50, 51, 52, 53, 54, 55, 56, 57, 97, 98, 99, 100, 101, 102, 65, 66, 67, 68, 69, 70]) (.cons (.var 3) .nil)))
      (.seq (.ite (.cmp .Lt (.var 4) (.int 0)) (.seq (.ret .none)
      .nil) .nil)
      (.seq (.assign 2 (.bin .Add (.bin .Mult (.var 2) (.int 16)) (.ite (.cmp .Lt (.var 4) (.int 16)) (.var 4) (.bin .Sub (.var 4) (.int 6)))))
      .nil)))
noncomputable def bHexOf : S :=
    (.seq (.ite (.notE (.cmp2 .LtE .LtE (.int 1) (.bi .len (.cons (.var 0) .nil)) (.var 1))) (.seq (.ret .none)
      .nil) .nil)
      (.seq (.assign 2 (.int 0))
      (.seq (.forS 3 .val (.cons (.var 0) .nil) lHexOf1)
      (.seq (.ret (.var 2))
      .nil))))
noncomputable def slHexOf : List (Option Str) := [some (Str.ofString "text"), some (Str.ofString "most"), some (Str.ofString "number"), some (Str.ofString "sign"), some (Str.ofString "place")]
noncomputable def psHexOf : List Str := [Str.ofString "text", Str.ofString "most"]
noncomputable def dHexOf : Option Nat := none
noncomputable def wHexText1 : E := (.boolE false (.cons (.cmp .Gt (.var 0) (.int 0)) (.cons (.cmp .Lt (.bi .len (.cons (.var 2) .nil)) (.var 1)) .nil)))
noncomputable def lHexText1 : S :=
    (.seq (.assign 2 (.bin .Add (.idx (.str [48, 49, 50, 51, 52, 53, 54, 55, 56, 57, 97, 98, 99, 100, 101, 102]) (.bin .BitAnd (.var 0) (.int 15))) (.var 2)))
      (.seq (.assign 0 (.bin .RShift (.var 0) (.int 4)))
      .nil))
noncomputable def bHexText : S :=
    (.seq (.assign 2 (.str []))
      (.seq (.whileS 100 wHexText1 lHexText1)
      (.seq (.ret (.var 2))
      .nil)))
noncomputable def slHexText : List (Option Str) := [some (Str.ofString "number"), some (Str.ofString "least"), some (Str.ofString "digits")]
noncomputable def psHexText : List Str := [Str.ofString "number", Str.ofString "least"]
noncomputable def dHexText : Option Nat := none
noncomputable def lIp4Of1 : S :=
    (.seq (.assign 4 (.call 1 (.cons (.var 3) (.cons (.int 255) .nil))))
      (.seq (.ite (.cmp .Is (.var 4) .none) (.seq (.ret .none)
      .nil) .nil)
      (.seq (.assign 2 (.bin .Add (.bin .Mult (.var 2) (.int 256)) (.var 4)))
      .nil)))
noncomputable def bIp4Of : S :=
    (.seq (.assign 1 (.me .split (.var 0) (.cons (.str [46]) .nil)))
      (.seq (.ite (.cmp .NotEq (.bi .len (.cons (.var 1) .nil)) (.int 4)) (.seq (.ret .none)
      .nil) .nil)
      (.seq (.assign 2 (.int 0))
      (.seq (.forS 3 .val (.cons (.var 1) .nil) lIp4Of1)
      (.seq (.ret (.var 2))
      .nil)))))
noncomputable def slIp4Of : List (Option Str) := [some (Str.ofString "text"), some (Str.ofString "parts"), some (Str.ofString "number"), some (Str.ofString "part"), some (Str.ofString "octet")]
noncomputable def psIp4Of : List Str := [Str.ofString "text"]
noncomputable def dIp4Of : Option Nat := none
noncomputable def cIp4Text1 : E := (.comp (.bi .str (.cons (.bin .BitAnd (.bin .RShift (.var 0) (.var 1)) (.int 255)) .nil)) 1 .val (.cons (.tup (.cons (.int 24) (.cons (.int 16) (.cons (.int 8) (.cons (.int 0) .nil))))) .nil) .nil)
noncomputable def bIp4Text : S :=
    (.seq (.ret (.me .join (.str [46]) (.cons cIp4Text1 .nil)))
      .nil)
noncomputable def slIp4Text : List (Option Str) := [some (Str.ofString "number"), none]
noncomputable def psIp4Text : List Str := [Str.ofString "number"]
noncomputable def dIp4Text : Option Nat := none
noncomputable def lGroupsOf1 : S :=
    (.seq (.ite (.boolE true (.cons (.var 1) (.cons (.cmp .Eq (.var 4) (.bin .Sub (.bi .len (.cons (.var 3) .nil)) (.int 1))) (.cons (.cmp .In (.str [46]) (.var 5)) .nil)))) (.seq (.assign 6 (.call 4 (.cons (.var 5) .nil)))
      (.seq (.ite (.cmp .Is (.var 6) .none) (.seq (.ret .none)
      .nil) .nil)
      (.seq (.append 2 (.bin .RShift (.var 6) (.int 16)))
      (.seq (.append 2 (.bin .BitAnd (.var 6) (.int 65535)))
      .nil)))) (.seq (.assign 7 (.call 2 (.cons (.var 5) (.cons (.int 4) .nil))))
      (.seq (.ite (.cmp .Is (.var 7) .none) (.seq (.ret .none)
      .nil) .nil)
      (.seq (.append 2 (.var 7))
      .nil))))
      .nil)
noncomputable def bGroupsOf : S :=
    (.seq (.assign 2 (.list .nil))
      (.seq (.ite (.cmp .Eq (.var 0) (.str [])) (.seq (.retD 2)
      .nil) .nil)
      (.seq (.assign 3 (.me .split (.var 0) (.cons (.str [58]) .nil)))
      (.seq (.forEnum 4 5 (.var 3) lGroupsOf1)
      (.seq (.retD 2)
      .nil)))))
noncomputable def slGroupsOf : List (Option Str) := [some (Str.ofString "text"), some (Str.ofString "is_end"), some (Str.ofString "groups"), some (Str.ofString "parts"), some (Str.ofString "place"), some (Str.ofString "part"), some (Str.ofString "tail"), some (Str.ofString "group")]
noncomputable def psGroupsOf : List Str := [Str.ofString "text", Str.ofString "is_end"]
noncomputable def dGroupsOf : Option Nat := some 2
noncomputable def lIp6Of1 : S :=
    (.seq (.assign 4 (.bin .BitOr (.bin .LShift (.var 4) (.int 16)) (.var 5)))
      .nil)
noncomputable def bIp6Of : S :=
    (.seq (.assign 1 (.me .split (.var 0) (.cons (.str [58, 58]) .nil)))
      (.seq (.ite (.cmp .Gt (.bi .len (.cons (.var 1) .nil)) (.int 2)) (.seq (.ret .none)
      .nil) .nil)
      (.seq (.assign 2 (.call 6 (.cons (.idx (.var 1) (.int 0)) (.cons (.cmp .Eq (.bi .len (.cons (.var 1) .nil)) (.int 1)) .nil))))
      (.seq (.ite (.cmp .Is (.var 2) .none) (.seq (.ret .none)
      .nil) .nil)
      (.seq (.ite (.cmp .Eq (.bi .len (.cons (.var 1) .nil)) (.int 2)) (.seq (.assign 3 (.call 6 (.cons (.idx (.var 1) (.int 1)) (.cons (.bool true) .nil))))
      (.seq (.ite (.boolE false (.cons (.cmp .Is (.var 3) .none) (.cons (.cmp .Gt (.bin .Add (.bi .len (.cons (.var 2) .nil)) (.bi .len (.cons (.var 3) .nil))) (.int 7)) .nil))) (.seq (.ret .none)
      .nil) .nil)
      (.seq (.assign 2 (.bin .Add (.bin .Add (.var 2) (.bin .Mult (.list (.cons (.int 0) .nil)) (.bin .Sub (.bin .Sub (.int 8) (.bi .len (.cons (.var 2) .nil))) (.bi .len (.cons (.var 3) .nil))))) (.var 3)))
      .nil))) .nil)
      (.seq (.ite (.cmp .NotEq (.bi .len (.cons (.var 2) .nil)) (.int 8)) (.seq (.ret .none)
      .nil) .nil)
      (.seq (.assign 4 (.int 0))
      (.seq (.forS 5 .val (.cons (.var 2) .nil) lIp6Of1)
      (.seq (.ret (.var 4))
      .nil)))))))))
noncomputable def slIp6Of : List (Option Str) := [some (Str.ofString "text"), some (Str.ofString "halves"), some (Str.ofString "groups"), some (Str.ofString "behind"), some (Str.ofString "number"), some (Str.ofString "group")]
noncomputable def psIp6Of : List Str := [Str.ofString "text"]
noncomputable def dIp6Of : Option Nat := none
noncomputable def lNoughtRun1 : S :=
    (.seq (.assign 3 (.ite (.cmp .Eq (.var 5) (.int 0)) (.bin .Add (.var 3) (.int 1)) (.int 0)))
      (.seq (.ite (.cmp .Gt (.var 3) (.var 2)) (.seq (.assign2 1 2 (.tup (.cons (.bin .Sub (.bin .Add (.var 4) (.int 1)) (.var 3)) (.cons (.var 3) .nil))))
      .nil) .nil)
      .nil))
noncomputable def bNoughtRun : S :=
    (.seq (.assign2 1 2 (.tup (.cons (.int 0) (.cons (.int 0) .nil))))
      (.seq (.assign 3 (.int 0))
      (.seq (.forEnum 4 5 (.var 0) lNoughtRun1)
      (.seq (.ret (.tup (.cons (.var 1) (.cons (.var 2) .nil))))
      .nil))))
noncomputable def slNoughtRun : List (Option Str) := [some (Str.ofString "groups"), some (Str.ofString "begin"), some (Str.ofString "many"), some (Str.ofString "run"), some (Str.ofString "place"), some (Str.ofString "group")]
noncomputable def psNoughtRun : List Str := [Str.ofString "groups"]
noncomputable def dNoughtRun : Option Nat := none
noncomputable def cIp6Text1 : E := (.comp (.call 3 (.cons (.var 5) .nil)) 5 .val (.cons (.var 1) .nil) .nil)
noncomputable def cIp6Text2 : E := (.comp (.bin .BitAnd (.bin .RShift (.var 0) (.var 6)) (.int 65535)) 6 .val (.cons (.tup (.cons (.int 112) (.cons (.int 96) (.cons (.int 80) (.cons (.int 64) (.cons (.int 48) (.cons (.int 32) (.cons (.int 16) (.cons (.int 0) .nil))))))))) .nil) .nil)
noncomputable def bIp6Text : S :=
    (.seq (.assign 1 cIp6Text2)
      (.seq (.assign2 2 3 (.call 8 (.cons (.var 1) .nil)))
      (.seq (.assign 4 cIp6Text1)
      (.seq (.ite (.cmp .Lt (.var 3) (.int 2)) (.seq (.ret (.me .join (.str [58]) (.cons (.var 4) .nil)))
      .nil) .nil)
      (.seq (.ite (.boolE true (.cons (.cmp .Eq (.var 2) (.int 0)) (.cons (.boolE false (.cons (.cmp .Eq (.var 3) (.int 6)) (.cons (.boolE true (.cons (.cmp .Eq (.var 3) (.int 5)) (.cons (.cmp .Eq (.idx (.var 1) (.int 5)) (.int 65535)) .nil))) .nil))) .nil))) (.seq (.assign 4 (.bin .Add (.slice (.var 4) .none (.int 6)) (.list (.cons (.call 5 (.cons (.bin .BitAnd (.var 0) (.int 4294967295)) .nil)) .nil))))
      .nil) .nil)
      (.seq (.ret (.bin .Add (.bin .Add (.me .join (.str [58]) (.cons (.slice (.var 4) .none (.var 2)) .nil)) (.str [58, 58])) (.me .join (.str [58]) (.cons (.slice (.var 4) (.bin .Add (.var 2) (.var 3)) .none) .nil))))
      .nil))))))
noncomputable def slIp6Text : List (Option Str) := [some (Str.ofString "number"), some (Str.ofString "groups"), some (Str.ofString "begin"), some (Str.ofString "many"), some (Str.ofString "parts"), none, none]
noncomputable def psIp6Text : List Str := [Str.ofString "number"]
noncomputable def dIp6Text : Option Nat := none
noncomputable def lMacOf1 : S :=
    (.seq (.assign 4 (.call 2 (.cons (.var 3) (.cons (.int 2) .nil))))
      (.seq (.ite (.cmp .Is (.var 4) .none) (.seq (.ret .none)
      .nil) .nil)
      (.seq (.assign 2 (.bin .Add (.bin .Mult (.var 2) (.int 256)) (.var 4)))
      .nil)))
noncomputable def bMacOf : S :=
    (.seq (.assign 1 (.me .split (.var 0) (.cons (.str [58]) .nil)))
      (.seq (.ite (.cmp .NotEq (.bi .len (.cons (.var 1) .nil)) (.int 6)) (.seq (.ret .none)
      .nil) .nil)
      (.seq (.assign 2 (.int 0))
      (.seq (.forS 3 .val (.cons (.var 1) .nil) lMacOf1)
      (.seq (.ret (.var 2))
      .nil)))))
noncomputable def slMacOf : List (Option Str) := [some (Str.ofString "text"), some (Str.ofString "parts"), some (Str.ofString "number"), some (Str.ofString "part"), some (Str.ofString "octet")]
noncomputable def psMacOf : List Str := [Str.ofString "text"]
noncomputable def dMacOf : Option Nat := none
noncomputable def cMacText1 : E := (.comp (.call 3 (.cons (.var 1) (.cons (.int 2) .nil))) 1 .val (.cons (.call 0 (.cons (.var 0) (.cons (.int 6) .nil))) .nil) .nil)
noncomputable def bMacText : S :=
    (.seq (.ret (.me .join (.str [58]) (.cons cMacText1 .nil)))
      .nil)
noncomputable def slMacText : List (Option Str) := [some (Str.ofString "number"), none]
noncomputable def psMacText : List Str := [Str.ofString "number"]
noncomputable def dMacText : Option Nat := none
noncomputable def bMaskOf : S :=
    (.seq (.ret (.bin .Sub (.bin .LShift (.int 1) (.var 1)) (.bin .LShift (.int 1) (.bin .Sub (.var 1) (.var 0)))))
      .nil)
noncomputable def slMaskOf : List (Option Str) := [some (Str.ofString "length"), some (Str.ofString "bits")]
noncomputable def psMaskOf : List Str := [Str.ofString "length", Str.ofString "bits"]
noncomputable def dMaskOf : Option Nat := none
noncomputable def bPrefixOf : S :=
    (.seq (.assign 1 (.me .split (.var 0) (.cons (.str [47]) .nil)))
      (.seq (.ite (.cmp .Gt (.bi .len (.cons (.var 1) .nil)) (.int 2)) (.seq (.ret .none)
      .nil) .nil)
      (.seq (.assign2 2 3 (.tup (.cons (.int 2) (.cons (.int 32) .nil))))
      (.seq (.assign 4 (.call 4 (.cons (.idx (.var 1) (.int 0)) .nil)))
      (.seq (.ite (.cmp .Is (.var 4) .none) (.seq (.assign2 2 3 (.tup (.cons (.int 10) (.cons (.int 128) .nil))))
      (.seq (.assign 4 (.call 7 (.cons (.idx (.var 1) (.int 0)) .nil)))
      .nil)) .nil)
      (.seq (.ite (.cmp .Is (.var 4) .none) (.seq (.ret .none)
      .nil) .nil)
      (.seq (.assign 5 (.ite (.cmp .Eq (.bi .len (.cons (.var 1) .nil)) (.int 1)) (.var 3) (.call 1 (.cons (.idx (.var 1) (.int 1)) (.cons (.var 3) .nil)))))
      (.seq (.ite (.cmp .Is (.var 5) .none) (.seq (.ret .none)
      .nil) .nil)
      (.seq (.ret (.tup (.cons (.var 2) (.cons (.bin .BitAnd (.var 4) (.call 12 (.cons (.var 5) (.cons (.var 3) .nil)))) (.cons (.var 5) .nil)))))
      .nil)))))))))
noncomputable def slPrefixOf : List (Option Str) := [some (Str.ofString "text"), some (Str.ofString "parts"), some (Str.ofString "nfproto"), some (Str.ofString "bits"), some (Str.ofString "base"), some (Str.ofString "length")]
noncomputable def psPrefixOf : List Str := [Str.ofString "text"]
noncomputable def dPrefixOf : Option Nat := none
noncomputable def bLawDigit : S :=
    (.seq (.ret (.ite (.cmp .Lt (.var 1) (.bi .len (.cons (.var 0) .nil))) (.idx (.var 0) (.var 1)) (.int 0)))
      .nil)
noncomputable def slLawDigit : List (Option Str) := [some (Str.ofString "script"), some (Str.ofString "place")]
noncomputable def psLawDigit : List Str := [Str.ofString "script", Str.ofString "place"]
noncomputable def dLawDigit : Option Nat := none
noncomputable def cLawHex1 : E := (.comp (.idx (.str [48, 49, 50, 51, 52, 53, 54, 55, 56, 57, 97, 98, 99, 100, 101, 102]) (.var 2)) 2 .val (.cons (.var 1) .nil) .nil)
noncomputable def wLawHex1 : E := (.boolE true (.cons (.cmp .Gt (.bi .len (.cons (.var 1) .nil)) (.int 1)) (.cons (.cmp .Eq (.idx (.var 1) (.int 0)) (.int 0)) .nil)))
noncomputable def lLawHex1 : S :=
    (.seq (.assign 1 (.slice (.var 1) (.int 1) .none))
      .nil)
noncomputable def bLawHex : S :=
    (.seq (.assign 1 (.list (.cons (.bin .FloorDiv (.var 0) (.int 4096)) (.cons (.bin .Mod (.bin .FloorDiv (.var 0) (.int 256)) (.int 16)) (.cons (.bin .Mod (.bin .FloorDiv (.var 0) (.int 16)) (.int 16)) (.cons (.bin .Mod (.var 0) (.int 16)) .nil))))))
      (.seq (.whileS 100 wLawHex1 lLawHex1)
      (.seq (.ret (.me .join (.str []) (.cons cLawHex1 .nil)))
      .nil)))
noncomputable def slLawHex : List (Option Str) := [some (Str.ofString "number"), some (Str.ofString "digits"), none]
noncomputable def psLawHex : List Str := [Str.ofString "number"]
noncomputable def dLawHex : Option Nat := none
noncomputable def cLawText41 : E := (.comp (.bi .str (.cons (.bin .Mod (.bin .FloorDiv (.var 0) (.bin .Pow (.int 256) (.bin .Sub (.int 3) (.var 1)))) (.int 256)) .nil)) 1 .range (.cons (.int 4) .nil) .nil)
noncomputable def bLawText4 : S :=
    (.seq (.ret (.me .join (.str [46]) (.cons cLawText41 .nil)))
      .nil)
noncomputable def slLawText4 : List (Option Str) := [some (Str.ofString "number"), none]
noncomputable def psLawText4 : List Str := [Str.ofString "number"]
noncomputable def dLawText4 : Option Nat := none
noncomputable def cLawText61 : E := (.comp (.call 15 (.cons (.var 4) .nil)) 4 .val (.cons (.var 0) .nil) .nil)
noncomputable def lLawText61 : S :=
    (.seq (.ite (.cmp .Eq (.slice (.var 0) (.var 3) (.bin .Add (.var 3) (.var 2))) (.bin .Mult (.list (.cons (.int 0) .nil)) (.var 2))) (.seq (.ret (.bin .Add (.bin .Add (.me .join (.str [58]) (.cons (.slice (.var 1) .none (.var 3)) .nil)) (.str [58, 58])) (.me .join (.str [58]) (.cons (.slice (.var 1) (.bin .Add (.var 3) (.var 2)) .none) .nil))))
      .nil) .nil)
      .nil)
noncomputable def lLawText62 : S :=
    (.seq (.forS 3 .range (.cons (.bin .Sub (.int 9) (.var 2)) .nil) lLawText61)
      .nil)
noncomputable def bLawText6 : S :=
    (.seq (.assign 1 cLawText61)
      (.seq (.ite (.boolE false (.cons (.cmp .Eq (.slice (.var 0) .none (.int 6)) (.list (.cons (.int 0) (.cons (.int 0) (.cons (.int 0) (.cons (.int 0) (.cons (.int 0) (.cons (.int 65535) .nil)))))))) (.cons (.boolE true (.cons (.cmp .Eq (.slice (.var 0) .none (.int 6)) (.bin .Mult (.list (.cons (.int 0) .nil)) (.int 6))) (.cons (.cmp .NotEq (.idx (.var 0) (.int 6)) (.int 0)) .nil))) .nil))) (.seq (.assign 1 (.bin .Add (.slice (.var 1) .none (.int 6)) (.list (.cons (.call 16 (.cons (.bin .Add (.bin .Mult (.idx (.var 0) (.int 6)) (.int 65536)) (.idx (.var 0) (.int 7))) .nil)) .nil))))
      .nil) .nil)
      (.seq (.forS 2 .range (.cons (.int 8) (.cons (.int 1) (.cons (.int (-1)) .nil))) lLawText62)
      (.seq (.ret (.me .join (.str [58]) (.cons (.var 1) .nil)))
      .nil))))
noncomputable def slLawText6 : List (Option Str) := [some (Str.ofString "groups"), some (Str.ofString "words"), some (Str.ofString "many"), some (Str.ofString "begin"), none]
noncomputable def psLawText6 : List Str := [Str.ofString "groups"]
noncomputable def dLawText6 : Option Nat := none
noncomputable def cLawTextmac1 : E := (.comp (.bin .Add (.idx (.str [48, 49, 50, 51, 52, 53, 54, 55, 56, 57, 97, 98, 99, 100, 101, 102]) (.bin .FloorDiv (.var 2) (.int 16))) (.idx (.str [48, 49, 50, 51, 52, 53, 54, 55, 56, 57, 97, 98, 99, 100, 101, 102]) (.bin .Mod (.var 2) (.int 16)))) 2 .val (.cons (.var 1) .nil) .nil)
noncomputable def cLawTextmac2 : E := (.comp (.bin .Mod (.bin .FloorDiv (.var 0) (.bin .Pow (.int 256) (.bin .Sub (.int 5) (.var 3)))) (.int 256)) 3 .range (.cons (.int 6) .nil) .nil)
noncomputable def bLawTextmac : S :=
    (.seq (.assign 1 cLawTextmac2)
      (.seq (.ret (.me .join (.str [58]) (.cons cLawTextmac1 .nil)))
      .nil))
noncomputable def slLawTextmac : List (Option Str) := [some (Str.ofString "number"), some (Str.ofString "octets"), none, none]
noncomputable def psLawTextmac : List Str := [Str.ofString "number"]
noncomputable def dLawTextmac : Option Nat := none
noncomputable def lLawRead41 : S :=
    (.seq (.ite (.boolE true (.cons (.cmp .Eq (.var 3) (.str [46])) (.cons (.cmp .Lt (.var 2) (.int 3)) .nil))) (.seq (.assign 2 (.bin .Add (.var 2) (.int 1)))
      .nil) (.seq (.setItem 1 (.var 2) (.bin .Mod (.bin .Add (.bin .Mult (.idx (.var 1) (.var 2)) (.int 10)) (.me .find (.str [48, 49, 50, 51, 52, 53, 54, 55, 56, 57]) (.cons (.var 3) .nil))) (.int 256)))
      .nil))
      .nil)
noncomputable def bLawRead4 : S :=
    (.seq (.assign 1 (.list (.cons (.int 0) (.cons (.int 0) (.cons (.int 0) (.cons (.int 0) .nil))))))
      (.seq (.assign 2 (.int 0))
      (.seq (.forS 3 .val (.cons (.var 0) .nil) lLawRead41)
      (.seq (.assign 4 (.bin .Add (.bin .Add (.bin .Add (.bin .Mult (.idx (.var 1) (.int 0)) (.int 16777216)) (.bin .Mult (.idx (.var 1) (.int 1)) (.int 65536))) (.bin .Mult (.idx (.var 1) (.int 2)) (.int 256))) (.idx (.var 1) (.int 3))))
      (.seq (.ret (.ite (.cmp .Eq (.call 16 (.cons (.var 4) .nil)) (.var 0)) (.var 4) .none))
      .nil)))))
noncomputable def slLawRead4 : List (Option Str) := [some (Str.ofString "text"), some (Str.ofString "octets"), some (Str.ofString "at"), some (Str.ofString "sign"), some (Str.ofString "number")]
noncomputable def psLawRead4 : List Str := [Str.ofString "text"]
noncomputable def dLawRead4 : Option Nat := some 1
noncomputable def lLawGroup1 : S :=
    (.seq (.assign 3 (.me .find (.str [48, 49, 50, 51, 52, 53, 54, 55, 56, 57, 97, 98, 99, 100, 101, 102]) (.cons (.me .lower (.var 2) .nil) .nil)))
      (.seq (.ite (.cmp .Lt (.var 3) (.int 0)) (.seq (.ret (.int (-1)))
      .nil) .nil)
      (.seq (.assign 1 (.bin .Add (.bin .Mult (.int 16) (.var 1)) (.var 3)))
      .nil)))
noncomputable def bLawGroup : S :=
    (.seq (.assign 1 (.int 0))
      (.seq (.forS 2 .val (.cons (.var 0) .nil) lLawGroup1)
      (.seq (.ret (.ite (.cmp2 .LtE .LtE (.int 1) (.bi .len (.cons (.var 0) .nil)) (.int 4)) (.var 1) (.int (-1))))
      .nil)))
noncomputable def slLawGroup : List (Option Str) := [some (Str.ofString "word"), some (Str.ofString "total"), some (Str.ofString "sign"), some (Str.ofString "digit")]
noncomputable def psLawGroup : List Str := [Str.ofString "word"]
noncomputable def dLawGroup : Option Nat := none
noncomputable def cLawRead61 : E := (.comp (.var 11) 11 .range (.cons (.bi .len (.cons (.var 0) .nil)) .nil) (.cmp .Eq (.slice (.var 0) (.var 11) (.bin .Add (.var 11) (.int 2))) (.str [58, 58])))
noncomputable def lLawRead61 : S :=
    (.seq (.assign 10 (.ite (.cmp .Lt (.var 6) (.var 5)) (.bin .Sub (.int 7) (.var 6)) (.bin .Sub (.bin .Sub (.bi .len (.cons (.var 4) .nil)) (.int 1)) (.var 6))))
      (.seq (.assign 9 (.bin .Add (.var 9) (.bin .Mult (.idx (.var 4) (.var 6)) (.bin .Pow (.int 65536) (.var 10)))))
      .nil))
noncomputable def lLawRead62 : S :=
    (.seq (.ite (.cmp .Eq (.var 7) (.str [])) (.seq (.assign 5 (.bi .len (.cons (.var 4) .nil)))
      .nil) (.seq (.ite (.cmp .In (.str [46]) (.var 7)) (.seq (.assign 8 (.call 19 (.cons (.var 7) .nil)))
      (.seq (.ite (.boolE false (.cons (.cmp .Is (.var 8) .none) (.cons (.cmp .NotEq (.var 6) (.bin .Sub (.bi .len (.cons (.var 1) .nil)) (.int 1))) .nil))) (.seq (.ret .none)
      .nil) .nil)
      (.seq (.assign 4 (.bin .Add (.var 4) (.list (.cons (.bin .FloorDiv (.var 8) (.int 65536)) (.cons (.bin .Mod (.var 8) (.int 65536)) .nil)))))
      .nil))) (.seq (.append 4 (.call 20 (.cons (.var 7) .nil)))
      .nil))
      .nil))
      .nil)
noncomputable def bLawRead6 : S :=
    (.seq (.assign 1 (.me .split (.var 0) (.cons (.str [58]) .nil)))
      (.seq (.assign 2 cLawRead61)
      (.seq (.assign 3 (.int 0))
      (.seq (.ite (.cmp .Eq (.bi .len (.cons (.var 2) .nil)) (.int 1)) (.seq (.assign 3 (.bin .Add (.int 1) (.me .count (.list (.cons (.cmp .Eq (.idx (.var 2) (.int 0)) (.int 0)) (.cons (.cmp .Eq (.idx (.var 2) (.int 0)) (.bin .Sub (.bi .len (.cons (.var 0) .nil)) (.int 2))) .nil))) (.cons (.bool true) .nil))))
      .nil) .nil)
      (.seq (.ite (.boolE false (.cons (.cmp .Gt (.bi .len (.cons (.var 2) .nil)) (.int 1)) (.cons (.cmp .NotEq (.me .count (.var 1) (.cons (.str []) .nil)) (.var 3)) .nil))) (.seq (.ret .none)
      .nil) .nil)
      (.seq (.assign 4 (.list .nil))
      (.seq (.assign 5 (.int 9))
      (.seq (.forEnum 6 7 (.var 1) lLawRead62)
      (.seq (.ite (.boolE false (.cons (.cmp .In (.int (-1)) (.var 4)) (.cons (.cmp .Gt (.bi .len (.cons (.var 4) .nil)) (.bin .Sub (.int 8) (.bi .len (.cons (.var 2) .nil)))) (.cons (.boolE true (.cons (.cmp .Lt (.bi .len (.cons (.var 4) .nil)) (.int 8)) (.cons (.cmp .Eq (.var 5) (.int 9)) .nil))) .nil)))) (.seq (.ret .none)
      .nil) .nil)
      (.seq (.assign 9 (.int 0))
      (.seq (.forS 6 .range (.cons (.bi .len (.cons (.var 4) .nil)) .nil) lLawRead61)
      (.seq (.ret (.var 9))
      .nil))))))))))))
noncomputable def slLawRead6 : List (Option Str) := [some (Str.ofString "text"), some (Str.ofString "words"), some (Str.ofString "doubles"), some (Str.ofString "empties"), some (Str.ofString "groups"), some (Str.ofString "gap"), some (Str.ofString "place"), some (Str.ofString "word"), some (Str.ofString "tail"), some (Str.ofString "number"), some (Str.ofString "power"), none]
noncomputable def psLawRead6 : List Str := [Str.ofString "text"]
noncomputable def dLawRead6 : Option Nat := some 4
noncomputable def cLawReadmac1 : E := (.comp (.bin .Mult (.idx (.var 2) (.var 3)) (.bin .Pow (.int 256) (.bin .Sub (.int 5) (.var 3)))) 3 .range (.cons (.int 6) .nil) .nil)
noncomputable def cLawReadmac2 : E := (.comp (.bi .len (.cons (.var 4) .nil)) 4 .val (.cons (.var 1) .nil) .nil)
noncomputable def cLawReadmac3 : E := (.comp (.call 20 (.cons (.var 5) .nil)) 5 .val (.cons (.var 1) .nil) .nil)
noncomputable def bLawReadmac : S :=
    (.seq (.assign 1 (.me .split (.var 0) (.cons (.str [58]) .nil)))
      (.seq (.assign 2 cLawReadmac3)
      (.seq (.ite (.boolE false (.cons (.cmp .NotEq (.bi .len (.cons (.var 1) .nil)) (.int 6)) (.cons (.cmp .Lt (.bi .min (.cons (.var 2) .nil)) (.int 0)) (.cons (.cmp .Gt (.bi .max (.cons cLawReadmac2 .nil)) (.int 2)) .nil)))) (.seq (.ret .none)
      .nil) .nil)
      (.seq (.ret (.bi .sum (.cons cLawReadmac1 .nil)))
      .nil))))
noncomputable def slLawReadmac : List (Option Str) := [some (Str.ofString "text"), some (Str.ofString "words"), some (Str.ofString "values"), none, none, none]
noncomputable def psLawReadmac : List Str := [Str.ofString "text"]
noncomputable def dLawReadmac : Option Nat := none
noncomputable def cLawPrefix1 : E := (.comp (.bi .str (.cons (.var 8) .nil)) 8 .range (.cons (.bin .Add (.var 3) (.int 1)) .nil) .nil)
noncomputable def bLawPrefix : S :=
    (.seq (.assign 1 (.me .split (.var 0) (.cons (.str [47]) .nil)))
      (.seq (.assign 2 (.int 2))
      (.seq (.assign 3 (.int 32))
      (.seq (.assign 4 (.call 19 (.cons (.idx (.var 1) (.int 0)) .nil)))
      (.seq (.ite (.cmp .Is (.var 4) .none) (.seq (.assign 2 (.int 10))
      (.seq (.assign 3 (.int 128))
      (.seq (.assign 4 (.call 21 (.cons (.idx (.var 1) (.int 0)) .nil)))
      .nil))) .nil)
      (.seq (.ite (.boolE false (.cons (.cmp .Is (.var 4) .none) (.cons (.cmp .Gt (.bi .len (.cons (.var 1) .nil)) (.int 2)) .nil))) (.seq (.ret .none)
      .nil) .nil)
      (.seq (.assign 5 cLawPrefix1)
      (.seq (.assign 6 (.ite (.cmp .Eq (.bi .len (.cons (.var 1) .nil)) (.int 1)) (.idx (.var 5) (.var 3)) (.idx (.var 1) (.int 1))))
      (.seq (.ite (.cmp .NotIn (.var 6) (.var 5)) (.seq (.ret .none)
      .nil) .nil)
      (.seq (.assign 7 (.bin .Pow (.int 2) (.bin .Sub (.var 3) (.me .index (.var 5) (.cons (.var 6) .nil)))))
      (.seq (.ret (.tup (.cons (.var 2) (.cons (.bin .Mult (.bin .FloorDiv (.var 4) (.var 7)) (.var 7)) (.cons (.me .index (.var 5) (.cons (.var 6) .nil)) .nil)))))
      .nil)))))))))))
noncomputable def slLawPrefix : List (Option Str) := [some (Str.ofString "text"), some (Str.ofString "words"), some (Str.ofString "nfproto"), some (Str.ofString "bits"), some (Str.ofString "base"), some (Str.ofString "lengths"), some (Str.ofString "length"), some (Str.ofString "size"), none]
noncomputable def psLawPrefix : List Str := [Str.ofString "text"]
noncomputable def dLawPrefix : Option Nat := none
noncomputable def lLawGroups1 : S :=
    (.seq (.assign 8 (.bin .Add (.bin .FloorDiv (.var 4) (.bin .Pow (.int 7) (.var 7))) (.var 7)))
      (.seq (.assign 9 (.ite (.cmp .Lt (.bin .Mod (.var 8) (.int 16)) (.int 8)) (.idx (.var 5) (.bin .Mod (.var 8) (.int 8))) (.bin .Add (.int 1) (.bin .Mod (.bin .FloorDiv (.var 4) (.bin .Pow (.int 65536) (.var 7))) (.int 65535)))))
      (.seq (.append 6 (.dictIdx [[48], [102], [120]] (.cons (.int 0) (.cons (.int 65535) (.cons (.var 9) .nil))) (.idx (.var 3) (.var 7))))
      .nil)))
noncomputable def bLawGroups : S :=
    (.seq (.assign 2 (.str [120, 48, 48, 120, 120, 48, 48, 120, 32, 48, 48, 48, 48, 48, 48, 120, 120, 32, 48, 48, 48, 48, 48, 102, 120, 120, 32, 120, 48, 120, 120, 120, 120, 120, 120, 32, 120, 120, 120, 120, 120, 120, 120, 120, 32, 48, 48, 48, 48, 48, 120, 120, 120, 32, 48, 48, 48, 48, 48, 48, 48, 120, 32, 48, 48, 48, 48, 48, 48, 48, 48, 32, 120, 48, 48, 48, 48, 48, 48, 120, 32, 120, 120, 48, 48, 48, 48, 48, 48, 32, 48, 48, 48, 120, 120, 48, 48, 48]))
      (.seq (.assign 3 (.idx (.me .split (.bin .Add (.var 2) (.str [32, 48, 120, 120, 120, 120, 120, 120, 48, 32, 48, 48, 120, 48, 48, 48, 120, 48, 32, 120, 48, 120, 48, 120, 48, 120, 48, 32, 48, 48, 48, 48, 48, 102, 48, 48, 32, 48, 48, 48, 48, 48, 48, 120, 48, 32, 120, 120, 120, 120, 120, 120, 48, 48, 32, 48, 48, 120, 120, 120, 120, 48, 48])) (.cons (.str [32]) .nil)) (.bin .Mod (.bin .Add (.var 0) (.var 1)) (.int 18))))
      (.seq (.assign 4 (.bin .FloorDiv (.var 0) (.int 18)))
      (.seq (.assign 5 (.list (.cons (.int 8193) (.cons (.int 3512) (.cons (.int 1) (.cons (.int 65535) (.cons (.int 160) (.cons (.int 4096) (.cons (.int 15) (.cons (.int 16) .nil))))))))))
      (.seq (.assign 6 (.list .nil))
      (.seq (.forS 7 .range (.cons (.int 8) .nil) lLawGroups1)
      (.seq (.retD 6)
      .nil)))))))
noncomputable def slLawGroups : List (Option Str) := [some (Str.ofString "number"), some (Str.ofString "k"), some (Str.ofString "shapes"), some (Str.ofString "shape"), some (Str.ofString "rest"), some (Str.ofString "marks"), some (Str.ofString "groups"), some (Str.ofString "j"), some (Str.ofString "value"), some (Str.ofString "drawn")]
noncomputable def psLawGroups : List Str := [Str.ofString "number", Str.ofString "k"]
noncomputable def dLawGroups : Option Nat := some 6
noncomputable def lLawBuilt1 : S :=
    (.seq (.ite (.cmp .Eq (.var 7) (.var 3)) (.seq (.assign 6 (.bin .Add (.var 6) (.str [58, 58])))
      .nil) (.seq (.ite (.cmp .Gt (.var 7) (.int 0)) (.seq (.assign 6 (.bin .Add (.var 6) (.str [58])))
      .nil) .nil)
      .nil))
      (.seq (.assign 6 (.bin .Add (.var 6) (.idx (.var 1) (.bin .Mod (.bin .Add (.bin .FloorDiv (.var 5) (.bin .Pow (.int 8) (.var 7))) (.var 7)) (.int 8)))))
      .nil))
noncomputable def bLawBuilt : S :=
    (.seq (.assign 1 (.list (.cons (.str [48]) (.cons (.str [49]) (.cons (.str [97, 48]) (.cons (.str [70, 70, 70, 70]) (.cons (.str [100, 66, 56]) (.cons (.str [48, 48, 48, 48]) (.cons (.str [69, 102, 49]) (.cons (.str [57]) .nil))))))))))
      (.seq (.assign 2 (.idx (.list (.cons (.str []) (.cons (.str []) (.cons (.str [49, 46, 50, 46, 51, 46, 52]) (.cons (.str [49, 57, 57, 46, 50, 53, 53, 46, 48, 46, 50, 53, 48]) (.cons (.str [49, 50, 51, 52, 53]) (.cons (.str [49, 46, 50, 46, 51, 46, 50, 53, 54]) (.cons (.str [103]) (.cons (.str []) .nil))))))))) (.bin .Mod (.bin .FloorDiv (.var 0) (.int 90)) (.int 8))))
      (.seq (.assign 3 (.bin .Mod (.var 0) (.int 10)))
      (.seq (.assign 4 (.bin .Mod (.bin .FloorDiv (.var 0) (.int 10)) (.int 9)))
      (.seq (.assign 5 (.bin .FloorDiv (.var 0) (.int 720)))
      (.seq (.assign 6 (.str []))
      (.seq (.forS 7 .range (.cons (.var 4) .nil) lLawBuilt1)
      (.seq (.ite (.cmp .Eq (.var 3) (.var 4)) (.seq (.assign 6 (.bin .Add (.var 6) (.str [58, 58])))
      .nil) .nil)
      (.seq (.ite (.boolE true (.cons (.cmp .NotEq (.var 2) (.str [])) (.cons (.cmp .NotEq (.var 6) (.str [])) (.cons (.cmp .NotEq (.slice (.var 6) (.int (-1)) .none) (.str [58])) .nil)))) (.seq (.assign 6 (.bin .Add (.var 6) (.str [58])))
      .nil) .nil)
      (.seq (.ret (.bin .Add (.var 6) (.var 2)))
      .nil))))))))))
noncomputable def slLawBuilt : List (Option Str) := [some (Str.ofString "number"), some (Str.ofString "words"), some (Str.ofString "tail"), some (Str.ofString "gap"), some (Str.ofString "many"), some (Str.ofString "rest"), some (Str.ofString "text"), some (Str.ofString "place")]
noncomputable def psLawBuilt : List Str := [Str.ofString "number"]
noncomputable def dLawBuilt : Option Nat := none
noncomputable def bLawChanged : S :=
    (.seq (.assign 2 (.idx (.list (.cons (.str []) (.cons (.str [58]) (.cons (.str [46]) (.cons (.str [48]) (.cons (.str [70]) (.cons (.str [53]) (.cons (.str [120]) .nil)))))))) (.bin .Mod (.var 1) (.int 7))))
      (.seq (.assign 3 (.bin .Mod (.bin .FloorDiv (.var 1) (.int 7)) (.bin .Add (.bi .len (.cons (.var 0) .nil)) (.int 1))))
      (.seq (.assign 4 (.ite (.cmp .Eq (.var 2) (.str [])) (.int 1) (.bin .Mod (.bin .FloorDiv (.bin .FloorDiv (.var 1) (.int 7)) (.bin .Add (.bi .len (.cons (.var 0) .nil)) (.int 1))) (.int 2))))
      (.seq (.ret (.bin .Add (.bin .Add (.slice (.var 0) .none (.var 3)) (.var 2)) (.slice (.var 0) (.bin .Add (.var 3) (.var 4)) .none)))
      .nil))))
noncomputable def slLawChanged : List (Option Str) := [some (Str.ofString "text"), some (Str.ofString "number"), some (Str.ofString "sign"), some (Str.ofString "at"), some (Str.ofString "skip")]
noncomputable def psLawChanged : List Str := [Str.ofString "text", Str.ofString "number"]
noncomputable def dLawChanged : Option Nat := none
noncomputable def bLawEdges6 : S :=
    (.seq (.assign 0 (.str [58, 58, 32, 58, 58, 58, 32, 49, 58, 58, 32, 58, 58, 49, 32, 49, 58, 50, 58, 51, 58, 52, 58, 53, 58, 54, 58, 55, 58, 56, 32, 49, 58, 50, 58, 51, 58, 52, 58, 53, 58, 54, 58, 55, 32, 49, 58, 50, 58, 51, 58, 52, 58, 53, 58, 54, 58, 55, 58, 58, 32, 58, 58, 50, 58, 51, 58, 52, 58, 53, 58, 54, 58, 55, 58, 56]))
      (.seq (.assign 0 (.bin .Add (.var 0) (.str [32, 49, 58, 58, 51, 58, 52, 58, 53, 58, 54, 58, 55, 58, 56, 32, 49, 58, 50, 58, 51, 58, 52, 58, 58, 53, 58, 54, 58, 55, 58, 56, 32, 49, 58, 58, 50, 58, 58, 51, 32, 58, 49, 58, 50, 58, 51, 58, 52, 58, 53, 58, 54, 58, 55, 32, 49, 58, 50, 58, 51, 58, 52, 58, 53, 58, 54, 58, 55, 58, 32, 58, 49, 58, 58, 50, 32, 49, 58, 58, 50, 58])))
      (.seq (.assign 0 (.bin .Add (.var 0) (.str [32, 58, 58, 102, 102, 102, 102, 58, 49, 46, 50, 46, 51, 46, 52, 32, 49, 58, 50, 58, 51, 58, 52, 58, 53, 58, 54, 58, 49, 46, 50, 46, 51, 46, 52, 32, 49, 58, 50, 58, 51, 58, 52, 58, 53, 58, 54, 58, 55, 58, 49, 46, 50, 46, 51, 46, 52, 32, 49, 58, 50, 58, 51, 58, 52, 58, 53, 58, 58, 49, 46, 50, 46, 51, 46, 52])))
      (.seq (.assign 0 (.bin .Add (.var 0) (.str [32, 49, 58, 50, 58, 51, 58, 52, 58, 53, 58, 54, 58, 58, 49, 46, 50, 46, 51, 46, 52, 32, 58, 58, 49, 46, 50, 46, 51, 46, 52, 58, 53, 32, 49, 46, 50, 46, 51, 46, 52, 58, 58, 32, 49, 46, 50, 46, 51, 46, 52, 32, 58, 58, 49, 46, 50, 46, 51, 32, 58, 58, 49, 46, 50, 46, 51, 46, 50, 53, 54, 32, 58, 58, 48, 49, 46, 50, 46, 51, 46, 52])))
      (.seq (.assign 0 (.bin .Add (.var 0) (.str [32, 49, 50, 51, 52, 53, 58, 58, 32, 58, 58, 103, 32, 58, 58, 65, 66, 67, 68, 58, 101, 102, 48, 49, 32, 58, 58, 48, 48, 48, 49, 32, 58, 58, 48, 48, 48, 48, 49, 32, 58, 32, 49, 32, 58, 58, 49, 47, 54, 52, 32, 58, 58, 49, 46, 50, 46, 51, 46, 52, 46, 53, 32, 49, 58, 50, 58, 51, 58, 52, 58, 53, 58, 54, 58, 55, 58, 56, 58, 57])))
      (.seq (.ret (.bin .Add (.me .split (.bin .Add (.var 0) (.str [32, 49, 58, 50, 58, 51, 58, 52, 58, 53, 58, 54, 58, 55, 58, 56, 58, 58, 57, 58, 58, 32, 49, 58, 58, 58, 50, 32, 58, 58, 48, 120, 49])) (.cons (.str [32]) .nil)) (.list (.cons (.str []) .nil))))
      .nil))))))
noncomputable def slLawEdges6 : List (Option Str) := [some (Str.ofString "text")]
noncomputable def psLawEdges6 : List Str := []
noncomputable def dLawEdges6 : Option Nat := none
noncomputable def bLawEdges4 : S :=
    (.seq (.assign 0 (.list (.cons (.str [49, 46, 50, 46, 51, 46, 52]) (.cons (.str [48, 46, 48, 46, 48, 46, 48]) (.cons (.str [50, 53, 53, 46, 50, 53, 53, 46, 50, 53, 53, 46, 50, 53, 53]) (.cons (.str [50, 53, 54, 46, 48, 46, 48, 46, 49]) (.cons (.str [49, 46, 50, 46, 51]) (.cons (.str [49, 46, 50, 46, 51, 46, 52, 46, 53]) (.cons (.str [48, 49, 46, 50, 46, 51, 46, 52]) (.cons (.str [49, 46, 46, 51, 46, 52]) .nil))))))))))
      (.seq (.assign 0 (.bin .Add (.var 0) (.list (.cons (.str [49, 46, 50, 46, 51, 46]) (.cons (.str [49, 46, 50, 46, 51, 46, 52, 120]) (.cons (.str [49, 48, 48, 48, 46, 48, 46, 48, 46, 49]) (.cons (.str [97, 46, 98, 46, 99, 46, 100]) (.cons (.str [48, 48, 46, 48, 46, 48, 46, 48]) (.cons (.str [49, 46, 50, 46, 51, 46, 45, 52]) (.cons (.str [49, 46, 50, 46, 51, 46, 43, 52]) (.cons (.str [49, 44, 50, 44, 51, 44, 52]) .nil)))))))))))
      (.seq (.ret (.bin .Add (.var 0) (.list (.cons (.str [50, 52, 57, 46, 57, 57, 46, 49, 48, 48, 46, 49, 48]) (.cons (.str [46, 49, 46, 50, 46, 51]) (.cons (.str [49, 46, 50, 46, 51, 46, 52, 32]) (.cons (.str []) .nil)))))))
      .nil)))
noncomputable def slLawEdges4 : List (Option Str) := [some (Str.ofString "words")]
noncomputable def psLawEdges4 : List Str := []
noncomputable def dLawEdges4 : Option Nat := none
noncomputable def bLawLengths : S :=
    (.seq (.assign 0 (.list (.cons (.str [47, 48]) (.cons (.str [47, 51, 50]) (.cons (.str [47, 50, 52]) (.cons (.str [47, 56]) (.cons (.str [47, 49]) (.cons (.str [47, 51, 49]) (.cons (.str [47, 51, 51]) (.cons (.str [47, 54, 52]) (.cons (.str [47, 49, 50, 55]) (.cons (.str [47, 49, 50, 56]) (.cons (.str [47, 49, 50, 57]) (.cons (.str [47]) (.cons (.str [47, 48, 56]) (.cons (.str [47, 45, 49]) (.cons (.str [47, 49, 47, 50]) .nil)))))))))))))))))
      (.seq (.ret (.bin .Add (.var 0) (.list (.cons (.str []) (.cons (.str [47, 32, 56]) (.cons (.str [47, 50, 53, 54]) .nil))))))
      .nil))
noncomputable def slLawLengths : List (Option Str) := [some (Str.ofString "words")]
noncomputable def psLawLengths : List Str := []
noncomputable def dLawLengths : Option Nat := none
noncomputable def bLawEdgesmac : S :=
    (.seq (.assign 0 (.list (.cons (.str [48, 58, 49, 58, 50, 58, 51, 58, 52, 58, 53]) (.cons (.str [48, 48, 58, 49, 98, 58, 50, 67, 58, 102, 70, 58, 65, 48, 58, 57, 97]) (.cons (.str [48, 58, 49, 58, 50, 58, 51, 58, 52]) (.cons (.str [48, 58, 49, 58, 50, 58, 51, 58, 52, 58, 53, 58, 54]) (.cons (.str [48, 58, 49, 58, 50, 58, 51, 58, 52, 58, 49, 48, 48]) .nil)))))))
      (.seq (.ret (.bin .Add (.var 0) (.list (.cons (.str [48, 58, 49, 58, 50, 58, 51, 58, 52, 58]) (.cons (.str [48, 58, 49, 58, 50, 58, 51, 58, 52, 58, 103]) (.cons (.str [48, 48, 49, 58, 50, 58, 51, 58, 52, 58, 53, 58, 54]) (.cons (.str []) (.cons (.str [48, 45, 49, 45, 50, 45, 51, 45, 52, 45, 53]) (.cons (.str [97, 58, 66, 58, 99, 58, 68, 58, 101, 58, 70]) (.cons (.str [58, 49, 58, 50, 58, 51, 58, 52, 58, 53]) .nil))))))))))
      .nil))
noncomputable def slLawEdgesmac : List (Option Str) := [some (Str.ofString "words")]
noncomputable def psLawEdgesmac : List Str := []
noncomputable def dLawEdgesmac : Option Nat := none
noncomputable def cLawIsWritten1 : E := (.comp (.bin .Mult (.idx (.var 2) (.var 5)) (.bin .Pow (.int 65536) (.bin .Sub (.int 7) (.var 5)))) 5 .range (.cons (.int 8) .nil) .nil)
noncomputable def lLawIsWritten1 : S :=
    (.seq (.assign 2 (.call 24 (.cons (.call 14 (.cons (.var 0) (.cons (.var 1) .nil))) (.cons (.var 1) .nil))))
      (.seq (.assign 3 (.bi .sum (.cons cLawIsWritten1 .nil)))
      (.seq (.assign 4 (.call 17 (.cons (.var 2) .nil)))
      (.seq (.ite (.boolE false (.cons (.cmp .NotEq (.call 9 (.cons (.var 3) .nil)) (.var 4)) (.cons (.cmp .NotEq (.call 7 (.cons (.var 4) .nil)) (.var 3)) .nil))) (.seq (.ret (.bool false))
      .nil) .nil)
      .nil))))
noncomputable def bLawIsWritten : S :=
    (.seq (.forS 1 .range (.cons (.int 3) .nil) lLawIsWritten1)
      (.seq (.assign 3 (.bin .Mod (.bin .Add (.call 14 (.cons (.var 0) (.cons (.int 3) .nil))) (.int 3221226239)) (.bin .Pow (.int 2) (.int 32))))
      (.seq (.assign 4 (.call 16 (.cons (.var 3) .nil)))
      (.seq (.ite (.boolE false (.cons (.cmp .NotEq (.call 5 (.cons (.var 3) .nil)) (.var 4)) (.cons (.cmp .NotEq (.call 4 (.cons (.var 4) .nil)) (.var 3)) .nil))) (.seq (.ret (.bool false))
      .nil) .nil)
      (.seq (.assign 3 (.bin .Mod (.bin .Add (.bin .Mult (.call 14 (.cons (.var 0) (.cons (.int 4) .nil))) (.int 257)) (.int 116703297696)) (.bin .Pow (.int 2) (.int 48))))
      (.seq (.assign 4 (.call 18 (.cons (.var 3) .nil)))
      (.seq (.ret (.boolE true (.cons (.cmp .Eq (.call 11 (.cons (.var 3) .nil)) (.var 4)) (.cons (.cmp .Eq (.call 10 (.cons (.var 4) .nil)) (.var 3)) .nil))))
      .nil)))))))
noncomputable def slLawIsWritten : List (Option Str) := [some (Str.ofString "script"), some (Str.ofString "k"), some (Str.ofString "groups"), some (Str.ofString "number"), some (Str.ofString "text"), none]
noncomputable def psLawIsWritten : List Str := [Str.ofString "script"]
noncomputable def dLawIsWritten : Option Nat := none
noncomputable def lLawIsRead61 : S :=
    (.seq (.ite (.cmp .NotEq (.call 7 (.cons (.var 3) .nil)) (.call 21 (.cons (.var 3) .nil))) (.seq (.ret (.bool false))
      .nil) .nil)
      .nil)
noncomputable def lLawIsRead62 : S :=
    (.seq (.append 1 (.idx (.var 4) (.bin .Mod (.bin .Add (.call 14 (.cons (.var 0) (.cons (.int 9) .nil))) (.bin .Mult (.int 5) (.var 2))) (.int 40))))
      .nil)
noncomputable def lLawIsRead63 : S :=
    (.seq (.assign 3 (.call 25 (.cons (.bin .Add (.call 14 (.cons (.var 0) (.cons (.bin .Add (.int 5) (.var 2)) .nil))) (.idx (.list (.cons (.int 222) (.cons (.int 89) .nil))) (.var 2))) .nil)))
      (.seq (.assign 1 (.bin .Add (.var 1) (.list (.cons (.var 3) (.cons (.call 26 (.cons (.var 3) (.cons (.bin .Add (.call 14 (.cons (.var 0) (.cons (.bin .Add (.int 7) (.var 2)) .nil))) (.bin .Mult (.int 61) (.var 2))) .nil))) .nil)))))
      .nil))
noncomputable def bLawIsRead6 : S :=
    (.seq (.assign 1 (.list .nil))
      (.seq (.forS 2 .range (.cons (.int 2) .nil) lLawIsRead63)
      (.seq (.assign 4 (.call 27 .nil))
      (.seq (.forS 2 .range (.cons (.int 8) .nil) lLawIsRead62)
      (.freeze (.seq (.forS 3 .val (.cons (.var 1) .nil) lLawIsRead61)
      (.seq (.ret (.bool true))
      .nil)))))))
noncomputable def slLawIsRead6 : List (Option Str) := [some (Str.ofString "script"), some (Str.ofString "texts"), some (Str.ofString "k"), some (Str.ofString "text"), some (Str.ofString "edges")]
noncomputable def psLawIsRead6 : List Str := [Str.ofString "script"]
noncomputable def dLawIsRead6 : Option Nat := some 1
noncomputable def lLawIsRead41 : S :=
    (.seq (.ite (.cmp .NotEq (.call 13 (.cons (.var 6) .nil)) (.call 23 (.cons (.var 6) .nil))) (.seq (.ret (.bool false))
      .nil) .nil)
      .nil)
noncomputable def lLawIsRead42 : S :=
    (.seq (.assign 5 (.idx (.call 28 .nil) (.bin .Mod (.bin .Add (.var 1) (.bin .Mult (.int 5) (.var 4))) (.int 20))))
      (.seq (.ite (.cmp .NotEq (.call 4 (.cons (.var 5) .nil)) (.call 19 (.cons (.var 5) .nil))) (.seq (.ret (.bool false))
      .nil) .nil)
      (.seq (.forS 6 .val (.cons (.list (.cons (.bin .Add (.var 5) (.idx (.var 2) (.bin .Mod (.bin .Add (.var 1) (.bin .Mult (.int 7) (.var 4))) (.int 18)))) (.cons (.bin .Add (.var 3) (.idx (.var 2) (.bin .Mod (.bin .Add (.bin .Add (.var 1) (.bin .Mult (.int 7) (.var 4))) (.int 9)) (.int 18)))) .nil))) .nil) lLawIsRead41)
      .nil)))
noncomputable def bLawIsRead4 : S :=
    (.seq (.assign 1 (.call 14 (.cons (.var 0) (.cons (.int 10) .nil))))
      (.seq (.assign 2 (.call 29 .nil))
      (.seq (.assign 3 (.call 17 (.cons (.call 24 (.cons (.bin .FloorDiv (.var 1) (.int 18)) (.cons (.int 0) .nil))) .nil)))
      (.seq (.forS 4 .range (.cons (.int 4) .nil) lLawIsRead42)
      (.seq (.ret (.bool true))
      .nil)))))
noncomputable def slLawIsRead4 : List (Option Str) := [some (Str.ofString "script"), some (Str.ofString "first"), some (Str.ofString "lengths"), some (Str.ofString "six"), some (Str.ofString "k"), some (Str.ofString "text"), some (Str.ofString "word")]
noncomputable def psLawIsRead4 : List Str := [Str.ofString "script"]
noncomputable def dLawIsRead4 : Option Nat := none
noncomputable def lLaw1 : S :=
    (.seq (.assign 2 (.idx (.call 30 .nil) (.bin .Mod (.bin .Add (.call 14 (.cons (.var 0) (.cons (.int 11) .nil))) (.bin .Mult (.int 3) (.var 1))) (.int 12))))
      (.seq (.ite (.cmp .NotEq (.call 10 (.cons (.var 2) .nil)) (.call 22 (.cons (.var 2) .nil))) (.seq (.ret (.bool false))
      .nil) .nil)
      .nil))
noncomputable def bLaw : S :=
    (.seq (.ite (.boolE false (.cons (.notE (.call 31 (.cons (.var 0) .nil))) (.cons (.notE (.call 32 (.cons (.var 0) .nil))) (.cons (.notE (.call 33 (.cons (.var 0) .nil))) .nil)))) (.seq (.ret (.bool false))
      .nil) .nil)
      (.seq (.forS 1 .range (.cons (.int 4) .nil) lLaw1)
      (.seq (.ret (.bool true))
      .nil)))
noncomputable def slLaw : List (Option Str) := [some (Str.ofString "script"), some (Str.ofString "k"), some (Str.ofString "text")]
noncomputable def psLaw : List Str := [Str.ofString "script"]
noncomputable def dLaw : Option Nat := none
noncomputable def plainArgs (a : Arguments) (ps : List Str) : Bool :=
  a.posonlyargs.isEmpty && (a.args.map (·.arg) == ps) && a.vararg.isNone && a.kwonlyargs.isEmpty && a.kw_defaults.isEmpty && a.kwarg.isNone
end Mine
end
section
open PySem PySem.Calls
set_option maxRecDepth 100000
namespace Mine

noncomputable abbrev L := List Nat
noncomputable def optI : Option Nat → PV
  | some n => .a (.int n)
  | none => .a .none
noncomputable def S1 (l : L) : PV := .a (.str l)
noncomputable def I1 (n : Nat) : PV := .a (.int n)

noncomputable def run (Φ : Nat → List PV → Option PV) (k : Nat) (st : S) (args : List PV) : Option PV :=
  (ex Φ st (initS k args)).bind fun p => match p.1 with | .ret v => some v | .next => none
theorem run_ex {Φ : Nat → List PV → Option PV} {k : Nat} {st : S} {args : List PV} {r : PV} (h : run Φ k st args = some r) : ∃ ρ', ex Φ st (initS k args) = some (.ret r, ρ') := by
  unfold run at h
  rw [Option.bind_eq_some_iff] at h
  obtain ⟨⟨fl, ρ⟩, h1, h2⟩ := h
  cases fl with
  | next => cases h2
  | ret v => cases h2; exact ⟨ρ, h1⟩

noncomputable def foldR {σ α : Type} (g : σ → α → Option (σ ⊕ PV)) : σ → List α → Option (σ ⊕ PV)
  | s, [] => some (.inl s)
  | s, a :: r => (g s a).bind fun x => match x with
    | .inl s' => foldR g s' r
    | .inr v => some (.inr v)
theorem foldR_total {σ α : Type} {g : σ → α → Option (σ ⊕ PV)} (h : ∀ s a, ∃ x, g s a = some x) : ∀ (l : List α) (s : σ), ∃ x, foldR g s l = some x
  | [], s => ⟨_, rfl⟩
  | a :: r, s => by
    obtain ⟨x, hx⟩ := h s a
    simp only [foldR, hx, Option.bind_some]
    cases x with
    | inl s' => exact foldR_total h r s'
    | inr v => exact ⟨_, rfl⟩
theorem foldR_inr {σ α : Type} {g : σ → α → Option (σ ⊕ PV)} {w : PV} (h : ∀ s a v, g s a = some (.inr v) → v = w) : ∀ (l : List α) (s : σ) (v : PV), foldR g s l = some (.inr v) → v = w
  | [], s, v, e => by cases e
  | a :: r, s, v, e => by
    simp only [foldR, Option.bind_eq_some_iff] at e
    obtain ⟨x, hx, e⟩ := e
    cases x with
    | inl s' => exact foldR_inr h r s' v e
    | inr u => cases e; exact h s a _ hx
noncomputable def outR {σ : Type} (x : σ ⊕ PV) (ρ : Store) : Fl × Store := match x with
  | .inl _ => (.next, ρ)
  | .inr v => (.ret v, ρ)
noncomputable def okR {σ : Type} (R : σ → Store → Prop) (x : σ ⊕ PV) (ρ : Store) : Prop := match x with
  | .inl s => R s ρ
  | .inr _ => True
theorem forGo_R {σ α : Type} {R : σ → Store → Prop} {enc : α → At} {body : At → Store → Option (Fl × Store)} {g : σ → α → Option (σ ⊕ PV)}
    (hs : ∀ s ρ a x, R s ρ → g s a = some x → ∃ ρ', body (enc a) ρ = some (outR x ρ') ∧ okR R x ρ') :
    ∀ (items : List α) (s : σ) (ρ : Store) (x : σ ⊕ PV), R s ρ → foldR g s items = some x → ∃ ρ', forGo body (items.map enc) ρ = some (outR x ρ') ∧ okR R x ρ'
  | [], s, ρ, x, h, e => by cases e; exact ⟨ρ, rfl, h⟩
  | a :: r, s, ρ, x, h, e => by
    simp only [foldR, Option.bind_eq_some_iff] at e
    obtain ⟨y, hy, e⟩ := e
    obtain ⟨ρ', h1, h2⟩ := hs s ρ a y h hy
    cases y with
    | inl s' =>
      obtain ⟨ρ'', h3, h4⟩ := forGo_R hs r s' ρ' x h2 e
      refine ⟨ρ'', ?_, h4⟩
      simp only [List.map_cons, forGo, h1, Option.bind_some, outR]
      exact h3
    | inr v =>
      cases e
      exact ⟨ρ', by simp only [List.map_cons, forGo, h1, Option.bind_some, outR], trivial⟩
noncomputable def foldRi {σ α : Type} (g : σ → Nat → α → Option (σ ⊕ PV)) : Nat → σ → List α → Option (σ ⊕ PV)
  | _, s, [] => some (.inl s)
  | k, s, a :: r => (g s k a).bind fun x => match x with
    | .inl s' => foldRi g (k + 1) s' r
    | .inr v => some (.inr v)
theorem enumGo_R {σ α : Type} {R : σ → Store → Prop} {enc : α → At} {body : Int → At → Store → Option (Fl × Store)} {g : σ → Nat → α → Option (σ ⊕ PV)}
    (hs : ∀ s ρ (k : Nat) a x, R s ρ → g s k a = some x → ∃ ρ', body (k : Int) (enc a) ρ = some (outR x ρ') ∧ okR R x ρ') :
    ∀ (items : List α) (k : Nat) (s : σ) (ρ : Store) (x : σ ⊕ PV), R s ρ → foldRi g k s items = some x → ∃ ρ', enumGo body (k : Int) (items.map enc) ρ = some (outR x ρ') ∧ okR R x ρ'
  | [], k, s, ρ, x, h, e => by cases e; exact ⟨ρ, rfl, h⟩
  | a :: r, k, s, ρ, x, h, e => by
    simp only [foldRi, Option.bind_eq_some_iff] at e
    obtain ⟨y, hy, e⟩ := e
    obtain ⟨ρ', h1, h2⟩ := hs s ρ k a y h hy
    cases y with
    | inl s' =>
      obtain ⟨ρ'', h3, h4⟩ := enumGo_R hs r (k + 1) s' ρ' x h2 e
      refine ⟨ρ'', ?_, h4⟩
      simp only [List.map_cons, enumGo, h1, Option.bind_some, outR]
      exact h3
    | inr v =>
      cases e
      exact ⟨ρ', by simp only [List.map_cons, enumGo, h1, Option.bind_some, outR], trivial⟩
noncomputable def foldO {σ α : Type} (f : σ → α → Option σ) : σ → List α → Option σ
  | s, [] => some s
  | s, a :: r => (f s a).bind fun s' => foldO f s' r
noncomputable def outO {σ : Type} (w : PV) (o : Option σ) (ρ : Store) : Fl × Store := match o with
  | some _ => (.next, ρ)
  | none => (.ret w, ρ)
noncomputable def okO' {σ : Type} (R : σ → Store → Prop) (o : Option σ) (ρ : Store) : Prop := match o with
  | some s => R s ρ
  | none => True
theorem forGo_O {σ α : Type} {R : σ → Store → Prop} {enc : α → At} {body : At → Store → Option (Fl × Store)} {f : σ → α → Option σ} (w : PV) :
    ∀ (items : List α) (s : σ) (ρ : Store), (∀ s ρ a, a ∈ items → R s ρ → ∃ ρ', body (enc a) ρ = some (outO w (f s a) ρ') ∧ okO' R (f s a) ρ') → R s ρ →
      ∃ ρ', forGo body (items.map enc) ρ = some (outO w (foldO f s items) ρ') ∧ okO' R (foldO f s items) ρ'
  | [], s, ρ, _, h => ⟨ρ, rfl, h⟩
  | a :: r, s, ρ, hs, h => by
    obtain ⟨ρ', h1, h2⟩ := hs s ρ a (by simp) h
    simp only [List.map_cons, forGo, h1, Option.bind_some, foldO]
    cases hf : f s a with
    | none => exact ⟨ρ', rfl, trivial⟩
    | some s' =>
      rw [hf] at h2
      exact forGo_O w r s' ρ' (fun s ρ b hb => hs s ρ b (by simp [hb])) h2
noncomputable def foldOi {σ α : Type} (f : σ → Nat → α → Option σ) : Nat → σ → List α → Option σ
  | _, s, [] => some s
  | k, s, a :: r => (f s k a).bind fun s' => foldOi f (k + 1) s' r
theorem enumGo_O {σ α : Type} {R : σ → Store → Prop} {enc : α → At} {body : Int → At → Store → Option (Fl × Store)} {f : σ → Nat → α → Option σ} (w : PV) :
    ∀ (items : List α) (k : Nat) (s : σ) (ρ : Store), (∀ s ρ (k : Nat) a, a ∈ items → R s ρ → ∃ ρ', body (k : Int) (enc a) ρ = some (outO w (f s k a) ρ') ∧ okO' R (f s k a) ρ') → R s ρ →
      ∃ ρ', enumGo body (k : Int) (items.map enc) ρ = some (outO w (foldOi f k s items) ρ') ∧ okO' R (foldOi f k s items) ρ'
  | [], k, s, ρ, _, h => ⟨ρ, rfl, h⟩
  | a :: r, k, s, ρ, hs, h => by
    obtain ⟨ρ', h1, h2⟩ := hs s ρ k a (by simp) h
    simp only [List.map_cons, enumGo, h1, Option.bind_some, foldOi]
    cases hf : f s k a with
    | none => exact ⟨ρ', rfl, trivial⟩
    | some s' =>
      rw [hf] at h2
      exact enumGo_O w r (k + 1) s' ρ' (fun s ρ k b hb => hs s ρ k b (by simp [hb])) h2
theorem compGo_map {α : Type} {enc : α → At} {tst : At → Option Bool} {elt : At → Option At} {f : α → At} : ∀ {items : List α}, (∀ a ∈ items, tst (enc a) = some true) → (∀ a ∈ items, elt (enc a) = some (f a)) → compGo tst elt (items.map enc) = some (items.map f)
  | [], _, _ => rfl
  | a :: r, ht, h => by
    simp only [List.map_cons, compGo, ht a (by simp), Option.bind_some, if_true, h a (by simp)]
    rw [compGo_map (fun b hb => ht b (by simp [hb])) (fun b hb => h b (by simp [hb]))]
    rfl
theorem compGo_filter {α : Type} {enc : α → At} {tst : At → Option Bool} {elt : At → Option At} {f : α → At} {p : α → Bool} : ∀ {items : List α}, (∀ a ∈ items, tst (enc a) = some (p a)) → (∀ a ∈ items, elt (enc a) = some (f a)) → compGo tst elt (items.map enc) = some ((items.filter p).map f)
  | [], _, _ => rfl
  | a :: r, ht, h => by
    simp only [List.map_cons, compGo, ht a (by simp), Option.bind_some]
    have ih := compGo_filter (p := p) (f := f) (fun b hb => ht b (List.mem_cons_of_mem a hb)) (fun b hb => h b (List.mem_cons_of_mem a hb))
    rw [ih, h a (by simp), List.filter_cons]
    cases p a <;> rfl

theorem ev_comp_map {α : Type} {Φ : Nat → List PV → Option PV} {elt it : E} {x : Nat} {k : IK} {ρ : Store} {vs : List PV} (enc f : α → At) (items : List α) (hi : evs Φ it ρ = some vs) (hk : iterItems k vs = some (items.map enc))
    (he : ∀ a ∈ items, ev Φ elt (set ρ x (.a (enc a))) = some (.a (f a))) : ev Φ (.comp elt x k it .nil) ρ = some (.list (items.map f)) := by
  show (evs Φ it ρ).bind _ = _
  rw [hi]
  show (iterItems k vs).bind _ = _
  rw [hk]
  exact congrArg (Option.map PV.list) (compGo_map (f := f) (fun a _ => rfl) (fun a ha => by rw [he a ha]; rfl))
theorem ev_comp_filter {α : Type} {Φ : Nat → List PV → Option PV} {elt it test : E} {x : Nat} {k : IK} {ρ : Store} {vs : List PV} (enc f : α → At) (p : α → Bool) (items : List α) (hi : evs Φ it ρ = some vs) (hk : iterItems k vs = some (items.map enc))
    (hn : test.isNil = false) (ht : ∀ a ∈ items, ev Φ test (set ρ x (.a (enc a))) = some (.a (.bool (p a)))) (he : ∀ a ∈ items, ev Φ elt (set ρ x (.a (enc a))) = some (.a (f a))) : ev Φ (.comp elt x k it test) ρ = some (.list ((items.filter p).map f)) := by
  show (evs Φ it ρ).bind _ = _
  rw [hi]
  show (iterItems k vs).bind _ = _
  rw [hk]
  show (compGo _ _ (items.map enc)).map _ = _
  rw [compGo_filter (f := f) (p := p) (fun a ha => by rw [hn, if_neg (by decide), ht a ha]; rfl) (fun a ha => by rw [he a ha]; rfl)]
  rfl

theorem pInt_i (i : Int) : pInt (.a (.int i)) = some i := rfl
theorem pStr_s (l : L) : pStr (.a (.str l)) = some l := rfl
theorem pList_l (l : List At) : pList (.list l) = some l := rfl
theorem atom_a (x : At) : atom (.a x) = some x := rfl
theorem pTup_t (x y : At) : pTup (.tup [x, y]) = some (x, y) := rfl
theorem ex_setItem {Φ : Nat → List PV → Option PV} {x : Nat} {i e : E} {ρ : Store} {k : Int} {a : At} {xs : List At} (he : ev Φ e ρ = some (.a a)) (hi : ev Φ i ρ = some (.a (.int k))) (hl : get ρ x = some (.list xs)) (h : 0 ≤ k ∧ k < xs.length) :
    ex Φ (.setItem x i e) ρ = some (.next, set ρ x (.list (xs.set k.toNat a))) := by
  show (ev Φ e ρ).bind _ = _
  rw [he]
  show (ev Φ i ρ).bind _ = _
  rw [hi]
  show (get ρ x).bind _ = _
  rw [hl]
  exact if_pos h
theorem ex_append {Φ : Nat → List PV → Option PV} {x : Nat} {e : E} {ρ : Store} {a : At} {xs : List At} (he : ev Φ e ρ = some (.a a)) (hl : get ρ x = some (.list xs)) (h : xs.length < sizeLine) : ex Φ (.append x e) ρ = some (.next, set ρ x (.list (xs ++ [a]))) := by
  show (ev Φ e ρ).bind _ = _
  rw [he]
  show (get ρ x).bind _ = _
  rw [hl]
  exact if_pos h
theorem isAt_a (x : At) : isAt (.a x) = true := rfl
theorem it_str (l : L) : iterItems .val [.a (.str l)] = some (l.map fun c => .str [c]) := rfl
theorem it_list (l : List At) : iterItems .val [.list l] = some l := rfl
theorem it_tup (l : List At) : iterItems .val [.tup l] = some l := rfl
theorem c_eq_str (a b : L) : cmpop .Eq (.a (.str a)) (.a (.str b)) = some (decide (a = b)) := rfl
theorem c_ne_str (a b : L) : cmpop .NotEq (.a (.str a)) (.a (.str b)) = some (!decide (a = b)) := rfl
theorem c_eq_int (a b : Int) : cmpop .Eq (.a (.int a)) (.a (.int b)) = some (decide (a = b)) := congrArg some (decide_eq_decide.mpr ⟨fun h => At.int.inj (PV.a.inj h), fun h => congrArg (fun z => PV.a (.int z)) h⟩)
theorem c_ne_int (a b : Int) : cmpop .NotEq (.a (.int a)) (.a (.int b)) = some (!decide (a = b)) := congrArg (Option.map fun b => !b) (c_eq_int a b)
theorem c_lt (a b : Int) : cmpop .Lt (.a (.int a)) (.a (.int b)) = some (decide (a < b)) := rfl
theorem c_le (a b : Int) : cmpop .LtE (.a (.int a)) (.a (.int b)) = some (decide (a ≤ b)) := rfl
theorem c_gt (a b : Int) : cmpop .Gt (.a (.int a)) (.a (.int b)) = some (decide (b < a)) := rfl
theorem c_ge (a b : Int) : cmpop .GtE (.a (.int a)) (.a (.int b)) = some (decide (b ≤ a)) := rfl
theorem c_le_one (a b : Nat) : cmpop .LtE (.a (.str [a])) (.a (.str [b])) = some (decide (a ≤ b)) := by
  show some (!decide ([b] < [a])) = _
  congr 1
  have e : ([b] < [a]) ↔ b < a := by
    rw [List.cons_lt_cons_iff]
    exact ⟨fun h => h.elim id fun h => absurd h.2 (List.not_lt_nil _), .inl⟩
  rw [decide_eq_decide.mpr e, ← decide_not]
  exact decide_eq_decide.mpr Nat.not_lt
theorem c_is_none : cmpop .Is (.a .none) (.a .none) = some true := rfl
theorem c_is_int (a : Int) : cmpop .Is (.a (.int a)) (.a .none) = some false := rfl
theorem c_is_list (a : List At) : cmpop .Is (.list a) (.a .none) = some false := rfl
theorem c_in_str (c : Nat) (x : L) : cmpop .In (.a (.str [c])) (.a (.str x)) = some (decide (c ∈ x)) := rfl
theorem b_add (a b : Int) : binop .Add (.a (.int a)) (.a (.int b)) = some (.a (.int (a + b))) := rfl
theorem b_sub (a b : Int) : binop .Sub (.a (.int a)) (.a (.int b)) = some (.a (.int (a - b))) := rfl
theorem b_mulR (a : Int) (b : Int) (h : b.natAbs < 2 ^ 64) : binop .Mult (.a (.int a)) (.a (.int b)) = some (.a (.int (a * b))) := by
  show (if _ then _ else _) = _
  rw [if_pos (.inr (.inl h))]
theorem b_mulL (a : Int) (b : Int) (h : a.natAbs < 2 ^ 64) : binop .Mult (.a (.int a)) (.a (.int b)) = some (.a (.int (a * b))) := by
  show (if _ then _ else _) = _
  rw [if_pos (.inl h)]
theorem b_div (a b : Int) (h : 0 < b) (h' : b < 2 ^ 200) : binop .FloorDiv (.a (.int a)) (.a (.int b)) = some (.a (.int (a / b))) := by
  show (if _ then _ else _) = _
  rw [if_pos ⟨h, h'⟩]
theorem b_mod (a b : Int) (h : 0 < b) : binop .Mod (.a (.int a)) (.a (.int b)) = some (.a (.int (a % b))) := by
  show (if _ then _ else _) = _
  rw [if_pos h]
theorem b_cat (a b : L) (h : a.length + b.length ≤ sizeLine) : binop .Add (.a (.str a)) (.a (.str b)) = some (.a (.str (a ++ b))) := by
  show (if _ then _ else _) = _
  rw [if_pos h]
theorem b_app (a b : List At) (h : a.length + b.length ≤ sizeLine) : binop .Add (.list a) (.list b) = some (.list (a ++ b)) := by
  show (if _ then _ else _) = _
  rw [if_pos h]
theorem f_len (l : L) : bi .len [.a (.str l)] = some (.a (.int l.length)) := rfl
theorem f_lenL (l : List At) : bi .len [.list l] = some (.a (.int l.length)) := rfl
theorem f_ord (c : Nat) : bi .ord [.a (.str [c])] = some (.a (.int c)) := rfl
theorem f_str (i : Int) (h : i.natAbs < 2 ^ 64) (h' : (textInt i).length ≤ sizeLine) : bi .str [.a (.int i)] = some (.a (.str (textInt i))) := by
  show (if _ then _ else _) = _
  rw [if_pos ⟨h, h'⟩]
theorem m_find (l : L) (c : Nat) : me .find (.a (.str l)) [.a (.str [c])] = some (.a (.int (findC c l))) := rfl
theorem t_b (b : Bool) : truth (.a (.bool b)) = some b := rfl
theorem e_str (Φ : Nat → List PV → Option PV) (ρ : Store) (l : L) (h : l.length ≤ 1000) : ev Φ (.str l) ρ = some (.a (.str l)) := by
  exact if_pos (by rw [sizeLine_eq]; exact Nat.le_trans h (by decide))
theorem i_str (l : L) (i : Int) (h : 0 ≤ i) : index (.a (.str l)) (.a (.int i)) = (l[i.toNat]?).map fun c => .a (.str [c]) := by
  show (if 0 ≤ i then _ else none) = _
  rw [if_pos h]; rfl
theorem i_list (l : List At) (i : Int) (h : 0 ≤ i) : index (.list l) (.a (.int i)) = (l[i.toNat]?).map .a := by
  show (if 0 ≤ i then _ else none) = _
  rw [if_pos h]
end Mine
end
section
open PySem PySem.Calls
set_option maxRecDepth 100000
namespace Mine
noncomputable def fin {β : Type} (k : Store → Option β) (r : PV → Store → Option β) (p : Fl × Store) : Option β := match p.1 with
  | .next => k p.2
  | .ret v => r v p.2
@[irreducible] noncomputable def bK {α β : Type} (tk : Bool) (o : Option α) (k : α → Option β) : Option β := match tk with
  | true => o.bind k
  | false => o.bind k
theorem bK_eq {α β : Type} {tk : Bool} (o : Option α) (k : α → Option β) : bK tk o k = o.bind k := by unfold bK; cases tk <;> rfl
noncomputable def oK {α β : Type} (tk b : Bool) (o : Option α) (k : α → Option β) : Option β := match b with
  | true => o.bind k
  | false => bK tk o k
theorem oK_eq {α β : Type} {tk : Bool} (b : Bool) (o : Option α) (k : α → Option β) : oK tk b o k = o.bind k := by
  cases b
  · exact bK_eq o k
  · rfl
noncomputable def autoO : Operator → Bool
  | .Add => true
  | .Sub => true
  | _ => false
noncomputable def autoB : BI → Bool
  | .len => true
  | .ord => true
  | _ => false
mutual
noncomputable def evK {β : Type} (tk : Bool) (Φ : Nat → List PV → Option PV) : E → Store → (PV → Option β) → Option β
  | .none, _, k => k (.a .none)
  | .bool b, _, k => k (.a (.bool b))
  | .int i, _, k => k (.a (.int i))
  | .str l, _, k => k (.a (.str l))
  | .var i, ρ, k => (get ρ i).bind k
  | .bin op l r, ρ, k => evK tk Φ l ρ fun a => evK tk Φ r ρ fun b => oK tk (autoO op) (binop op a b) k
  | .notE x, ρ, k => evK tk Φ x ρ fun v => (truth v).bind fun b => k (.a (.bool (!b)))
  | .cmp op l r, ρ, k => evK tk Φ l ρ fun a => evK tk Φ r ρ fun b => (cmpop op a b).bind fun c => k (.a (.bool c))
  | .cmp2 o1 o2 a b c, ρ, k => evK tk Φ a ρ fun x => evK tk Φ b ρ fun y => (cmpop o1 x y).bind fun r => if r then evK tk Φ c ρ fun z => (cmpop o2 y z).bind fun q => k (.a (.bool q)) else k (.a (.bool false))
  | .boolE isAnd args, ρ, k => evbK tk Φ isAnd args ρ fun b => k (.a (.bool b))
  | .ite c a b, ρ, k => evK tk Φ c ρ fun v => (truth v).bind fun t => if t then evK tk Φ a ρ k else evK tk Φ b ρ k
  | .call f args, ρ, k => evsK tk Φ args ρ fun vs => bK tk (Φ f vs) k
  | .bi f args, ρ, k => evsK tk Φ args ρ fun vs => oK tk (autoB f) (bi f vs) k
  | .me m o args, ρ, k => evK tk Φ o ρ fun x => evsK tk Φ args ρ fun vs => bK tk (me m x vs) k
  | .idx o i, ρ, k => evK tk Φ o ρ fun x => evK tk Φ i ρ fun y => bK tk (index x y) k
  | .slice o lo hi, ρ, k => evK tk Φ o ρ fun x => (part (ev Φ lo ρ)).bind fun a => (part (ev Φ hi ρ)).bind fun b => bK tk (sliceV x a b) k
  | .list args, ρ, k => evsK tk Φ args ρ fun vs => bK tk (if vs.length ≤ sizeLine then (atoms vs).map .list else none) k
  | .tup args, ρ, k => evsK tk Φ args ρ fun vs => bK tk (if vs.length ≤ sizeLine then (atoms vs).map .tup else none) k
  | .comp elt x kd it test, ρ, k => bK tk (ev Φ (.comp elt x kd it test) ρ) k
  | .dictIdx keys vals i, ρ, k => bK tk (ev Φ (.dictIdx keys vals i) ρ) k
  | .nil, _, _ => none
  | .cons _ _, _, _ => none
termination_by structural e => e
noncomputable def evsK {β : Type} (tk : Bool) (Φ : Nat → List PV → Option PV) : E → Store → (List PV → Option β) → Option β
  | .nil, _, k => k []
  | .cons h t, ρ, k => evK tk Φ h ρ fun v => evsK tk Φ t ρ fun vs => k (v :: vs)
  | _, _, _ => none
termination_by structural e => e
noncomputable def evbK {β : Type} (tk : Bool) (Φ : Nat → List PV → Option PV) (isAnd : Bool) : E → Store → (Bool → Option β) → Option β
  | .nil, _, k => k isAnd
  | .cons h t, ρ, k => evK tk Φ h ρ fun v => (truth v).bind fun b => if b = isAnd then evbK tk Φ isAnd t ρ k else k (!isAnd)
  | _, _, _ => none
termination_by structural e => e
end
noncomputable def strOk : E → Bool
  | .str l => decide (l.length ≤ 1000)
  | .bin _ l r => strOk l && strOk r
  | .notE x => strOk x
  | .cmp _ l r => strOk l && strOk r
  | .cmp2 _ _ a b c => strOk a && strOk b && strOk c
  | .boolE _ args => strOk args
  | .ite c a b => strOk c && strOk a && strOk b
  | .call _ args => strOk args
  | .bi _ args => strOk args
  | .me _ o args => strOk o && strOk args
  | .idx o i => strOk o && strOk i
  | .slice o _ _ => strOk o
  | .cons h t => strOk h && strOk t
  | .list args => strOk args
  | .tup args => strOk args
  | _ => true
noncomputable def exK {β : Type} (tk : Bool) (Φ : Nat → List PV → Option PV) : S → Store → (Store → Option β) → (PV → Store → Option β) → Option β
  | .nil, ρ, k, _ => k ρ
  | .seq h t, ρ, k, r => exK tk Φ h ρ (fun ρ => exK tk Φ t ρ k r) r
  | .assign i e, ρ, k, _ => evK tk Φ e ρ fun v => k (set ρ i v)
  | .assign2 i j e, ρ, k, _ => evK tk Φ e ρ fun v => (pTup v).bind fun q => k (set (set ρ i (.a q.1)) j (.a q.2))
  | .ret e, ρ, _, r => evK tk Φ e ρ fun v => if fresh e || isAt v then r v ρ else none
  | .retD i, ρ, _, r => (get ρ i).bind fun v => r v ρ
  | .freeze t, ρ, _, r => exK tk Φ t ρ (fun _ => none) r
  | .ite c t f, ρ, k, r => evK tk Φ c ρ fun v => (truth v).bind fun b => if b then exK tk Φ t ρ k r else exK tk Φ f ρ k r
  | .forS x kd it body, ρ, k, r => evsK tk Φ it ρ fun vs => (iterItems kd vs).bind fun items => bK tk (forGo (fun a ρ => ex Φ body (set ρ x (.a a))) items ρ) (fin k r)
  | .forEnum i x it body, ρ, k, r => evK tk Φ it ρ fun v => (pList v).bind fun xs => bK tk (enumGo (fun k a ρ => ex Φ body (set (set ρ i (.a (.int k))) x (.a a))) 0 xs ρ) (fin k r)
  | .whileS n c body, ρ, k, r => bK tk (whileGo (fun ρ => (ev Φ c ρ).bind truth) (fun ρ => ex Φ body ρ) n ρ) (fin k r)
  | .append x e, ρ, k, r => evK tk Φ e ρ fun v => (get ρ x).bind fun l => (pList l).bind fun xs => (atom v).bind fun a => if xs.length < sizeLine then k (set ρ x (.list (xs ++ [a]))) else none
  | .setItem x i e, ρ, k, r => evK tk Φ e ρ fun v => evK tk Φ i ρ fun q => (get ρ x).bind fun l => (pList l).bind fun xs => (pInt q).bind fun q => (atom v).bind fun a => if 0 ≤ q ∧ q < xs.length then k (set ρ x (.list (xs.set q.toNat a))) else none
  | .raiseS, _, _, _ => none
termination_by structural s => s
noncomputable def strOkS : S → Bool
  | .seq h t => strOkS h && strOkS t
  | .assign _ e => strOk e
  | .assign2 _ _ e => strOk e
  | .ret e => strOk e
  | .freeze t => strOkS t
  | .ite c t f => strOk c && strOkS t && strOkS f
  | .forS _ _ it _ => strOk it
  | .forEnum _ _ it _ => strOk it
  | .append _ e => strOk e
  | .setItem _ i e => strOk i && strOk e
  | _ => true
theorem cb {α β γ : Type} {o : Option α} {g : α → Option γ} {k : γ → Option β} {F : α → Option β} (h : ∀ a, F a = (g a).bind k) : o.bind F = (o.bind g).bind k := by
  cases o with
  | none => rfl
  | some a => exact h a
theorem cm {α β γ : Type} {o : Option α} {f : α → γ} {k : γ → Option β} {F : α → Option β} (h : ∀ a, F a = k (f a)) : o.bind F = (o.map f).bind k := by
  cases o with
  | none => rfl
  | some a => exact h a
theorem ci {β γ : Type} {c : Prop} [Decidable c] {a b : Option γ} {k : γ → Option β} {x y : Option β} (h1 : x = a.bind k) (h2 : y = b.bind k) : (if c then x else y) = (if c then a else b).bind k := by
  by_cases h : c
  · rw [if_pos h, if_pos h]; exact h1
  · rw [if_neg h, if_neg h]; exact h2
structure KOk (tk : Bool) (β : Type) (Φ : Nat → List PV → Option PV) (x : E) (ρ : Store) : Prop where
  e : ∀ k : PV → Option β, evK tk Φ x ρ k = (ev Φ x ρ).bind k
  s : ∀ k : List PV → Option β, evsK tk Φ x ρ k = (evs Φ x ρ).bind k
  b : ∀ (i : Bool) (k : Bool → Option β), evbK tk Φ i x ρ k = (evb Φ i x ρ).bind k
theorem two_ok {a b : Bool} (h : (a && b) = true) : a = true ∧ b = true := Bool.and_eq_true_iff.mp h
theorem not_and_b {β : Type} {b i : Bool} {o : Option Bool} {k : Bool → Option β} {x : Option β} (h : x = o.bind k) : (if b = i then x else k (!i)) = (if b = i then o else some b).bind k := by
  by_cases e : b = i
  · rw [if_pos e, if_pos e]; exact h
  · rw [if_neg e, if_neg e]
    cases b <;> cases i <;> first | rfl | exact absurd rfl e
theorem evK_eq {tk : Bool} {β : Type} {Φ : Nat → List PV → Option PV} (ρ : Store) : ∀ e : E, strOk e = true → KOk tk β Φ e ρ := by
  intro e
  induction e with
  | str l => exact fun h => ⟨fun k => by rw [e_str Φ ρ l (of_decide_eq_true h)]; rfl, fun _ => rfl, fun _ _ => rfl⟩
  | bin op l r hl hr => exact fun h => ⟨fun k => ((hl (two_ok h).1).e _).trans (cb fun a => ((hr (two_ok h).2).e _).trans (cb fun b => oK_eq _ _ _)), fun _ => rfl, fun _ _ => rfl⟩
  | notE x hx => exact fun h => ⟨fun k => ((hx h).e _).trans ((cb fun v => rfl).trans (cm fun b => rfl)), fun _ => rfl, fun _ _ => rfl⟩
  | cmp op l r hl hr => exact fun h => ⟨fun k => ((hl (two_ok h).1).e _).trans (cb fun a => ((hr (two_ok h).2).e _).trans (cb fun b => cm fun c => rfl)), fun _ => rfl, fun _ _ => rfl⟩
  | cmp2 o1 o2 a b c ha hb hc =>
    exact fun h => ⟨fun k => ((ha (two_ok (two_ok h).1).1).e _).trans (cb fun x => ((hb (two_ok (two_ok h).1).2).e _).trans (cb fun y => cb fun r => ci (((hc (two_ok h).2).e _).trans (cb fun z => cm fun q => rfl)) rfl)), fun _ => rfl, fun _ _ => rfl⟩
  | boolE i args hx => exact fun h => ⟨fun k => ((hx h).b _ _).trans (cm fun b => rfl), fun _ => rfl, fun _ _ => rfl⟩
  | ite c a b hc ha hb =>
    exact fun h => ⟨fun k => ((hc (two_ok (two_ok h).1).1).e _).trans ((cb fun v => rfl).trans (cb fun t => ci ((ha (two_ok (two_ok h).1).2).e _) ((hb (two_ok h).2).e _))), fun _ => rfl, fun _ _ => rfl⟩
  | call f args hx => exact fun h => ⟨fun k => ((hx h).s _).trans (cb fun vs => bK_eq _ _), fun _ => rfl, fun _ _ => rfl⟩
  | bi f args hx => exact fun h => ⟨fun k => ((hx h).s _).trans (cb fun vs => oK_eq _ _ _), fun _ => rfl, fun _ _ => rfl⟩
  | me m o args ho hx => exact fun h => ⟨fun k => ((ho (two_ok h).1).e _).trans (cb fun x => ((hx (two_ok h).2).s _).trans (cb fun vs => bK_eq _ _)), fun _ => rfl, fun _ _ => rfl⟩
  | idx o i ho hi => exact fun h => ⟨fun k => ((ho (two_ok h).1).e _).trans (cb fun x => ((hi (two_ok h).2).e _).trans (cb fun vs => bK_eq _ _)), fun _ => rfl, fun _ _ => rfl⟩
  | slice o lo hi ho _ _ => exact fun h => ⟨fun k => ((ho h).e _).trans (cb fun x => cb fun a => cb fun b => bK_eq _ _), fun _ => rfl, fun _ _ => rfl⟩
  | cons x t hx ht =>
    exact fun h => ⟨fun _ => rfl, fun k => ((hx (two_ok h).1).e _).trans (cb fun v => ((ht (two_ok h).2).s _).trans (cm fun vs => rfl)), fun i k => ((hx (two_ok h).1).e _).trans ((cb fun v => rfl).trans (cb fun b => not_and_b ((ht (two_ok h).2).b _ _)))⟩
  | list args hx => exact fun h => ⟨fun k => ((hx h).s _).trans (cb fun vs => bK_eq _ _), fun _ => rfl, fun _ _ => rfl⟩
  | tup args hx => exact fun h => ⟨fun k => ((hx h).s _).trans (cb fun vs => bK_eq _ _), fun _ => rfl, fun _ _ => rfl⟩
  | comp => exact fun _ => ⟨fun _ => bK_eq _ _, fun _ => rfl, fun _ _ => rfl⟩
  | dictIdx => exact fun _ => ⟨fun _ => bK_eq _ _, fun _ => rfl, fun _ _ => rfl⟩
  | _ => exact fun _ => ⟨fun _ => rfl, fun _ => rfl, fun _ _ => rfl⟩
theorem fin_seq {β : Type} {o : Option (Fl × Store)} {g : Fl × Store → Option (Fl × Store)} {k' : Store → Option β} {k : Store → Option β} {r' r : PV → Store → Option β} (h1 : ∀ ρ, k' ρ = (g (.next, ρ)).bind (fin k r)) (h2 : ∀ v ρ, r' v ρ = (g (.ret v, ρ)).bind (fin k r)) :
    o.bind (fin k' r') = (o.bind g).bind (fin k r) := by
  cases o with
  | none => rfl
  | some p =>
    obtain ⟨fl, ρ⟩ := p
    cases fl with
    | next => exact h1 ρ
    | ret v => exact h2 v ρ
theorem exK_eq {tk : Bool} {β : Type} {Φ : Nat → List PV → Option PV} : ∀ (st : S) (ρ : Store) (k : Store → Option β) (r : PV → Store → Option β), strOkS st = true → exK tk Φ st ρ k r = (ex Φ st ρ).bind (fin k r) := by
  intro st
  induction st with
  | seq x t hx ht => exact fun ρ k r h => (hx ρ _ r (two_ok h).1).trans (fin_seq (fun ρ => ht ρ k r (two_ok h).2) fun _ _ => rfl)
  | assign i e => exact fun ρ k r h => ((evK_eq ρ e h).e _).trans (cm fun _ => rfl)
  | ret e => exact fun ρ k r h => ((evK_eq ρ e h).e _).trans (cb fun v => ci rfl rfl)
  | retD i => exact fun ρ k r h => cm fun _ => rfl
  | freeze t ht => exact fun ρ k r h => (ht ρ _ r h).trans (fin_seq (fun _ => rfl) fun _ _ => rfl)
  | ite c t f ht hf => exact fun ρ k r h => ((evK_eq ρ c (two_ok (two_ok h).1).1).e _).trans ((cb fun v => rfl).trans (cb fun b => ci (ht ρ k r (two_ok (two_ok h).1).2) (hf ρ k r (two_ok h).2)))
  | forS x kd it body => exact fun ρ k r h => ((evK_eq ρ it h).s _).trans (cb fun vs => cb fun items => bK_eq _ _)
  | forEnum i x it body => exact fun ρ k r h => ((evK_eq ρ it h).e _).trans (cb fun vs => cb fun items => bK_eq _ _)
  | append x e => exact fun ρ k r h => ((evK_eq ρ e h).e _).trans (cb fun v => cb fun l => cb fun xs => cb fun a => ci rfl rfl)
  | setItem x i e => exact fun ρ k r h => ((evK_eq ρ e (two_ok h).2).e _).trans (cb fun v => ((evK_eq ρ i (two_ok h).1).e _).trans (cb fun q => cb fun l => cb fun xs => cb fun n => cb fun a => ci rfl rfl))
  | assign2 i j e => exact fun ρ k r h => ((evK_eq ρ e h).e _).trans (cb fun _ => cm fun _ => rfl)
  | whileS => exact fun _ _ _ _ => bK_eq _ _
  | _ => exact fun _ _ _ _ => rfl

theorem run_K1 {Φ : Nat → List PV → Option PV} {n : Nat} {st : S} {args : List PV} {r : Option PV} (h : strOkS st = true) (k : exK true Φ st (initS n args) (fun _ => none) (fun v _ => some v) = r) : run Φ n st args = r := by
  rw [exK_eq st _ _ _ h] at k
  rw [← k]
  unfold run
  congr 1; funext p
  obtain ⟨fl, ρ⟩ := p
  cases fl <;> rfl
theorem run_K {Φ : Nat → List PV → Option PV} {n : Nat} {st : S} {args : List PV} {r : Option PV} (h : strOkS st = true) (k : ∀ tk, exK tk Φ st (initS n args) (fun _ => none) (fun v _ => some v) = r) : run Φ n st args = r := run_K1 h (k true)
noncomputable def Yes {β : Type} (R : β → Prop) (o : Option β) : Prop := ∃ b, o = some b ∧ R b
theorem run_Y {Φ : Nat → List PV → Option PV} {n : Nat} {st : S} {args : List PV} {P : PV → Prop} (h : strOkS st = true) (k : ∀ tk, Yes P (exK tk Φ st (initS n args) (fun _ => none) (fun v _ => some v))) : Yes P (run Φ n st args) :=
  (k true).elim fun b q => ⟨b, run_K1 h q.1, q.2⟩
theorem ex_Y {Φ : Nat → List PV → Option PV} {st : S} {ρ : Store} {R : Store → Prop} (h : strOkS st = true) (k : ∀ tk, Yes R (exK tk Φ st ρ some (fun _ _ => none))) : ∃ ρ', ex Φ st ρ = some (.next, ρ') ∧ R ρ' := by
  obtain ⟨b, e, r⟩ := k true
  rw [exK_eq st _ _ _ h] at e
  obtain ⟨p, e1, e2⟩ := bind_some2 e
  obtain ⟨fl, ρ1⟩ := p
  cases fl with
  | next => cases e2; exact ⟨_, e1, r⟩
  | ret v => cases e2
theorem y_e {β : Type} {R : β → Prop} {b : β} (r : R b) : Yes R (some b) := ⟨b, rfl, r⟩
theorem y_b {tk : Bool} {α β : Type} {o : Option α} {x : α} {f : α → Option β} {R : β → Prop} (h : o = some x) (k : Yes R (f x)) : Yes R (bK tk o f) := by rw [bK_eq, h]; exact k
theorem y_o {α β : Type} {o : Option α} {x : α} {f : α → Option β} {R : β → Prop} (h : o = some x) (k : Yes R (f x)) : Yes R (o.bind f) := by rw [h]; exact k
theorem y_g {α β : Type} {P : Prop} [Decidable P] {x : α} {f : α → Option β} {R : β → Prop} (h : P) (k : Yes R (f x)) : Yes R ((if P then some x else none).bind f) := by rw [if_pos h]; exact k
theorem y_if {β : Type} {P : Prop} [Decidable P] {a b : Option β} {R : β → Prop} (h : P → Yes R a) (k : ¬ P → Yes R b) : Yes R (if P then a else b) := by
  by_cases p : P
  · rw [if_pos p]; exact h p
  · rw [if_neg p]; exact k p
theorem y_t {β : Type} {P : Prop} [Decidable P] {a b : Option β} {R : β → Prop} (h : P) (k : Yes R a) : Yes R (if P then a else b) := by rw [if_pos h]; exact k
theorem y_f {β : Type} {P : Prop} [Decidable P] {a b : Option β} {R : β → Prop} (h : ¬ P) (k : Yes R b) : Yes R (if P then a else b) := by rw [if_neg h]; exact k
theorem y_ne {β : Type} {α : Type} [DecidableEq α] {a b : Option β} {R : β → Prop} (x : α) (k : Yes R a) : Yes R (if (!decide (x = x)) = false then a else b) := y_t (congrArg not (decide_eq_true rfl)) k
theorem y_eq {β : Type} {α : Type} [DecidableEq α] {a b : Option β} {R : β → Prop} (x : α) (k : Yes R a) : Yes R (if decide (x = x) = true then a else b) := y_t (decide_eq_true rfl) k
theorem y_for {tk : Bool} {β : Type} {Φ : Nat → List PV → Option PV} {x : Nat} {kd : IK} {it : E} {body s : S} {ρ : Store} {k : Store → Option β} {r : PV → Store → Option β} {vs : List PV} {items : List At} {R : β → Prop} {R' : Store → Prop} (h : evs Φ it ρ = some vs) (hs : strOk it = true)
    (hi : iterItems kd vs = some items) (hg : ∃ ρ', forGo (fun a ρ => ex Φ body (set ρ x (.a a))) items ρ = some (.next, ρ') ∧ R' ρ') (n : ∀ ρ', R' ρ' → Yes R (exK tk Φ s ρ' k r)) : Yes R (exK tk Φ (.seq (.forS x kd it body) s) ρ k r) := by
  obtain ⟨ρ', hg, r'⟩ := hg
  have e : exK tk Φ (.seq (.forS x kd it body) s) ρ k r = _ := (evK_eq ρ it hs).s _
  rw [e, h]
  exact (y_o hi) ((y_b hg) (n ρ' r'))
theorem y_frz {tk : Bool} {β : Type} {Φ : Nat → List PV → Option PV} {t : S} {ρ : Store} {k : Store → Option β} {r : PV → Store → Option β} {R : β → Prop} (h : Yes R (exK tk Φ t ρ (fun _ => none) r)) : Yes R (exK tk Φ (.freeze t) ρ k r) := h
theorem y_asg {tk : Bool} {β : Type} {Φ : Nat → List PV → Option PV} {i : Nat} {e : E} {s : S} {ρ : Store} {k : Store → Option β} {r : PV → Store → Option β} {x : PV} {R : β → Prop} (h : ev Φ e ρ = some x) (hs : strOk e = true) (n : Yes R (exK tk Φ s (set ρ i x) k r)) :
    Yes R (exK tk Φ (.seq (.assign i e) s) ρ k r) := by
  have q : exK tk Φ (.seq (.assign i e) s) ρ k r = _ := (evK_eq ρ e hs).e _
  rw [q, h]
  exact n
theorem ex_K {Φ : Nat → List PV → Option PV} {st : S} {ρ : Store} {r : Option (Fl × Store)} (h : strOkS st = true) (k : ∀ tk, exK tk Φ st ρ (fun ρ => some (.next, ρ)) (fun v ρ => some (.ret v, ρ)) = r) : ex Φ st ρ = r := by
  have k := k true
  rw [exK_eq st _ _ _ h] at k
  rw [← k]
  cases ex Φ st ρ with
  | none => rfl
  | some p =>
    obtain ⟨fl, ρ⟩ := p
    cases fl <;> rfl
theorem ev_K {Φ : Nat → List PV → Option PV} {e : E} {ρ : Store} {r : Option PV} (h : strOk e = true) (k : ∀ tk, evK tk Φ e ρ some = r) : ev Φ e ρ = r := by
  have k := k true
  rw [(evK_eq ρ e h).e] at k
  rw [← k]
  cases ev Φ e ρ <;> rfl
theorem exK_nil {tk : Bool} {β : Type} {Φ : Nat → List PV → Option PV} {ρ : Store} {k : Store → Option β} {r : PV → Store → Option β} : exK tk Φ .nil ρ k r = k ρ := rfl
theorem s_ret {tk : Bool} {β : Type} {Φ : Nat → List PV → Option PV} {e : E} {s : S} {ρ : Store} {k : Store → Option β} {r : PV → Store → Option β} {x : PV} {v : Option β} (h : ev Φ e ρ = some x) (hs : strOk e = true) (n : (if (fresh e || isAt x) = true then r x ρ else none) = v) :
    exK tk Φ (.seq (.ret e) s) ρ k r = v := by
  refine ((evK_eq ρ e hs).e _).trans ?_
  rw [h]
  exact n
theorem six {α : Type} {l : List α} (h : l.length = 6) : ∃ a b c d e f, l = [a, b, c, d, e, f] := by
  obtain ⟨a, l, rfl⟩ := List.exists_cons_of_length_eq_add_one h
  obtain ⟨b, l, rfl⟩ := List.exists_cons_of_length_eq_add_one (Nat.succ.inj h)
  obtain ⟨c, l, rfl⟩ := List.exists_cons_of_length_eq_add_one (Nat.succ.inj (Nat.succ.inj h))
  obtain ⟨d, l, rfl⟩ := List.exists_cons_of_length_eq_add_one (Nat.succ.inj (Nat.succ.inj (Nat.succ.inj h)))
  obtain ⟨e, l, rfl⟩ := List.exists_cons_of_length_eq_add_one (Nat.succ.inj (Nat.succ.inj (Nat.succ.inj (Nat.succ.inj h))))
  obtain ⟨f, l, rfl⟩ := List.exists_cons_of_length_eq_add_one (Nat.succ.inj (Nat.succ.inj (Nat.succ.inj (Nat.succ.inj (Nat.succ.inj h)))))
  obtain rfl := List.eq_nil_of_length_eq_zero (Nat.succ.inj (Nat.succ.inj (Nat.succ.inj (Nat.succ.inj (Nat.succ.inj (Nat.succ.inj h))))))
  exact ⟨a, b, c, d, e, f, rfl⟩
theorem s_if {tk : Bool} {β : Type} {Φ : Nat → List PV → Option PV} {c : E} {t f s : S} {ρ : Store} {k : Store → Option β} {r : PV → Store → Option β} {b : Bool} {v : Option β} (h : ev Φ c ρ = some (.a (.bool b))) (hs : strOk c = true) (n : (if b = true then exK tk Φ t ρ (fun ρ => exK tk Φ s ρ k r) r else exK tk Φ f ρ (fun ρ => exK tk Φ s ρ k r) r) = v) :
    exK tk Φ (.seq (.ite c t f) s) ρ k r = v := by
  refine ((evK_eq ρ c hs).e _).trans ?_
  rw [h]
  exact n
theorem s_ift {tk : Bool} {β : Type} {Φ : Nat → List PV → Option PV} {c : E} {t f s : S} {ρ : Store} {k : Store → Option β} {r : PV → Store → Option β} {v : Option β} (h : ev Φ c ρ = some (.a (.bool true))) (hs : strOk c = true) (n : exK tk Φ t ρ (fun ρ => exK tk Φ s ρ k r) r = v) :
    exK tk Φ (.seq (.ite c t f) s) ρ k r = v := s_if h hs n
theorem s_iff {tk : Bool} {β : Type} {Φ : Nat → List PV → Option PV} {c : E} {t f s : S} {ρ : Store} {k : Store → Option β} {r : PV → Store → Option β} {v : Option β} (h : ev Φ c ρ = some (.a (.bool false))) (hs : strOk c = true) (n : exK tk Φ f ρ (fun ρ => exK tk Φ s ρ k r) r = v) :
    exK tk Φ (.seq (.ite c t f) s) ρ k r = v := s_if h hs n
theorem s_skip {tk : Bool} {β : Type} {Φ : Nat → List PV → Option PV} {c : E} {t s : S} {ρ : Store} {k : Store → Option β} {r : PV → Store → Option β} {v : Option β} (h : ev Φ c ρ = some (.a (.bool false))) (hs : strOk c = true) (n : exK tk Φ s ρ k r = v) :
    exK tk Φ (.seq (.ite c t .nil) s) ρ k r = v := s_if h hs n
theorem s_asg {tk : Bool} {β : Type} {Φ : Nat → List PV → Option PV} {i : Nat} {e : E} {s : S} {ρ : Store} {k : Store → Option β} {r : PV → Store → Option β} {x : PV} {v : Option β} (h : ev Φ e ρ = some x) (hs : strOk e = true) (n : exK tk Φ s (set ρ i x) k r = v) :
    exK tk Φ (.seq (.assign i e) s) ρ k r = v := by
  refine ((evK_eq ρ e hs).e _).trans ?_
  rw [h]
  exact n
theorem k_t {α : Type} {P : Prop} [Decidable P] {a b r : α} (h : P) (k : a = r) : (if P then a else b) = r := (if_pos h).trans k
theorem k_f {α : Type} {P : Prop} [Decidable P] {a b r : α} (h : ¬ P) (k : b = r) : (if P then a else b) = r := (if_neg h).trans k
theorem d_t {α : Type} {P : Prop} [Decidable P] {a b r : α} (h : P) (k : a = r) : (if decide P = true then a else b) = r := (if_pos (decide_eq_true h)).trans k
theorem d_f {α : Type} {P : Prop} [Decidable P] {a b r : α} (h : ¬ P) (k : b = r) : (if decide P = true then a else b) = r := (if_neg (fun e => h (of_decide_eq_true e))).trans k
theorem n_t {α : Type} {P : Prop} [Decidable P] {a b r : α} (h : ¬ P) (k : a = r) : (if (!decide P) = true then a else b) = r := by rw [decide_eq_false h]; exact k
theorem n_f {α : Type} {P : Prop} [Decidable P] {a b r : α} (h : P) (k : b = r) : (if (!decide P) = true then a else b) = r := by rw [decide_eq_true h]; exact k
theorem nn_t {α : Type} {P : Prop} [Decidable P] {a b r : α} (h : P) (k : a = r) : (if (!!decide P) = true then a else b) = r := by rw [decide_eq_true h]; exact k
theorem nn_f {α : Type} {P : Prop} [Decidable P] {a b r : α} (h : ¬ P) (k : b = r) : (if (!!decide P) = true then a else b) = r := by rw [decide_eq_false h]; exact k
theorem e_t {α : Type} {P : Prop} [Decidable P] {a b r : α} (h : ¬ P) (k : a = r) : (if decide P = false then a else b) = r := by rw [decide_eq_false h]; exact k
theorem e_f {α : Type} {P : Prop} [Decidable P] {a b r : α} (h : P) (k : b = r) : (if decide P = false then a else b) = r := by rw [decide_eq_true h]; exact k
theorem en_t {α : Type} {P : Prop} [Decidable P] {a b r : α} (h : P) (k : a = r) : (if (!decide P) = false then a else b) = r := by rw [decide_eq_true h]; exact k
theorem en_f {α : Type} {P : Prop} [Decidable P] {a b r : α} (h : ¬ P) (k : b = r) : (if (!decide P) = false then a else b) = r := by rw [decide_eq_false h]; exact k
theorem int_eq {x y : Int} : (PV.a (.int x) = PV.a (.int y)) ↔ x = y := ⟨fun h => At.int.inj (PV.a.inj h), fun h => by rw [h]⟩
theorem k_b {tk : Bool} {α β : Type} {o : Option α} {x : α} {f : α → Option β} {r : Option β} (h : o = some x) (k : f x = r)   : bK tk o f = r := by rw [bK_eq, h]; exact k
theorem k_o {α β : Type} {o : Option α} {x : α} {f : α → Option β} {r : Option β} (h : o = some x) (k : f x = r) : o.bind f = r := by rw [h]; exact k
theorem k_g {α β : Type} {P : Prop} [Decidable P] {x : α} {f : α → Option β} {r : Option β} (h : P) (k : f x = r) : (if P then some x else none).bind f = r := by rw [if_pos h]; exact k
theorem s_for {tk : Bool} {β : Type} {Φ : Nat → List PV → Option PV} {x : Nat} {kd : IK} {it : E} {body s : S} {ρ ρ' : Store} {k : Store → Option β} {r : PV → Store → Option β} {vs : List PV} {items : List At} {v : Option β} (h : evs Φ it ρ = some vs) (hs : strOk it = true)
    (hi : iterItems kd vs = some items) (hg : forGo (fun a ρ => ex Φ body (set ρ x (.a a))) items ρ = some (.next, ρ')) (n : exK tk Φ s ρ' k r = v) :
    exK tk Φ (.seq (.forS x kd it body) s) ρ k r = v := by
  refine ((evK_eq ρ it hs).s _).trans ?_
  rw [h]
  exact (k_o hi) ((k_b hg) n)
theorem one_eq {a b : Nat} : ([a] = [b]) ↔ a = b := ⟨fun h => (List.cons.inj h).1, fun h => by rw [h]⟩
theorem lt_one {a b : Nat} : ([a] < [b]) ↔ a < b := by
  rw [List.cons_lt_cons_iff]
  exact ⟨fun h => h.elim id fun h => absurd h.2 (List.not_lt_nil _), .inl⟩
end Mine
end
section
open PySem PySem.Calls
set_option maxRecDepth 100000
namespace Mine
noncomputable def decG (n c : Nat) : Option Nat := if 48 ≤ c ∧ c ≤ 57 then some (n * 10 + (c - 48)) else none
noncomputable def decOf (l : L) (m : Nat) : Option Nat :=
  if l = [] ∨ 3 < l.length ∨ (l[0]? = some 48 ∧ l ≠ [48]) then none else (foldO decG 0 l).bind fun n => if n ≤ m then some n else none

theorem x1_step {Φ : Nat → List PV → Option PV} {l : L} {m s c : Nat} : ∃ ρ', ex Φ lDecimalOf1 [some (S1 l), some (I1 m), some (I1 s), some (.a (.str [c]))] = some (outO (.a .none) (decG s c) ρ') ∧ okO' (fun (s : Nat) ρ => ∃ o, ρ = [some (S1 l), some (I1 m), some (I1 s), o]) (decG s c) ρ' := by
  unfold decG
  by_cases h1 : 48 ≤ c
  · by_cases h2 : c ≤ 57
    · rw [if_pos ⟨h1, h2⟩]
      refine ⟨_, ex_K rfl fun _ => ((n_t (mt lt_one.mp (Nat.not_lt.mpr h1))) ((nn_f (mt lt_one.mp (Nat.not_lt.mpr h2))) ((k_b (b_mulR _ 10 (by decide))) rfl))), some (.a (.str [c])), ?_⟩
      show [_, _, some (PV.a (.int ((s : Int) * 10 + (c : Int) - 48))), _] = _
      rw [show ((s : Int) * 10 + (c : Int) - 48) = ((s * 10 + (c - 48) : Nat) : Int) by omega]; rfl
    · rw [if_neg fun h => h2 h.2]
      exact ⟨_, ex_K rfl fun _ => ((n_t (mt lt_one.mp (Nat.not_lt.mpr h1))) ((nn_t (lt_one.mpr (Nat.lt_of_not_le h2))) rfl)), trivial⟩
  · rw [if_neg fun h => h1 h.1]
    exact ⟨_, ex_K rfl fun _ => ((n_f (lt_one.mpr (Nat.lt_of_not_le h1))) rfl), trivial⟩
theorem x1_test {Φ : Nat → List PV → Option PV} {l : L} {ρ : Store} : ev Φ (.boolE false (.cons (.cmp .Eq (.var 0) (.str [])) (.cons (.cmp .Gt (.bi .len (.cons (.var 0) .nil)) (.int 3)) (.cons (.boolE true (.cons (.cmp .Eq (.idx (.var 0) (.int 0)) (.str [48])) (.cons (.cmp .NotEq (.var 0) (.str [48])) .nil))) .nil)))) (some (S1 l) :: ρ) =
    some (.a (.bool (decide (l = [] ∨ 3 < l.length ∨ (l[0]? = some 48 ∧ l ≠ [48]))))) := by
  refine ev_K rfl fun tk => ?_
  match l with
  | [] => rfl
  | c :: r =>
    have n : c :: r ≠ [] := List.cons_ne_nil c r
    by_cases h2 : 3 < (c :: r).length
    · rw [decide_eq_true (.inr (.inl h2))]
      exact (e_f (Int.ofNat_lt.mpr h2)) rfl
    · refine (e_t (mt Int.ofNat_lt.mp h2)) ?_
      by_cases hc : c = 48
      · subst hc
        by_cases hr : 48 :: r = [48]
        · rw [decide_eq_false (fun h => h.elim n fun h => h.elim h2 fun h => h.2 hr)]
          exact (k_b (show index (S1 (48 :: r)) (.a (.int 0)) = some (.a (.str [48])) from rfl)) ((n_f hr) rfl)
        · rw [decide_eq_true (.inr (.inr ⟨rfl, hr⟩))]
          exact (k_b (show index (S1 (48 :: r)) (.a (.int 0)) = some (.a (.str [48])) from rfl)) ((n_t hr) rfl)
      · rw [decide_eq_false (fun h => h.elim n fun h => h.elim h2 fun h => hc (Option.some.inj h.1))]
        exact (k_b (show index (S1 (c :: r)) (.a (.int 0)) = some (.a (.str [c])) from rfl)) ((d_f (mt one_eq.mp hc)) rfl)
theorem x1 (Φ : Nat → List PV → Option PV) (l : L) (m : Nat) : run Φ 4 bDecimalOf [S1 l, I1 m] = some (optI (decOf l m)) := by
  obtain ⟨ρ', hgo, hR⟩ : ∃ ρ', forGo (fun a ρ => ex Φ lDecimalOf1 (set ρ 3 (.a a))) (l.map fun c => .str [c]) [some (.a (.str l)), some (.a (.int m)), some (.a (.int 0)), none] = some (outO (.a .none) (foldO decG 0 l) ρ') ∧ okO' (fun (s : Nat) ρ => ∃ o, ρ = [some (S1 l), some (I1 m), some (I1 s), o]) (foldO decG 0 l) ρ' :=
    forGo_O (R := fun (s : Nat) ρ => ∃ o, ρ = [some (S1 l), some (I1 m), some (I1 s), o]) (.a .none) l 0 _ (by rintro s ρ c _ ⟨o, rfl⟩; exact x1_step (Φ := Φ) (l := l) (m := m) (s := s) (c := c)) ⟨none, rfl⟩
  refine run_K rfl fun _ => ((s_if (x1_test (l := l) (ρ := [some (I1 m), none, none])) rfl) ?_)
  by_cases hT : l = [] ∨ 3 < l.length ∨ (l[0]? = some 48 ∧ l ≠ [48])
  · rw [show decOf l m = none from if_pos hT]
    exact (d_t hT) rfl
  · rw [show decOf l m = (foldO decG 0 l).bind fun n => if n ≤ m then some n else none from if_neg hT]
    refine (d_f hT) ((k_b hgo) ?_)
    cases hx : foldO decG 0 l with
    | none => rfl
    | some k =>
      rw [hx] at hR
      obtain ⟨o, rfl⟩ := hR
      by_cases h4 : k ≤ m
      · exact (d_t (Int.ofNat_le.mpr h4)) (congrArg (fun z => some (optI z)) (if_pos (c := k ≤ m) (t := some k) (e := none) h4).symm)
      · exact (d_f (mt Int.ofNat_le.mp h4)) (congrArg (fun z => some (optI z)) (if_neg (c := k ≤ m) (t := some k) (e := none) h4).symm)

noncomputable def hx (c : Nat) : Option Nat := if 48 ≤ c ∧ c ≤ 57 then some (c - 48) else if 97 ≤ c ∧ c ≤ 102 then some (c - 87) else if 65 ≤ c ∧ c ≤ 70 then some (c - 55) else none
noncomputable def hexG (n c : Nat) : Option Nat := (hx c).map fun d => n * 16 + d
noncomputable def hexOf (l : L) (m : Nat) : Option Nat := if 1 ≤ l.length ∧ l.length ≤ m then foldO hexG 0 l else none
noncomputable def hex22 : L := [48, 49, 50, 51, 52, 53, 54, 55, 56, 57, 97, 98, 99, 100, 101, 102, 65, 66, 67, 68, 69, 70]
noncomputable def hex16 : L := [48, 49, 50, 51, 52, 53, 54, 55, 56, 57, 97, 98, 99, 100, 101, 102]
noncomputable def find22 (c : Nat) : Int := match hx c with
  | some d => if 65 ≤ c ∧ c ≤ 70 then (d : Int) + 6 else d
  | none => -1
theorem findC_not {c : Nat} {l : L} (h : c ∉ l) : findC c l = -1 := by
  rcases findC_spec c l with ⟨e, _⟩ | ⟨i, _, h1, _⟩
  · exact e
  · exact absurd (List.mem_of_getElem? h1) h
theorem hex22_lt : ∀ x ∈ hex22, x < 128 := by decide
theorem hx_big {c : Nat} (h : ¬ c < 128) : hx c = none := by
  unfold hx; rw [if_neg (fun q => h (Nat.lt_of_le_of_lt q.2 (by decide))), if_neg (fun q => h (Nat.lt_of_le_of_lt q.2 (by decide))), if_neg (fun q => h (Nat.lt_of_le_of_lt q.2 (by decide)))]
theorem find22_eq (c : Nat) : findC c hex22 = find22 c := by
  by_cases h : c < 128
  · have : ∀ c, c < 128 → findC c hex22 = find22 c := by decide +kernel
    exact this c h
  · rw [findC_not (fun q => h (hex22_lt c q))]
    unfold find22
    rw [hx_big h]
theorem hx_small : ∀ c, c < 128 → ((hx c).all fun d => decide (d < 16) && (!decide (65 ≤ c ∧ c ≤ 70) || decide (10 ≤ d))) = true := by decide +kernel
theorem hx_spec {c d : Nat} (h : hx c = some d) : d < 16 ∧ (65 ≤ c ∧ c ≤ 70 → 10 ≤ d) := by
  by_cases hc : c < 128
  · have := hx_small c hc
    rw [h] at this
    obtain ⟨h1, h2⟩ := Bool.and_eq_true_iff.mp this
    refine ⟨of_decide_eq_true h1, fun q => ?_⟩
    rw [decide_eq_true q] at h2
    exact of_decide_eq_true h2
  · rw [hx_big hc] at h; cases h
noncomputable def find16 (c : Nat) : Int := match hx c with
  | some d => d
  | none => -1
theorem find16_eq {c : Nat} (h : c < 128) : findC (lowerC c) hex16 = find16 c := by
  have : ∀ c, c < 128 → findC (lowerC c) hex16 = find16 c := by decide +kernel
  exact this c h

theorem find_h {c : Nat} {z : Int} (h : find22 c = z) : me .find (.a (.str [48, 49, 50, 51, 52, 53, 54, 55, 56, 57, 97, 98, 99, 100, 101, 102, 65, 66, 67, 68, 69, 70])) [.a (.str [c])] = some (.a (.int z)) := congrArg (fun z => some (PV.a (.int z))) ((find22_eq c).trans h)
theorem x2_step {Φ : Nat → List PV → Option PV} {l : L} {m s c : Nat} {o' : Option PV} : ∃ ρ', ex Φ lHexOf1 [some (S1 l), some (I1 m), some (I1 s), some (.a (.str [c])), o'] = some (outO (.a .none) (hexG s c) ρ') ∧ okO' (fun (s : Nat) ρ => ∃ o o', ρ = [some (S1 l), some (I1 m), some (I1 s), o, o']) (hexG s c) ρ' := by
  unfold hexG
  cases hh : hx c with
  | none => exact ⟨_, ex_K rfl fun _ => ((k_b (find_h (c := c) (z := -1) (by unfold find22; rw [hh]))) rfl), trivial⟩
  | some d =>
    obtain ⟨hd, hd'⟩ := hx_spec hh
    have h6 : 10 ≤ d → ¬ ((d + 6 : Nat) : Int) < 16 := fun q => Int.not_lt.mpr (Int.ofNat_le.mpr (Nat.add_le_add_right q 6))
    by_cases hc : 65 ≤ c ∧ c ≤ 70
    · refine ⟨_, ex_K rfl fun _ => ((k_b (find_h (c := c) (z := ((d + 6 : Nat) : Int)) (by unfold find22; rw [hh]; exact if_pos hc))) ((k_b (b_mulR _ 16 (by decide))) ((d_f (h6 (hd' hc))) rfl))), some (.a (.str [c])), some (I1 (d + 6)), ?_⟩
      show [_, _, some (PV.a (.int ((s : Int) * 16 + (((d + 6 : Nat) : Int) - 6)))), _, _] = _
      rw [show ((s : Int) * 16 + (((d + 6 : Nat) : Int) - 6)) = ((s * 16 + d : Nat) : Int) by omega]; rfl
    · exact ⟨_, ex_K rfl fun _ => ((k_b (find_h (c := c) (z := (d : Int)) (by unfold find22; rw [hh]; exact if_neg hc))) ((k_b (b_mulR _ 16 (by decide))) ((d_t (Int.ofNat_lt.mpr hd)) rfl))), _, _, rfl⟩
theorem x2 (Φ : Nat → List PV → Option PV) (l : L) (m : Nat) : run Φ 5 bHexOf [S1 l, I1 m] = some (optI (hexOf l m)) := by
  obtain ⟨ρ', hgo, hR⟩ : ∃ ρ', forGo (fun a ρ => ex Φ lHexOf1 (set ρ 3 (.a a))) (l.map fun c => .str [c]) [some (.a (.str l)), some (.a (.int m)), some (.a (.int 0)), none, none] = some (outO (.a .none) (foldO hexG 0 l) ρ') ∧ okO' (fun (s : Nat) ρ => ∃ o o', ρ = [some (S1 l), some (I1 m), some (I1 s), o, o']) (foldO hexG 0 l) ρ' :=
    forGo_O (R := fun (s : Nat) ρ => ∃ o o', ρ = [some (S1 l), some (I1 m), some (I1 s), o, o']) (.a .none) l 0 _ (by rintro s ρ c _ ⟨o, o', rfl⟩; exact x2_step) ⟨none, none, rfl⟩
  unfold hexOf
  by_cases h1 : 1 ≤ l.length
  · by_cases h2 : l.length ≤ m
    · rw [if_pos ⟨h1, h2⟩]
      refine run_K rfl fun _ => ((d_t (Int.ofNat_le.mpr h1)) ((n_f (Int.ofNat_le.mpr h2)) ((k_b hgo) ?_)))
      cases hx : foldO hexG 0 l with
      | none => rfl
      | some k =>
        rw [hx] at hR
        obtain ⟨o, o', rfl⟩ := hR
        rfl
    · rw [if_neg fun h => h2 h.2]
      exact run_K rfl fun _ => ((d_t (Int.ofNat_le.mpr h1)) ((n_t (mt Int.ofNat_le.mp h2)) rfl))
  · rw [if_neg fun h => h1 h.1]
    exact run_K rfl fun _ => ((d_f (mt Int.ofNat_le.mp h1)) rfl)
noncomputable def lawGroup (l : L) : Int := match hexOf l 4 with
  | some g => g
  | none => -1
theorem x20_step {Φ : Nat → List PV → Option PV} {l : L} {s c : Nat} {o' : Option PV} (hc : c < 128) : ∃ ρ', ex Φ lLawGroup1 [some (S1 l), some (I1 s), some (.a (.str [c])), o'] = some (outO (.a (.int (-1))) (hexG s c) ρ') ∧ okO' (fun (s : Nat) ρ => ∃ o o', ρ = [some (S1 l), some (I1 s), o, o']) (hexG s c) ρ' := by
  have hl : me .lower (.a (.str [c])) [] = some (.a (.str [lowerC c])) := if_pos hc
  have hf : ∀ {z : Int}, find16 c = z → me .find (.a (.str [48, 49, 50, 51, 52, 53, 54, 55, 56, 57, 97, 98, 99, 100, 101, 102])) [.a (.str [lowerC c])] = some (.a (.int z)) := fun h => congrArg (fun z => some (PV.a (.int z))) ((find16_eq hc).trans h)
  unfold hexG
  cases hh : hx c with
  | none => exact ⟨_, ex_K rfl fun _ => ((k_b hl) ((k_b (hf (z := -1) (by unfold find16; rw [hh]))) rfl)), trivial⟩
  | some d =>
    refine ⟨_, ex_K rfl fun _ => ((k_b hl) ((k_b (hf (z := (d : Int)) (by unfold find16; rw [hh]))) ((k_b (b_mulL 16 _ (by decide))) rfl))), some (.a (.str [c])), some (I1 d), ?_⟩
    show [_, some (PV.a (.int ((16 : Int) * (s : Int) + (d : Int)))), _, _] = _
    rw [Int.mul_comm]; rfl
theorem x20 (Φ : Nat → List PV → Option PV) (l : L) (ha : ∀ c ∈ l, c < 128) : run Φ 4 bLawGroup [S1 l] = some (.a (.int (lawGroup l))) := by
  obtain ⟨ρ', hgo, hR⟩ : ∃ ρ', forGo (fun a ρ => ex Φ lLawGroup1 (set ρ 2 (.a a))) (l.map fun c => .str [c]) [some (.a (.str l)), some (.a (.int 0)), none, none] = some (outO (.a (.int (-1))) (foldO hexG 0 l) ρ') ∧ okO' (fun (s : Nat) ρ => ∃ o o', ρ = [some (S1 l), some (I1 s), o, o']) (foldO hexG 0 l) ρ' :=
    forGo_O (R := fun (s : Nat) ρ => ∃ o o', ρ = [some (S1 l), some (I1 s), o, o']) (.a (.int (-1))) l 0 _ (by rintro s ρ c hc ⟨o, o', rfl⟩; exact x20_step (ha c hc)) ⟨none, none, rfl⟩
  refine run_K rfl fun _ => ((k_b hgo) ?_)
  unfold lawGroup hexOf
  cases hx : foldO hexG 0 l with
  | none => by_cases h : 1 ≤ l.length ∧ l.length ≤ 4
            · rw [if_pos h]; rfl
            · rw [if_neg h]; rfl
  | some k =>
    rw [hx] at hR
    obtain ⟨o, o', rfl⟩ := hR
    by_cases h1 : 1 ≤ l.length
    · by_cases h2 : l.length ≤ 4
      · rw [if_pos ⟨h1, h2⟩]
        exact (d_t (Int.ofNat_le.mpr h1)) ((d_t (Int.ofNat_le.mpr h2)) rfl)
      · rw [if_neg fun h => h2 h.2]
        exact (d_t (Int.ofNat_le.mpr h1)) ((d_f (mt Int.ofNat_le.mp h2)) rfl)
    · rw [if_neg fun h => h1 h.1]
      exact (d_f (mt Int.ofNat_le.mp h1)) rfl
end Mine
end
section
open PySem PySem.Calls
set_option maxRecDepth 100000
namespace Mine
noncomputable def cons1 (c : Nat) : List L → List L
  | [] => [[c]]
  | h :: t => (c :: h) :: t
noncomputable def splitC (c : Nat) : L → List L
  | [] => [[]]
  | x :: r => if x = c then [] :: splitC c r else cons1 x (splitC c r)
noncomputable def split2 : L → List L
  | [] => [[]]
  | [x] => [[x]]
  | x :: y :: r => if x = 58 ∧ y = 58 then [] :: split2 r else cons1 x (split2 (y :: r))
theorem splitL_C (c : Nat) : ∀ (l : L) (n : Nat), l.length < n → splitL [c] n l = splitC c l
  | [], n + 1, _ => rfl
  | x :: r, 0, h => by simp at h
  | [], 0, h => by simp at h
  | x :: r, n + 1, h => by
    have ih := splitL_C c r n (by simp at h; omega)
    rw [splitL, splitC]
    by_cases e : x = c
    · subst e
      simp [List.isPrefixOf, ih]
    · have e' : ¬ c = x := fun q => e q.symm
      have : ([c].isPrefixOf (x :: r)) = false := by simp [List.isPrefixOf, e']
      rw [this, if_neg (by decide), if_neg e, ih]
      cases splitC c r <;> rfl
theorem splitL_2 : ∀ (l : L) (n : Nat), l.length < n → splitL [58, 58] n l = split2 l
  | [], 0, h => by simp at h
  | [], n + 1, _ => rfl
  | [x], 0, h => by simp at h
  | [x], n + 1, h => by
    have : n ≠ 0 := by simp at h; omega
    obtain ⟨m, rfl⟩ := Nat.exists_eq_succ_of_ne_zero this
    have e : ([58, 58].isPrefixOf [x]) = false := by simp [List.isPrefixOf]
    rw [splitL, e, if_neg (by decide)]
    rfl
  | x :: y :: r, 0, h => by simp at h
  | x :: y :: r, n + 1, h => by
    have ih1 := splitL_2 r n (by simp at h; omega)
    have ih2 := splitL_2 (y :: r) n (by simp at h ⊢; omega)
    rw [splitL, split2]
    by_cases e : x = 58 ∧ y = 58
    · obtain ⟨rfl, rfl⟩ := e
      have : ([58, 58].isPrefixOf (58 :: 58 :: r)) = true := by simp [List.isPrefixOf]
      rw [this]
      simp [ih1]
    · have : ([58, 58].isPrefixOf (x :: y :: r)) = false := by
        rw [Bool.eq_false_iff]
        intro q
        simp [List.isPrefixOf] at q
        exact e ⟨q.1.symm, q.2.symm⟩
      rw [this, if_neg (by decide), if_neg e, ih2]
      cases split2 (y :: r) <;> rfl
theorem splitC_ne (c : Nat) (l : L) : splitC c l ≠ [] := by
  cases l with
  | nil => simp [splitC]
  | cons x r =>
    unfold splitC
    split
    · simp
    · cases splitC c r <;> simp [cons1]
theorem split2_ne (l : L) : split2 l ≠ [] := by
  rw [← splitL_2 l (l.length + 1) (Nat.lt_succ_self _)]
  exact splitL_ne _ _ _
theorem splitC_sub {c : Nat} : ∀ {l w : L}, w ∈ splitC c l → w.length ≤ l.length ∧ (∀ x ∈ w, x ∈ l) ∧ c ∉ w
  | [], w, h => by simp [splitC] at h; simp [h]
  | x :: r, w, h => by
    unfold splitC at h
    split at h
    · rcases List.mem_cons.mp h with rfl | h
      · simp
      · obtain ⟨h1, h2, h3⟩ := splitC_sub h
        exact ⟨by simp; omega, fun y hy => by simp [h2 y hy], h3⟩
    · rename_i hx
      cases hs : splitC c r with
      | nil => exact absurd hs (splitC_ne _ _)
      | cons a t =>
        rw [hs] at h
        rcases List.mem_cons.mp h with rfl | h
        · obtain ⟨h1, h2, h3⟩ := splitC_sub (c := c) (l := r) (w := a) (by rw [hs]; simp)
          refine ⟨by simp; omega, fun y hy => ?_, ?_⟩
          · rcases List.mem_cons.mp hy with rfl | hy
            · simp
            · simp [h2 y hy]
          · simp only [List.mem_cons, not_or]; exact ⟨fun q => hx q.symm, h3⟩
        · obtain ⟨h1, h2, h3⟩ := splitC_sub (c := c) (l := r) (w := w) (by rw [hs]; simp [h])
          exact ⟨by simp; omega, fun y hy => by simp [h2 y hy], h3⟩
theorem m_split (l : L) (c : Nat) (hc : c < 256) (hl : l.length ≤ 1000) : me .split (.a (.str l)) [.a (.str [c])] = some (.list ((splitC c l).map .str)) := by
  have hl' : l.length < sizeLine := by rw [sizeLine_eq]; omega
  show (if _ then _ else _) = _
  rw [if_pos ⟨by simp, by simpa using hc, hl'⟩, splitL_C c l _ (Nat.lt_succ_self _)]
theorem m_split2 (l : L) (hl : l.length ≤ 1000) : me .split (.a (.str l)) [.a (.str [58, 58])] = some (.list ((split2 l).map .str)) := by
  have hl' : l.length < sizeLine := by rw [sizeLine_eq]; omega
  show (if _ then _ else _) = _
  rw [if_pos ⟨by simp, by simp, hl'⟩, splitL_2 l _ (Nat.lt_succ_self _)]
noncomputable def short (l : L) : Bool := decide (l.length ≤ 1000) && l.all fun c => decide (c < 128)
theorem short_iff {l : L} : short l = true ↔ l.length ≤ 1000 ∧ ∀ c ∈ l, c < 128 := by simp [short]
theorem short_part {c : Nat} {l w : L} (h : short l = true) (hw : w ∈ splitC c l) : short w = true := by
  obtain ⟨h1, h2⟩ := short_iff.mp h
  obtain ⟨h3, h4, _⟩ := splitC_sub hw
  exact short_iff.mpr ⟨by omega, fun x hx => h2 x (h4 x hx)⟩

noncomputable def numG (f : L → Option Nat) (n : Nat) (w : L) : Option Nat := (f w).map fun o => n * 256 + o
noncomputable def partsOf (c : Nat) (k : Nat) (f : L → Option Nat) (l : L) : Option Nat := if (splitC c l).length = k then foldO (numG f) 0 (splitC c l) else none
noncomputable def ip4Of (l : L) : Option Nat := partsOf 46 4 (fun w => decOf w 255) l
noncomputable def macOf (l : L) : Option Nat := partsOf 58 6 (fun w => hexOf w 2) l

theorem x4_step {Φ : Nat → List PV → Option PV} (h1 : ∀ l m, Φ 1 [S1 l, I1 m] = some (optI (decOf l m))) {a b : Option PV} {s : Nat} {w : L} {o' : Option PV} : ∃ ρ', ex Φ lIp4Of1 [a, b, some (I1 s), some (.a (.str w)), o'] = some (outO (.a .none) (numG (fun w => decOf w 255) s w) ρ') ∧ okO' (fun (s : Nat) ρ => ∃ o o', ρ = [a, b, some (I1 s), o, o']) (numG (fun w => decOf w 255) s w) ρ' := by
  have h := h1 w 255
  show ∃ ρ', _ = some (outO _ (Option.map (fun o => s * 256 + o) (decOf w 255)) ρ') ∧ okO' _ (Option.map (fun o => s * 256 + o) (decOf w 255)) ρ'
  cases hd : decOf w 255 with
  | none =>
    rw [hd] at h
    exact ⟨_, ex_K rfl fun _ => ((k_b (x := .a .none) h) rfl), trivial⟩
  | some d =>
    rw [hd] at h
    exact ⟨_, ex_K rfl fun _ => ((k_b (x := I1 d) h) ((k_b (b_mulR _ 256 (by decide))) rfl)), _, _, rfl⟩
theorem x4 {Φ : Nat → List PV → Option PV} (h1 : ∀ l m, Φ 1 [S1 l, I1 m] = some (optI (decOf l m))) (l : L) (hl : l.length ≤ 1000) : run Φ 5 bIp4Of [S1 l] = some (optI (ip4Of l)) := by
  obtain ⟨ρ', hgo, hR⟩ : ∃ ρ', forGo (fun a ρ => ex Φ lIp4Of1 (set ρ 3 (.a a))) ((splitC 46 l).map .str) [some (.a (.str l)), some (.list ((splitC 46 l).map .str)), some (.a (.int 0)), none, none] = some (outO (.a .none) (foldO (numG fun w => decOf w 255) 0 (splitC 46 l)) ρ') ∧ okO' (fun (s : Nat) ρ => ∃ o o', ρ = [some (S1 l), some (.list ((splitC 46 l).map .str)), some (I1 s), o, o']) (foldO (numG fun w => decOf w 255) 0 (splitC 46 l)) ρ' :=
    forGo_O (R := fun (s : Nat) ρ => ∃ o o', ρ = [some (S1 l), some (.list ((splitC 46 l).map .str)), some (I1 s), o, o']) (.a .none) (splitC 46 l) 0 _ (by rintro s ρ c _ ⟨o, o', rfl⟩; exact x4_step h1) ⟨none, none, rfl⟩
  have e : (((splitC 46 l).map At.str).length : Int) = ((splitC 46 l).length : Int) := by rw [List.length_map]
  refine run_K rfl fun _ => ((k_b (m_split l 46 (by decide) hl)) ?_)
  unfold ip4Of partsOf
  by_cases hk : (splitC 46 l).length = 4
  · rw [if_pos hk]
    refine (n_f (by rw [hk] at e; exact congrArg (fun z => PV.a (.int z)) e)) ((k_b hgo) ?_)
    cases hx : foldO (numG fun w => decOf w 255) 0 (splitC 46 l) with
    | none => rfl
    | some n =>
      rw [hx] at hR
      obtain ⟨o, o', rfl⟩ := hR
      rfl
  · rw [if_neg hk]
    exact (n_t (fun q => hk (Int.ofNat_inj.mp (e.symm.trans (At.int.inj (PV.a.inj q)))))) rfl
theorem x10_step {Φ : Nat → List PV → Option PV} (h1 : ∀ l m, Φ 2 [S1 l, I1 m] = some (optI (hexOf l m))) {a b : Option PV} {s : Nat} {w : L} {o' : Option PV} : ∃ ρ', ex Φ lMacOf1 [a, b, some (I1 s), some (.a (.str w)), o'] = some (outO (.a .none) (numG (fun w => hexOf w 2) s w) ρ') ∧ okO' (fun (s : Nat) ρ => ∃ o o', ρ = [a, b, some (I1 s), o, o']) (numG (fun w => hexOf w 2) s w) ρ' := by
  have h := h1 w 2
  show ∃ ρ', _ = some (outO _ (Option.map (fun o => s * 256 + o) (hexOf w 2)) ρ') ∧ okO' _ (Option.map (fun o => s * 256 + o) (hexOf w 2)) ρ'
  cases hd : hexOf w 2 with
  | none =>
    rw [hd] at h
    exact ⟨_, ex_K rfl fun _ => ((k_b (x := .a .none) h) rfl), trivial⟩
  | some d =>
    rw [hd] at h
    exact ⟨_, ex_K rfl fun _ => ((k_b (x := I1 d) h) ((k_b (b_mulR _ 256 (by decide))) rfl)), _, _, rfl⟩
theorem x10 {Φ : Nat → List PV → Option PV} (h1 : ∀ l m, Φ 2 [S1 l, I1 m] = some (optI (hexOf l m))) (l : L) (hl : l.length ≤ 1000) : run Φ 5 bMacOf [S1 l] = some (optI (macOf l)) := by
  obtain ⟨ρ', hgo, hR⟩ : ∃ ρ', forGo (fun a ρ => ex Φ lMacOf1 (set ρ 3 (.a a))) ((splitC 58 l).map .str) [some (.a (.str l)), some (.list ((splitC 58 l).map .str)), some (.a (.int 0)), none, none] = some (outO (.a .none) (foldO (numG fun w => hexOf w 2) 0 (splitC 58 l)) ρ') ∧ okO' (fun (s : Nat) ρ => ∃ o o', ρ = [some (S1 l), some (.list ((splitC 58 l).map .str)), some (I1 s), o, o']) (foldO (numG fun w => hexOf w 2) 0 (splitC 58 l)) ρ' :=
    forGo_O (R := fun (s : Nat) ρ => ∃ o o', ρ = [some (S1 l), some (.list ((splitC 58 l).map .str)), some (I1 s), o, o']) (.a .none) (splitC 58 l) 0 _ (by rintro s ρ c _ ⟨o, o', rfl⟩; exact x10_step h1) ⟨none, none, rfl⟩
  have e : (((splitC 58 l).map At.str).length : Int) = ((splitC 58 l).length : Int) := by rw [List.length_map]
  refine run_K rfl fun _ => ((k_b (m_split l 58 (by decide) hl)) ?_)
  unfold macOf partsOf
  by_cases hk : (splitC 58 l).length = 6
  · rw [if_pos hk]
    refine (n_f (by rw [hk] at e; exact congrArg (fun z => PV.a (.int z)) e)) ((k_b hgo) ?_)
    cases hx : foldO (numG fun w => hexOf w 2) 0 (splitC 58 l) with
    | none => rfl
    | some n =>
      rw [hx] at hR
      obtain ⟨o, o', rfl⟩ := hR
      rfl
  · rw [if_neg hk]
    exact (n_t (fun q => hk (Int.ofNat_inj.mp (e.symm.trans (At.int.inj (PV.a.inj q)))))) rfl
end Mine
end
section
open PySem PySem.Calls
set_option maxRecDepth 100000
namespace Mine
noncomputable def dec (k : Nat) : L := textInt (k : Int)
theorem dec_small : ∀ k, k < 1000 → (dec k).length ≤ 3 ∧ decOf (dec k) 999 = some k ∧ (dec k).all (fun c => decide (48 ≤ c ∧ c ≤ 57)) = true := by decide +kernel
theorem dec_len {k : Nat} (h : k < 1000) : (dec k).length ≤ 3 := (dec_small k h).1
theorem dec_str {k : Nat} (h : k < 1000) : bi .str [.a (.int (k : Int))] = some (.a (.str (dec k))) := by
  refine f_str _ (by omega) ?_
  have := dec_len h
  rw [sizeLine_eq]
  unfold dec at this
  omega
theorem b_shrI (a b : Int) (h : 0 ≤ b) : binop .RShift (.a (.int a)) (.a (.int b)) = some (.a (.int (a / 2 ^ b.toNat))) := by
  show (if _ then _ else _) = _
  rw [if_pos h]
theorem b_andI (a b : Int) (h : 0 ≤ a ∧ 0 ≤ b) : binop .BitAnd (.a (.int a)) (.a (.int b)) = some (.a (.int ((a.toNat &&& b.toNat : Nat) : Int))) := by
  show (if _ then _ else _) = _
  rw [if_pos h]
theorem b_powI (a b : Int) (h : 0 ≤ b ∧ b ≤ 1000000 ∧ a.natAbs < 2 ^ 64) : binop .Pow (.a (.int a)) (.a (.int b)) = some (.a (.int (a ^ b.toNat))) := by
  show (if _ then _ else _) = _
  rw [if_pos h]
theorem it_rangeI (i : Int) (h : -1000000 < i ∧ i < 1000000) : iterItems .range [.a (.int i)] = some (rangeL 0 i.toNat) := by
  show (if _ then _ else _) = _
  rw [if_pos h]
theorem b_shr (n k : Nat) : binop .RShift (.a (.int (n : Int))) (.a (.int (k : Int))) = some (.a (.int ((n / 2 ^ k : Nat) : Int))) := by
  rw [b_shrI _ _ (Int.natCast_nonneg k), Int.toNat_natCast, Int.natCast_ediv, Int.natCast_pow]; rfl
theorem b_and (n m k : Nat) (h : m + 1 = 2 ^ k) : binop .BitAnd (.a (.int (n : Int))) (.a (.int (m : Int))) = some (.a (.int ((n % 2 ^ k : Nat) : Int))) := by
  have : m = 2 ^ k - 1 := by omega
  have e : n &&& m = n % 2 ^ k := by rw [this, Nat.and_two_pow_sub_one_eq_mod]
  rw [b_andI _ _ ⟨Int.natCast_nonneg n, Int.natCast_nonneg m⟩, ← e]; rfl
theorem b_divN (n m : Nat) (h : 0 < m) (h' : m < 2 ^ 200) : binop .FloorDiv (.a (.int (n : Int))) (.a (.int (m : Int))) = some (.a (.int ((n / m : Nat) : Int))) := by
  rw [b_div _ _ (by omega) (by omega)]; simp
theorem b_modN (n m : Nat) (h : 0 < m) : binop .Mod (.a (.int (n : Int))) (.a (.int (m : Int))) = some (.a (.int ((n % m : Nat) : Int))) := by
  rw [b_mod _ _ (by omega)]; simp
theorem b_powN (n k : Nat) (h : k ≤ 1000000) (h' : n < 2 ^ 64) : binop .Pow (.a (.int (n : Int))) (.a (.int (k : Int))) = some (.a (.int ((n ^ k : Nat) : Int))) := by
  rw [b_powI (n : Int) (k : Int) ⟨Int.natCast_nonneg k, Int.ofNat_le.mpr h, h'⟩, Int.toNat_natCast, Int.natCast_pow]
theorem b_subN (n m : Nat) (h : m ≤ n) : binop .Sub (.a (.int (n : Int))) (.a (.int (m : Int))) = some (.a (.int ((n - m : Nat) : Int))) := by
  rw [b_sub, Int.natCast_sub h]
theorem it_range (n : Nat) (h : n < 1000000) : iterItems .range [.a (.int (n : Int))] = some ((List.range n).map fun k => .int (k : Int)) := by
  rw [it_rangeI _ ⟨by omega, by omega⟩, Int.toNat_natCast]
  congr 1
  refine List.ext_getElem? fun i => ?_
  by_cases hi : i < n
  · rw [rangeL_get n 0 i hi]
    simp [hi]
  · rw [List.getElem?_eq_none (by rw [rangeL_len]; omega), List.getElem?_eq_none (by simp; omega)]
theorem strs_map (ls : List L) : strsOf (ls.map .str) = some ls := by
  induction ls with
  | nil => rfl
  | cons x r ih => simp [strsOf, ih]
theorem ints_map (ls : List Nat) : intsOf (ls.map fun k : Nat => .int (k : Int)) = some (ls.map fun k : Nat => (k : Int)) := by
  induction ls with
  | nil => rfl
  | cons x r ih => simp [intsOf, ih]
theorem j_join (sep : L) (ls : List L) (h : sumLen ls + ls.length * sep.length ≤ 1000) : me .join (.a (.str sep)) [.list (ls.map .str)] = some (.a (.str (joinL sep ls))) := by
  show (strsOf (ls.map .str)).bind _ = _
  rw [strs_map]
  show (if _ then _ else _) = _
  rw [if_pos (by rw [sizeLine_eq]; omega)]

noncomputable def oct4 (n : Nat) : List L := [24, 16, 8, 0].map fun k => dec (n / 2 ^ k % 256)
noncomputable def text4 (n : Nat) : L := joinL [46] (oct4 n)
theorem oct4_sum (n : Nat) : sumLen (oct4 n) + (oct4 n).length * ([46] : L).length ≤ 1000 := by
  have h1 := dec_len (k := n / 2 ^ 24 % 256) (by omega)
  have h2 := dec_len (k := n / 2 ^ 16 % 256) (by omega)
  have h3 := dec_len (k := n / 2 ^ 8 % 256) (by omega)
  have h4 := dec_len (k := n / 2 ^ 0 % 256) (by omega)
  simp only [sumLen, oct4, List.map_cons, List.map_nil, List.length_cons, List.length_nil]
  omega
theorem x5 (Φ : Nat → List PV → Option PV) (n : Nat) : run Φ 2 bIp4Text [I1 n] = some (S1 (text4 n)) := by
  have hc : ev Φ cIp4Text1 [some (.a (.int (n : Int))), none] = some (.list ((oct4 n).map .str)) := by
    unfold oct4
    rw [List.map_map]
    refine ev_comp_map (vs := [.tup [.int 24, .int 16, .int 8, .int 0]]) (fun k : Nat => .int (k : Int)) _ [24, 16, 8, 0] ?_ rfl fun k _ => ?_
    · rfl
    · have h2 : binop .BitAnd (.a (.int ((n / 2 ^ k : Nat) : Int))) (.a (.int 255)) = some (.a (.int ((n / 2 ^ k % 256 : Nat) : Int))) := b_and (n / 2 ^ k) 255 8 rfl
      have h3 := dec_str (k := n / 2 ^ k % 256) (by omega)
      exact ev_K rfl fun _ => ((k_b (b_shr n k)) ((k_b h2) ((k_b h3) rfl)))
  have hj := j_join [46] (oct4 n) (oct4_sum n)
  exact run_K rfl fun _ => ((k_b hc) ((k_b hj) rfl))
theorem x16 (Φ : Nat → List PV → Option PV) (n : Nat) : run Φ 2 bLawText4 [I1 n] = some (S1 (text4 n)) := by
  have hc : ev Φ cLawText41 [some (.a (.int (n : Int))), none] = some (.list ((oct4 n).map .str)) := by
    have e : oct4 n = (List.range 4).map fun k => dec (n / 256 ^ (3 - k) % 256) := by
      show _ = [dec (n / 256 ^ 3 % 256), dec (n / 256 ^ 2 % 256), dec (n / 256 ^ 1 % 256), dec (n / 256 ^ 0 % 256)]
      rfl
    rw [e, List.map_map]
    refine ev_comp_map (vs := [.a (.int 4)]) (fun k : Nat => .int (k : Int)) _ (List.range 4) ?_ (it_range 4 (by decide)) fun k hk => ?_
    · rfl
    · have hk' : k < 4 := List.mem_range.mp hk
      have h2 : binop .Pow (.a (.int 256)) (.a (.int ((3 : Int) - (k : Int)))) = some (.a (.int ((256 ^ (3 - k) : Nat) : Int))) := by
        rw [show ((3 : Int) - (k : Int)) = ((3 - k : Nat) : Int) by omega]
        exact b_powN 256 (3 - k) (Nat.le_trans (Nat.sub_le 3 k) (by decide)) (by decide)
      have hp : 0 < 256 ^ (3 - k) := Nat.pow_pos (by decide)
      have hp' : 256 ^ (3 - k) < 2 ^ 200 := Nat.lt_of_le_of_lt (Nat.pow_le_pow_right (by decide) (show 3 - k ≤ 3 by omega)) (by decide)
      have h3 := b_divN n (256 ^ (3 - k)) hp hp'
      have h4 : binop .Mod (.a (.int ((n / 256 ^ (3 - k) : Nat) : Int))) (.a (.int 256)) = some (.a (.int ((n / 256 ^ (3 - k) % 256 : Nat) : Int))) := b_modN _ 256 (by decide)
      have h5 := dec_str (k := n / 256 ^ (3 - k) % 256) (by omega)
      exact ev_K rfl fun _ => ((k_b h2) ((k_b h3) ((k_b h4) ((k_b h5) rfl))))
  have hj := j_join [46] (oct4 n) (oct4_sum n)
  exact run_K rfl fun _ => ((k_b hc) ((k_b hj) rfl))
end Mine
end
section
open PySem PySem.Calls
set_option maxRecDepth 100000
namespace Mine
theorem dec_digits : (∀ a, a < 10 → dec a = [48 + a]) ∧ (∀ a, a < 10 → ∀ b, b < 10 → a ≠ 0 → dec (10 * a + b) = [48 + a, 48 + b]) ∧
    (∀ a, a < 10 → ∀ b, b < 10 → ∀ c, c < 10 → a ≠ 0 → dec (100 * a + 10 * b + c) = [48 + a, 48 + b, 48 + c]) := by decide +kernel
theorem foldO_dec {n : Nat} : ∀ {l : L} {k : Nat}, foldO decG n l = some k → ∀ c ∈ l, 48 ≤ c ∧ c ≤ 57
  | [], _, _, _, h => by cases h
  | x :: r, k, e, c, h => by
    simp only [foldO, Option.bind_eq_some_iff] at e
    obtain ⟨m, hm, e⟩ := e
    unfold decG at hm
    split at hm
    · rcases List.mem_cons.mp h with rfl | h
      · assumption
      · exact foldO_dec e c h
    · cases hm
noncomputable def dig10 : L := [48, 49, 50, 51, 52, 53, 54, 55, 56, 57]
theorem dig_mem : ∀ c, c < 58 → 48 ≤ c → c ∈ dig10 := by decide
noncomputable def decChk (w : L) : Bool := (foldO decG 0 w).all fun n => decide (dec n = w) && decide (n < 1000)
theorem dec_chk : (∀ a ∈ dig10, decChk [a] = true) ∧ (∀ a ∈ dig10, a ≠ 48 → ∀ b ∈ dig10, decChk [a, b] = true) ∧ (∀ a ∈ dig10, a ≠ 48 → ∀ b ∈ dig10, ∀ c ∈ dig10, decChk [a, b, c] = true) := by decide +kernel
theorem decOf_inv {w : L} {m k : Nat} (h : decOf w m = some k) : w = dec k ∧ k ≤ m ∧ k < 1000 := by
  unfold decOf at h
  by_cases hc : w = [] ∨ 3 < w.length ∨ (w[0]? = some 48 ∧ w ≠ [48])
  · rw [if_pos hc] at h; cases h
  · rw [if_neg hc] at h
    obtain ⟨n, hn, h⟩ := bind_some2 h
    obtain ⟨hm, rfl⟩ := if_some2 h
    have hd : ∀ c ∈ w, c ∈ dig10 := fun c hc => dig_mem c (Nat.lt_succ_of_le (foldO_dec hn c hc).2) (foldO_dec hn c hc).1
    have key : decChk w = true → w = dec n ∧ n ≤ m ∧ n < 1000 := fun h => by
      unfold decChk at h
      rw [hn] at h
      obtain ⟨h1, h2⟩ := Bool.and_eq_true_iff.mp h
      exact ⟨(of_decide_eq_true h1).symm, hm, of_decide_eq_true h2⟩
    refine key ?_
    match w, hc, hd with
    | [a], _, hd => exact dec_chk.1 a (hd a (.head _))
    | [a, b], hc, hd => exact dec_chk.2.1 a (hd a (.head _)) (fun e => hc (.inr (.inr ⟨congrArg some e, fun q => nomatch q⟩))) b (hd b (.tail _ (.head _)))
    | [a, b, c], hc, hd => exact dec_chk.2.2 a (hd a (.head _)) (fun e => hc (.inr (.inr ⟨congrArg some e, fun q => nomatch q⟩))) b (hd b (.tail _ (.head _))) c (hd c (.tail _ (.tail _ (.head _))))
    | [], hc, _ => exact absurd (.inl rfl) hc
    | _ :: _ :: _ :: _ :: r, hc, _ => exact absurd (.inr (.inl (Nat.le_add_left 4 r.length))) hc
theorem decOf_dec {k m : Nat} (h : k < 1000) (hm : k ≤ m) : decOf (dec k) m = some k := by
  have this := (dec_small k h).2.1
  unfold decOf at this ⊢
  by_cases hc : dec k = [] ∨ 3 < (dec k).length ∨ ((dec k)[0]? = some 48 ∧ dec k ≠ [48])
  · rw [if_pos hc] at this; cases this
  · rw [if_neg hc] at this ⊢
    obtain ⟨n, hn, h1⟩ := bind_some2 this
    obtain ⟨_, rfl⟩ := if_some2 h1
    rw [hn]
    exact if_pos hm
theorem hrn (n k : Nat) : n / 2 ^ (k + 8) * 256 + n / 2 ^ k % 256 = n / 2 ^ k := by
  rw [Nat.pow_add, ← Nat.div_div_eq_div_mul]
  exact Nat.div_add_mod' _ 256
theorem top256 {n k : Nat} (h : n < 2 ^ k * 256) : n / 2 ^ k % 256 = n / 2 ^ k := Nat.mod_eq_of_lt ((Nat.div_lt_iff_lt_mul (Nat.pow_pos (by decide))).mpr (by rw [Nat.mul_comm]; exact h))
theorem dq {x y : Nat} (h : y < 256) : (x * 256 + y) / 256 = x := by rw [Nat.add_comm, Nat.add_mul_div_right _ _ (by decide), Nat.div_eq_of_lt h, Nat.zero_add]
theorem dm {x y : Nat} (h : y < 256) : (x * 256 + y) % 256 = y := by rw [Nat.add_comm, Nat.add_mul_mod_self_right]; exact Nat.mod_eq_of_lt h
theorem db {x y m : Nat} (hx : x < m) (h : y < 256) : x * 256 + y < m * 256 := Nat.lt_of_lt_of_le (Nat.add_lt_add_left h _) (by rw [← Nat.succ_mul]; exact Nat.mul_le_mul_right _ hx)
theorem oct4_h (n : Nat) : oct4 n = [dec (n / 256 / 256 / 256 % 256), dec (n / 256 / 256 % 256), dec (n / 256 % 256), dec (n % 256)] := by
  show [dec (n / 2 ^ 24 % 256), dec (n / 2 ^ 16 % 256), dec (n / 2 ^ 8 % 256), dec (n / 2 ^ 0 % 256)] = _
  rw [Nat.div_div_eq_div_mul, Nat.div_div_eq_div_mul, Nat.div_div_eq_div_mul, Nat.pow_zero, Nat.div_one]
theorem dec_not {k c : Nat} (h : k < 1000) (hc : c < 48 ∨ 57 < c) : c ∉ dec k := by
  intro hm
  have := (dec_small k h).2.2
  rw [List.all_eq_true] at this
  have := this c hm
  simp at this
  omega
theorem dec_ne {k : Nat} (h : k < 1000) : dec k ≠ [] := by
  intro e
  have := (dec_small k h).2.1
  rw [e] at this
  simp [decOf] at this

theorem cons1_join {c x : Nat} {l : List L} (h : l ≠ []) : joinL [c] (cons1 x l) = x :: joinL [c] l := by
  cases l with
  | nil => exact absurd rfl h
  | cons a t => cases t <;> rfl
theorem join_split (c : Nat) : ∀ l : L, joinL [c] (splitC c l) = l
  | [] => rfl
  | x :: r => by
    unfold splitC
    split
    · rename_i e
      subst e
      have ih := join_split x r
      cases hs : splitC x r with
      | nil => exact absurd hs (splitC_ne _ _)
      | cons a t =>
        rw [hs] at ih
        show [] ++ ([x] ++ joinL [x] (a :: t)) = _
        rw [ih]; rfl
    · rw [cons1_join (splitC_ne _ _), join_split c r]
theorem splitC_app {c : Nat} : ∀ (w : L) (r : L), c ∉ w → splitC c (w ++ c :: r) = w :: splitC c r
  | [], r, _ => by simp [splitC]
  | x :: w, r, h => by
    simp only [List.mem_cons, not_or] at h
    have ih := splitC_app w r h.2
    rw [List.cons_append, splitC, if_neg (fun e => h.1 e.symm), ih]
    rfl
theorem splitC_one {c : Nat} : ∀ (w : L), c ∉ w → splitC c w = [w]
  | [], _ => rfl
  | x :: w, h => by
    simp only [List.mem_cons, not_or] at h
    rw [splitC, if_neg (fun e => h.1 e.symm), splitC_one w h.2]
    rfl
theorem split_join {c : Nat} : ∀ {ws : List L}, ws ≠ [] → (∀ w ∈ ws, c ∉ w) → splitC c (joinL [c] ws) = ws
  | [], h, _ => absurd rfl h
  | [w], _, h => splitC_one w (h w (by simp))
  | w :: v :: r, _, h => by
    show splitC c (w ++ c :: joinL [c] (v :: r)) = _
    rw [splitC_app w _ (h w (by simp)), split_join (by simp) (fun u hu => h u (by simp [List.mem_cons] at hu ⊢; exact .inr hu))]

theorem ip4_text4 {n : Nat} (h : n < 2 ^ 32) : ip4Of (text4 n) = some n := by
  have hs : splitC 46 (text4 n) = oct4 n := split_join (List.cons_ne_nil _ _) (fun w hw => by
    obtain ⟨k, _, rfl⟩ := List.mem_map.mp hw
    exact dec_not (Nat.lt_trans (Nat.mod_lt _ (by decide)) (by decide)) (.inl (by decide)))
  unfold ip4Of partsOf
  rw [hs, if_pos (by simp [oct4])]
  show foldO (numG fun w => decOf w 255) 0 [dec (n / 2 ^ 24 % 256), dec (n / 2 ^ 16 % 256), dec (n / 2 ^ 8 % 256), dec (n / 2 ^ 0 % 256)] = _
  have m : ∀ k, decOf (dec (k % 256)) 255 = some (k % 256) := fun k => decOf_dec (Nat.lt_trans (Nat.mod_lt k (by decide)) (by decide)) (Nat.le_of_lt_succ (Nat.mod_lt k (by decide)))
  simp only [foldO, numG, m, Option.map_some, Option.bind_some]
  rw [Nat.zero_mul, Nat.zero_add, top256 (k := 24) h, hrn n 16, hrn n 8, hrn n 0, Nat.pow_zero, Nat.div_one]
theorem ip4_inv {l : L} {n : Nat} (h : ip4Of l = some n) : text4 n = l ∧ n < 2 ^ 32 := by
  unfold ip4Of partsOf at h
  split at h
  · rename_i hl
    have hj := join_split 46 l
    match hs : splitC 46 l, hl with
    | [a, b, c, d], _ =>
      rw [hs] at h hj
      simp only [foldO, numG, Option.bind_eq_some_iff, Option.map_eq_some_iff] at h
      obtain ⟨_, ⟨x1, e1, rfl⟩, _, ⟨x2, e2, rfl⟩, _, ⟨x3, e3, rfl⟩, _, ⟨x4, e4, rfl⟩, h⟩ := h
      cases h
      obtain ⟨rfl, l1, _⟩ := decOf_inv e1
      obtain ⟨rfl, l2, _⟩ := decOf_inv e2
      obtain ⟨rfl, l3, _⟩ := decOf_inv e3
      obtain ⟨rfl, l4, _⟩ := decOf_inv e4
      have b1 : x1 < 256 := Nat.lt_succ_of_le l1
      have b2 : x2 < 256 := Nat.lt_succ_of_le l2
      have b3 : x3 < 256 := Nat.lt_succ_of_le l3
      have b4 : x4 < 256 := Nat.lt_succ_of_le l4
      rw [Nat.zero_mul, Nat.zero_add]
      refine ⟨?_, db (db (db b1 b2) b3) b4⟩
      rw [← hj]
      unfold text4
      rw [oct4_h, dq b4, dm b4, dq b3, dm b3, dq b2, dm b2, Nat.mod_eq_of_lt b1]
  · cases h
end Mine
end
section
open PySem PySem.Calls
set_option maxRecDepth 100000
namespace Mine
noncomputable def r4d (o c : Nat) : Nat := (((o : Int) * 10 + findC c dig10) % 256).toNat
noncomputable def r4 (st : List Nat × Nat) (c : Nat) : List Nat × Nat := if c = 46 ∧ st.2 < 3 then (st.1, st.2 + 1) else (st.1.set st.2 (r4d (st.1.getD st.2 0) c), st.2)
noncomputable def r4N (l : L) : Nat := match (l.foldl r4 ([0, 0, 0, 0], 0)).1 with
  | [a, b, c, d] => a * 16777216 + b * 65536 + c * 256 + d
  | _ => 0
theorem foldO_some {σ α : Type} (f : σ → α → σ) : ∀ (l : List α) (s : σ), foldO (fun s a => some (f s a)) s l = some (l.foldl f s)
  | [], s => rfl
  | a :: r, s => by simp only [foldO, Option.bind_some, List.foldl_cons]; exact foldO_some f r (f s a)
theorem r4_ok {st : List Nat × Nat} (c : Nat) (h : st.1.length = 4 ∧ st.2 ≤ 3) : (r4 st c).1.length = 4 ∧ (r4 st c).2 ≤ 3 := by
  unfold r4
  split
  · exact ⟨h.1, by have := h.2; omega⟩
  · exact ⟨by simpa using h.1, h.2⟩
theorem r4_fold {l : L} : ∀ {st : List Nat × Nat}, (st.1.length = 4 ∧ st.2 ≤ 3) → (l.foldl r4 st).1.length = 4 ∧ (l.foldl r4 st).2 ≤ 3 := by
  induction l with
  | nil => intro st h; exact h
  | cons c r ih => intro st h; exact ih (r4_ok c h)
theorem x19_set {tk : Bool} {Φ : Nat → List PV → Option PV} {l : L} {o : List Nat} {at' c : Nat} {q : Option PV} {k : Store → Option (Fl × Store)} {r : PV → Store → Option (Fl × Store)} (h1 : o.length = 4) (h2 : at' ≤ 3) :
    exK tk Φ (.seq (.setItem 1 (.var 2) (.bin .Mod (.bin .Add (.bin .Mult (.idx (.var 1) (.var 2)) (.int 10)) (.me .find (.str [48, 49, 50, 51, 52, 53, 54, 55, 56, 57]) (.cons (.var 3) .nil))) (.int 256))) .nil)
      [some (S1 l), some (.list (o.map fun k : Nat => .int (k : Int))), some (I1 at'), some (.a (.str [c])), q] k r =
    k [some (S1 l), some (.list ((o.set at' (r4d (o.getD at' 0) c)).map fun k : Nat => .int (k : Int))), some (I1 at'), some (.a (.str [c])), q] := by
  have h3 : at' < o.length := by rw [h1]; exact Nat.lt_succ_of_le h2
  have hidx : index (.list (o.map fun k : Nat => .int (k : Int))) (I1 at') = some (I1 (o.getD at' 0)) := by
    refine (i_list _ _ (Int.natCast_nonneg _)).trans ?_
    rw [Int.toNat_natCast, List.getElem?_map, List.getD, List.getElem?_eq_getElem h3]; rfl
  have hval : ((((o.getD at' 0 : Nat) : Int) * 10 + findC c dig10) % 256) = ((r4d (o.getD at' 0) c : Nat) : Int) := (Int.toNat_of_nonneg (Int.emod_nonneg _ (by decide))).symm
  refine (k_b hidx) ((k_b (b_mulR _ 10 (by decide))) ((k_b (m_find dig10 c)) ((k_b (b_mod _ 256 (by decide))) ((k_t ⟨Int.natCast_nonneg _, Int.ofNat_lt.mpr (by rw [List.length_map]; exact h3)⟩) ?_))))
  rw [hval, List.map_set]; rfl
theorem x19_step {Φ : Nat → List PV → Option PV} {l : L} {s : List Nat × Nat} {c : Nat} {q : Option PV} (h : s.1.length = 4 ∧ s.2 ≤ 3) : ∃ ρ', ex Φ lLawRead41 [some (S1 l), some (.list (s.1.map fun k : Nat => .int (k : Int))), some (I1 s.2), some (.a (.str [c])), none] = some (outO (.a .none) (some (r4 s c)) ρ') ∧
    okO' (fun (s : List Nat × Nat) ρ => ∃ o, ρ = [some (S1 l), some (.list (s.1.map fun k : Nat => .int (k : Int))), some (I1 s.2), o, none] ∧ s.1.length = 4 ∧ s.2 ≤ 3) (some (r4 s c)) ρ' := by
  by_cases hc : c = 46 ∧ s.2 < 3
  · refine ⟨_, ex_K rfl fun _ => ((d_t (one_eq.mpr hc.1)) ((d_t (Int.ofNat_lt.mpr hc.2)) rfl)), some (.a (.str [c])), ?_, r4_ok c h⟩
    unfold r4
    rw [if_pos hc]; rfl
  · have ht : ev Φ (.boolE true (.cons (.cmp .Eq (.var 3) (.str [46])) (.cons (.cmp .Lt (.var 2) (.int 3)) .nil))) [some (S1 l), some (.list (s.1.map fun k : Nat => .int (k : Int))), some (I1 s.2), some (.a (.str [c])), none] = some (.a (.bool false)) := by
      refine ev_K rfl fun tk => ?_
      by_cases h46 : c = 46
      · exact (d_t (one_eq.mpr h46)) ((d_f (fun h3 => hc ⟨h46, Int.ofNat_lt.mp h3⟩)) rfl)
      · exact (d_f (mt one_eq.mp h46)) rfl
    refine ⟨_, ex_K rfl fun _ => ((s_if ht rfl) (x19_set h.1 h.2)), some (.a (.str [c])), ?_, r4_ok c h⟩
    unfold r4
    rw [if_neg hc]
theorem x19_end {tk : Bool} {Φ : Nat → List PV → Option PV} {N : Nat} {l tx : L} {a b c : Option PV} (h : Φ 16 [I1 N] = some (S1 tx)) : exK tk Φ (.seq (.ret (.ite (.cmp .Eq (.call 16 (.cons (.var 4) .nil)) (.var 0)) (.var 4) .none)) .nil) [some (S1 l), a, b, c, some (.a (.int (N : Int)))] (fun _ => none) (fun v _ => some v) = some (optI (if tx = l then some N else none)) := by
  refine (k_b h) ?_
  by_cases ht : tx = l
  · rw [if_pos ht]
    exact (d_t ht) rfl
  · rw [if_neg ht]
    exact (d_f ht) rfl
theorem x19_run {Φ : Nat → List PV → Option PV} (h16 : ∀ n : Nat, Φ 16 [I1 n] = some (S1 (text4 n))) (l : L) : run Φ 5 bLawRead4 [S1 l] = some (optI (if text4 (r4N l) = l then some (r4N l) else none)) := by
  obtain ⟨ρ', hgo, hR⟩ : ∃ ρ', forGo (fun a ρ => ex Φ lLawRead41 (set ρ 3 (.a a))) (l.map fun c => .str [c]) [some (.a (.str l)), some (.list [.int 0, .int 0, .int 0, .int 0]), some (.a (.int 0)), none, none] = some (outO (.a .none) (foldO (fun s a => some (r4 s a)) ([0, 0, 0, 0], 0) l) ρ') ∧ _ :=
    forGo_O (R := fun (s : List Nat × Nat) ρ => ∃ o, ρ = [some (S1 l), some (.list (s.1.map fun k : Nat => .int (k : Int))), some (I1 s.2), o, none] ∧ s.1.length = 4 ∧ s.2 ≤ 3) (.a .none) l ([0, 0, 0, 0], 0) _
      (by rintro s ρ c _ ⟨q, rfl, h⟩; exact x19_step (q := q) h) ⟨none, rfl, rfl, by decide⟩
  rw [foldO_some] at hgo hR
  obtain ⟨q, rfl, hl, _⟩ := hR
  refine run_K rfl fun _ => ((k_b (x := PV.list [.int 0, .int 0, .int 0, .int 0]) (by rfl)) ((k_b hgo) ?_))
  unfold r4N
  generalize l.foldl r4 ([0, 0, 0, 0], 0) = st at hl ⊢
  obtain ⟨os, at'⟩ := st
  match os, hl with
  | [a, b, c, d], _ =>
    show _ = some (optI (if text4 (a * 16777216 + b * 65536 + c * 256 + d) = l then some (a * 16777216 + b * 65536 + c * 256 + d) else none))
    have hN : ((a : Int) * 16777216 + (b : Int) * 65536 + (c : Int) * 256 + (d : Int)) = ((a * 16777216 + b * 65536 + c * 256 + d : Nat) : Int) := by
      rw [Int.natCast_add, Int.natCast_add, Int.natCast_add, Int.natCast_mul, Int.natCast_mul, Int.natCast_mul]; rfl
    generalize a * 16777216 + b * 65536 + c * 256 + d = N at hN ⊢
    refine (k_b (x := I1 a) (by rfl)) ((k_b (b_mulR _ 16777216 (by decide))) ((k_b (x := I1 b) (by rfl)) ((k_b (b_mulR _ 65536 (by decide))) ((k_b (x := I1 c) (by rfl)) ((k_b (b_mulR _ 256 (by decide))) ((k_b (x := I1 d) (by rfl)) ?_))))))
    show exK _ Φ (.seq (.ret (.ite (.cmp .Eq (.call 16 (.cons (.var 4) .nil)) (.var 0)) (.var 4) .none)) .nil) [some (S1 l), some (.list (([a, b, c, d] : List Nat).map fun k : Nat => .int (k : Int))), some (I1 at'), q, some (.a (.int ((a : Int) * 16777216 + (b : Int) * 65536 + (c : Int) * 256 + (d : Int))))] (fun _ => none) (fun v _ => some v) = _
    rw [hN]
    exact x19_end (h16 N)

theorem r4d_dec : ∀ k, k < 256 → (dec k).foldl r4d 0 = k := by decide +kernel
theorem r4_word {at' : Nat} : ∀ (w : L) (o : List Nat), at' < o.length → 46 ∉ w → w.foldl r4 (o, at') = (o.set at' (w.foldl r4d (o.getD at' 0)), at')
  | [], o, h, _ => by
    have : o.set at' (o.getD at' 0) = o := by
      refine List.ext_getElem? fun i => ?_
      rw [List.getElem?_set]
      split
      · rename_i e; subst e; simp [h]
      · rfl
    simp only [List.foldl_nil, this]
  | c :: w, o, h, hn => by
    simp only [List.mem_cons, not_or] at hn
    have e : r4 (o, at') c = (o.set at' (r4d (o.getD at' 0) c), at') := by unfold r4; rw [if_neg (fun q => hn.1 q.1.symm)]
    rw [List.foldl_cons, e, r4_word w _ (by simpa using h) hn.2, List.foldl_cons]
    have e2 : (o.set at' (r4d (o.getD at' 0) c)).getD at' 0 = r4d (o.getD at' 0) c := by simp [List.getD, h]
    rw [e2, List.set_set]
theorem r4_dot {o : List Nat} {at' : Nat} (h : at' < 3) : r4 (o, at') 46 = (o, at' + 1) := by unfold r4; rw [if_pos ⟨rfl, h⟩]
theorem r4N_text4 {n : Nat} (h : n < 2 ^ 32) : r4N (text4 n) = n := by
  have hw : ∀ k, k < 256 → 46 ∉ dec k := fun k hk => dec_not (by omega) (.inl (by decide))
  have w0 : ∀ k, k < 256 → (dec k).foldl r4 ([0, 0, 0, 0], 0) = ([k, 0, 0, 0], 0) := fun k hk => by
    rw [r4_word _ _ (by decide) (hw k hk)]; simp [r4d_dec k hk]
  have w1 : ∀ a k, k < 256 → (dec k).foldl r4 ([a, 0, 0, 0], 1) = ([a, k, 0, 0], 1) := fun a k hk => by
    rw [r4_word _ _ (by simp) (hw k hk)]; simp [r4d_dec k hk]
  have w2 : ∀ a b k, k < 256 → (dec k).foldl r4 ([a, b, 0, 0], 2) = ([a, b, k, 0], 2) := fun a b k hk => by
    rw [r4_word _ _ (by simp) (hw k hk)]; simp [r4d_dec k hk]
  have w3 : ∀ a b c k, k < 256 → (dec k).foldl r4 ([a, b, c, 0], 3) = ([a, b, c, k], 3) := fun a b c k hk => by
    rw [r4_word _ _ (by simp) (hw k hk)]; simp [r4d_dec k hk]
  have e : (text4 n).foldl r4 ([0, 0, 0, 0], 0) = ([n / 2 ^ 24 % 256, n / 2 ^ 16 % 256, n / 2 ^ 8 % 256, n / 2 ^ 0 % 256], 3) := by
    unfold text4 oct4
    simp only [List.map_cons, List.map_nil, joinL, List.foldl_append, List.foldl_cons, List.foldl_nil]
    have p : ∀ k, k % 256 < 256 := fun k => Nat.mod_lt k (by decide)
    rw [w0 _ (p _), r4_dot (at' := 0) (by decide), w1 _ _ (p _), r4_dot (at' := 1) (by decide), w2 _ _ _ (p _), r4_dot (at' := 2) (by decide), w3 _ _ _ _ (p _)]
  unfold r4N
  rw [e]
  show n / 2 ^ 24 % 256 * 16777216 + n / 2 ^ 16 % 256 * 65536 + n / 2 ^ 8 % 256 * 256 + n / 2 ^ 0 % 256 = n
  have lin : ∀ a b c d : Nat, a * 16777216 + b * 65536 + c * 256 + d = ((a * 256 + b) * 256 + c) * 256 + d := fun a b c d => by omega
  rw [lin, top256 (k := 24) h, hrn n 16, hrn n 8, hrn n 0, Nat.pow_zero, Nat.div_one]
theorem r4_lt {l : L} : ∀ {st : List Nat × Nat}, (∀ x ∈ st.1, x < 256) → ∀ x ∈ (l.foldl r4 st).1, x < 256 := by
  induction l with
  | nil => intro st h; exact h
  | cons c r ih =>
    intro st h
    refine ih (st := r4 st c) fun x hx => ?_
    unfold r4 at hx
    split at hx
    · exact h x hx
    · rcases List.mem_or_eq_of_mem_set hx with hx | rfl
      · exact h x hx
      · unfold r4d
        have h1 := Int.emod_nonneg (((st.1.getD st.2 0 : Nat) : Int) * 10 + findC c dig10) (show (256 : Int) ≠ 0 by decide)
        have h2 := Int.emod_lt_of_pos (((st.1.getD st.2 0 : Nat) : Int) * 10 + findC c dig10) (show (0 : Int) < 256 by decide)
        omega
theorem r4N_lt (l : L) : r4N l < 2 ^ 32 := by
  have h := r4_lt (l := l) (st := ([0, 0, 0, 0], 0)) (by simp)
  unfold r4N
  split
  · rename_i a b c d e
    rw [e] at h
    have := h a (by simp)
    have := h b (by simp)
    have := h c (by simp)
    have := h d (by simp)
    omega
  · decide
theorem x19 {Φ : Nat → List PV → Option PV} (h16 : ∀ n : Nat, Φ 16 [I1 n] = some (S1 (text4 n))) (l : L) : run Φ 5 bLawRead4 [S1 l] = some (optI (ip4Of l)) := by
  rw [x19_run h16]
  congr 2
  cases h : ip4Of l with
  | some n =>
    obtain ⟨e, hn⟩ := ip4_inv h
    have e2 : r4N l = n := by rw [← e]; exact r4N_text4 hn
    rw [e2, if_pos e]
  | none =>
    rw [if_neg]
    intro e
    rw [← e, ip4_text4 (r4N_lt l)] at h
    cases h
end Mine
end
section
open PySem PySem.Calls
set_option maxRecDepth 100000
namespace Mine
noncomputable def dg (k : Nat) : Nat := if k < 10 then 48 + k else 87 + k
theorem hex16_get : ∀ k, k < 16 → hex16[k]? = some (dg k) := by decide +kernel
noncomputable def hexW (g : Nat) : L :=
  if g < 16 then [dg g] else if g < 256 then [dg (g / 16), dg (g % 16)] else if g < 4096 then [dg (g / 256), dg (g / 16 % 16), dg (g % 16)]
  else [dg (g / 4096), dg (g / 256 % 16), dg (g / 16 % 16), dg (g % 16)]
noncomputable def hexT (g least : Nat) : L := if least = 2 ∧ g < 16 then [48, dg g] else hexW g
noncomputable def hexL : Nat → Nat → Nat → L → L
  | 0, _, _, ds => ds
  | k + 1, n, least, ds => if 0 < n ∨ ds.length < least then hexL k (n / 16) least (dg (n % 16) :: ds) else ds
theorem idx16 (n : Nat) : index (.a (.str [48, 49, 50, 51, 52, 53, 54, 55, 56, 57, 97, 98, 99, 100, 101, 102])) (.a (.int ((n % 16 : Nat) : Int))) = some (.a (.str [dg (n % 16)])) := by
  rw [i_str _ _ (by omega)]
  have := hex16_get (n % 16) (by omega)
  unfold hex16 at this
  rw [Int.toNat_natCast, this]; rfl
theorem x3_test {Φ : Nat → List PV → Option PV} {n least : Nat} {ds : L} : ev Φ wHexText1 [some (I1 n), some (I1 least), some (S1 ds)] = some (.a (.bool (decide (0 < n ∨ ds.length < least)))) := by
  refine ev_K rfl fun _ => ?_
  by_cases h0 : 0 < n
  · rw [decide_eq_true (.inl h0)]
    exact (e_f (Int.ofNat_lt.mpr h0)) rfl
  · refine (e_t (mt Int.ofNat_lt.mp h0)) ?_
    by_cases h1 : ds.length < least
    · rw [decide_eq_true (.inr h1)]
      exact (e_f (Int.ofNat_lt.mpr h1)) rfl
    · rw [decide_eq_false (fun h => h.elim h0 h1)]
      exact (e_t (mt Int.ofNat_lt.mp h1)) rfl
theorem while_t {c : Store → Option Bool} {body : Store → Option (Fl × Store)} {n : Nat} {ρ ρ' : Store} {r : Option (Fl × Store)} (h : c ρ = some true) (hb : body ρ = some (.next, ρ')) (k : whileGo c body n ρ' = r) : whileGo c body (n + 1) ρ = r := by
  rw [whileGo, h]
  show (body ρ).bind _ = r
  rw [hb]; exact k
theorem while_f {c : Store → Option Bool} {body : Store → Option (Fl × Store)} {n : Nat} {ρ : Store} (h : c ρ = some false) : whileGo c body (n + 1) ρ = some (.next, ρ) := by
  rw [whileGo, h]; rfl
theorem truth_b {o : Option PV} {b : Bool} (h : o = some (.a (.bool b))) : o.bind truth = some b := by rw [h]; rfl
theorem x3_loop (Φ : Nat → List PV → Option PV) (least : Nat) (hl : least ≤ 2) : ∀ (k n : Nat) (ds : L), ds.length ≤ 4 → n < 16 ^ (4 - ds.length) → 6 ≤ k + ds.length →
    ∃ n', whileGo (fun ρ => (ev Φ wHexText1 ρ).bind truth) (fun ρ => ex Φ lHexText1 ρ) k
      [some (.a (.int (n : Int))), some (.a (.int (least : Int))), some (.a (.str ds))] = some (.next, [n', some (.a (.int (least : Int))), some (.a (.str (hexL k n least ds)))])
  | 0, n, ds, h1, _, h3 => absurd (Nat.le_trans h3 (by rw [Nat.zero_add]; exact h1)) (by decide)
  | k + 1, n, ds, h1, h2, h3 => by
    have ht := truth_b (x3_test (Φ := Φ) (n := n) (least := least) (ds := ds))
    by_cases hc : 0 < n ∨ ds.length < least
    · have hlen : ds.length < 4 := by
        rcases hc with h | h
        · refine Nat.lt_of_le_of_ne h1 fun q => ?_
          rw [q] at h2
          exact absurd (Nat.lt_of_lt_of_le h (Nat.le_of_lt_succ h2)) (Nat.lt_irrefl 0)
        · exact Nat.lt_of_lt_of_le h (Nat.le_trans hl (by decide))
      have hcat : ([dg (n % 16)] : L).length + ds.length ≤ sizeLine := by rw [sizeLine_eq]; exact Nat.le_trans (Nat.add_le_add_left h1 1) (by decide)
      rw [decide_eq_true hc] at ht
      have hbody : ex Φ lHexText1 [some (I1 n), some (I1 least), some (S1 ds)] = some (.next, [some (I1 (n / 16)), some (I1 least), some (S1 (dg (n % 16) :: ds))]) :=
        ex_K rfl fun _ => ((k_b (b_and n 15 4 rfl)) ((k_b (idx16 n)) ((k_g hcat) ((k_b (b_shr n 4)) rfl))))
      have h2' : n / 16 < 16 ^ (4 - (dg (n % 16) :: ds).length) := by
        refine (Nat.div_lt_iff_lt_mul (by decide)).mpr ?_
        rw [← Nat.pow_succ]
        refine Nat.lt_of_lt_of_le h2 (Nat.pow_le_pow_right (by decide) ?_)
        rw [List.length_cons]; omega
      obtain ⟨n', h⟩ := x3_loop Φ least hl k (n / 16) (dg (n % 16) :: ds) hlen h2' (by rw [List.length_cons]; omega)
      exact ⟨n', by rw [hexL, if_pos hc]; exact while_t ht hbody h⟩
    · rw [decide_eq_false hc] at ht
      exact ⟨some (.a (.int (n : Int))), by rw [hexL, if_neg hc]; exact while_f ht⟩
theorem hexL_go {k n least : Nat} {ds : L} (h : 0 < n ∨ ds.length < least) : hexL (k + 1) n least ds = hexL k (n / 16) least (dg (n % 16) :: ds) := if_pos h
theorem hexL_end {k n least : Nat} {ds : L} (h : n = 0) (h' : least ≤ ds.length) : hexL (k + 1) n least ds = ds := if_neg (fun q => q.elim (fun q => absurd (h ▸ q) (Nat.lt_irrefl 0)) (Nat.not_lt.mpr h'))
theorem div_256 (g : Nat) : g / 16 / 16 = g / 256 := Nat.div_div_eq_div_mul g 16 16
theorem div_4096 (g : Nat) : g / 256 / 16 = g / 4096 := Nat.div_div_eq_div_mul g 256 16
theorem hexL_eq {g least : Nat} (hg : g < 65536) (h1 : least = 1 ∨ least = 2) : hexL 100 g least [] = hexT g least := by
  have hl : 1 ≤ least ∧ least ≤ 2 := by rcases h1 with rfl | rfl <;> decide
  unfold hexT hexW
  rw [hexL_go (.inr hl.1)]
  by_cases a : g < 16
  · rw [Nat.div_eq_of_lt a, Nat.mod_eq_of_lt a, if_pos a]
    rcases h1 with rfl | rfl
    · rw [if_neg (fun h => absurd h.1 (by decide))]; exact hexL_end rfl (Nat.le_refl 1)
    · rw [if_pos ⟨rfl, a⟩, hexL_go (.inr (Nat.le_refl 2))]; exact hexL_end rfl (Nat.le_refl 2)
  · rw [if_neg (fun h => a h.2), if_neg a, hexL_go (.inl (Nat.div_pos (Nat.not_lt.mp a) (by decide))), div_256]
    by_cases b : g < 256
    · rw [if_pos b, hexL_end (Nat.div_eq_of_lt b) hl.2, Nat.mod_eq_of_lt (a := g / 16) ((Nat.div_lt_iff_lt_mul (by decide)).mpr b)]
    · rw [if_neg b, hexL_go (.inl (Nat.div_pos (Nat.not_lt.mp b) (by decide))), div_4096]
      by_cases c : g < 4096
      · rw [if_pos c, hexL_end (Nat.div_eq_of_lt c) (Nat.le_trans hl.2 (by simp)), Nat.mod_eq_of_lt (a := g / 256) ((Nat.div_lt_iff_lt_mul (by decide)).mpr c)]
      · rw [if_neg c, hexL_go (.inl (Nat.div_pos (Nat.not_lt.mp c) (by decide))), hexL_end (by rw [Nat.div_div_eq_div_mul]; exact Nat.div_eq_of_lt hg) (Nat.le_trans hl.2 (by simp)), Nat.mod_eq_of_lt (a := g / 4096) ((Nat.div_lt_iff_lt_mul (by decide)).mpr hg)]
theorem x3 (Φ : Nat → List PV → Option PV) {g least : Nat} (hg : g < 65536) (h1 : least = 1 ∨ least = 2) : run Φ 3 bHexText [I1 g, I1 least] = some (S1 (hexT g least)) := by
  obtain ⟨n', h⟩ := x3_loop Φ least (by rcases h1 with rfl | rfl <;> decide) 100 g [] (Nat.zero_le _) hg (by decide)
  rw [hexL_eq hg h1] at h
  exact run_K rfl fun _ => ((k_b h) rfl)

noncomputable def stripZ : List Nat → List Nat
  | 0 :: b :: r => stripZ (b :: r)
  | ds => ds
noncomputable def nL (ds : List Nat) : List At := ds.map fun k : Nat => .int (k : Int)
theorem slice_tail {α : Type} (x : α) (r : List α) : pySlice (x :: r) (some 1) none = r := by
  unfold pySlice clip
  dsimp only
  rw [if_neg (by decide), List.take_length]
  show List.drop (min 1 (r.length + 1)) (x :: r) = r
  rw [Nat.min_eq_left (Nat.le_add_left 1 r.length)]; rfl
theorem stripZ_ne {a b : Nat} {r : List Nat} (ha : a ≠ 0) : stripZ (a :: b :: r) = a :: b :: r := by
  cases a with
  | zero => exact absurd rfl ha
  | succ a => rfl
theorem stripZ_one {a : Nat} : stripZ [a] = [a] := by cases a <;> rfl
theorem x15_loop (Φ : Nat → List PV → Option PV) (g : PV) : ∀ (k : Nat) (ds : List Nat), ds.length < k →
    whileGo (fun ρ => (ev Φ wLawHex1 ρ).bind truth) (fun ρ => ex Φ lLawHex1 ρ) k
      [some g, some (.list (nL ds)), none] = some (.next, [some g, some (.list (nL (stripZ ds))), none])
  | 0, ds, h => absurd h (Nat.not_lt_zero _)
  | k + 1, ds, h => by
    match ds, h with
    | [], h =>
      have h0 : (ev Φ wLawHex1 [some g, some (.list (nL [])), none]).bind truth = some false := truth_b (ev_K rfl fun _ => rfl)
      exact while_f h0
    | [a], h =>
      have h0 : (ev Φ wLawHex1 [some g, some (.list (nL [a])), none]).bind truth = some false := truth_b (ev_K rfl fun _ => rfl)
      have e : stripZ [a] = [a] := stripZ_one
      rw [e]
      exact while_f h0
    | a :: b :: r, h =>
      have hl : (1 : Int) < (((nL (a :: b :: r)).length : Nat) : Int) := Int.ofNat_lt.mpr (Nat.succ_lt_succ (Nat.succ_pos _))
      by_cases ha : a = 0
      · subst ha
        have h0 : (ev Φ wLawHex1 [some g, some (.list (nL (0 :: b :: r))), none]).bind truth = some true := truth_b (ev_K rfl fun _ => ((d_t hl) ((k_b (x := I1 0) (by rfl)) rfl)))
        exact while_t h0 (ex_K rfl fun _ => ((k_b (x := PV.list (nL (b :: r))) (congrArg (fun z => some (PV.list z)) (slice_tail _ _))) rfl)) (x15_loop Φ g k (b :: r) (Nat.lt_of_succ_lt_succ h))
      · rw [stripZ_ne ha]
        have h0 : (ev Φ wLawHex1 [some g, some (.list (nL (a :: b :: r))), none]).bind truth = some false := truth_b (ev_K rfl fun _ => ((d_t hl) ((k_b (x := I1 a) (by rfl)) ((d_f (fun q => ha (Int.ofNat_inj.mp (At.int.inj (PV.a.inj q))))) rfl))))
        exact while_f h0
theorem joinL_nil : ∀ ds : List Nat, joinL [] (ds.map fun d => [dg d]) = ds.map dg
  | [] => rfl
  | [a] => rfl
  | a :: b :: r => by
    have ih := joinL_nil (b :: r)
    simp only [List.map_cons] at ih ⊢
    rw [joinL, ih]; rfl
theorem sumLen_one : ∀ ds : List Nat, sumLen (ds.map fun d => [dg d]) = ds.length
  | [] => rfl
  | a :: r => by simp [sumLen, sumLen_one r]; omega
theorem stripZ_hex {g : Nat} (hg : g < 65536) : (stripZ [g / 4096, g / 256 % 16, g / 16 % 16, g % 16]).map dg = hexW g := by
  unfold hexW
  by_cases a : g < 16
  · rw [if_pos a, Nat.div_eq_of_lt (Nat.lt_trans a (by decide)), Nat.div_eq_of_lt (Nat.lt_trans a (by decide)), Nat.div_eq_of_lt a, Nat.mod_eq_of_lt a]
    show (stripZ [g]).map dg = _
    rw [stripZ_one]; rfl
  · rw [if_neg a]
    have n1 : g / 16 ≠ 0 := Nat.ne_of_gt (Nat.div_pos (Nat.not_lt.mp a) (by decide))
    by_cases b : g < 256
    · rw [if_pos b, Nat.div_eq_of_lt (Nat.lt_trans b (by decide)), Nat.div_eq_of_lt b, Nat.mod_eq_of_lt (a := g / 16) ((Nat.div_lt_iff_lt_mul (by decide)).mpr b)]
      show (stripZ [g / 16, g % 16]).map dg = _
      rw [stripZ_ne n1]; rfl
    · rw [if_neg b]
      have n2 : g / 256 ≠ 0 := Nat.ne_of_gt (Nat.div_pos (Nat.not_lt.mp b) (by decide))
      by_cases c : g < 4096
      · rw [if_pos c, Nat.div_eq_of_lt c, Nat.mod_eq_of_lt (a := g / 256) ((Nat.div_lt_iff_lt_mul (by decide)).mpr c)]
        show (stripZ [g / 256, g / 16 % 16, g % 16]).map dg = _
        rw [stripZ_ne n2]; rfl
      · rw [if_neg c, stripZ_ne (Nat.ne_of_gt (Nat.div_pos (Nat.not_lt.mp c) (by decide)))]; rfl
theorem stripZ_sub : ∀ ds : List Nat, (∀ d ∈ stripZ ds, d ∈ ds) ∧ (stripZ ds).length ≤ ds.length
  | [] => ⟨fun d h => h, Nat.le_refl _⟩
  | [a] => by cases a <;> exact ⟨fun d h => h, Nat.le_refl _⟩
  | a :: b :: r => by
    obtain ⟨h1, h2⟩ := stripZ_sub (b :: r)
    by_cases ha : a = 0
    · subst ha
      exact ⟨fun d hd => List.mem_cons_of_mem _ (h1 d hd), Nat.le_trans h2 (Nat.le_succ _)⟩
    · rw [stripZ_ne ha]; exact ⟨fun d h => h, Nat.le_refl _⟩
theorem x15 (Φ : Nat → List PV → Option PV) {g : Nat} (hg : g < 65536) : run Φ 3 bLawHex [I1 g] = some (S1 (hexW g)) := by
  have hm : ∀ n : Nat, binop .Mod (I1 n) (.a (.int 16)) = some (I1 (n % 16)) := fun n => b_modN n 16 (by decide)
  have hd : ∀ m : Nat, 0 < m → m < 2 ^ 200 → binop .FloorDiv (I1 g) (I1 m) = some (I1 (g / m)) := fun m h h' => b_divN g m h h'
  have hloop := x15_loop Φ (I1 g) 100 [g / 4096, g / 256 % 16, g / 16 % 16, g % 16] (show 4 < 100 by decide)
  have h16 : ∀ d ∈ [g / 4096, g / 256 % 16, g / 16 % 16, g % 16], d < 16 := by
    intro d hd
    have p : ∀ n, n % 16 < 16 := fun n => Nat.mod_lt n (by decide)
    rcases List.mem_cons.mp hd with rfl | hd
    · exact (Nat.div_lt_iff_lt_mul (by decide)).mpr hg
    · rcases List.mem_cons.mp hd with rfl | hd
      · exact p _
      · rcases List.mem_cons.mp hd with rfl | hd
        · exact p _
        · rw [List.mem_singleton.mp hd]; exact p _
  obtain ⟨hsub, hlen⟩ := stripZ_sub [g / 4096, g / 256 % 16, g / 16 % 16, g % 16]
  have hz := stripZ_hex hg
  have e1 := hd 4096 (by decide) (by decide)
  have e2 := hd 256 (by decide) (by decide)
  have e3 := hd 16 (by decide) (by decide)
  refine run_K rfl fun _ => ((k_b e1) ((k_b e2) ((k_b (hm _)) ((k_b e3) ((k_b (hm _)) ((k_b (hm _)) ((k_b (x := PV.list (nL [g / 4096, g / 256 % 16, g / 16 % 16, g % 16])) (by rfl)) ((k_b hloop) ?_))))))))
  generalize stripZ [g / 4096, g / 256 % 16, g / 16 % 16, g % 16] = zs at hsub hlen hz
  have hc : ev Φ cLawHex1 [some (I1 g), some (.list (nL zs)), none] = some (.list ((zs.map fun d => [dg d]).map .str)) := by
    rw [List.map_map]
    refine ev_comp_map (vs := [.list (nL zs)]) (fun k : Nat => .int (k : Int)) _ zs rfl rfl fun d hd => ?_
    have hi := idx16 d
    rw [Nat.mod_eq_of_lt (h16 d (hsub d hd))] at hi
    exact ev_K rfl fun _ => ((k_b hi) rfl)
  have hj := j_join [] (zs.map fun d => [dg d]) (by rw [sumLen_one]; exact Nat.le_trans (Nat.add_le_add_right hlen _) (show 4 + _ * 0 ≤ 1000 by rw [Nat.mul_zero]; decide))
  rw [joinL_nil, hz] at hj
  exact ((k_b hc) ((k_b hj) rfl))
end Mine
end
section
open PySem PySem.Calls
set_option maxRecDepth 100000
namespace Mine
noncomputable def oct6 (n : Nat) : List Nat := (List.range 6).map fun p => n / 2 ^ (8 * (5 - p)) % 256
noncomputable def mac2 (o : Nat) : L := [dg (o / 16), dg (o % 16)]
noncomputable def macW (n : Nat) : L := joinL [58] ((oct6 n).map mac2)
theorem oct6_lt {n o : Nat} (h : o ∈ oct6 n) : o < 256 := by
  simp only [oct6, List.mem_map] at h
  obtain ⟨p, _, rfl⟩ := h
  exact Nat.mod_lt _ (by decide)
theorem x0 (Φ : Nat → List PV → Option PV) {n : Nat} (hn : n < 2 ^ 48) : run Φ 3 bOctetsOf [I1 n, I1 6] = some (.bytes ((oct6 n).map fun o => o.toUInt8)) := by
  have hsh : binop .RShift (.a (.int (n : Int))) (.a (.int 48)) = some (.a (.int 0)) := by
    have := b_shr n 48
    rw [Nat.div_eq_of_lt hn] at this
    exact this
  have hc : ev Φ cOctetsOf1 [some (.a (.int (n : Int))), some (.a (.int 6)), none] = some (.list ((oct6 n).map fun o : Nat => .int (o : Int))) := by
    unfold oct6
    rw [List.map_map]
    refine ev_comp_map (vs := [.a (.int 6)]) (fun k : Nat => .int (k : Int)) _ (List.range 6) ?_ (it_range 6 (by decide)) fun k hk => ?_
    · rfl
    · have hk' : k < 6 := List.mem_range.mp hk
      have e2 : binop .Mult (.a (.int 8)) (.a (.int ((5 : Int) - (k : Int)))) = some (.a (.int ((8 * (5 - k) : Nat) : Int))) := by
        rw [show ((5 : Int) - (k : Int)) = ((5 - k : Nat) : Int) by omega, b_mulL _ _ (by decide), Int.natCast_mul]; rfl
      exact ev_K rfl fun _ => ((k_b e2) ((k_b (b_shr n (8 * (5 - k)))) ((k_b (b_and _ 255 8 rfl)) rfl)))
  have hb : bi .bytes [.list ((oct6 n).map fun o : Nat => .int (o : Int))] = some (.bytes ((oct6 n).map fun o => o.toUInt8)) := by
    show ((intsOf ((oct6 n).map fun o : Nat => .int (o : Int))).bind fun ns => if ns.all byteOk then some (PV.bytes (ns.map fun i => i.toNat.toUInt8)) else none) = _
    rw [ints_map]
    refine (if_pos ?_).trans ?_
    · rw [List.all_eq_true]
      intro x hx
      obtain ⟨o, ho, rfl⟩ := List.mem_map.mp hx
      have := oct6_lt ho
      unfold byteOk
      simp; omega
    · rw [List.map_map]; rfl
  have hm : binop .Mult (.a (.int 8)) (.a (.int 6)) = some (.a (.int 48)) := rfl
  exact run_K rfl fun _ => ((k_b hm) ((k_b hsh) ((k_b hc) ((k_b hb) rfl))))
theorem hexT_two {o : Nat} (h : o < 256) : hexT o 2 = mac2 o := by
  unfold hexT mac2
  by_cases h1 : o < 16
  · rw [if_pos ⟨rfl, h1⟩, Nat.div_eq_of_lt h1, Nat.mod_eq_of_lt h1]; rfl
  · rw [if_neg (fun q => h1 q.2)]
    unfold hexW
    rw [if_neg h1, if_pos h]
theorem sumLen_mac : ∀ os : List Nat, sumLen (os.map mac2) = 2 * os.length
  | [] => rfl
  | a :: r => by simp [sumLen, sumLen_mac r, mac2]; omega
theorem macJ (n : Nat) : me .join (.a (.str [58])) [.list (((oct6 n).map mac2).map .str)] = some (.a (.str (macW n))) := j_join [58] _ (by rw [sumLen_mac]; simp [oct6])
theorem x11 {Φ : Nat → List PV → Option PV} (h0 : ∀ n : Nat, n < 2 ^ 48 → Φ 0 [I1 n, I1 6] = some (.bytes ((oct6 n).map fun o => o.toUInt8))) (h3 : ∀ g least : Nat, g < 65536 → (least = 1 ∨ least = 2) → Φ 3 [I1 g, I1 least] = some (S1 (hexT g least)))
    {n : Nat} (hn : n < 2 ^ 48) : run Φ 2 bMacText [I1 n] = some (S1 (macW n)) := by
  have hc : ev Φ cMacText1 [some (.a (.int (n : Int))), none] = some (.list (((oct6 n).map mac2).map .str)) := by
    rw [List.map_map]
    refine ev_comp_map (vs := [.bytes ((oct6 n).map fun o => o.toUInt8)]) (fun k : Nat => .int (k : Int)) _ (oct6 n) ?_ ?_ fun o ho => ?_
    · show (Option.bind (Option.bind (some [I1 n, I1 6]) fun vs => Φ 0 vs) fun v => some [v]) = _
      show (Φ 0 [I1 n, I1 6]).bind _ = _
      rw [h0 n hn]; rfl
    · show some (List.map (fun c : UInt8 => At.int (c.toNat : Int)) (List.map (fun o => o.toUInt8) (oct6 n))) = _
      rw [List.map_map]
      refine congrArg some (List.map_congr_left fun o ho => ?_)
      have := oct6_lt ho
      simp only [Function.comp, Nat.toUInt8, UInt8.toNat_ofNat']
      rw [Nat.mod_eq_of_lt (Nat.lt_of_lt_of_le this (by decide))]
    · have hlt := oct6_lt ho
      have := h3 o 2 (Nat.lt_trans hlt (by decide)) (.inr rfl)
      rw [hexT_two hlt] at this
      exact ev_K rfl fun _ => ((k_b this) rfl)
  exact run_K rfl fun _ => ((k_b hc) ((k_b (macJ n)) rfl))
theorem x18 (Φ : Nat → List PV → Option PV) {n : Nat} (hn : n < 2 ^ 48) : run Φ 4 bLawTextmac [I1 n] = some (S1 (macW n)) := by
  have hc2 : ev Φ cLawTextmac2 [some (.a (.int (n : Int))), none, none, none] = some (.list (nL (oct6 n))) := by
    have e : oct6 n = (List.range 6).map fun p => n / 256 ^ (5 - p) % 256 := by
      unfold oct6
      refine List.map_congr_left fun p _ => ?_
      rw [Nat.pow_mul]
    unfold nL
    rw [e, List.map_map]
    refine ev_comp_map (vs := [.a (.int 6)]) (fun k : Nat => .int (k : Int)) _ (List.range 6) ?_ (it_range 6 (by decide)) fun k hk => ?_
    · rfl
    · have hk' : k < 6 := List.mem_range.mp hk
      have h2 : binop .Pow (.a (.int 256)) (.a (.int ((5 : Int) - (k : Int)))) = some (.a (.int ((256 ^ (5 - k) : Nat) : Int))) := by
        rw [show ((5 : Int) - (k : Int)) = ((5 - k : Nat) : Int) by omega]
        exact b_powN 256 (5 - k) (Nat.le_trans (Nat.sub_le 5 k) (by decide)) (by decide)
      have hp : 0 < 256 ^ (5 - k) := Nat.pow_pos (by decide)
      have hp' : 256 ^ (5 - k) < 2 ^ 200 := Nat.lt_of_le_of_lt (Nat.pow_le_pow_right (by decide) (Nat.sub_le 5 k)) (by decide)
      exact ev_K rfl fun _ => ((k_b h2) ((k_b (b_divN n (256 ^ (5 - k)) hp hp')) ((k_b (b_modN _ 256 (by decide))) rfl)))
  have hc1 : ev Φ cLawTextmac1 [some (.a (.int (n : Int))), some (.list (nL (oct6 n))), none, none] = some (.list (((oct6 n).map mac2).map .str)) := by
    rw [List.map_map]
    refine ev_comp_map (vs := [.list (nL (oct6 n))]) (fun k : Nat => .int (k : Int)) _ (oct6 n) ?_ rfl fun o ho => ?_
    · rfl
    · have hlt := oct6_lt ho
      have i1 := idx16 (o / 16)
      rw [Nat.mod_eq_of_lt ((Nat.div_lt_iff_lt_mul (by decide)).mpr hlt)] at i1
      exact ev_K rfl fun _ => ((k_b (b_divN o 16 (by decide) (by decide))) ((k_b i1) ((k_b (b_modN o 16 (by decide))) ((k_b (idx16 o)) ((k_g (show ([dg (o / 16)] : L).length + ([dg (o % 16)] : L).length ≤ sizeLine by rw [sizeLine_eq]; exact show 2 ≤ 16777216 by decide)) rfl)))))
  exact run_K rfl fun _ => ((k_b hc2) ((k_b hc1) ((k_b (macJ n)) rfl)))
theorem mac2_hex : ∀ o, o < 256 → hexOf (mac2 o) 2 = some o ∧ 58 ∉ mac2 o := by decide +kernel
theorem mac_back {n : Nat} (h : n < 2 ^ 48) : macOf (macW n) = some n := by
  have hs : splitC 58 (macW n) = (oct6 n).map mac2 := split_join (by simp [oct6]) (fun w hw => by
    simp only [List.mem_map] at hw
    obtain ⟨o, ho, rfl⟩ := hw
    exact (mac2_hex o (oct6_lt ho)).2)
  unfold macOf partsOf
  rw [hs, if_pos (by simp [oct6])]
  have e : oct6 n = [n / 2 ^ 40 % 256, n / 2 ^ 32 % 256, n / 2 ^ 24 % 256, n / 2 ^ 16 % 256, n / 2 ^ 8 % 256, n / 2 ^ 0 % 256] := rfl
  rw [e]
  simp only [List.map_cons, List.map_nil, foldO, numG]
  have m : ∀ k, hexOf (mac2 (k % 256)) 2 = some (k % 256) := fun k => (mac2_hex _ (Nat.mod_lt k (by decide))).1
  simp only [m, Option.map_some, Option.bind_some]
  rw [Nat.zero_mul, Nat.zero_add, top256 (k := 40) h, hrn n 32, hrn n 24, hrn n 16, hrn n 8, hrn n 0, Nat.pow_zero, Nat.div_one]
end Mine
end
section
open PySem PySem.Calls
set_option maxRecDepth 100000
namespace Mine
theorem minL_some : ∀ {ns : List Int}, ns ≠ [] → ∃ k, minL ns = some k
  | [], h => absurd rfl h
  | x :: r, _ => ⟨_, rfl⟩
theorem maxL_some : ∀ {ns : List Int}, ns ≠ [] → ∃ k, maxL ns = some k
  | [], h => absurd rfl h
  | x :: r, _ => ⟨_, rfl⟩
theorem minL_key : ∀ {ns : List Int} {k : Int}, minL ns = some k → k ∈ ns ∧ ∀ a ∈ ns, k ≤ a
  | x :: r, k, e => by
    unfold minL at e
    cases h : minL r with
    | none =>
      rw [h] at e; cases e
      have : r = [] := by cases r with
        | nil => rfl
        | cons a b => simp [minL] at h
      subst this; simp
    | some y =>
      rw [h] at e; cases e
      obtain ⟨h1, h2⟩ := minL_key h
      dsimp only
      split
      · refine ⟨.tail _ h1, fun a ha => ?_⟩
        rcases List.mem_cons.mp ha with rfl | ha
        · omega
        · exact h2 a ha
      · refine ⟨.head _, fun a ha => ?_⟩
        rcases List.mem_cons.mp ha with rfl | ha
        · omega
        · have := h2 a ha; omega
theorem maxL_key : ∀ {ns : List Int} {k : Int}, maxL ns = some k → k ∈ ns ∧ ∀ a ∈ ns, a ≤ k
  | x :: r, k, e => by
    unfold maxL at e
    cases h : maxL r with
    | none =>
      rw [h] at e; cases e
      have : r = [] := by cases r with
        | nil => rfl
        | cons a b => simp [maxL] at h
      subst this; simp
    | some y =>
      rw [h] at e; cases e
      obtain ⟨h1, h2⟩ := maxL_key h
      dsimp only
      split
      · refine ⟨.tail _ h1, fun a ha => ?_⟩
        rcases List.mem_cons.mp ha with rfl | ha
        · omega
        · exact h2 a ha
      · refine ⟨.head _, fun a ha => ?_⟩
        rcases List.mem_cons.mp ha with rfl | ha
        · omega
        · have := h2 a ha; omega
theorem hex_two {w : L} {o : Nat} : hexOf w 2 = some o ↔ hexOf w 4 = some o ∧ w.length ≤ 2 := by
  unfold hexOf
  constructor
  · intro h
    split at h
    · rename_i hc
      rw [if_pos ⟨hc.1, by omega⟩]
      exact ⟨h, hc.2⟩
    · cases h
  · rintro ⟨h, hl⟩
    split at h
    · rename_i hc
      rw [if_pos ⟨hc.1, hl⟩]
      exact h
    · cases h
theorem numF_none {f : L → Option Nat} : ∀ {ws : List L} {n : Nat}, (∃ w ∈ ws, f w = none) → foldO (numG f) n ws = none
  | [], _, ⟨_, h, _⟩ => by cases h
  | w :: r, n, ⟨v, hv, e⟩ => by
    simp only [foldO, numG]
    cases hw : f w with
    | none => rfl
    | some o =>
      simp only [Option.map_some, Option.bind_some]
      rcases List.mem_cons.mp hv with rfl | hv
      · rw [e] at hw; cases hw
      · exact numF_none ⟨v, hv, e⟩
theorem ints_mapI (ls : List Int) : intsOf (ls.map .int) = some ls := by
  induction ls with
  | nil => rfl
  | cons x r ih => simp [intsOf, ih]
theorem hexGo_lt : ∀ {l : L} {n k : Nat}, foldO hexG n l = some k → k < (n + 1) * 16 ^ l.length
  | [], n, k, e => by cases e; simp
  | c :: r, n, k, e => by
    simp only [foldO, Option.bind_eq_some_iff] at e
    obtain ⟨m, hm, e⟩ := e
    have ih := hexGo_lt e
    simp only [hexG, Option.map_eq_some_iff] at hm
    obtain ⟨d, hd, rfl⟩ := hm
    have hd16 : d < 16 := (hx_spec hd).1
    rw [List.length_cons, Nat.pow_succ, Nat.mul_comm (16 ^ r.length) 16, ← Nat.mul_assoc]
    exact Nat.lt_of_lt_of_le ih (Nat.mul_le_mul_right _ (by omega))
theorem hexOf_lt {w : L} {m k : Nat} (hm : m ≤ 4) (h : hexOf w m = some k) : k < 65536 := by
  unfold hexOf at h
  split at h
  · rename_i hc
    have := hexGo_lt h
    have h2 : 16 ^ w.length ≤ 16 ^ 4 := Nat.pow_le_pow_right (by decide) (by omega)
    omega
  · cases h
theorem nL_get (ds : List Nat) (k : Nat) (h : k < ds.length) : index (.list (nL ds)) (.a (.int (k : Int))) = some (.a (.int ((ds.getD k 0 : Nat) : Int))) := by
  rw [i_list _ _ (by omega), Int.toNat_natCast]
  unfold nL
  rw [List.getElem?_map, List.getD, List.getElem?_eq_getElem h]; rfl
theorem sum6 (a b c d e f : Nat) : bi .sum [.list (nL [a, b, c, d, e, f])] = some (.a (.int ((a + b + c + d + e + f : Nat) : Int))) := by
  have h : (([a, b, c, d, e, f].map fun k : Nat => (k : Int))).sum = ((a + b + c + d + e + f : Nat) : Int) := by
    simp only [List.map_cons, List.map_nil, List.sum_cons, List.sum_nil]
    omega
  refine (congrArg (Option.map fun ns : List Int => PV.a (.int ns.sum)) (ints_map [a, b, c, d, e, f])).trans ?_
  rw [Option.map_some, h]
theorem lin6 (a b c d e f : Nat) : (((((0 * 256 + a) * 256 + b) * 256 + c) * 256 + d) * 256 + e) * 256 + f = a * 256 ^ 5 + b * 256 ^ 4 + c * 256 ^ 3 + d * 256 ^ 2 + e * 256 ^ 1 + f * 256 ^ 0 := by lia
theorem x22_test {Φ : Nat → List PV → Option PV} {a : PV} {ws vs ls : List At} {mn mx : Int} (fmin : bi .min [.list vs] = some (.a (.int mn))) (hc2 : ev Φ cLawReadmac2 [some a, some (.list ws), some (.list vs), none, none, none] = some (.list ls)) (fmax : bi .max [.list ls] = some (.a (.int mx))) :
    ev Φ (.boolE false (.cons (.cmp .NotEq (.bi .len (.cons (.var 1) .nil)) (.int 6)) (.cons (.cmp .Lt (.bi .min (.cons (.var 2) .nil)) (.int 0)) (.cons (.cmp .Gt (.bi .max (.cons cLawReadmac2 .nil)) (.int 2)) .nil)))) [some a, some (.list ws), some (.list vs), none, none, none] =
      some (.a (.bool (decide (¬ ws.length = 6 ∨ mn < 0 ∨ 2 < mx)))) := by
  refine ev_K rfl fun _ => ?_
  by_cases h1 : ws.length = 6
  · refine (en_t (int_eq.mpr (Int.ofNat_inj.mpr h1))) ((k_b fmin) ?_)
    by_cases h2 : mn < 0
    · rw [decide_eq_true (.inr (.inl h2))]
      exact (e_f h2) rfl
    · refine (e_t h2) ((k_b hc2) ((k_b fmax) ?_))
      by_cases h3 : 2 < mx
      · rw [decide_eq_true (.inr (.inr h3))]
        exact (e_f h3) rfl
      · rw [decide_eq_false (fun h => h.elim (fun h => h h1) fun h => h.elim h2 h3)]
        exact (e_t h3) rfl
  · rw [decide_eq_true (.inl h1)]
    exact (en_f (fun h => h1 (Int.ofNat_inj.mp (int_eq.mp h)))) rfl
theorem x22 {Φ : Nat → List PV → Option PV} (h20 : ∀ l, short l = true → Φ 20 [S1 l] = some (.a (.int (lawGroup l)))) {l : L} (hs : short l = true) : run Φ 6 bLawReadmac [S1 l] = some (optI (macOf l)) := by
  have hm := m_split l 58 (by decide) (short_iff.mp hs).1
  have hsh : ∀ w ∈ splitC 58 l, short w = true := fun w hw => short_part hs hw
  unfold macOf partsOf
  have hne := splitC_ne 58 l
  generalize splitC 58 l = ws at hm hsh hne
  have hc3 : ev Φ cLawReadmac3 [some (S1 l), some (.list (ws.map .str)), none, none, none, none] = some (.list ((ws.map lawGroup).map .int)) := by
    rw [List.map_map]
    refine ev_comp_map (k := .val) (vs := [.list (ws.map .str)]) .str _ ws rfl rfl fun w hw => ?_
    exact ev_K rfl fun _ => ((k_b (h20 w (hsh w hw))) rfl)
  have hc2 : ev Φ cLawReadmac2 [some (S1 l), some (.list (ws.map .str)), some (.list ((ws.map lawGroup).map .int)), none, none, none] = some (.list ((ws.map fun w : L => (w.length : Int)).map .int)) := by
    conv => rhs; rw [List.map_map]
    exact ev_comp_map (k := .val) (vs := [.list (ws.map .str)]) .str _ ws rfl rfl fun w hw => rfl
  obtain ⟨mn, hmn⟩ := minL_some (ns := ws.map lawGroup) (fun e => hne (List.map_eq_nil_iff.mp e))
  obtain ⟨mx, hmx⟩ := maxL_some (ns := ws.map fun w : L => (w.length : Int)) (fun e => hne (List.map_eq_nil_iff.mp e))
  have fmin : bi .min [.list ((ws.map lawGroup).map .int)] = some (.a (.int mn)) := by
    show (intsOf ((ws.map lawGroup).map .int)).bind _ = _
    rw [ints_mapI]
    show (minL (ws.map lawGroup)).map _ = _
    rw [hmn]; rfl
  have fmax : bi .max [.list ((ws.map fun w : L => (w.length : Int)).map .int)] = some (.a (.int mx)) := by
    show (intsOf ((ws.map fun w : L => (w.length : Int)).map .int)).bind _ = _
    rw [ints_mapI]
    show (maxL (ws.map fun w : L => (w.length : Int))).map _ = _
    rw [hmx]; rfl
  obtain ⟨n1, n2⟩ := minL_key hmn
  obtain ⟨m1, m2⟩ := maxL_key hmx
  refine run_K rfl fun _ => ((k_b hm) ((k_b hc3) ((s_if (x22_test fmin hc2 fmax) rfl) ?_)))
  rw [List.length_map]
  by_cases hT : ¬ ws.length = 6 ∨ mn < 0 ∨ 2 < mx
  · refine (d_t hT) ?_
    by_cases hk : ws.length = 6
    · rw [if_pos hk, numF_none]
      · rfl
      rcases hT with h | h | h
      · exact absurd hk h
      · obtain ⟨w, hw, rfl⟩ := List.mem_map.mp n1
        refine ⟨w, hw, ?_⟩
        cases h2 : hexOf w 2 with
        | none => rfl
        | some o =>
          unfold lawGroup at h
          rw [(hex_two.mp h2).1] at h
          exact absurd h (Int.not_lt.mpr (Int.natCast_nonneg o))
      · obtain ⟨w, hw, rfl⟩ := List.mem_map.mp m1
        refine ⟨w, hw, ?_⟩
        cases h2 : hexOf w 2 with
        | none => rfl
        | some o => exact absurd (hex_two.mp h2).2 (Nat.not_le.mpr (Int.ofNat_lt.mp h))
    · rw [if_neg hk]; rfl
  · refine (d_f hT) ?_
    have hk : ws.length = 6 := Classical.byContradiction fun h => hT (.inl h)
    have h0 : 0 ≤ mn := Int.not_lt.mp fun h => hT (.inr (.inl h))
    have h2 : mx ≤ 2 := Int.not_lt.mp fun h => hT (.inr (.inr h))
    have good : ∀ w ∈ ws, ∃ o, hexOf w 2 = some o ∧ lawGroup w = (o : Int) := fun w hw => by
      have g0 := Int.le_trans h0 (n2 (lawGroup w) (List.mem_map.mpr ⟨w, hw, rfl⟩))
      have g2 : w.length ≤ 2 := Int.ofNat_le.mp (Int.le_trans (m2 _ (List.mem_map.mpr ⟨w, hw, rfl⟩)) h2)
      unfold lawGroup at g0 ⊢
      cases h4 : hexOf w 4 with
      | none => rw [h4] at g0; exact absurd g0 (by decide)
      | some g => exact ⟨g, hex_two.mpr ⟨h4, g2⟩, rfl⟩
    rw [if_pos hk]
    obtain ⟨w1, w2, w3, w4, w5, w6, rfl⟩ := six hk
    obtain ⟨o1, q1, e1⟩ := good w1 (.head _)
    obtain ⟨o2, q2, e2⟩ := good w2 (.tail _ (.head _))
    obtain ⟨o3, q3, e3⟩ := good w3 (.tail _ (.tail _ (.head _)))
    obtain ⟨o4, q4, e4⟩ := good w4 (.tail _ (.tail _ (.tail _ (.head _))))
    obtain ⟨o5, q5, e5⟩ := good w5 (.tail _ (.tail _ (.tail _ (.tail _ (.head _)))))
    obtain ⟨o6, q6, e6⟩ := good w6 (.tail _ (.tail _ (.tail _ (.tail _ (.tail _ (.head _))))))
    have hspec : foldO (numG fun w => hexOf w 2) 0 [w1, w2, w3, w4, w5, w6] = some (o1 * 256 ^ 5 + o2 * 256 ^ 4 + o3 * 256 ^ 3 + o4 * 256 ^ 2 + o5 * 256 ^ 1 + o6 * 256 ^ 0) := by
      simp only [foldO, numG, q1, q2, q3, q4, q5, q6, Option.map_some, Option.bind_some]
      exact congrArg some (lin6 _ _ _ _ _ _)
    rw [hspec]
    have hv : ([w1, w2, w3, w4, w5, w6].map lawGroup).map At.int = nL [o1, o2, o3, o4, o5, o6] := by
      show [At.int (lawGroup w1), .int (lawGroup w2), .int (lawGroup w3), .int (lawGroup w4), .int (lawGroup w5), .int (lawGroup w6)] = _
      rw [e1, e2, e3, e4, e5, e6]; rfl
    rw [hv]
    have fsum := sum6 (o1 * 256 ^ 5) (o2 * 256 ^ 4) (o3 * 256 ^ 3) (o4 * 256 ^ 2) (o5 * 256 ^ 1) (o6 * 256 ^ 0)
    have e : nL [o1 * 256 ^ 5, o2 * 256 ^ 4, o3 * 256 ^ 3, o4 * 256 ^ 2, o5 * 256 ^ 1, o6 * 256 ^ 0] = ((List.range 6).map fun k => At.int (([o1, o2, o3, o4, o5, o6].getD k 0 * 256 ^ (5 - k) : Nat) : Int)) := rfl
    rw [e] at fsum
    generalize o1 * 256 ^ 5 + o2 * 256 ^ 4 + o3 * 256 ^ 3 + o4 * 256 ^ 2 + o5 * 256 ^ 1 + o6 * 256 ^ 0 = tot at fsum
    generalize ho : [o1, o2, o3, o4, o5, o6] = os at fsum ⊢
    have hol : os.length = 6 := by rw [← ho]; rfl
    have hc1 : ∀ x y, ev Φ cLawReadmac1 [x, y, some (.list (nL os)), none, none, none] = some (.list ((List.range 6).map fun k => At.int ((os.getD k 0 * 256 ^ (5 - k) : Nat) : Int))) := fun x y => by
      refine ev_comp_map (vs := [.a (.int 6)]) (fun k : Nat => .int (k : Int)) _ (List.range 6) rfl (it_range 6 (by decide)) fun k hk => ?_
      have hk' : k < 6 := List.mem_range.mp hk
      have h2 : binop .Pow (.a (.int 256)) (.a (.int ((5 : Int) - (k : Int)))) = some (.a (.int ((256 ^ (5 - k) : Nat) : Int))) := by
        rw [show ((5 : Int) - (k : Int)) = ((5 - k : Nat) : Int) by omega]
        exact b_powN 256 (5 - k) (Nat.le_trans (Nat.sub_le 5 k) (by decide)) (by decide)
      have h4 := b_mulR ((os.getD k 0 : Nat) : Int) ((256 ^ (5 - k) : Nat) : Int) (by rw [Int.natAbs_natCast]; exact Nat.lt_of_le_of_lt (Nat.pow_le_pow_right (by decide) (Nat.sub_le 5 k)) (by decide))
      rw [← Int.natCast_mul] at h4
      exact ev_K rfl fun _ => ((k_b (nL_get os k (by rw [hol]; exact hk'))) ((k_b h2) ((k_b h4) rfl)))
    exact ((k_b (hc1 _ _)) ((k_b fsum) rfl))
end Mine
end
section
open PySem PySem.Calls
set_option maxRecDepth 100000
namespace Mine
theorem ex_ite {Φ : Nat → List PV → Option PV} {c : E} {t f : S} {ρ : Store} {b : Bool} (h : ev Φ c ρ = some (.a (.bool b))) : ex Φ (.ite c t f) ρ = if b then ex Φ t ρ else ex Φ f ρ := by
  show ((ev Φ c ρ).bind truth).bind _ = _
  rw [h]; rfl
theorem ex_one {Φ : Nat → List PV → Option PV} {s : S} {ρ : Store} : ex Φ (.seq s .nil) ρ = ex Φ s ρ := by
  show (ex Φ s ρ).bind _ = _
  cases h : ex Φ s ρ with
  | none => rfl
  | some p =>
    obtain ⟨fl, ρ'⟩ := p
    cases fl <;> rfl
theorem ex_next {Φ : Nat → List PV → Option PV} {s t : S} {ρ ρ' : Store} (h : ex Φ s ρ = some (.next, ρ')) : ex Φ (.seq s t) ρ = ex Φ t ρ' := by
  show (ex Φ s ρ).bind _ = _
  rw [h]; rfl
theorem ex_ret {Φ : Nat → List PV → Option PV} {s t : S} {ρ ρ' : Store} {v : PV} (h : ex Φ s ρ = some (.ret v, ρ')) : ex Φ (.seq s t) ρ = some (.ret v, ρ') := by
  show (ex Φ s ρ).bind _ = _
  rw [h]; rfl
theorem ex_for {Φ : Nat → List PV → Option PV} {x : Nat} {k : IK} {it : E} {body : S} {ρ : Store} {vs : List PV} {items : List At} (h1 : evs Φ it ρ = some vs) (h2 : iterItems k vs = some items) :
    ex Φ (.forS x k it body) ρ = forGo (fun a ρ => ex Φ body (set ρ x (.a a))) items ρ := by
  show (evs Φ it ρ).bind _ = _
  rw [h1]
  show (iterItems k vs).bind _ = _
  rw [h2]; rfl
theorem ex_assign {Φ : Nat → List PV → Option PV} {x : Nat} {e : E} {ρ : Store} {v : PV} (h : ev Φ e ρ = some v) : ex Φ (.assign x e) ρ = some (.next, set ρ x v) := by
  show (ev Φ e ρ).map _ = _
  rw [h]; rfl
theorem ex_retF {Φ : Nat → List PV → Option PV} {e : E} {ρ : Store} {v : PV} (h : ev Φ e ρ = some v) (hc : (fresh e || isAt v) = true) : ex Φ (.ret e) ρ = some (.ret v, ρ) := by
  show (ev Φ e ρ).bind _ = _
  rw [h]
  exact if_pos hc
theorem evs_one {Φ : Nat → List PV → Option PV} {e : E} {ρ : Store} {v : PV} (h : ev Φ e ρ = some v) : evs Φ (.cons e .nil) ρ = some [v] := by
  show (ev Φ e ρ).bind _ = _
  rw [h]; rfl
theorem evs_cons {Φ : Nat → List PV → Option PV} {e r : E} {ρ : Store} {v : PV} {vs : List PV} (h : ev Φ e ρ = some v) (h2 : evs Φ r ρ = some vs) : evs Φ (.cons e r) ρ = some (v :: vs) := by
  show (ev Φ e ρ).bind _ = _
  rw [h]
  show (evs Φ r ρ).map _ = _
  rw [h2]; rfl
theorem ev_bin {Φ : Nat → List PV → Option PV} {ρ : Store} {op : Operator} {l r : E} {x y z : PV} (h1 : ev Φ l ρ = some x) (h2 : ev Φ r ρ = some y) (h3 : binop op x y = some z) : ev Φ (.bin op l r) ρ = some z := by
  show (ev Φ l ρ).bind _ = _
  rw [h1]
  show (ev Φ r ρ).bind _ = _
  rw [h2]
  exact h3
theorem ev_cmp {Φ : Nat → List PV → Option PV} {ρ : Store} {op : CmpOp} {l r : E} {x y : PV} {b : Bool} (h1 : ev Φ l ρ = some x) (h2 : ev Φ r ρ = some y) (h3 : cmpop op x y = some b) : ev Φ (.cmp op l r) ρ = some (.a (.bool b)) := by
  show (ev Φ l ρ).bind _ = _
  rw [h1]
  show (ev Φ r ρ).bind _ = _
  rw [h2]
  show (cmpop op x y).map _ = _
  rw [h3]; rfl
theorem ev_call {Φ : Nat → List PV → Option PV} {ρ : Store} {f : Nat} {args : E} {vs : List PV} {v : PV} (h1 : evs Φ args ρ = some vs) (h2 : Φ f vs = some v) : ev Φ (.call f args) ρ = some v := by
  show (evs Φ args ρ).bind _ = _
  rw [h1]
  exact h2
theorem ev_bi {Φ : Nat → List PV → Option PV} {ρ : Store} {f : BI} {args : E} {vs : List PV} {v : PV} (h1 : evs Φ args ρ = some vs) (h2 : bi f vs = some v) : ev Φ (.bi f args) ρ = some v := by
  show (evs Φ args ρ).bind _ = _
  rw [h1]
  exact h2
theorem ev_me {Φ : Nat → List PV → Option PV} {ρ : Store} {m : ME} {o args : E} {x : PV} {vs : List PV} {v : PV} (h0 : ev Φ o ρ = some x) (h1 : evs Φ args ρ = some vs) (h2 : me m x vs = some v) : ev Φ (.me m o args) ρ = some v := by
  show (ev Φ o ρ).bind _ = _
  rw [h0]
  show (evs Φ args ρ).bind _ = _
  rw [h1]
  exact h2
theorem ev_idx {Φ : Nat → List PV → Option PV} {ρ : Store} {o i : E} {x y v : PV} (h0 : ev Φ o ρ = some x) (h1 : ev Φ i ρ = some y) (h2 : index x y = some v) : ev Φ (.idx o i) ρ = some v := by
  show (ev Φ o ρ).bind _ = _
  rw [h0]
  show (ev Φ i ρ).bind _ = _
  rw [h1]
  exact h2
theorem ev_var {Φ : Nat → List PV → Option PV} {ρ : Store} {i : Nat} {v : PV} (h : get ρ i = some v) : ev Φ (.var i) ρ = some v := h
theorem ev_int {Φ : Nat → List PV → Option PV} {ρ : Store} {i : Int} : ev Φ (.int i) ρ = some (.a (.int i)) := rfl
theorem enumGo_K {σ α : Type} {R : Nat → σ → Store → Prop} {enc : α → At} {body : Int → At → Store → Option (Fl × Store)} {f : σ → Nat → α → Option σ} (w : PV) :
    ∀ (items : List α) (k : Nat) (s : σ) (ρ : Store), (∀ s ρ (j : Nat) a, a ∈ items → k ≤ j → j < k + items.length → R j s ρ → ∃ ρ', body (j : Int) (enc a) ρ = some (outO w (f s j a) ρ') ∧ okO' (R (j + 1)) (f s j a) ρ') → R k s ρ →
      ∃ ρ', enumGo body (k : Int) (items.map enc) ρ = some (outO w (foldOi f k s items) ρ') ∧ okO' (R (k + items.length)) (foldOi f k s items) ρ'
  | [], k, s, ρ, _, h => ⟨ρ, rfl, h⟩
  | a :: r, k, s, ρ, hs, h => by
    obtain ⟨ρ', h1, h2⟩ := hs s ρ k a (by simp) (Nat.le_refl _) (by simp) h
    simp only [List.map_cons, enumGo, h1, Option.bind_some, foldOi]
    cases hf : f s k a with
    | none => exact ⟨ρ', rfl, trivial⟩
    | some s' =>
      rw [hf] at h2
      have := enumGo_K w r (k + 1) s' ρ' (fun s ρ j b hb h1 h2 => hs s ρ j b (by simp [hb]) (by omega) (by simp; omega)) h2
      rw [show k + 1 + r.length = k + (a :: r).length by simp; omega] at this
      exact this
noncomputable def optL : Option (List Nat) → PV
  | some gs => .list (nL gs)
  | none => .a .none
noncomputable def grG (isEnd : Bool) (n : Nat) (gs : List Nat) (k : Nat) (w : L) : Option (List Nat) :=
  if isEnd = true ∧ k + 1 = n ∧ 46 ∈ w then (ip4Of w).map fun t => gs ++ [t / 65536, t % 65536] else (hexOf w 4).map fun g => gs ++ [g]
noncomputable def sideOf (isEnd : Bool) (t : L) : Option (List Nat) := if t = [] then some [] else foldOi (grG isEnd (splitC 58 t).length) 0 [] (splitC 58 t)
theorem nL_app (a b : List Nat) : nL (a ++ b) = nL a ++ nL b := by simp [nL]
theorem nL_cons (a : Nat) (b : List Nat) : nL (a :: b) = .int (a : Int) :: nL b := rfl
theorem nL_nil : nL [] = [] := rfl
theorem nL_len (a : List Nat) : (nL a).length = a.length := by simp [nL]
theorem x_append {Φ : Nat → List PV → Option PV} {x : Nat} {e : E} {ρ : Store} {gs : List Nat} {g : Nat} (hx : get ρ x = some (.list (nL gs))) (he : ev Φ e ρ = some (.a (.int (g : Int)))) (hl : gs.length ≤ 10000) :
    ex Φ (.append x e) ρ = some (.next, set ρ x (.list (nL (gs ++ [g])))) := by
  rw [nL_app]
  exact ex_append he hx (by rw [nL_len, sizeLine_eq]; exact Nat.lt_of_le_of_lt hl (by decide))
theorem splitC_count (c : Nat) : ∀ l : L, (splitC c l).length ≤ l.length + 1
  | [] => by simp [splitC]
  | x :: r => by
    have ih := splitC_count c r
    unfold splitC
    split
    · simp; omega
    · cases h : splitC c r with
      | nil => simp [cons1]
      | cons a t => rw [h] at ih; simp [cons1] at ih ⊢; omega
theorem x6_test {Φ : Nat → List PV → Option PV} {isEnd : Bool} {k : Nat} {w : L} {W : List At} {a b o3 o4 : Option PV} :
    ev Φ (.boolE true (.cons (.var 1) (.cons (.cmp .Eq (.var 4) (.bin .Sub (.bi .len (.cons (.var 3) .nil)) (.int 1))) (.cons (.cmp .In (.str [46]) (.var 5)) .nil)))) [a, some (.a (.bool isEnd)), b, some (.list W), some (I1 k), some (S1 w), o3, o4] =
      some (.a (.bool (decide (isEnd = true ∧ k + 1 = W.length ∧ 46 ∈ w)))) := by
  refine ev_K rfl fun _ => ?_
  by_cases h0 : isEnd = true
  · refine (k_t h0) ?_
    have e : ((k : Int) = (W.length : Int) - 1) ↔ k + 1 = W.length := by omega
    by_cases h1 : k + 1 = W.length
    · refine (d_t (int_eq.mpr (e.mpr h1))) ?_
      by_cases h2 : 46 ∈ w
      · rw [decide_eq_true ⟨h0, h1, h2⟩]
        exact (d_t h2) rfl
      · rw [decide_eq_false (fun h => h2 h.2.2)]
        exact (d_f h2) rfl
    · rw [decide_eq_false (fun h => h1 h.2.1)]
      exact (d_f (fun h => h1 (e.mp (int_eq.mp h)))) rfl
  · rw [decide_eq_false (fun h => h0 h.1)]
    exact (k_f h0) rfl
theorem x6_step {Φ : Nat → List PV → Option PV} {isEnd : Bool} {k : Nat} {w t : L} {W : List L} {gs : List Nat} {o3 o4 : Option PV} (h4 : Φ 4 [S1 w] = some (optI (ip4Of w))) (h2 : Φ 2 [S1 w, I1 4] = some (optI (hexOf w 4))) (hl : gs.length ≤ 2 * k) (hk : k ≤ 1001) :
    ∃ ρ', ex Φ lGroupsOf1 [some (S1 t), some (.a (.bool isEnd)), some (.list (nL gs)), some (.list (W.map .str)), some (I1 k), some (S1 w), o3, o4] = some (outO (.a .none) (grG isEnd W.length gs k w) ρ') ∧
      okO' (fun gs ρ => ∃ o1 o2 o3 o4, ρ = [some (S1 t), some (.a (.bool isEnd)), some (.list (nL gs)), some (.list (W.map .str)), o1, o2, o3, o4] ∧ gs.length ≤ 2 * (k + 1)) (grG isEnd W.length gs k w) ρ' := by
  have ht := x6_test (Φ := Φ) (isEnd := isEnd) (k := k) (w := w) (W := W.map .str) (a := some (S1 t)) (b := some (.list (nL gs))) (o3 := o3) (o4 := o4)
  rw [List.length_map] at ht
  have lk : ∀ n, n ≤ 2 * k + 1 → n < sizeLine := fun n h => by rw [sizeLine_eq]; omega
  have l1 : (nL gs).length < sizeLine := lk _ (by rw [nL_len]; exact Nat.le_succ_of_le hl)
  unfold grG
  by_cases hc : isEnd = true ∧ k + 1 = W.length ∧ 46 ∈ w
  · rw [if_pos hc]
    cases hi : ip4Of w with
    | none =>
      rw [hi] at h4
      exact ⟨_, ex_K rfl fun _ => ((s_if ht rfl) ((d_t hc) ((k_b (x := .a .none) h4) rfl))), trivial⟩
    | some n =>
      rw [hi] at h4
      have l2 : ∀ x : At, (nL gs ++ [x]).length < sizeLine := fun x => lk _ (by rw [List.length_append, nL_len]; exact Nat.succ_le_succ hl)
      refine ⟨_, ex_K rfl fun _ => ((s_if ht rfl) ((d_t hc) ((k_b (x := I1 n) h4) ((k_b (b_shr n 16)) ((k_t l1) ((k_b (b_and n 65535 16 rfl)) ((k_t (l2 _)) rfl))))))), some (I1 k), some (S1 w), some (I1 n), o4, ?_, ?_⟩
      · rw [nL_app]
        show [_, _, some (PV.list ((nL gs ++ [_]) ++ [_])), _, _, _, _, _] = _
        rw [List.append_assoc]; rfl
      · rw [List.length_append]; exact Nat.add_le_add_right hl 2
  · rw [if_neg hc]
    cases hi : hexOf w 4 with
    | none =>
      rw [hi] at h2
      exact ⟨_, ex_K rfl fun _ => ((s_if ht rfl) ((d_f hc) ((k_b (x := .a .none) h2) rfl))), trivial⟩
    | some n =>
      rw [hi] at h2
      refine ⟨_, ex_K rfl fun _ => ((s_if ht rfl) ((d_f hc) ((k_b (x := I1 n) h2) ((k_t l1) rfl)))), some (I1 k), some (S1 w), o3, some (I1 n), ?_, ?_⟩
      · rw [nL_app]; rfl
      · rw [List.length_append]; exact Nat.le_succ_of_le (Nat.add_le_add_right hl 1)
theorem x6 {Φ : Nat → List PV → Option PV} (h4 : ∀ l, short l = true → Φ 4 [S1 l] = some (optI (ip4Of l))) (h2 : ∀ l m, Φ 2 [S1 l, I1 m] = some (optI (hexOf l m))) {t : L} (hs : short t = true) (isEnd : Bool) :
    run Φ 8 bGroupsOf [S1 t, .a (.bool isEnd)] = some (optL (sideOf isEnd t)) := by
  have hm := m_split t 58 (by decide) (short_iff.mp hs).1
  have hcount := Nat.le_trans (splitC_count 58 t) (Nat.succ_le_succ (short_iff.mp hs).1)
  have hsh : ∀ w ∈ splitC 58 t, short w = true := fun w hw => short_part hs hw
  unfold sideOf
  generalize splitC 58 t = W at hm hcount hsh
  obtain ⟨ρ', hgo, hR⟩ : ∃ ρ', enumGo (fun k a ρ => ex Φ lGroupsOf1 (set (set ρ 4 (.a (.int k))) 5 (.a a))) 0 (W.map .str) [some (S1 t), some (.a (.bool isEnd)), some (.list []), some (.list (W.map .str)), none, none, none, none] = some (outO (.a .none) (foldOi (grG isEnd W.length) 0 [] W) ρ') ∧ _ :=
    enumGo_K (R := fun k gs ρ => ∃ o1 o2 o3 o4, ρ = [some (S1 t), some (.a (.bool isEnd)), some (.list (nL gs)), some (.list (W.map .str)), o1, o2, o3, o4] ∧ gs.length ≤ 2 * k) (.a .none) W 0 [] _
      (by rintro gs ρ k w hw _ hk ⟨o1, o2, o3, o4, rfl, hl⟩; exact x6_step (h4 w (hsh w hw)) (h2 w 4) hl (Nat.le_trans (Nat.le_of_lt hk) (by rw [Nat.zero_add]; exact hcount))) ⟨none, none, none, none, rfl, Nat.le_refl _⟩
  by_cases ht : t = []
  · rw [if_pos ht]
    exact run_K rfl fun _ => ((k_b (x := PV.list []) (by rfl)) ((d_t ht) rfl))
  · rw [if_neg ht]
    refine run_K rfl fun _ => ((k_b (x := PV.list []) (by rfl)) ((d_f ht) ((k_b hm) ((k_b hgo) ?_))))
    cases hx : foldOi (grG isEnd W.length) 0 [] W with
    | none => rfl
    | some gs =>
      rw [hx] at hR
      obtain ⟨o1, o2, o3, o4, rfl, _⟩ := hR
      rfl
end Mine
end
section
open PySem PySem.Calls
set_option maxRecDepth 100000
namespace Mine
noncomputable def num16 (n : Nat) (gs : List Nat) : Nat := gs.foldl (fun n g => n * 65536 + g) n
noncomputable def ip6Of (l : L) : Option Nat :=
  match split2 l with
  | [t] => (sideOf true t).bind fun gs => if gs.length = 8 then some (num16 0 gs) else none
  | [x, y] => (sideOf false x).bind fun a => (sideOf true y).bind fun b => if 7 < a.length + b.length then none else some (num16 0 (a ++ List.replicate (8 - a.length - b.length) 0 ++ b))
  | _ => none
theorem grG_lt {isEnd : Bool} {n k : Nat} {gs gs' : List Nat} {w : L} (h : ∀ g ∈ gs, g < 65536) (e : grG isEnd n gs k w = some gs') : ∀ g ∈ gs', g < 65536 := by
  unfold grG at e
  by_cases hc : isEnd = true ∧ k + 1 = n ∧ 46 ∈ w
  · rw [if_pos hc] at e
    obtain ⟨t, ht, rfl⟩ := map_some2 e
    intro g hg
    rcases List.mem_append.mp hg with hg | hg
    · exact h g hg
    · rcases List.mem_cons.mp hg with rfl | hg
      · exact (Nat.div_lt_iff_lt_mul (by decide)).mpr (ip4_inv ht).2
      · rw [List.mem_singleton.mp hg]; exact Nat.mod_lt _ (by decide)
  · rw [if_neg hc] at e
    obtain ⟨t, ht, rfl⟩ := map_some2 e
    intro g hg
    rcases List.mem_append.mp hg with hg | hg
    · exact h g hg
    · rw [List.mem_singleton.mp hg]; exact hexOf_lt (by decide) ht
theorem fold_lt {isEnd : Bool} {n : Nat} : ∀ {ws : List L} {k : Nat} {gs gs' : List Nat}, (∀ g ∈ gs, g < 65536) → foldOi (grG isEnd n) k gs ws = some gs' → ∀ g ∈ gs', g < 65536
  | [], k, gs, gs', h, e => by cases e; exact h
  | w :: r, k, gs, gs', h, e => by
    obtain ⟨m, hm, e⟩ := bind_some2 e
    exact fold_lt (grG_lt h hm) e
theorem sideOf_lt {isEnd : Bool} {t : L} {gs : List Nat} (e : sideOf isEnd t = some gs) : ∀ g ∈ gs, g < 65536 := by
  unfold sideOf at e
  split at e
  · cases e; simp
  · exact fold_lt (by simp) e
theorem or_add {n g : Nat} (h : g < 65536) : n * 65536 ||| g = n * 65536 + g := by
  have := Nat.two_pow_add_eq_or_of_lt (i := 16) (b := g) (by omega) n
  rw [Nat.mul_comm] at this
  exact this.symm
theorem b_shlI (a b : Int) (h : 0 ≤ b ∧ b ≤ 1000 ∧ a.natAbs < 2 ^ 200) : binop .LShift (.a (.int a)) (.a (.int b)) = some (.a (.int (a * 2 ^ b.toNat))) := by
  show (if _ then _ else _) = _
  rw [if_pos h]
theorem b_orI (a b : Int) (h : 0 ≤ a ∧ 0 ≤ b) : binop .BitOr (.a (.int a)) (.a (.int b)) = some (.a (.int ((a.toNat ||| b.toNat : Nat) : Int))) := by
  show (if _ then _ else _) = _
  rw [if_pos h]
theorem b_rep (a : List At) (b : Int) (h : -(2 ^ 63) ≤ b ∧ b < 2 ^ 63 ∧ a.length * b.toNat ≤ 2 ^ 24) : binop .Mult (.list a) (.a (.int b)) = some (.list (List.replicate b.toNat a).flatten) := by
  show (if _ then _ else _) = _
  rw [if_pos h]
theorem b_shlN (n k : Nat) (h : k ≤ 1000) (h' : n < 2 ^ 200) : binop .LShift (.a (.int (n : Int))) (.a (.int (k : Int))) = some (.a (.int ((n * 2 ^ k : Nat) : Int))) := by
  rw [b_shlI (n : Int) (k : Int) ⟨Int.natCast_nonneg k, Int.ofNat_le.mpr h, h'⟩, Int.toNat_natCast, Int.natCast_mul, Int.natCast_pow]; rfl
theorem b_orN (n m : Nat) : binop .BitOr (.a (.int (n : Int))) (.a (.int (m : Int))) = some (.a (.int ((n ||| m : Nat) : Int))) :=
  b_orI _ _ ⟨Int.natCast_nonneg n, Int.natCast_nonneg m⟩
theorem x7_loop {Φ : Nat → List PV → Option PV} {a b c d : Option PV} : ∀ (gs : List Nat) (n j : Nat) (o : Option PV), n < 65536 ^ j → j + gs.length ≤ 8 → (∀ g ∈ gs, g < 65536) →
    ∃ o', forGo (fun a ρ => ex Φ lIp6Of1 (set ρ 5 (.a a))) (nL gs) [a, b, c, d, some (.a (.int (n : Int))), o] = some (.next, [a, b, c, d, some (.a (.int ((num16 n gs : Nat) : Int))), o'])
  | [], n, j, o, _, _, _ => ⟨o, rfl⟩
  | g :: gs, n, j, o, h1, h2, h3 => by
    have hg := h3 g (by simp)
    have hj : 65536 ^ j ≤ 65536 ^ 7 := Nat.pow_le_pow_right (by decide) (by simp at h2; omega)
    have hn : n < 65536 ^ 7 := Nat.lt_of_lt_of_le h1 hj
    have hshl : binop .LShift (.a (.int (n : Int))) (.a (.int 16)) = some (.a (.int ((n * 65536 : Nat) : Int))) := b_shlN n 16 (by decide) (Nat.lt_trans hn (by decide))
    have hor : binop .BitOr (.a (.int ((n * 65536 : Nat) : Int))) (.a (.int (g : Int))) = some (.a (.int ((n * 65536 + g : Nat) : Int))) := by
      rw [b_orN, or_add hg]
    have hb : ex Φ lIp6Of1 (set [a, b, c, d, some (.a (.int (n : Int))), o] 5 (.a (.int (g : Int)))) = some (.next, [a, b, c, d, some (.a (.int ((n * 65536 + g : Nat) : Int))), some (.a (.int (g : Int)))]) :=
      ex_K rfl fun _ => ((k_b hshl) ((k_b hor) rfl))
    obtain ⟨o', ih⟩ := x7_loop (Φ := Φ) (a := a) (b := b) (c := c) (d := d) gs (n * 65536 + g) (j + 1) (some (.a (.int (g : Int)))) (by rw [Nat.pow_succ]; omega) (by simp at h2; omega) (fun x hx => h3 x (by simp [hx]))
    refine ⟨o', ?_⟩
    rw [nL_cons, forGo, hb]
    exact ih
theorem split2_len {l t : L} (h : t ∈ split2 l) : t.length ≤ l.length := by
  rw [← splitL_2 l (l.length + 1) (Nat.lt_succ_self _)] at h
  exact splitL_len _ _ _ _ h
theorem split2_mem : ∀ {l t : L}, t ∈ split2 l → ∀ c ∈ t, c ∈ l
  | [], t, h, c, hc => by simp [split2] at h; subst h; cases hc
  | [x], t, h, c, hc => by simp [split2] at h; subst h; exact hc
  | x :: y :: r, t, h, c, hc => by
    unfold split2 at h
    split at h
    · rcases List.mem_cons.mp h with rfl | h
      · cases hc
      · have := split2_mem h c hc
        simp [this]
    · cases hs : split2 (y :: r) with
      | nil => exact absurd hs (split2_ne _)
      | cons a b =>
        rw [hs] at h
        rcases List.mem_cons.mp h with rfl | h
        · rcases List.mem_cons.mp hc with rfl | hc
          · simp
          · have := split2_mem (l := y :: r) (t := a) (by rw [hs]; simp) c hc
            simp at this ⊢; exact .inr this
        · have := split2_mem (l := y :: r) (t := t) (by rw [hs]; simp [h]) c hc
          simp at this ⊢; exact .inr this
theorem short_half {l t : L} (h : short l = true) (ht : t ∈ split2 l) : short t = true := by
  obtain ⟨h1, h2⟩ := short_iff.mp h
  exact short_iff.mpr ⟨Nat.le_trans (split2_len ht) h1, fun c hc => h2 c (split2_mem ht c hc)⟩
theorem zeros_flat : ∀ k : Nat, (List.replicate k [At.int 0]).flatten = nL (List.replicate k 0)
  | 0 => rfl
  | k + 1 => by rw [List.replicate_succ, List.flatten_cons, zeros_flat k, List.replicate_succ, nL_cons]; rfl
theorem x7_end {tk : Bool} {Φ : Nat → List PV → Option PV} {a b d : Option PV} {gs : List Nat} (h8 : gs.length = 8) (hl : ∀ g ∈ gs, g < 65536) :
    exK tk Φ (.seq (.ite (.cmp .NotEq (.bi .len (.cons (.var 2) .nil)) (.int 8)) (.seq (.ret .none) .nil) .nil) (.seq (.assign 4 (.int 0)) (.seq (.forS 5 .val (.cons (.var 2) .nil) lIp6Of1) (.seq (.ret (.var 4)) .nil)))) [a, b, some (.list (nL gs)), d, none, none] (fun _ => none) (fun v _ => some v) = some (I1 (num16 0 gs)) := by
  obtain ⟨o', hgo⟩ := x7_loop (Φ := Φ) (a := a) (b := b) (c := some (.list (nL gs))) (d := d) gs 0 0 none (by decide) (by rw [h8]; decide) hl
  have h8' : ((nL gs).length : Int) = 8 := by rw [nL_len, h8]; rfl
  exact (n_f (int_eq.mpr h8')) ((k_b hgo) rfl)
theorem x7 {Φ : Nat → List PV → Option PV} (h6 : ∀ t (e : Bool), short t = true → Φ 6 [S1 t, .a (.bool e)] = some (optL (sideOf e t))) {l : L} (hs : short l = true) : run Φ 6 bIp6Of [S1 l] = some (optI (ip6Of l)) := by
  have hm := m_split2 l (short_iff.mp hs).1
  have hcall : ∀ t (e : Bool), t ∈ split2 l → Φ 6 [S1 t, .a (.bool e)] = some (optL (sideOf e t)) := fun t e ht => h6 t e (short_half hs ht)
  have hne := split2_ne l
  unfold ip6Of
  generalize split2 l = sp at hm hcall hne
  match sp with
  | [] => exact absurd rfl hne
  | x :: y :: z :: r =>
    exact run_K rfl fun _ => ((k_b hm) ((d_t (Int.ofNat_lt.mpr (by rw [List.length_map]; exact Nat.le_add_left 3 r.length))) rfl))
  | [x] =>
    have h := hcall x true (.head _)
    refine run_K rfl fun _ => ((k_b hm) ((k_b (x := S1 x) (by rfl)) ((k_b h) ?_)))
    show _ = some (optI ((sideOf true x).bind fun gs => if gs.length = 8 then some (num16 0 gs) else none))
    cases hg : sideOf true x with
    | none => rfl
    | some gs =>
      by_cases h8 : gs.length = 8
      · show _ = some (optI (if gs.length = 8 then some (num16 0 gs) else none))
        rw [if_pos h8]
        exact x7_end h8 (sideOf_lt hg)
      · show _ = some (optI (if gs.length = 8 then some (num16 0 gs) else none))
        rw [if_neg h8]
        exact (n_t (fun q => h8 (by have := int_eq.mp q; rw [nL_len] at this; exact Int.ofNat_inj.mp this))) rfl
  | [x, y] =>
    have hx := hcall x false (.head _)
    have hy := hcall y true (.tail _ (.head _))
    refine run_K rfl fun _ => ((k_b hm) ((k_b (x := S1 x) (by rfl)) ((k_b hx) ?_)))
    show _ = some (optI ((sideOf false x).bind fun a => (sideOf true y).bind fun b => if 7 < a.length + b.length then none else some (num16 0 (a ++ List.replicate (8 - a.length - b.length) 0 ++ b))))
    cases ha : sideOf false x with
    | none => rfl
    | some a =>
      refine (k_b (x := S1 y) (by rfl)) ((k_b hy) ?_)
      cases hb : sideOf true y with
      | none => rfl
      | some b =>
        have e7 : ((7 : Int) < ((nL a).length : Int) + ((nL b).length : Int)) ↔ 7 < a.length + b.length := by rw [nL_len, nL_len]; omega
        by_cases h7 : 7 < a.length + b.length
        · show _ = some (optI (if 7 < a.length + b.length then none else _))
          rw [if_pos h7]
          exact (e_f (e7.mpr h7)) rfl
        · show _ = some (optI (if 7 < a.length + b.length then none else _))
          rw [if_neg h7]
          have hk : a.length + (8 - a.length - b.length) + b.length = 8 := by omega
          have hmul : binop .Mult (.list [.int 0]) (.a (.int ((8 : Int) - ((nL a).length : Int) - ((nL b).length : Int)))) = some (.list (nL (List.replicate (8 - a.length - b.length) 0))) := by
            rw [show ((8 : Int) - ((nL a).length : Int) - ((nL b).length : Int)) = ((8 - a.length - b.length : Nat) : Int) by rw [nL_len, nL_len]; omega]
            generalize 8 - a.length - b.length = z at hk
            rw [b_rep [.int 0] (z : Int) ⟨by omega, by omega, by rw [Int.toNat_natCast]; show 1 * z ≤ 2 ^ 24; omega⟩, Int.toNat_natCast, zeros_flat]
          generalize 8 - a.length - b.length = z at hk hmul
          have hlen : (a ++ List.replicate z 0 ++ b).length = 8 := by rw [List.length_append, List.length_append, List.length_replicate]; exact hk
          have hall : ∀ g ∈ a ++ List.replicate z 0 ++ b, g < 65536 := by
            intro g hg
            rcases List.mem_append.mp hg with hg | hg
            · rcases List.mem_append.mp hg with hg | hg
              · exact sideOf_lt ha g hg
              · rw [List.eq_of_mem_replicate hg]; decide
            · exact sideOf_lt hb g hg
          have l1 : (nL a).length + (nL (List.replicate z 0)).length ≤ sizeLine := by rw [sizeLine_eq, nL_len, nL_len, List.length_replicate]; omega
          have l2 : (nL a ++ nL (List.replicate z 0)).length + (nL b).length ≤ sizeLine := by rw [sizeLine_eq, List.length_append, nL_len, nL_len, nL_len, List.length_replicate]; omega
          refine (e_t (mt e7.mp h7)) ((k_b (x := PV.list [.int 0]) (by rfl)) ((k_b hmul) ((k_g l1) ((k_g l2) ?_))))
          rw [← nL_app, ← nL_app]
          exact x7_end hlen hall
end Mine
end
section
open PySem PySem.Calls
set_option maxRecDepth 100000
namespace Mine
theorem slice_take {α : Type} (l : List α) (n : Nat) : pySlice l none (some (n : Int)) = l.take n := by
  unfold pySlice clip
  dsimp only
  rw [if_neg (by omega), Int.toNat_natCast, List.drop_zero, List.take_eq_take_min]
  rw [Nat.min_assoc, Nat.min_self]
  rw [← List.take_eq_take_min]
theorem slice_drop {α : Type} (l : List α) (n : Nat) : pySlice l (some (n : Int)) none = l.drop n := by
  unfold pySlice clip
  dsimp only
  rw [if_neg (by omega), Int.toNat_natCast, List.take_length]
  by_cases h : n ≤ l.length
  · rw [Nat.min_eq_left h]
  · rw [Nat.min_eq_right (by omega), List.drop_length, List.drop_of_length_le (by omega)]
theorem slice_both {α : Type} (l : List α) (a b : Nat) (h : a ≤ b) : pySlice l (some (a : Int)) (some (b : Int)) = (l.take b).drop a := by
  unfold pySlice clip
  dsimp only
  rw [if_neg (by omega), if_neg (by omega), Int.toNat_natCast, Int.toNat_natCast]
  by_cases hb : b ≤ l.length
  · rw [Nat.min_eq_left hb, Nat.min_eq_left (by omega)]
  · rw [show min b l.length = l.length by omega, List.take_length, List.take_of_length_le (show l.length ≤ b by omega)]
    by_cases ha : a ≤ l.length
    · rw [Nat.min_eq_left ha]
    · rw [Nat.min_eq_right (by omega), List.drop_length, List.drop_of_length_le (by omega)]
noncomputable def nrS (st : Nat × Nat × Nat) (k g : Nat) : Nat × Nat × Nat :=
  let run := if g = 0 then st.2.2 + 1 else 0
  if st.2.1 < run then (k + 1 - run, run, run) else (st.1, st.2.1, run)
noncomputable def nrF : Nat → Nat × Nat × Nat → List Nat → Nat × Nat × Nat
  | _, st, [] => st
  | k, st, g :: r => nrF (k + 1) (nrS st k g) r
theorem foldOi_nr : ∀ (gs : List Nat) (k : Nat) (st : Nat × Nat × Nat), foldOi (fun st k g => some (nrS st k g)) k st gs = some (nrF k st gs)
  | [], _, _ => rfl
  | g :: r, k, st => by simp only [foldOi, Option.bind_some, nrF]; exact foldOi_nr r (k + 1) (nrS st k g)
noncomputable def nr (gs : List Nat) : Nat × Nat := ((nrF 0 (0, 0, 0) gs).1, (nrF 0 (0, 0, 0) gs).2.1)
theorem nrS_0 {b m r k : Nat} (h : m < r + 1) : nrS (b, m, r) k 0 = (k + 1 - (r + 1), r + 1, r + 1) := if_pos h
theorem nrS_1 {b m r k : Nat} (h : ¬ m < r + 1) : nrS (b, m, r) k 0 = (b, m, r + 1) := if_neg h
theorem nrS_2 {b m r k g : Nat} (h : g ≠ 0) : nrS (b, m, r) k g = (b, m, 0) := by unfold nrS; dsimp only; rw [if_neg h]; exact if_neg (Nat.not_lt_zero _)
theorem x8_step {Φ : Nat → List PV → Option PV} {a : Option PV} {st : Nat × Nat × Nat} {k g : Nat} (hr : st.2.2 ≤ k) :
    ∃ ρ', ex Φ lNoughtRun1 [a, some (I1 st.1), some (I1 st.2.1), some (I1 st.2.2), some (I1 k), some (I1 g)] = some (outO (.a .none) (some (nrS st k g)) ρ') ∧
      okO' (fun (st : Nat × Nat × Nat) ρ => ∃ o1 o2, ρ = [a, some (I1 st.1), some (I1 st.2.1), some (I1 st.2.2), o1, o2] ∧ st.2.2 ≤ k + 1) (some (nrS st k g)) ρ' := by
  obtain ⟨b, m, r⟩ := st
  by_cases h0 : g = 0
  · subst h0
    by_cases h1 : m < r + 1
    · rw [nrS_0 h1]
      refine ⟨_, ex_K rfl fun _ => ((d_t (Int.ofNat_lt.mpr h1)) ((k_b (x := PV.tup [.int ((k : Int) + 1 - ((r : Int) + 1)), .int ((r : Int) + 1)]) (by rfl)) rfl)), some (I1 k), some (I1 0), ?_, Nat.succ_le_succ hr⟩
      show [_, some (PV.a (.int ((k : Int) + 1 - ((r : Int) + 1)))), _, _, _, _] = _
      rw [show (k : Int) + 1 - ((r : Int) + 1) = ((k + 1 - (r + 1) : Nat) : Int) by have : r ≤ k := hr; omega]; rfl
    · rw [nrS_1 h1]
      exact ⟨_, ex_K rfl fun _ => ((d_f (mt Int.ofNat_lt.mp h1)) rfl), _, _, rfl, Nat.succ_le_succ hr⟩
  · rw [nrS_2 h0]
    exact ⟨_, ex_K rfl fun _ => ((d_f (fun q => h0 (Int.ofNat_inj.mp (int_eq.mp q)))) rfl), _, _, rfl, Nat.zero_le _⟩
theorem x8 (Φ : Nat → List PV → Option PV) (gs : List Nat) : run Φ 6 bNoughtRun [.list (nL gs)] = some (.tup [.int ((nr gs).1 : Int), .int ((nr gs).2 : Int)]) := by
  obtain ⟨ρ', hgo, hR⟩ : ∃ ρ', enumGo (fun k a ρ => ex Φ lNoughtRun1 (set (set ρ 4 (.a (.int k))) 5 (.a a))) 0 (nL gs) [some (.list (nL gs)), some (.a (.int 0)), some (.a (.int 0)), some (.a (.int 0)), none, none] = some (outO (.a .none) (foldOi (fun st k g => some (nrS st k g)) 0 (0, 0, 0) gs) ρ') ∧ _ :=
    enumGo_K (enc := fun g : Nat => .int (g : Int)) (R := fun k (st : Nat × Nat × Nat) ρ => ∃ o1 o2, ρ = [some (.list (nL gs)), some (I1 st.1), some (I1 st.2.1), some (I1 st.2.2), o1, o2] ∧ st.2.2 ≤ k) (.a .none) gs 0 (0, 0, 0) _
      (by rintro st ρ k g _ _ _ ⟨o1, o2, rfl, hr⟩; exact x8_step hr) ⟨none, none, rfl, Nat.le_refl _⟩
  rw [foldOi_nr] at hgo hR
  obtain ⟨o1, o2, rfl, _⟩ := hR
  exact run_K rfl fun _ => ((k_b (x := PV.tup [.int 0, .int 0]) (by rfl)) ((k_b hgo) ((k_b (x := PV.tup [.int ((nr gs).1 : Int), .int ((nr gs).2 : Int)]) (by rfl)) rfl)))
theorem hexT_one (g : Nat) : hexT g 1 = hexW g := by unfold hexT; rw [if_neg (by omega)]
theorem hexW_len (g : Nat) : 1 ≤ (hexW g).length ∧ (hexW g).length ≤ 4 := by
  unfold hexW
  split
  · simp
  · split
    · simp
    · split <;> simp
theorem sumLen_hex : ∀ gs : List Nat, sumLen (gs.map hexW) ≤ 4 * gs.length
  | [] => by simp [sumLen]
  | g :: r => by
    have := sumLen_hex r
    have := (hexW_len g).2
    simp [sumLen]; omega
end Mine
end
section
open PySem PySem.Calls
set_option maxRecDepth 100000
namespace Mine
noncomputable def gs8 (n : Nat) : List Nat := [112, 96, 80, 64, 48, 32, 16, 0].map fun k => n / 2 ^ k % 65536
noncomputable def v4at (gs : List Nat) (b m : Nat) : Bool := decide (b = 0) && (decide (m = 6) || (decide (m = 5) && decide (gs.getD 5 0 = 65535)))
noncomputable def words6 (gs : List Nat) (v4 : Bool) : List L := if v4 then (gs.map hexW).take 6 ++ [text4 (gs.getD 6 0 * 65536 + gs.getD 7 0)] else gs.map hexW
noncomputable def txt (ws : List L) (b m : Nat) : L := joinL [58] (ws.take b) ++ [58, 58] ++ joinL [58] (ws.drop (b + m))
noncomputable def text6 (gs : List Nat) : L :=
  if (nr gs).2 < 2 then joinL [58] (gs.map hexW) else txt (words6 gs (v4at gs (nr gs).1 (nr gs).2)) (nr gs).1 (nr gs).2
theorem text4_len (n : Nat) : (text4 n).length ≤ 20 := by
  have := joinL_len [46] (oct4 n)
  have h1 := dec_len (k := n / 2 ^ 24 % 256) (by omega)
  have h2 := dec_len (k := n / 2 ^ 16 % 256) (by omega)
  have h3 := dec_len (k := n / 2 ^ 8 % 256) (by omega)
  have h4 := dec_len (k := n / 2 ^ 0 % 256) (by omega)
  unfold text4
  simp only [sumLen, oct4, List.map_cons, List.map_nil, List.length_cons, List.length_nil] at this ⊢
  omega
noncomputable def Few (ws : List L) : Prop := ws.length ≤ 8 ∧ ∀ w ∈ ws, w.length ≤ 20
theorem sumLen_le {k : Nat} : ∀ {ws : List L}, (∀ w ∈ ws, w.length ≤ k) → sumLen ws ≤ k * ws.length
  | [], _ => by simp [sumLen]
  | w :: r, h => by
    have h1 := h w (by simp)
    have h2 := sumLen_le (ws := r) (fun v hv => h v (by simp [hv]))
    simp only [sumLen, List.length_cons, Nat.mul_add]
    omega
theorem few_join {ws : List L} (h : Few ws) : me .join (.a (.str [58])) [.list (ws.map .str)] = some (.a (.str (joinL [58] ws))) ∧ (joinL [58] ws).length ≤ 200 := by
  have hs := sumLen_le h.2
  have h1 := h.1
  refine ⟨j_join [58] ws (by simp; omega), ?_⟩
  have := joinL_len [58] ws
  simp at this
  omega
theorem Few.take {ws : List L} (h : Few ws) (k : Nat) : Few (ws.take k) := ⟨by have := h.1; simp; omega, fun w hw => h.2 w (List.mem_of_mem_take hw)⟩
theorem Few.drop {ws : List L} (h : Few ws) (k : Nat) : Few (ws.drop k) := ⟨by have := h.1; simp; omega, fun w hw => h.2 w (List.mem_of_mem_drop hw)⟩
theorem few_words {gs : List Nat} (h : gs.length = 8) (v4 : Bool) : Few (words6 gs v4) := by
  unfold words6
  split
  · refine ⟨by simp; omega, fun w hw => ?_⟩
    rcases List.mem_append.mp hw with hw | hw
    · obtain ⟨g, _, rfl⟩ := List.mem_map.mp (List.mem_of_mem_take hw)
      have := (hexW_len g).2; omega
    · simp only [List.mem_singleton] at hw
      subst hw; exact text4_len _
  · refine ⟨by simp; omega, fun w hw => ?_⟩
    obtain ⟨g, _, rfl⟩ := List.mem_map.mp hw
    have := (hexW_len g).2; omega
theorem words_false (gs : List Nat) : words6 gs false = gs.map hexW := rfl
theorem nrS_ok {st : Nat × Nat × Nat} {k g : Nat} (h : st.1 + st.2.1 ≤ k ∧ st.2.2 ≤ k) : (nrS st k g).1 + (nrS st k g).2.1 ≤ k + 1 ∧ (nrS st k g).2.2 ≤ k + 1 := by
  unfold nrS
  by_cases h0 : g = 0
  · simp only [h0, if_true]
    split
    · dsimp only; omega
    · dsimp only; omega
  · simp only [h0, if_false]
    split
    · dsimp only; omega
    · dsimp only; omega
theorem nrF_ok : ∀ {gs : List Nat} {k : Nat} {st : Nat × Nat × Nat}, (st.1 + st.2.1 ≤ k ∧ st.2.2 ≤ k) → (nrF k st gs).1 + (nrF k st gs).2.1 ≤ k + gs.length
  | [], k, st, h => h.1
  | g :: r, k, st, h => by
    have := nrF_ok (gs := r) (nrS_ok (g := g) h)
    simp only [nrF, List.length_cons]
    omega
theorem nr_le (gs : List Nat) : (nr gs).1 + (nr gs).2 ≤ gs.length := by
  have := nrF_ok (gs := gs) (k := 0) (st := (0, 0, 0)) ⟨by decide, by decide⟩
  unfold nr
  omega
theorem gs8_lt {n g : Nat} (h : g ∈ gs8 n) : g < 65536 := by
  simp only [gs8, List.mem_map] at h
  obtain ⟨p, _, rfl⟩ := h
  omega
theorem ev_txt {Φ : Nat → List PV → Option PV} {ρ : Store} {ws : List L} {b m : Nat} {iw : Nat} {eb em : E} (hf : Few ws) (hw : get ρ iw = some (.list (ws.map .str))) (hb : ev Φ eb ρ = some (.a (.int (b : Int)))) (hm : ev Φ em ρ = some (.a (.int (m : Int)))) :
    ev Φ (.bin .Add (.bin .Add (.me .join (.str [58]) (.cons (.slice (.var iw) .none eb) .nil)) (.str [58, 58])) (.me .join (.str [58]) (.cons (.slice (.var iw) (.bin .Add eb em) .none) .nil))) ρ = some (.a (.str (txt ws b m))) := by
  obtain ⟨j1, l1⟩ := few_join (hf.take b)
  obtain ⟨j2, l2⟩ := few_join (hf.drop (b + m))
  have s1 : sliceV (.list (ws.map .str)) none (some (b : Int)) = some (.list ((ws.take b).map .str)) := by
    show some (PV.list (pySlice (ws.map .str) none (some (b : Int)))) = _
    rw [slice_take, List.map_take]
  have s2 : sliceV (.list (ws.map .str)) (some ((b : Int) + (m : Int))) none = some (.list ((ws.drop (b + m)).map .str)) := by
    show some (PV.list (pySlice (ws.map .str) (some ((b : Int) + (m : Int))) none)) = _
    rw [← Int.natCast_add, slice_drop, List.map_drop]
  have c1 : (joinL [58] (ws.take b)).length + ([58, 58] : L).length ≤ sizeLine := by rw [sizeLine_eq]; exact Nat.le_trans (Nat.add_le_add_right l1 2) (by decide)
  have c2 : (joinL [58] (ws.take b) ++ [58, 58]).length + (joinL [58] (ws.drop (b + m))).length ≤ sizeLine := by
    rw [sizeLine_eq, List.length_append]; exact Nat.le_trans (Nat.add_le_add (Nat.add_le_add_right l1 2) l2) (by decide)
  have p1 : part (ev Φ eb ρ) = some (some (b : Int)) := by rw [hb]; rfl
  have p2 : part (ev Φ (.bin .Add eb em) ρ) = some (some ((b : Int) + (m : Int))) := by
    rw [show ev Φ (.bin .Add eb em) ρ = some (.a (.int ((b : Int) + (m : Int)))) from ev_bin hb hm rfl]; rfl
  exact ev_K rfl fun _ => ((k_o hw) ((k_o p1) ((k_b s1) ((k_b j1) ((k_g c1) ((k_o hw) ((k_o p2) ((k_b s2) ((k_b j2) ((k_g c2) rfl))))))))))
theorem x9_test {Φ : Nat → List PV → Option PV} {n : Nat} {gs : List Nat} {b m : Nat} {o p q : Option PV} (hlen : gs.length = 8) : ev Φ (.boolE true (.cons (.cmp .Eq (.var 2) (.int 0)) (.cons (.boolE false (.cons (.cmp .Eq (.var 3) (.int 6)) (.cons (.boolE true (.cons (.cmp .Eq (.var 3) (.int 5)) (.cons (.cmp .Eq (.idx (.var 1) (.int 5)) (.int 65535)) .nil))) .nil))) .nil)))
        [some (I1 n), some (.list (nL gs)), some (I1 b), some (I1 m), o, p, q] = some (.a (.bool (v4at gs b m))) := by
  have hi5 : index (.list (nL gs)) (.a (.int 5)) = some (I1 (gs.getD 5 0)) := nL_get gs 5 (by rw [hlen]; decide)
  unfold v4at
  refine ev_K rfl fun _ => ?_
  have ne : ∀ {x y : Nat}, ¬ x = y → ¬ (PV.a (.int (x : Int)) = PV.a (.int (y : Int))) := fun h q => h (Int.ofNat_inj.mp (int_eq.mp q))
  have eq : ∀ {x y : Nat}, x = y → PV.a (.int (x : Int)) = PV.a (.int (y : Int)) := fun h => by rw [h]
  by_cases hb0 : b = 0
  · refine (d_t (eq hb0)) ?_
    rw [decide_eq_true hb0]
    by_cases hm6 : m = 6
    · rw [decide_eq_true hm6]
      exact (e_f (eq hm6)) rfl
    · refine (e_t (ne hm6)) ?_
      rw [decide_eq_false hm6]
      by_cases hm5 : m = 5
      · refine (d_t (eq hm5)) ((k_b hi5) ?_)
        rw [decide_eq_true hm5]
        by_cases h5 : gs.getD 5 0 = 65535
        · rw [decide_eq_true h5]
          exact (d_t (eq h5)) rfl
        · rw [decide_eq_false h5]
          exact (d_f (ne h5)) rfl
      · rw [decide_eq_false hm5]
        exact (d_f (ne hm5)) rfl
  · rw [decide_eq_false hb0]
    exact (d_f (ne hb0)) rfl
theorem x9 {Φ : Nat → List PV → Option PV} (h8 : ∀ gs, Φ 8 [.list (nL gs)] = some (.tup [.int ((nr gs).1 : Int), .int ((nr gs).2 : Int)])) (h3 : ∀ g, g < 65536 → Φ 3 [I1 g] = some (S1 (hexW g))) (h5 : ∀ n : Nat, Φ 5 [I1 n] = some (S1 (text4 n)))
    (n : Nat) : run Φ 7 bIp6Text [I1 n] = some (S1 (text6 (gs8 n))) := by
  have hc2 : ev Φ cIp6Text2 [some (.a (.int (n : Int))), none, none, none, none, none, none] = some (.list (nL (gs8 n))) := by
    unfold gs8 nL
    rw [List.map_map]
    refine ev_comp_map (vs := [.tup [.int 112, .int 96, .int 80, .int 64, .int 48, .int 32, .int 16, .int 0]]) (fun k : Nat => .int (k : Int)) _ [112, 96, 80, 64, 48, 32, 16, 0] ?_ rfl fun k _ => ?_
    · rfl
    · exact ev_K rfl fun _ => ((k_b (b_shr n k)) ((k_b (b_and (n / 2 ^ k) 65535 16 rfl)) rfl))
  have hlt := fun g hg => gs8_lt (n := n) (g := g) hg
  have hg5 : (gs8 n).getD 5 0 = n / 2 ^ 32 % 65536 := rfl
  have hg67 : (gs8 n).getD 6 0 * 65536 + (gs8 n).getD 7 0 = n % 2 ^ 32 := by
    show n / 2 ^ 16 % 65536 * 65536 + n / 2 ^ 0 % 65536 = _
    omega
  have hlen : (gs8 n).length = 8 := rfl
  have h8' := h8 (gs8 n)
  have hnr := nr_le (gs8 n)
  unfold text6
  generalize hgs : gs8 n = gs at *
  generalize (nr gs).1 = b at *
  generalize (nr gs).2 = m at *
  have hc1 : ev Φ cIp6Text1 [some (.a (.int (n : Int))), some (.list (nL gs)), some (.a (.int (b : Int))), some (.a (.int (m : Int))), none, none, none] = some (.list ((gs.map hexW).map .str)) := by
    rw [List.map_map]
    refine ev_comp_map (vs := [.list (nL gs)]) (fun k : Nat => .int (k : Int)) _ gs ?_ rfl fun g hg => ?_
    · rfl
    · exact ev_K rfl fun _ => ((k_b (h3 g (hlt g hg))) rfl)
  have hf := few_words hlen false
  rw [words_false] at hf
  obtain ⟨hj, _⟩ := few_join hf
  refine run_K rfl fun _ => ((k_b hc2) ((k_b h8') ((k_b hc1) ?_)))
  by_cases hm2 : m < 2
  · rw [if_pos hm2]
    exact (d_t (Int.ofNat_lt.mpr hm2)) ((k_b hj) rfl)
  · rw [if_neg hm2]
    have hend : ∀ ws : List L, Few ws → ev Φ (.bin .Add (.bin .Add (.me .join (.str [58]) (.cons (.slice (.var 4) .none (.var 2)) .nil)) (.str [58, 58])) (.me .join (.str [58]) (.cons (.slice (.var 4) (.bin .Add (.var 2) (.var 3)) .none) .nil)))
        [some (I1 n), some (.list (nL gs)), some (I1 b), some (I1 m), some (.list (ws.map .str)), none, none] = some (.a (.str (txt ws b m))) := fun ws hfw => ev_txt hfw rfl rfl rfl
    have hwf := few_words hlen (v4at gs b m)
    refine (d_f (mt Int.ofNat_lt.mp hm2)) ((s_if (x9_test hlen) rfl) ?_)
    generalize v4at gs b m = v4 at hwf
    cases v4 with
    | false =>
      rw [words_false] at hwf ⊢
      rw [if_neg Bool.false_ne_true, exK_nil]
      exact (s_ret (hend _ hwf) rfl) rfl
    | true =>
      have hw : words6 gs true = (gs.map hexW).take 6 ++ [text4 (n % 2 ^ 32)] := by unfold words6; rw [if_pos rfl, hg67]
      have hsl : sliceV (.list ((gs.map hexW).map .str)) none (some 6) = some (.list (((gs.map hexW).take 6).map .str)) := by
        show some (PV.list (pySlice ((gs.map hexW).map .str) none (some ((6 : Nat) : Int)))) = _
        rw [slice_take, List.map_take]
      have hl : (((gs.map hexW).take 6).map At.str).length + ([At.str (text4 (n % 2 ^ 32))]).length ≤ sizeLine := by
        rw [sizeLine_eq, List.length_map]; exact Nat.le_trans (Nat.add_le_add_right (List.length_take_le ..) 1) (by decide)
      refine (k_b hsl) ((k_b (b_and n 4294967295 32 rfl)) ((k_b (h5 (n % 2 ^ 32))) ((k_b (x := PV.list [.str (text4 (n % 2 ^ 32))]) (by rfl)) ((k_g hl) ?_))))
      have e : ((gs.map hexW).take 6).map At.str ++ [At.str (text4 (n % 2 ^ 32))] = (words6 gs true).map At.str := by rw [hw, List.map_append]; rfl
      rw [e]
      show exK _ Φ .nil _ _ _ = _
      rw [exK_nil]
      exact (s_ret (hend _ hwf) rfl) rfl
end Mine
end
section
open PySem PySem.Calls
set_option maxRecDepth 100000
namespace Mine
noncomputable def nrSB (st : Nat × Nat × Nat) (k : Nat) (z : Bool) : Nat × Nat × Nat :=
  let run := if z then st.2.2 + 1 else 0
  if st.2.1 < run then (k + 1 - run, run, run) else (st.1, st.2.1, run)
noncomputable def nrFB : Nat → Nat × Nat × Nat → List Bool → Nat × Nat × Nat
  | _, st, [] => st
  | k, st, g :: r => nrFB (k + 1) (nrSB st k g) r
noncomputable def zs (gs : List Nat) : List Bool := gs.map fun g => decide (g = 0)
theorem nrS_B (st : Nat × Nat × Nat) (k g : Nat) : nrS st k g = nrSB st k (decide (g = 0)) := by
  unfold nrS nrSB
  by_cases h : g = 0 <;> simp [h]
theorem nrF_B : ∀ (gs : List Nat) (k : Nat) (st : Nat × Nat × Nat), nrF k st gs = nrFB k st (zs gs)
  | [], _, _ => rfl
  | g :: r, k, st => by
    show nrF (k + 1) (nrS st k g) r = nrFB (k + 1) (nrSB st k (decide (g = 0))) (zs r)
    rw [nrS_B, nrF_B r]
noncomputable def pz (gs : List Nat) (m b : Nat) : Bool := decide ((gs.take (b + m)).drop b = List.replicate m 0)
noncomputable def pB (z : List Bool) (m b : Nat) : Bool := decide ((z.take (b + m)).drop b = List.replicate m true)
theorem pz_B (gs : List Nat) (m b : Nat) : pz gs m b = pB (zs gs) m b := by
  unfold pz pB zs
  rw [← List.map_take, ← List.map_drop]
  congr 1
  refine propext ⟨fun h => by rw [h]; simp, fun h => ?_⟩
  rw [List.eq_replicate_iff] at h ⊢
  refine ⟨by simpa using h.1, fun g hg => ?_⟩
  have := h.2 (decide (g = 0)) (List.mem_map.mpr ⟨g, hg, rfl⟩)
  simpa using this
noncomputable def searchBy (p : Nat → Nat → Bool) : List Nat → Option (Nat × Nat)
  | [] => none
  | m :: r => match (List.range (9 - m)).find? (p m) with
    | some b => some (b, m)
    | none => searchBy p r
theorem search_B : ∀ a b c d e f g h : Bool, searchBy (pB [a, b, c, d, e, f, g, h]) [8, 7, 6, 5, 4, 3, 2] =
    (if (nrFB 0 (0, 0, 0) [a, b, c, d, e, f, g, h]).2.1 < 2 then none else some ((nrFB 0 (0, 0, 0) [a, b, c, d, e, f, g, h]).1, (nrFB 0 (0, 0, 0) [a, b, c, d, e, f, g, h]).2.1)) := by decide +kernel
noncomputable def v4B (b m : Nat) (q : Bool) : Bool := decide (b = 0) && (decide (m = 6) || (decide (m = 5) && q))
theorem cond_B : ∀ a b c d e f g h q : Bool, (q = true → f = false) → ((a && b && c && d && e && q) || (a && b && c && d && e && f && !g)) =
    (!decide ((nrFB 0 (0, 0, 0) [a, b, c, d, e, f, g, h]).2.1 < 2) && v4B (nrFB 0 (0, 0, 0) [a, b, c, d, e, f, g, h]).1 (nrFB 0 (0, 0, 0) [a, b, c, d, e, f, g, h]).2.1 q) := by decide +kernel
noncomputable def condL (gs : List Nat) : Bool := decide (gs.take 6 = [0, 0, 0, 0, 0, 65535]) || (decide (gs.take 6 = List.replicate 6 0) && !decide (gs.getD 6 0 = 0))
noncomputable def lawT6 (gs : List Nat) : L := match searchBy (pz gs) [8, 7, 6, 5, 4, 3, 2] with
  | some (b, m) => txt (words6 gs (condL gs)) b m
  | none => joinL [58] (words6 gs (condL gs))
theorem lawT6_eq {gs : List Nat} (h : gs.length = 8) : lawT6 gs = text6 gs := by
  match gs, h with
  | [a, b, c, d, e, f, g, i], _ =>
    have hp : pz [a, b, c, d, e, f, g, i] = pB (zs [a, b, c, d, e, f, g, i]) := by funext m k; exact pz_B _ _ _
    have hz : zs [a, b, c, d, e, f, g, i] = [decide (a = 0), decide (b = 0), decide (c = 0), decide (d = 0), decide (e = 0), decide (f = 0), decide (g = 0), decide (i = 0)] := rfl
    have hs := search_B (decide (a = 0)) (decide (b = 0)) (decide (c = 0)) (decide (d = 0)) (decide (e = 0)) (decide (f = 0)) (decide (g = 0)) (decide (i = 0))
    have hc := cond_B (decide (a = 0)) (decide (b = 0)) (decide (c = 0)) (decide (d = 0)) (decide (e = 0)) (decide (f = 0)) (decide (g = 0)) (decide (i = 0)) (decide (f = 65535)) (by
      intro q; have : f = 65535 := by simpa using q
      subst this; rfl)
    have hcond : condL [a, b, c, d, e, f, g, i] = ((decide (a = 0) && decide (b = 0) && decide (c = 0) && decide (d = 0) && decide (e = 0) && decide (f = 65535)) ||
        (decide (a = 0) && decide (b = 0) && decide (c = 0) && decide (d = 0) && decide (e = 0) && decide (f = 0) && !decide (g = 0))) := by
      unfold condL
      simp [List.replicate, Bool.and_assoc]
    rw [← hz, ← nrF_B] at hs hc
    rw [← hp] at hs
    unfold lawT6 text6
    rw [hs]
    have hv : v4at [a, b, c, d, e, f, g, i] (nr [a, b, c, d, e, f, g, i]).1 (nr [a, b, c, d, e, f, g, i]).2 = v4B (nr [a, b, c, d, e, f, g, i]).1 (nr [a, b, c, d, e, f, g, i]).2 (decide (f = 65535)) := rfl
    rw [hcond, hc, hv]
    unfold nr
    dsimp only
    by_cases hm : (nrF 0 (0, 0, 0) [a, b, c, d, e, f, g, i]).2.1 < 2
    · rw [if_pos hm, if_pos hm]
      simp [hm, words6]
    · rw [if_neg hm, if_neg hm]
      simp [hm]
end Mine
end
section
open PySem PySem.Calls
set_option maxRecDepth 100000
namespace Mine
theorem foldR_find {α : Type} {p : α → Bool} {v : α → PV} : ∀ l : List α, foldR (fun (_ : Unit) a => some (if p a then .inr (v a) else .inl ())) () l = some (match l.find? p with | some a => .inr (v a) | none => .inl ())
  | [] => rfl
  | a :: r => by
    simp only [foldR, Option.bind_some, List.find?_cons]
    cases h : p a with
    | true => rfl
    | false => exact foldR_find r
theorem nL_take (gs : List Nat) (k : Nat) : (nL gs).take k = nL (gs.take k) := by simp [nL, List.map_take]
theorem nL_drop (gs : List Nat) (k : Nat) : (nL gs).drop k = nL (gs.drop k) := by simp [nL, List.map_drop]
theorem nL_inj {a b : List Nat} : nL a = nL b ↔ a = b := by
  refine ⟨fun h => ?_, fun h => by rw [h]⟩
  refine List.map_inj_right (f := fun k : Nat => At.int (k : Int)) (fun x y h => Int.ofNat_inj.mp (At.int.inj h)) |>.mp h
theorem nL_plain (a : List Nat) : (PV.list (nL a)).plain = true := by
  show (nL a).all At.plain = true
  rw [List.all_eq_true]
  intro x hx
  obtain ⟨k, _, rfl⟩ := List.mem_map.mp hx
  rfl
theorem c_eq_nL (a b : List Nat) : cmpop .Eq (.list (nL a)) (.list (nL b)) = some (decide (a = b)) := by
  show (if (PV.list (nL a)).plain && (PV.list (nL b)).plain then some (decide (PV.list (nL a) = PV.list (nL b))) else none) = _
  rw [nL_plain, nL_plain]
  exact congrArg some (decide_eq_decide.mpr ⟨fun h => nL_inj.mp (PV.list.inj h), fun h => by rw [h]⟩)
theorem t6_test {Φ : Nat → List PV → Option PV} {gs : List Nat} (hlen : gs.length = 8) : ev Φ (.boolE false (.cons (.cmp .Eq (.slice (.var 0) .none (.int 6)) (.list (.cons (.int 0) (.cons (.int 0) (.cons (.int 0) (.cons (.int 0) (.cons (.int 0) (.cons (.int 65535) .nil)))))))) (.cons (.boolE true (.cons (.cmp .Eq (.slice (.var 0) .none (.int 6)) (.bin .Mult (.list (.cons (.int 0) .nil)) (.int 6))) (.cons (.cmp .NotEq (.idx (.var 0) (.int 6)) (.int 0)) .nil))) .nil)))
      [some (.list (nL gs)), some (.list ((gs.map hexW).map .str)), none, none, none] = some (.a (.bool (condL gs))) := by
  have hsl6 : sliceV (.list (nL gs)) none (some 6) = some (.list (nL (gs.take 6))) := by
    show some (PV.list (pySlice (nL gs) none (some ((6 : Nat) : Int)))) = _
    rw [slice_take, nL_take]
  have h06 : binop .Mult (.list [.int 0]) (.a (.int 6)) = some (.list (nL (List.replicate 6 0))) := rfl
  have hi6 : index (.list (nL gs)) (.a (.int 6)) = some (.a (.int ((gs.getD 6 0 : Nat) : Int))) := nL_get gs 6 (by rw [hlen]; decide)
  unfold condL
  refine ev_K rfl fun _ => ((k_b hsl6) ((k_b (x := PV.list (nL [0, 0, 0, 0, 0, 65535])) (by rfl)) ((k_o (c_eq_nL _ _)) ?_)))
  by_cases c1 : gs.take 6 = [0, 0, 0, 0, 0, 65535]
  · rw [decide_eq_true c1]
    rfl
  · rw [decide_eq_false c1]
    refine (k_b hsl6) ((k_b (x := PV.list [.int 0]) (by rfl)) ((k_b h06) ((k_o (c_eq_nL _ _)) ?_)))
    by_cases c2 : gs.take 6 = List.replicate 6 0
    · rw [decide_eq_true c2]
      refine (k_b hi6) ?_
      by_cases c3 : gs.getD 6 0 = 0
      · rw [decide_eq_true c3]
        exact (n_f (int_eq.mpr (Int.ofNat_inj.mpr c3))) rfl
      · rw [decide_eq_false c3]
        exact (n_t (fun q => c3 (Int.ofNat_inj.mp (int_eq.mp q)))) rfl
    · rw [decide_eq_false c2]
      rfl
theorem q_hs (gs : List Nat) (b m : Nat) : sliceV (.list (nL gs)) (some (b : Int)) (some ((b : Int) + (m : Int))) = some (.list (nL ((gs.take (b + m)).drop b))) := by
  show some (PV.list (pySlice (nL gs) (some (b : Int)) (some ((b : Int) + (m : Int))))) = _
  rw [← Int.natCast_add, slice_both _ _ _ (by omega), nL_take, nL_drop]
theorem q_hz (m : Nat) (hm8 : m ≤ 8) : binop .Mult (.list [.int 0]) (.a (.int (m : Int))) = some (.list (nL (List.replicate m 0))) := by
  have h3 : ([At.int 0] : List At).length * (m : Int).toNat ≤ 2 ^ 24 := by rw [List.length_singleton, Nat.one_mul, Int.toNat_natCast]; exact Nat.le_trans hm8 (by decide)
  have h1 : -(2 : Int) ^ 63 ≤ (m : Int) := by omega
  have h2 : (m : Int) < 2 ^ 63 := by omega
  rw [b_rep [.int 0] (m : Int) ⟨h1, h2, h3⟩, Int.toNat_natCast, zeros_flat]
theorem q_ht {Φ : Nat → List PV → Option PV} {gs : List Nat} {ws : List L} {m b : Nat} (hm8 : m ≤ 8) : ev Φ (.cmp .Eq (.slice (.var 0) (.var 3) (.bin .Add (.var 3) (.var 2))) (.bin .Mult (.list (.cons (.int 0) .nil)) (.var 2))) [some (.list (nL gs)), some (.list (ws.map .str)), some (I1 m), some (I1 b), none] = some (.a (.bool (pz gs m b))) :=
  ev_K rfl fun _ => ((k_b (q_hs gs b m)) ((k_b (x := PV.list [.int 0]) (by rfl)) ((k_b (q_hz m hm8)) ((k_o (c_eq_nL _ _)) rfl))))
theorem t6_find {Φ : Nat → List PV → Option PV} {gs : List Nat} {ws : List L} (hwf : Few ws) {m : Nat} (hm8 : m ≤ 8) (b : Nat) : ∃ ρ', ex Φ lLawText61 [some (.list (nL gs)), some (.list (ws.map .str)), some (I1 m), some (I1 b), none] = some (outR (if pz gs m b then (.inr (S1 (txt ws b m)) : Unit ⊕ PV) else .inl ()) ρ') ∧
    okR (fun (_ : Unit) ρ => ∃ o, ρ = [some (.list (nL gs)), some (.list (ws.map .str)), some (I1 m), o, none]) (if pz gs m b then (.inr (S1 (txt ws b m)) : Unit ⊕ PV) else .inl ()) ρ' := by
  have ht := q_ht (Φ := Φ) (gs := gs) (ws := ws) (b := b) hm8
  generalize pz gs m b = c at ht ⊢
  cases c with
  | false => exact ⟨_, ex_K rfl fun _ => ((s_skip ht rfl) rfl), _, rfl⟩
  | true => exact ⟨_, ex_K rfl fun _ => ((s_ift ht rfl) ((s_ret (ev_txt (b := b) (m := m) hwf rfl rfl rfl) rfl) rfl)), trivial⟩
theorem t6_inner {Φ : Nat → List PV → Option PV} {gs : List Nat} {ws : List L} (hwf : Few ws) : ∀ (m : Nat) (o : Option PV), 2 ≤ m → m ≤ 8 → ∃ ρ', ex Φ lLawText62 [some (.list (nL gs)), some (.list (ws.map .str)), some (.a (.int (m : Int))), o, none] =
      some (match (List.range (9 - m)).find? (pz gs m) with | some b => (.ret (S1 (txt ws b m)), ρ') | none => (.next, ρ')) ∧ ((List.range (9 - m)).find? (pz gs m) = none → ∃ o', ρ' = [some (.list (nL gs)), some (.list (ws.map .str)), some (.a (.int (m : Int))), o', none]) := by
  intro m o hm2 hm8
  have hr : iterItems .range [.a (.int ((9 : Int) - (m : Int)))] = some ((List.range (9 - m)).map fun k => .int (k : Int)) := by
    rw [show ((9 : Int) - (m : Int)) = ((9 - m : Nat) : Int) by omega]
    exact it_range (9 - m) (Nat.lt_of_le_of_lt (Nat.sub_le 9 m) (by decide))
  obtain ⟨ρ', hgo, hR⟩ := forGo_R (R := fun (_ : Unit) ρ => ∃ o, ρ = [some (.list (nL gs)), some (.list (ws.map .str)), some (I1 m), o, none]) (enc := fun b : Nat => .int (b : Int)) (body := fun a ρ => ex Φ lLawText61 (set ρ 3 (.a a)))
    (by rintro _ ρ b x ⟨o, rfl⟩ e; cases e; exact t6_find hwf hm8 b) (List.range (9 - m)) () _ _ ⟨o, rfl⟩ (foldR_find _)
  generalize (List.range (9 - m)).find? (pz gs m) = fd at hgo hR ⊢
  refine ⟨ρ', ex_K rfl fun _ => ((k_o hr) ((k_b hgo) ?_)), fun hf => ?_⟩
  · cases fd <;> rfl
  · rw [hf] at hR
    exact hR
theorem t6_outer {gs : List Nat} {ws : List L} : ∀ l : List Nat, (∀ m ∈ l, 2 ≤ m ∧ m ≤ 8) → foldR (fun (_ : Unit) m => if 2 ≤ m ∧ m ≤ 8 then some (match (List.range (9 - m)).find? (pz gs m) with | some b => (.inr (S1 (txt ws b m)) : Unit ⊕ PV) | none => .inl ()) else none) () l =
      some (match searchBy (pz gs) l with | some (b, m) => .inr (S1 (txt ws b m)) | none => .inl ()) := by
  intro l
  induction l with
  | nil => intro _; rfl
  | cons m r ih =>
    intro h
    have hm := h m (.head _)
    show (if 2 ≤ m ∧ m ≤ 8 then _ else _ : Option (Unit ⊕ PV)).bind _ = _
    rw [if_pos hm]
    unfold searchBy
    cases (List.range (9 - m)).find? (pz gs m) with
    | some b => rfl
    | none => exact ih fun k hk => h k (.tail _ hk)
theorem t6_step {Φ : Nat → List PV → Option PV} {gs : List Nat} {ws : List L} (hwf : Few ws) {m : Nat} {x : Unit ⊕ PV} {o1 o2 : Option PV} (e : (if 2 ≤ m ∧ m ≤ 8 then some (match (List.range (9 - m)).find? (pz gs m) with | some b => (.inr (S1 (txt ws b m)) : Unit ⊕ PV) | none => .inl ()) else none) = some x) :
      ∃ ρ', ex Φ lLawText62 [some (.list (nL gs)), some (.list (ws.map .str)), some (I1 m), o2, none] = some (outR x ρ') ∧ okR (fun (_ : Unit) ρ => ∃ o1 o2, ρ = [some (.list (nL gs)), some (.list (ws.map .str)), o1, o2, none]) x ρ' := by
  obtain ⟨hm, rfl⟩ := if_some2 e
  obtain ⟨ρ', h1, h2⟩ := t6_inner (Φ := Φ) (gs := gs) hwf m o2 hm.1 hm.2
  cases hf : (List.range (9 - m)).find? (pz gs m) with
  | some b => rw [hf] at h1; exact ⟨ρ', h1, trivial⟩
  | none =>
    obtain ⟨o', rfl⟩ := h2 hf
    rw [hf] at h1
    exact ⟨_, h1, _, _, rfl⟩
theorem t6_rest {tk : Bool} {Φ : Nat → List PV → Option PV} {gs : List Nat} {ws : List L} (hwf : Few ws) :
    exK tk Φ (.seq (.forS 2 .range (.cons (.int 8) (.cons (.int 1) (.cons (.int (-1)) .nil))) lLawText62) (.seq (.ret (.me .join (.str [58]) (.cons (.var 1) .nil))) .nil)) [some (.list (nL gs)), some (.list (ws.map .str)), none, none, none] (fun _ => none) (fun v _ => some v) =
      some (S1 (match searchBy (pz gs) [8, 7, 6, 5, 4, 3, 2] with | some (b, m) => txt ws b m | none => joinL [58] ws)) := by
  obtain ⟨ρ', hgo, hR⟩ := forGo_R (R := fun (_ : Unit) ρ => ∃ o1 o2, ρ = [some (.list (nL gs)), some (.list (ws.map .str)), o1, o2, none]) (enc := fun b : Nat => .int (b : Int)) (body := fun a ρ => ex Φ lLawText62 (set ρ 2 (.a a)))
    (by rintro _ ρ m x ⟨o1, o2, rfl⟩ e; exact t6_step hwf (o1 := o1) e) [8, 7, 6, 5, 4, 3, 2] () _ _ ⟨none, none, rfl⟩ (t6_outer _ (by decide))
  refine (k_b hgo) ?_
  generalize searchBy (pz gs) [8, 7, 6, 5, 4, 3, 2] = sr at hR ⊢
  cases sr with
  | some p => rfl
  | none =>
    obtain ⟨o1, o2, rfl⟩ := hR
    exact (k_b (few_join hwf).1) rfl
theorem x17 {Φ : Nat → List PV → Option PV} (h15 : ∀ g, g < 65536 → Φ 15 [I1 g] = some (S1 (hexW g))) (h16 : ∀ n : Nat, Φ 16 [I1 n] = some (S1 (text4 n))) {gs : List Nat} (hlen : gs.length = 8) (hlt : ∀ g ∈ gs, g < 65536) :
    run Φ 5 bLawText6 [.list (nL gs)] = some (S1 (text6 gs)) := by
  rw [← lawT6_eq hlen]
  have hc1 : ev Φ cLawText61 [some (.list (nL gs)), none, none, none, none] = some (.list ((gs.map hexW).map .str)) := by
    rw [List.map_map]
    exact ev_comp_map (vs := [.list (nL gs)]) (fun k : Nat => .int (k : Int)) _ gs rfl rfl fun g hg => ev_K rfl fun _ => ((k_b (h15 g (hlt g hg))) rfl)
  have hwf := few_words hlen (condL gs)
  have hw : words6 gs true = (gs.map hexW).take 6 ++ [text4 (gs.getD 6 0 * 65536 + gs.getD 7 0)] := if_pos rfl
  have hsl : sliceV (.list ((gs.map hexW).map .str)) none (some 6) = some (.list (((gs.map hexW).take 6).map .str)) := by
    show some (PV.list (pySlice ((gs.map hexW).map .str) none (some ((6 : Nat) : Int)))) = _
    rw [slice_take, List.map_take]
  have hi6 : index (.list (nL gs)) (.a (.int 6)) = some (I1 (gs.getD 6 0)) := nL_get gs 6 (by rw [hlen]; decide)
  have hi7 : index (.list (nL gs)) (.a (.int 7)) = some (I1 (gs.getD 7 0)) := nL_get gs 7 (by rw [hlen]; decide)
  have hcall := h16 (gs.getD 6 0 * 65536 + gs.getD 7 0)
  have hl : ∀ x : At, (((gs.map hexW).take 6).map At.str).length + [x].length ≤ sizeLine := fun x => by
    rw [sizeLine_eq, List.length_map]; exact Nat.le_trans (Nat.add_le_add_right (List.length_take_le ..) 1) (by decide)
  have ht := t6_test (Φ := Φ) hlen
  unfold lawT6
  refine run_K rfl fun _ => ((k_b hc1) ((s_if ht rfl) ?_))
  generalize condL gs = cl at hwf ⊢
  cases cl with
  | false =>
    rw [if_neg Bool.false_ne_true, exK_nil]
    rw [words_false] at hwf ⊢
    exact t6_rest hwf
  | true =>
    refine (k_b hsl) ((k_b hi6) ((k_b (b_mulR _ 65536 (by decide))) ((k_b hi7) ((k_b (x := S1 (text4 (gs.getD 6 0 * 65536 + gs.getD 7 0))) hcall) ((k_b (x := PV.list [.str (text4 (gs.getD 6 0 * 65536 + gs.getD 7 0))]) (by rfl)) ((k_g (hl _)) ?_))))))
    have e : ((gs.map hexW).take 6).map At.str ++ [At.str (text4 (gs.getD 6 0 * 65536 + gs.getD 7 0))] = (words6 gs true).map At.str := by rw [hw, List.map_append]; rfl
    rw [e]
    show exK _ Φ .nil _ _ _ = _
    rw [exK_nil]
    exact t6_rest hwf
end Mine
end
section
open PySem PySem.Calls
set_option maxRecDepth 100000
namespace Mine
theorem ex_ite_t {Φ : Nat → List PV → Option PV} {c : E} {t f : S} {ρ : Store} (h : ev Φ c ρ = some (.a (.bool true))) : ex Φ (.ite c t f) ρ = ex Φ t ρ := (ex_ite h).trans rfl
theorem ex_ite_f {Φ : Nat → List PV → Option PV} {c : E} {t f : S} {ρ : Store} (h : ev Φ c ρ = some (.a (.bool false))) : ex Φ (.ite c t f) ρ = ex Φ f ρ := (ex_ite h).trans rfl
theorem ex_nil {Φ : Nat → List PV → Option PV} {ρ : Store} : ex Φ .nil ρ = some (.next, ρ) := rfl
theorem ex_skip {Φ : Nat → List PV → Option PV} {c : E} {t : S} {ρ : Store} (h : ev Φ c ρ = some (.a (.bool false))) : ex Φ (.ite c t .nil) ρ = some (.next, ρ) := (ex_ite h).trans rfl
theorem ex_retNone {Φ : Nat → List PV → Option PV} {ρ : Store} {s : S} : ex Φ (.seq (.ret .none) s) ρ = some (.ret (.a .none), ρ) := ex_ret (ex_retF rfl rfl)
theorem ex_retBool {Φ : Nat → List PV → Option PV} {ρ : Store} {s : S} {b : Bool} : ex Φ (.seq (.ret (.bool b)) s) ρ = some (.ret (.a (.bool b)), ρ) := ex_ret (ex_retF rfl rfl)
theorem ev_is {Φ : Nat → List PV → Option PV} {ρ : Store} {i : Nat} {x : At} (h : get ρ i = some (.a x)) : ev Φ (.cmp .Is (.var i) .none) ρ = some (.a (.bool (decide (x = .none)))) := ev_cmp (ev_var h) rfl rfl
theorem ev_isI {Φ : Nat → List PV → Option PV} {ρ : Store} {i : Nat} {x : Int} (h : get ρ i = some (.a (.int x))) : ev Φ (.cmp .Is (.var i) .none) ρ = some (.a (.bool false)) := ev_is h
theorem ev_isN {Φ : Nat → List PV → Option PV} {ρ : Store} {i : Nat} (h : get ρ i = some (.a .none)) : ev Φ (.cmp .Is (.var i) .none) ρ = some (.a (.bool true)) := ev_is h
theorem ev_or_f {Φ : Nat → List PV → Option PV} {ρ : Store} {h t : E} {b : Bool} (h1 : ev Φ h ρ = some (.a (.bool false))) (h2 : evb Φ false t ρ = some b) : evb Φ false (.cons h t) ρ = some b := by
  show ((ev Φ h ρ).bind truth).bind _ = _
  rw [h1]; exact h2
theorem ev_or_t {Φ : Nat → List PV → Option PV} {ρ : Store} {h t : E} (h1 : ev Φ h ρ = some (.a (.bool true))) : evb Φ false (.cons h t) ρ = some true := by
  show ((ev Φ h ρ).bind truth).bind _ = _
  rw [h1]; rfl
theorem ev_and_t {Φ : Nat → List PV → Option PV} {ρ : Store} {h t : E} {b : Bool} (h1 : ev Φ h ρ = some (.a (.bool true))) (h2 : evb Φ true t ρ = some b) : evb Φ true (.cons h t) ρ = some b := by
  show ((ev Φ h ρ).bind truth).bind _ = _
  rw [h1]; exact h2
theorem ev_and_f {Φ : Nat → List PV → Option PV} {ρ : Store} {h t : E} (h1 : ev Φ h ρ = some (.a (.bool false))) : evb Φ true (.cons h t) ρ = some false := by
  show ((ev Φ h ρ).bind truth).bind _ = _
  rw [h1]; rfl
theorem ev_bnil {Φ : Nat → List PV → Option PV} {ρ : Store} {i : Bool} : evb Φ i .nil ρ = some i := rfl
theorem ev_boolE {Φ : Nat → List PV → Option PV} {ρ : Store} {i b : Bool} {args : E} (h : evb Φ i args ρ = some b) : ev Φ (.boolE i args) ρ = some (.a (.bool b)) := by
  show (evb Φ i args ρ).map _ = _
  rw [h]; rfl
theorem ev_iteT {Φ : Nat → List PV → Option PV} {ρ : Store} {c a b : E} {v : PV} (h : ev Φ c ρ = some (.a (.bool true))) (h1 : ev Φ a ρ = some v) : ev Φ (.ite c a b) ρ = some v := by
  show ((ev Φ c ρ).bind truth).bind _ = _
  rw [h]; exact h1
theorem ev_iteF {Φ : Nat → List PV → Option PV} {ρ : Store} {c a b : E} {v : PV} (h : ev Φ c ρ = some (.a (.bool false))) (h1 : ev Φ b ρ = some v) : ev Φ (.ite c a b) ρ = some v := by
  show ((ev Φ c ρ).bind truth).bind _ = _
  rw [h]; exact h1
theorem ev_notE {Φ : Nat → List PV → Option PV} {ρ : Store} {e : E} {b : Bool} (h : ev Φ e ρ = some (.a (.bool b))) : ev Φ (.notE e) ρ = some (.a (.bool (!b))) := by
  show ((ev Φ e ρ).bind truth).map _ = _
  rw [h]; rfl
theorem ev_str {Φ : Nat → List PV → Option PV} {ρ : Store} {l : L} (h : l.length ≤ 1000) : ev Φ (.str l) ρ = some (.a (.str l)) := e_str Φ ρ l h
theorem and_mask {b n k : Nat} (hb : b < 2 ^ n) (hk : k ≤ n) : b &&& (2 ^ n - 2 ^ (n - k)) = b / 2 ^ (n - k) * 2 ^ (n - k) := by
  have e : 2 ^ n - 2 ^ (n - k) = (2 ^ k - 1) * 2 ^ (n - k) := by
    rw [Nat.sub_mul, ← Nat.pow_add, Nat.one_mul, Nat.add_sub_cancel' hk]
  rw [e]
  refine Nat.eq_of_testBit_eq fun i => ?_
  rw [Nat.testBit_and, Nat.testBit_mul_two_pow, Nat.testBit_mul_two_pow, Nat.testBit_two_pow_sub_one, Nat.testBit_div_two_pow]
  by_cases h1 : n - k ≤ i
  · rw [Nat.sub_add_cancel h1]
    by_cases h2 : i - (n - k) < k
    · simp [h1, h2]
    · have h3 : b.testBit i = false := Nat.testBit_lt_two_pow (Nat.lt_of_lt_of_le hb (Nat.pow_le_pow_right (by decide) (by omega)))
      simp [h3]
  · simp [h1]
theorem x12 (Φ : Nat → List PV → Option PV) {len bits : Nat} (h : len ≤ bits) (hb : bits ≤ 128) : run Φ 2 bMaskOf [I1 len, I1 bits] = some (I1 (2 ^ bits - 2 ^ (bits - len))) := by
  have h1 := b_shlN 1 bits (Nat.le_trans hb (by decide)) (by decide)
  have h3 : binop .LShift (.a (.int 1)) (.a (.int ((bits : Int) - (len : Int)))) = some (.a (.int ((1 * 2 ^ (bits - len) : Nat) : Int))) := by
    rw [← Int.natCast_sub h]
    exact b_shlN 1 (bits - len) (Nat.le_trans (Nat.sub_le _ _) (Nat.le_trans hb (by decide))) (by decide)
  rw [Nat.one_mul] at h1 h3
  refine run_K rfl fun _ => ((k_b h1) ((k_b h3) ?_))
  have e : ((2 ^ bits : Nat) : Int) - ((2 ^ (bits - len) : Nat) : Int) = ((2 ^ bits - 2 ^ (bits - len) : Nat) : Int) := (Int.natCast_sub (Nat.pow_le_pow_right (by decide) (Nat.sub_le _ _))).symm
  show some (PV.a (.int (((2 ^ bits : Nat) : Int) - ((2 ^ (bits - len) : Nat) : Int)))) = _
  rw [e]; rfl
noncomputable def digit (xs : List Int) (k : Nat) : Int := xs.getD k 0
theorem x14 (Φ : Nat → List PV → Option PV) (xs : List Int) (k : Nat) : run Φ 2 bLawDigit [.list (xs.map .int), I1 k] = some (.a (.int (digit xs k))) := by
  unfold digit
  have hl : (xs.map At.int).length = xs.length := List.length_map ..
  by_cases h : k < xs.length
  · have hi : index (.list (xs.map .int)) (I1 k) = some (.a (.int (xs.getD k 0))) := by
      refine (i_list _ _ (Int.natCast_nonneg k)).trans ?_
      rw [Int.toNat_natCast, List.getElem?_map, List.getD, List.getElem?_eq_getElem h]; rfl
    exact run_K rfl fun _ => ((d_t (Int.ofNat_lt.mpr (by rw [hl]; exact h))) ((k_b hi) rfl))
  · rw [List.getD, List.getElem?_eq_none (Nat.not_lt.mp h)]
    exact run_K rfl fun _ => ((d_f (fun q => h (by have := Int.ofNat_lt.mp q; rwa [hl] at this))) rfl)
end Mine
end
section
open PySem PySem.Calls
set_option maxRecDepth 100000
namespace Mine
theorem num16_lt : ∀ (gs : List Nat) (n j : Nat), n < 65536 ^ j → (∀ g ∈ gs, g < 65536) → num16 n gs < 65536 ^ (j + gs.length)
  | [], n, j, h, _ => h
  | g :: gs, n, j, h, hg => by
    have h1 := hg g (by simp)
    have := num16_lt gs (n * 65536 + g) (j + 1) (by rw [Nat.pow_succ]; omega) (fun x hx => hg x (by simp [hx]))
    rw [show j + 1 + gs.length = j + (g :: gs).length by simp; omega] at this
    exact this
theorem ip6_lt {l : L} {n : Nat} (h : ip6Of l = some n) : n < 2 ^ 128 := by
  have key : ∀ gs : List Nat, gs.length = 8 → (∀ g ∈ gs, g < 65536) → num16 0 gs < 2 ^ 128 := fun gs hl hg => by
    have := num16_lt gs 0 0 (by decide) hg
    rw [hl] at this
    exact this
  unfold ip6Of at h
  split at h
  · rw [Option.bind_eq_some_iff] at h
    obtain ⟨gs, h1, h2⟩ := h
    split at h2
    · cases h2
      exact key gs (by assumption) (sideOf_lt h1)
    · cases h2
  · simp only [Option.bind_eq_some_iff] at h
    obtain ⟨a, h1, b, h2, h3⟩ := h
    split at h3
    · cases h3
    · cases h3
      refine key _ (by simp; omega) fun g hg => ?_
      simp only [List.mem_append, List.mem_replicate] at hg
      rcases hg with (hg | ⟨_, rfl⟩) | hg
      · exact sideOf_lt h1 g hg
      · decide
      · exact sideOf_lt h2 g hg
  · cases h
noncomputable def baseOf (w : L) : Option (Nat × Nat × Nat) := match ip4Of w with
  | some b => some (2, 32, b)
  | none => match ip6Of w with
    | some b => some (10, 128, b)
    | none => none
noncomputable def cutTo (b bits k : Nat) : Nat := b / 2 ^ (bits - k) * 2 ^ (bits - k)
noncomputable def prefTail (nf bits b : Nat) : List L → Option (Nat × Nat × Nat)
  | [_] => some (nf, cutTo b bits bits, bits)
  | [_, v] => (decOf v bits).map fun k => (nf, cutTo b bits k, k)
  | _ => none
noncomputable def prefOf (l : L) : Option (Nat × Nat × Nat) := (baseOf ((splitC 47 l).headD [])).bind fun x => prefTail x.1 x.2.1 x.2.2 (splitC 47 l)
noncomputable def optT : Option (Nat × Nat × Nat) → PV
  | some (a, b, c) => .tup [.int (a : Int), .int (b : Int), .int (c : Int)]
  | none => .a .none
noncomputable def tailP : S := (.seq (.ite (.cmp .Is (.var 4) .none) (.seq (.ret .none)
      .nil) .nil)
      (.seq (.assign 5 (.ite (.cmp .Eq (.bi .len (.cons (.var 1) .nil)) (.int 1)) (.var 3) (.call 1 (.cons (.idx (.var 1) (.int 1)) (.cons (.var 3) .nil)))))
      (.seq (.ite (.cmp .Is (.var 5) .none) (.seq (.ret .none)
      .nil) .nil)
      (.seq (.ret (.tup (.cons (.var 2) (.cons (.bin .BitAnd (.var 4) (.call 12 (.cons (.var 5) (.cons (.var 3) .nil)))) (.cons (.var 5) .nil)))))
      .nil))))
noncomputable def mask (bits k : Nat) : Nat := 2 ^ bits - 2 ^ (bits - k)
theorem b_mask {bits b k : Nat} (hb : b < 2 ^ bits) (hk : k ≤ bits) : binop .BitAnd (I1 b) (I1 (mask bits k)) = some (I1 (cutTo b bits k)) :=
  (b_andI _ _ ⟨Int.natCast_nonneg b, Int.natCast_nonneg _⟩).trans (congrArg (fun z : Nat => some (PV.a (.int (z : Int)))) (and_mask hb hk))
theorem x13_end {tk : Bool} {Φ : Nat → List PV → Option PV} {o o1 : Option PV} {nf bits b k : Nat} (hc : Φ 12 [I1 k, I1 bits] = some (I1 (mask bits k))) (hb : b < 2 ^ bits) (hk : k ≤ bits) :
    exK tk Φ (.seq (.ret (.tup (.cons (.var 2) (.cons (.bin .BitAnd (.var 4) (.call 12 (.cons (.var 5) (.cons (.var 3) .nil)))) (.cons (.var 5) .nil))))) .nil) [o, o1, some (I1 nf), some (I1 bits), some (I1 b), some (I1 k)] (fun _ => none) (fun v _ => some v) = some (optT (some (nf, cutTo b bits k, k))) := by
  have hm := b_mask hb hk
  generalize mask bits k = m at hc hm
  generalize cutTo b bits k = c at hm ⊢
  exact (k_b hc) ((k_b hm) ((k_b (x := PV.tup [.int (nf : Int), .int (c : Int), .int (k : Int)]) (by rfl)) rfl))
theorem x13_tail {tk : Bool} {Φ : Nat → List PV → Option PV} (h1 : ∀ l m, Φ 1 [S1 l, I1 m] = some (optI (decOf l m))) (h12 : ∀ len bits, len ≤ bits → bits ≤ 128 → Φ 12 [I1 len, I1 bits] = some (I1 (2 ^ bits - 2 ^ (bits - len))))
    {o : Option PV} {w : L} {r : List L} {nf bits b : Nat} (hb : b < 2 ^ bits) (hbits : bits ≤ 128) (hr : ¬ 1 < r.length) :
    exK tk Φ tailP [o, some (.list ((w :: r).map .str)), some (I1 nf), some (I1 bits), some (I1 b), none] (fun _ => none) (fun v _ => some v) = some (optT (prefTail nf bits b (w :: r))) := by
  match r, hr with
  | [], _ => exact x13_end (h12 bits bits (Nat.le_refl _) hbits) hb (Nat.le_refl _)
  | [v], _ =>
    have hc := h1 v bits
    refine (k_b (x := S1 v) (by rfl)) ((k_b hc) ?_)
    show _ = some (optT ((decOf v bits).map fun k => (nf, cutTo b bits k, k)))
    cases hd : decOf v bits with
    | none => rfl
    | some k =>
      obtain ⟨_, hk, _⟩ := decOf_inv hd
      exact x13_end (h12 k bits hk hbits) hb hk
  | _ :: _ :: _, h => exact absurd (Nat.succ_lt_succ (Nat.succ_pos _)) h
theorem x13_go {Φ : Nat → List PV → Option PV} (h4 : ∀ l, short l = true → Φ 4 [S1 l] = some (optI (ip4Of l))) (h7 : ∀ l, short l = true → Φ 7 [S1 l] = some (optI (ip6Of l)))
    (h1 : ∀ l m, Φ 1 [S1 l, I1 m] = some (optI (decOf l m))) (h12 : ∀ len bits, len ≤ bits → bits ≤ 128 → Φ 12 [I1 len, I1 bits] = some (I1 (2 ^ bits - 2 ^ (bits - len)))) {l w : L} {r : List L} (hs : short w = true)
    (hm : me .split (.a (.str l)) [.a (.str [47])] = some (.list ((w :: r).map .str))) : run Φ 6 bPrefixOf [S1 l] = some (optT ((baseOf w).bind fun x => prefTail x.1 x.2.1 x.2.2 (w :: r))) := by
  refine run_K rfl fun _ => ((k_b hm) ?_)
  have hlen : (((w :: r).map At.str).length : Int) = (r.length + 1 : Nat) := congrArg (fun n : Nat => (n : Int)) (List.length_map ..)
  by_cases hl : 1 < r.length
  · refine (d_t (by rw [hlen]; exact Int.ofNat_lt.mpr (Nat.succ_lt_succ hl))) ?_
    match r, hl with
    | _ :: _ :: _, _ => cases baseOf w <;> rfl
  · refine (d_f (by rw [hlen]; exact fun q => hl (Nat.lt_of_succ_lt_succ (Int.ofNat_lt.mp q)))) ?_
    have c4 := h4 w hs
    have c7 := h7 w hs
    refine (k_b (x := PV.tup [.int 2, .int 32]) (by rfl)) ((k_b (x := S1 w) (by rfl)) ((k_b c4) ?_))
    unfold baseOf
    cases h4o : ip4Of w with
    | some b => exact x13_tail h1 h12 (nf := 2) (bits := 32) (ip4_inv h4o).2 (by decide) hl
    | none =>
      refine (k_b (x := PV.tup [.int 10, .int 128]) (by rfl)) ((k_b (x := S1 w) (by rfl)) ((k_b c7) ?_))
      cases h6o : ip6Of w with
      | some b => exact x13_tail h1 h12 (nf := 10) (bits := 128) (ip6_lt h6o) (by decide) hl
      | none => rfl
theorem x13 {Φ : Nat → List PV → Option PV} (h4 : ∀ l, short l = true → Φ 4 [S1 l] = some (optI (ip4Of l))) (h7 : ∀ l, short l = true → Φ 7 [S1 l] = some (optI (ip6Of l)))
    (h1 : ∀ l m, Φ 1 [S1 l, I1 m] = some (optI (decOf l m))) (h12 : ∀ len bits, len ≤ bits → bits ≤ 128 → Φ 12 [I1 len, I1 bits] = some (I1 (2 ^ bits - 2 ^ (bits - len)))) {l : L} (hs : short l = true) :
    run Φ 6 bPrefixOf [S1 l] = some (optT (prefOf l)) := by
  have hm := m_split l 47 (by decide) (short_iff.mp hs).1
  have hsub : ∀ w ∈ splitC 47 l, short w = true := fun w hw => short_part hs hw
  have hne := splitC_ne 47 l
  unfold prefOf
  generalize splitC 47 l = W at hm hsub hne ⊢
  cases W with
  | nil => exact absurd rfl hne
  | cons w r => exact x13_go h4 h7 h1 h12 (hsub w List.mem_cons_self) hm
end Mine
end
section
open PySem PySem.Calls
set_option maxRecDepth 100000
namespace Mine
noncomputable def lens (bits : Nat) : List L := (List.range (bits + 1)).map dec
theorem idx32 : ∀ k, k < 33 → (lens 32).idxOf (dec k) = k := by decide +kernel
theorem idx128 : ∀ k, k < 129 → (lens 128).idxOf (dec k) = k := by decide +kernel
theorem lens_idx {bits k : Nat} (hb : bits = 32 ∨ bits = 128) (hk : k ≤ bits) : (lens bits).idxOf (dec k) = k := by
  rcases hb with rfl | rfl
  · exact idx32 k (by omega)
  · exact idx128 k (by omega)
theorem lens_mem {bits : Nat} {v : L} : v ∈ lens bits ↔ ∃ k, k ≤ bits ∧ v = dec k := by
  unfold lens
  simp only [List.mem_map, List.mem_range]
  constructor
  · rintro ⟨k, h, rfl⟩; exact ⟨k, by omega, rfl⟩
  · rintro ⟨k, h, rfl⟩; exact ⟨k, by omega, rfl⟩
theorem lens_dec {bits : Nat} (hb : bits ≤ 128) {v : L} : v ∈ lens bits ↔ ∃ k, decOf v bits = some k := by
  rw [lens_mem]
  constructor
  · rintro ⟨k, h, rfl⟩; exact ⟨k, decOf_dec (by omega) h⟩
  · rintro ⟨k, h⟩
    obtain ⟨rfl, h1, _⟩ := decOf_inv h
    exact ⟨k, h1, rfl⟩
theorem lens_get {bits : Nat} : (lens bits)[bits]? = some (dec bits) := by simp [lens]
theorem lp_comp {Φ : Nat → List PV → Option PV} {o0 o1 o2 o4 : Option PV} {bits : Nat} (hb : bits ≤ 128) : ev Φ cLawPrefix1 [o0, o1, o2, some (.a (.int (bits : Int))), o4, none, none, none, none] = some (.list ((lens bits).map .str)) := by
  unfold lens
  rw [List.map_map]
  have h1 : binop .Add (.a (.int (bits : Int))) (.a (.int 1)) = some (.a (.int ((bits + 1 : Nat) : Int))) := rfl
  refine ev_comp_map (vs := [.a (.int ((bits + 1 : Nat) : Int))]) (fun k : Nat => .int (k : Int)) _ (List.range (bits + 1)) (evs_one (ev_bin (ev_var rfl) ev_int h1)) (it_range _ (by omega)) fun k hk => ?_
  have hk' := List.mem_range.mp hk
  exact ev_bi (evs_one (ev_var rfl)) (dec_str (by omega))
theorem any_mem {v : L} {ss : List L} : (ss.any fun x => x == v) = decide (v ∈ ss) := by
  rw [Bool.eq_iff_iff]
  simp
theorem c_notin (v : L) (ss : List L) : cmpop .NotIn (.a (.str v)) (.list (ss.map .str)) = some (!decide (v ∈ ss)) := by
  show (strsOf (ss.map .str)).map (fun ss => !(ss.any (· == v))) = _
  rw [strs_map, ← any_mem]; rfl
theorem m_index {v : L} {ss : List L} (h : v ∈ ss) : me .index (.list (ss.map .str)) [.a (.str v)] = some (.a (.int ((ss.idxOf v : Nat) : Int))) := by
  show (strsOf (ss.map .str)).bind (fun ss => if v ∈ ss then some (PV.a (.int ((ss.idxOf v : Nat) : Int))) else none) = _
  rw [strs_map]; exact if_pos h
noncomputable def tailL : S := (.seq (.assign 5 cLawPrefix1)
      (.seq (.assign 6 (.ite (.cmp .Eq (.bi .len (.cons (.var 1) .nil)) (.int 1)) (.idx (.var 5) (.var 3)) (.idx (.var 1) (.int 1))))
      (.seq (.ite (.cmp .NotIn (.var 6) (.var 5)) (.seq (.ret .none)
      .nil) .nil)
      (.seq (.assign 7 (.bin .Pow (.int 2) (.bin .Sub (.var 3) (.me .index (.var 5) (.cons (.var 6) .nil)))))
      (.seq (.ret (.tup (.cons (.var 2) (.cons (.bin .Mult (.bin .FloorDiv (.var 4) (.var 7)) (.var 7)) (.cons (.me .index (.var 5) (.cons (.var 6) .nil)) .nil)))))
      .nil)))))
theorem b_pow2 {bits b k : Nat} (hb : b < 2 ^ bits) (hk : k ≤ bits) (h128 : bits ≤ 128) : ∃ sz : Nat, binop .Pow (.a (.int 2)) (.a (.int ((bits : Int) - (k : Int)))) = some (I1 sz) ∧ binop .FloorDiv (I1 b) (I1 sz) = some (I1 (b / sz)) ∧ binop .Mult (I1 (b / sz)) (I1 sz) = some (I1 (cutTo b bits k)) := by
  have hs : 2 ^ (bits - k) < 2 ^ 200 := Nat.pow_lt_pow_right (by decide) (Nat.lt_of_le_of_lt (Nat.sub_le _ _) (Nat.lt_of_le_of_lt h128 (by decide)))
  refine ⟨2 ^ (bits - k), ?_, b_divN b _ (Nat.pow_pos (by decide)) hs, ?_⟩
  · rw [← Int.natCast_sub hk]
    exact b_powN 2 (bits - k) (Nat.le_trans (Nat.sub_le _ _) (Nat.le_trans h128 (by decide))) (by decide)
  · refine (if_pos (.inr (.inr ⟨?_, hs⟩))).trans (by rw [← Int.natCast_mul]; rfl)
    exact Nat.lt_of_le_of_lt (Nat.div_le_self _ _) (Nat.lt_of_lt_of_le hb (Nat.pow_le_pow_right (by decide) (Nat.le_trans h128 (by decide))))
theorem x23_end {tk : Bool} {Φ : Nat → List PV → Option PV} {o0 o1 : Option PV} {nf bits b : Nat} {v : L} (hb : b < 2 ^ bits) (hbits : bits = 32 ∨ bits = 128) (h128 : bits ≤ 128) :
    exK tk Φ (.seq (.ite (.cmp .NotIn (.var 6) (.var 5)) (.seq (.ret .none)
      .nil) .nil)
      (.seq (.assign 7 (.bin .Pow (.int 2) (.bin .Sub (.var 3) (.me .index (.var 5) (.cons (.var 6) .nil)))))
      (.seq (.ret (.tup (.cons (.var 2) (.cons (.bin .Mult (.bin .FloorDiv (.var 4) (.var 7)) (.var 7)) (.cons (.me .index (.var 5) (.cons (.var 6) .nil)) .nil)))))
      .nil))) [o0, o1, some (I1 nf), some (I1 bits), some (I1 b), some (.list ((lens bits).map .str)), some (S1 v), none, none] (fun _ => none) (fun v _ => some v) =
    some (optT ((decOf v bits).map fun k => (nf, cutTo b bits k, k))) := by
  have hm := @lens_dec bits h128 v
  refine (k_o (c_notin v _)) ?_
  cases hd : decOf v bits with
  | none => exact (n_t (fun h => by obtain ⟨k, hk⟩ := hm.mp h; rw [hd] at hk; cases hk)) rfl
  | some k =>
    have hm := hm.mpr ⟨k, hd⟩
    obtain ⟨hv, hk, _⟩ := decOf_inv hd
    have hidx := m_index hm
    rw [show (lens bits).idxOf v = k from hv ▸ lens_idx hbits hk] at hidx
    obtain ⟨sz, h2, h3, h4⟩ := b_pow2 hb hk h128
    show _ = some (optT (some (nf, cutTo b bits k, k)))
    generalize cutTo b bits k = c at h4 ⊢
    exact (n_f hm) ((k_b hidx) ((k_b h2) ((k_b h3) ((k_b h4) ((k_b hidx) ((k_b (x := PV.tup [.int (nf : Int), .int (c : Int), .int (k : Int)]) (by rfl)) rfl))))))
theorem x23_tail {tk : Bool} {Φ : Nat → List PV → Option PV} {o0 : Option PV} {w : L} {r : List L} {nf bits b : Nat} (hb : b < 2 ^ bits) (hbits : bits = 32 ∨ bits = 128) (h128 : bits ≤ 128) (hr : ¬ 1 < r.length) :
    exK tk Φ tailL [o0, some (.list ((w :: r).map .str)), some (I1 nf), some (I1 bits), some (I1 b), none, none, none, none] (fun _ => none) (fun v _ => some v) = some (optT (prefTail nf bits b (w :: r))) := by
  refine (k_b (lp_comp h128)) ?_
  match r, hr with
  | [], _ =>
    have hi : index (.list ((lens bits).map .str)) (I1 bits) = some (S1 (dec bits)) :=
      (i_list _ _ (Int.natCast_nonneg _)).trans (by rw [Int.toNat_natCast, List.getElem?_map, lens_get]; rfl)
    refine (k_b hi) (x23_end hb hbits h128 |>.trans ?_)
    rw [decOf_dec (Nat.lt_of_le_of_lt h128 (by decide)) (Nat.le_refl _)]
    rfl
  | [v], _ => exact (k_b (x := S1 v) (by rfl)) (x23_end hb hbits h128)
  | _ :: _ :: _, h => exact absurd (Nat.succ_lt_succ (Nat.succ_pos _)) h
theorem x23_go {Φ : Nat → List PV → Option PV} (h19 : ∀ l, Φ 19 [S1 l] = some (optI (ip4Of l))) (h21 : ∀ l, short l = true → Φ 21 [S1 l] = some (optI (ip6Of l))) {l w : L} {r : List L} (hs : short w = true)
    (hm : me .split (.a (.str l)) [.a (.str [47])] = some (.list ((w :: r).map .str))) : run Φ 9 bLawPrefix [S1 l] = some (optT ((baseOf w).bind fun x => prefTail x.1 x.2.1 x.2.2 (w :: r))) := by
  have c19 := h19 w
  have c21 := h21 w hs
  have hlen : (((w :: r).map At.str).length : Int) = (r.length + 1 : Nat) := congrArg (fun n : Nat => (n : Int)) (List.length_map ..)
  refine run_K rfl fun _ => ((k_b hm) ((k_b (x := S1 w) (by rfl)) ((k_b c19) ?_)))
  unfold baseOf
  by_cases hl : 1 < r.length
  · have hd : (2 : Int) < (((w :: r).map At.str).length : Int) := by rw [hlen]; exact Int.ofNat_lt.mpr (Nat.succ_lt_succ hl)
    have hn : ∀ nf bits b, prefTail nf bits b (w :: r) = none := fun _ _ _ => by match r, hl with | _ :: _ :: _, _ => rfl
    cases h4o : ip4Of w with
    | some b => exact (e_f hd) (congrArg (some ∘ optT) (hn 2 32 b)).symm
    | none =>
      refine (k_b (x := S1 w) (by rfl)) ((k_b c21) ?_)
      cases h6o : ip6Of w with
      | some b => exact (e_f hd) (congrArg (some ∘ optT) (hn 10 128 b)).symm
      | none => rfl
  · have hd : ¬ (2 : Int) < (((w :: r).map At.str).length : Int) := by rw [hlen]; exact fun q => hl (Nat.lt_of_succ_lt_succ (Int.ofNat_lt.mp q))
    cases h4o : ip4Of w with
    | some b => exact (e_t hd) (x23_tail (nf := 2) (bits := 32) (ip4_inv h4o).2 (.inl rfl) (by decide) hl)
    | none =>
      refine (k_b (x := S1 w) (by rfl)) ((k_b c21) ?_)
      cases h6o : ip6Of w with
      | some b => exact (e_t hd) (x23_tail (nf := 10) (bits := 128) (ip6_lt h6o) (.inr rfl) (by decide) hl)
      | none => rfl
theorem x23 {Φ : Nat → List PV → Option PV} (h19 : ∀ l, Φ 19 [S1 l] = some (optI (ip4Of l))) (h21 : ∀ l, short l = true → Φ 21 [S1 l] = some (optI (ip6Of l))) {l : L} (hs : short l = true) :
    run Φ 9 bLawPrefix [S1 l] = some (optT (prefOf l)) := by
  have hm := m_split l 47 (by decide) (short_iff.mp hs).1
  have hsub : ∀ w ∈ splitC 47 l, short w = true := fun w hw => short_part hs hw
  have hne := splitC_ne 47 l
  unfold prefOf
  generalize splitC 47 l = W at hm hsub hne ⊢
  cases W with
  | nil => exact absurd rfl hne
  | cons w r => exact x23_go h19 h21 (hsub w List.mem_cons_self) hm
end Mine
end
section
open PySem PySem.Calls
set_option maxRecDepth 100000
namespace Mine
noncomputable def dbl : Nat → L → List Nat
  | _, [] => []
  | k, x :: r => if x = 58 ∧ r.head? = some 58 then k :: dbl (k + 1) r else dbl (k + 1) r
theorem dbl_nil_any : ∀ {l : L} {k j : Nat}, dbl k l = [] → dbl j l = []
  | [], _, _, _ => rfl
  | x :: r, k, j, h => by
    unfold dbl at h ⊢
    split at h
    · cases h
    · rename_i hc
      rw [if_neg hc]
      exact dbl_nil_any h
theorem dbl_filter (l0 : L) : ∀ (l pre : L), l0 = pre ++ l → ((List.range' pre.length l.length).filter fun p => decide ((l0.take (p + 2)).drop p = [58, 58])) = dbl pre.length l
  | [], _, _ => rfl
  | x :: r, pre, h => by
    have ih := dbl_filter l0 r (pre ++ [x]) (by rw [h]; simp)
    have hl : (pre ++ [x]).length = pre.length + 1 := by simp
    rw [hl] at ih
    have hk : (l0.take (pre.length + 2)).drop pre.length = (x :: r).take 2 := by
      rw [h, List.drop_take, List.drop_left]
      congr 1; omega
    rw [List.length_cons, List.range'_succ, List.filter_cons, ih, hk, dbl]
    by_cases hc : x = 58 ∧ r.head? = some 58
    · rw [if_pos hc]
      obtain ⟨rfl, h2⟩ := hc
      cases r with
      | nil => cases h2
      | cons y t => cases h2; rw [if_pos (by simp)]
    · rw [if_neg hc, if_neg]
      intro q
      have q := of_decide_eq_true q
      cases r with
      | nil => simp at q
      | cons y t =>
        simp at q
        exact hc ⟨q.1, by rw [q.2]; rfl⟩
theorem split2_cases : ∀ (l : L) (k : Nat), (dbl k l = [] ∧ split2 l = [l]) ∨
    ∃ x y, l = x ++ 58 :: 58 :: y ∧ split2 l = x :: split2 y ∧ dbl k l = (k + x.length) :: dbl (k + x.length + 1) (58 :: y)
  | [], k => .inl ⟨rfl, rfl⟩
  | [a], k => .inl ⟨by simp [dbl], rfl⟩
  | a :: b :: r, k => by
    by_cases hc : a = 58 ∧ b = 58
    · obtain ⟨rfl, rfl⟩ := hc
      refine .inr ⟨[], r, rfl, by rw [split2, if_pos ⟨rfl, rfl⟩], ?_⟩
      rw [dbl, if_pos ⟨rfl, rfl⟩]
      rfl
    · have hd : dbl k (a :: b :: r) = dbl (k + 1) (b :: r) := by
        rw [dbl, if_neg]
        rintro ⟨h1, h2⟩
        exact hc ⟨h1, by simpa using h2⟩
      have hs : split2 (a :: b :: r) = cons1 a (split2 (b :: r)) := by rw [split2, if_neg hc]
      rcases split2_cases (b :: r) (k + 1) with ⟨h1, h2⟩ | ⟨x, y, h1, h2, h3⟩
      · exact .inl ⟨hd.trans h1, by rw [hs, h2]; rfl⟩
      · refine .inr ⟨a :: x, y, by rw [h1]; rfl, by rw [hs, h2]; rfl, ?_⟩
        rw [hd, h3, List.length_cons]
        rw [show k + 1 + x.length = k + (x.length + 1) by omega]
theorem splitC_cat (c : Nat) : ∀ (x z : L), splitC c (x ++ c :: z) = splitC c x ++ splitC c z
  | [], z => by simp [splitC]
  | a :: x, z => by
    have ih := splitC_cat c x z
    rw [List.cons_append, splitC, splitC, ih]
    split
    · rfl
    · cases h : splitC c x with
      | nil => exact absurd h (splitC_ne _ _)
      | cons p q => rfl
noncomputable def lawSt (n : Nat) (st : List Int × Nat) (k : Nat) (w : L) : Option (List Int × Nat) :=
  if w = [] then some (st.1, st.1.length) else if 46 ∈ w then (match ip4Of w with
    | some t => if k + 1 = n then some (st.1 ++ [((t / 65536 : Nat) : Int), ((t % 65536 : Nat) : Int)], st.2) else none
    | none => none) else some (st.1 ++ [lawGroup w], st.2)
noncomputable def iL (gs : List Nat) : List Int := gs.map fun k : Nat => (k : Int)
theorem iL_app (a b : List Nat) : iL (a ++ b) = iL a ++ iL b := by simp [iL]
theorem iL_neg (gs : List Nat) : (-1 : Int) ∉ iL gs := by
  unfold iL
  intro h
  obtain ⟨k, _, e⟩ := List.mem_map.mp h
  omega
theorem iL_len (gs : List Nat) : (iL gs).length = gs.length := by simp [iL]
noncomputable def Bad (o : Option (List Int × Nat)) : Prop := ∀ st, o = some st → (-1 : Int) ∈ st.1
theorem bad_fold {n : Nat} : ∀ (ws : List L) (k : Nat) (st : List Int × Nat), (-1 : Int) ∈ st.1 → Bad (foldOi (lawSt n) k st ws)
  | [], k, st, h => fun s e => by cases e; exact h
  | w :: r, k, st, h => by
    intro s e
    simp only [foldOi, Option.bind_eq_some_iff] at e
    obtain ⟨st', h1, e⟩ := e
    refine bad_fold r (k + 1) st' ?_ s e
    unfold lawSt at h1
    split at h1
    · cases h1; exact h
    · split at h1
      · split at h1
        · split at h1
          · cases h1; exact List.mem_append_left _ h
          · cases h1
        · cases h1
      · cases h1; exact List.mem_append_left _ h
theorem hexGo_dot {l : L} : ∀ {n : Nat}, 46 ∈ l → foldO hexG n l = none := by
  induction l with
  | nil => intro n h; cases h
  | cons c r ih =>
    intro n h
    simp only [foldO]
    cases hq : hexG n c with
    | none => rfl
    | some m =>
      rw [Option.bind_some]
      rcases List.mem_cons.mp h with rfl | h
      · cases hq
      · exact ih h
theorem hexOf_dot {w : L} {m : Nat} (h : 46 ∈ w) : hexOf w m = none := by
  unfold hexOf
  split
  · exact hexGo_dot h
  · rfl
theorem foldOi_app {σ α : Type} {f : σ → Nat → α → Option σ} : ∀ (a b : List α) (k : Nat) (s : σ), foldOi f k s (a ++ b) = (foldOi f k s a).bind fun s' => foldOi f (k + a.length) s' b
  | [], b, k, s => rfl
  | x :: a, b, k, s => by
    simp only [List.cons_append, foldOi]
    cases f s k x with
    | none => rfl
    | some s' =>
      simp only [Option.bind_some]
      rw [foldOi_app a b (k + 1) s', List.length_cons, show k + (a.length + 1) = k + 1 + a.length by omega]
theorem run_words {isEnd : Bool} {n m gap : Nat} : ∀ (ws : List L) (k j : Nat) (gs : List Nat), (∀ w ∈ ws, w ≠ []) → (isEnd = true → j + ws.length = m ∧ k + ws.length = n) → (isEnd = false → k + ws.length < n) →
    (∀ gs', foldOi (grG isEnd m) j gs ws = some gs' → foldOi (lawSt n) k (iL gs, gap) ws = some (iL gs', gap)) ∧
    (foldOi (grG isEnd m) j gs ws = none → Bad (foldOi (lawSt n) k (iL gs, gap) ws))
  | [], k, j, gs, _, _, _ => ⟨fun gs' e => by cases e; rfl, fun e => by cases e⟩
  | w :: r, k, j, gs, hne, h1, h2 => by
    have hw := hne w (by simp)
    have hr : ∀ v ∈ r, v ≠ [] := fun v hv => hne v (by simp [hv])
    have h1' : isEnd = true → j + 1 + r.length = m ∧ k + 1 + r.length = n := fun e => by have := h1 e; simp at this; omega
    have h2' : isEnd = false → k + 1 + r.length < n := fun e => by have := h2 e; simp at this; omega
    simp only [foldOi]
    by_cases hd : 46 ∈ w
    · by_cases hc : isEnd = true ∧ j + 1 = m
      · have hk : k + 1 = n := by have := h1 hc.1; simp at this; omega
        have hg : grG isEnd m gs j w = (ip4Of w).map fun t => gs ++ [t / 65536, t % 65536] := by unfold grG; rw [if_pos ⟨hc.1, hc.2, hd⟩]
        cases hi : ip4Of w with
        | none =>
          have hL : lawSt n (iL gs, gap) k w = none := by unfold lawSt; rw [if_neg hw, if_pos hd, hi]
          rw [hg, hi, hL]
          exact ⟨fun gs' e => (by cases e), fun _ s e => by cases e⟩
        | some t =>
          have hL : lawSt n (iL gs, gap) k w = some (iL (gs ++ [t / 65536, t % 65536]), gap) := by
            unfold lawSt; rw [if_neg hw, if_pos hd, hi]; dsimp only; rw [if_pos hk, iL_app]; rfl
          rw [hg, hi, hL, Option.map_some, Option.bind_some, Option.bind_some]
          exact run_words r (k + 1) (j + 1) _ hr h1' h2'
      · have hk : ¬ k + 1 = n := by
          cases hE : isEnd with
          | false => have := h2 hE; simp at this; omega
          | true =>
            have := h1 hE
            have hj : ¬ j + 1 = m := fun e => hc ⟨hE, e⟩
            omega
        have hg : grG isEnd m gs j w = none := by
          unfold grG
          rw [if_neg fun q => hc ⟨q.1, q.2.1⟩, hexOf_dot hd]; rfl
        have hL : lawSt n (iL gs, gap) k w = none := by
          unfold lawSt; rw [if_neg hw, if_pos hd]
          cases ip4Of w with
          | none => rfl
          | some t => dsimp only; rw [if_neg hk]
        rw [hg, hL]
        exact ⟨fun gs' e => (by cases e), fun _ s e => by cases e⟩
    · have hg : grG isEnd m gs j w = (hexOf w 4).map fun g => gs ++ [g] := by unfold grG; rw [if_neg fun q => hd q.2.2]
      have hL : lawSt n (iL gs, gap) k w = some (iL gs ++ [lawGroup w], gap) := by unfold lawSt; rw [if_neg hw, if_neg hd]
      cases hi : hexOf w 4 with
      | none =>
        have hlg : lawGroup w = -1 := by unfold lawGroup; rw [hi]
        rw [hg, hi, hL, hlg, Option.bind_some]
        exact ⟨fun gs' e => (by cases e), fun _ => bad_fold r (k + 1) _ (by simp)⟩
      | some g =>
        have hlg : lawGroup w = (g : Int) := by unfold lawGroup; rw [hi]
        have e : iL gs ++ [(g : Int)] = iL (gs ++ [g]) := by rw [iL_app]; rfl
        rw [hg, hi, hL, hlg, e, Option.map_some, Option.bind_some, Option.bind_some]
        exact run_words r (k + 1) (j + 1) _ hr h1' h2'
theorem fold_empty {isEnd : Bool} {m : Nat} : ∀ (ws : List L) (j : Nat) (gs : List Nat), [] ∈ ws → foldOi (grG isEnd m) j gs ws = none
  | [], _, _, h => by cases h
  | w :: r, j, gs, h => by
    simp only [foldOi]
    rcases List.mem_cons.mp h with rfl | h
    · have : grG isEnd m gs j [] = none := by unfold grG; rw [if_neg (by simp)]; rfl
      rw [this]; rfl
    · cases grG isEnd m gs j w with
      | none => rfl
      | some s => rw [Option.bind_some]; exact fold_empty r (j + 1) s h
theorem sideOf_empty {isEnd : Bool} {t : L} (ht : t ≠ []) (h : [] ∈ splitC 58 t) : sideOf isEnd t = none := by
  unfold sideOf
  rw [if_neg ht, fold_empty _ _ _ h]
theorem sideOf_ne {isEnd : Bool} {t : L} (ht : t ≠ []) : sideOf isEnd t = foldOi (grG isEnd (splitC 58 t).length) 0 [] (splitC 58 t) := by
  unfold sideOf
  rw [if_neg ht]
end Mine
end
section
open PySem PySem.Calls
set_option maxRecDepth 100000
namespace Mine
noncomputable def pw (len gap p : Nat) : Nat := if p < gap then 7 - p else len - 1 - p
noncomputable def numTo (gs : List Nat) (len gap k : Nat) : Nat := (List.range k).foldl (fun n p => n + gs.getD p 0 * 65536 ^ pw len gap p) 0
noncomputable def lawNum (gs : List Nat) (gap : Nat) : Nat := numTo gs gs.length gap gs.length
theorem numTo_succ (gs : List Nat) (len gap k : Nat) : numTo gs len gap (k + 1) = numTo gs len gap k + gs.getD k 0 * 65536 ^ pw len gap k := by
  unfold numTo
  rw [List.range_succ, List.foldl_append]; rfl
theorem num16_app (a b : List Nat) (n : Nat) : num16 n (a ++ b) = num16 (num16 n a) b := by unfold num16; rw [List.foldl_append]
theorem num16_shift : ∀ (gs : List Nat) (n : Nat), num16 n gs = n * 65536 ^ gs.length + num16 0 gs
  | [], n => by simp [num16]
  | g :: r, n => by
    show num16 (n * 65536 + g) r = _ + num16 (0 * 65536 + g) r
    rw [num16_shift r (n * 65536 + g), num16_shift r (0 * 65536 + g), List.length_cons, Nat.pow_succ, Nat.zero_mul, Nat.zero_add, Nat.add_mul, Nat.mul_comm (65536 ^ r.length) 65536, ← Nat.mul_assoc, Nat.add_assoc]
theorem num_zeros : ∀ (k n : Nat), num16 n (List.replicate k 0) = n * 65536 ^ k
  | 0, n => by simp [num16]
  | k + 1, n => by
    rw [List.replicate_succ]
    show num16 (n * 65536 + 0) (List.replicate k 0) = _
    rw [num_zeros k, Nat.pow_succ, Nat.add_zero, Nat.mul_assoc, Nat.mul_comm 65536]
theorem take_step {gs : List Nat} {k : Nat} (h : k < gs.length) : num16 0 (gs.take (k + 1)) = num16 0 (gs.take k) * 65536 + gs.getD k 0 := by
  rw [List.take_succ_eq_append_getElem h, num16_app]
  show num16 0 (gs.take k) * 65536 + gs[k] = _
  simp [List.getD, h]
theorem numTo_a {a b : List Nat} (h : a.length + b.length ≤ 8) : ∀ k, k ≤ a.length → numTo (a ++ b) (a ++ b).length a.length k = num16 0 (a.take k) * 65536 ^ (8 - k)
  | 0, _ => by simp [numTo, num16]
  | k + 1, hk => by
    have hg : (a ++ b).getD k 0 = a.getD k 0 := by
      have : k < (a ++ b).length := by simp; omega
      simp [List.getD, List.getElem?_append_left (show k < a.length by omega)]
    have hp : pw (a ++ b).length a.length k = 7 - k := by unfold pw; rw [if_pos (by omega)]
    rw [numTo_succ, numTo_a h k (by omega), take_step (by omega), hg, hp, show 8 - (k + 1) = 7 - k by omega, show 8 - k = (7 - k) + 1 by omega, Nat.pow_succ, Nat.add_mul, Nat.mul_assoc, Nat.mul_comm 65536]
theorem numTo_b {a b : List Nat} (h : a.length + b.length ≤ 8) : ∀ j, j ≤ b.length → numTo (a ++ b) (a ++ b).length a.length (a.length + j) = num16 0 a * 65536 ^ (8 - a.length) + num16 0 (b.take j) * 65536 ^ (b.length - j)
  | 0, _ => by
    rw [Nat.add_zero, numTo_a h _ (Nat.le_refl _), List.take_length]
    simp [num16]
  | j + 1, hj => by
    have hg : (a ++ b).getD (a.length + j) 0 = b.getD j 0 := by
      simp [List.getD, List.getElem?_append_right (show a.length ≤ a.length + j by omega)]
    have hp : pw (a ++ b).length a.length (a.length + j) = b.length - (j + 1) := by
      unfold pw; rw [if_neg (by omega), List.length_append]; omega
    rw [← Nat.add_assoc, numTo_succ, numTo_b h j (by omega), take_step (by omega), hg, hp, show b.length - j = b.length - (j + 1) + 1 by omega, Nat.pow_succ, Nat.add_mul, Nat.mul_assoc, Nat.mul_comm 65536, Nat.add_assoc]
theorem lawNum_eq {a b : List Nat} (h : a.length + b.length ≤ 8) : lawNum (a ++ b) a.length = num16 0 (a ++ List.replicate (8 - a.length - b.length) 0 ++ b) := by
  have := numTo_b h b.length (Nat.le_refl _)
  rw [List.take_length, Nat.sub_self, Nat.pow_zero, Nat.mul_one] at this
  unfold lawNum
  rw [show (a ++ b).length = a.length + b.length by simp] at this ⊢
  rw [this, num16_app, num16_app, num_zeros, num16_shift b (num16 0 a * 65536 ^ (8 - a.length - b.length)), Nat.mul_assoc, ← Nat.pow_add]
  rw [show 8 - a.length - b.length + b.length = 8 - a.length by omega]
theorem numTo_gap {gs : List Nat} {len : Nat} (h : len ≤ 8) : ∀ k, k ≤ len → numTo gs len 9 k = numTo gs len len k
  | 0, _ => rfl
  | k + 1, hk => by
    rw [numTo_succ, numTo_succ, numTo_gap h k (by omega)]
    unfold pw
    rw [if_pos (by omega), if_pos (by omega)]
theorem lawNum_whole {gs : List Nat} (h : gs.length = 8) : lawNum gs 9 = num16 0 gs := by
  have := lawNum_eq (a := gs) (b := []) (by simp [h])
  rw [List.append_nil, List.append_nil, h] at this
  unfold lawNum at this ⊢
  rw [h, numTo_gap (by omega) _ (Nat.le_refl _)]
  rw [h] at this
  rw [this]
  simp
noncomputable def toN (G : List Int) : List Nat := G.map Int.toNat
theorem toN_iL (gs : List Nat) : toN (iL gs) = gs := by simp [toN, iL, Function.comp_def]
noncomputable def empties (D : List Nat) (len : Nat) : Nat := match D with
  | [d] => 1 + (if d = 0 then 1 else 0) + (if d + 2 = len then 1 else 0)
  | _ => 0
noncomputable def law6 (l : L) : Option Nat :=
  if 1 < (dbl 0 l).length ∨ (splitC 58 l).countP (· == []) ≠ empties (dbl 0 l) l.length then none
  else (foldOi (lawSt (splitC 58 l).length) 0 ([], 9) (splitC 58 l)).bind fun st =>
    if (-1 : Int) ∈ st.1 ∨ 8 < st.1.length + (dbl 0 l).length ∨ (st.1.length < 8 ∧ st.2 = 9) then none else some (lawNum (toN st.1) st.2)
theorem bad_none {o : Option (List Int × Nat)} {c : List Int × Nat → Prop} [∀ s, Decidable (c s)] {f : List Int × Nat → Nat} (h : Bad o) : (o.bind fun st => if (-1 : Int) ∈ st.1 ∨ c st then none else some (f st)) = none := by
  cases o with
  | none => rfl
  | some st => rw [Option.bind_some, if_pos (.inl (h st rfl))]
theorem count_zero {ws : List L} : ws.countP (· == []) = 0 ↔ ∀ w ∈ ws, w ≠ [] := by
  rw [List.countP_eq_zero]
  simp
theorem law6_none {l : L} (h1 : dbl 0 l = []) (h2 : split2 l = [l]) : law6 l = ip6Of l := by
  have hi : ip6Of l = (sideOf true l).bind fun gs => if gs.length = 8 then some (num16 0 gs) else none := by unfold ip6Of; rw [h2]
  rw [hi]
  unfold law6
  rw [h1]
  by_cases hc : (splitC 58 l).countP (· == []) = 0
  · have hne := count_zero.mp hc
    have hl : l ≠ [] := by
      rintro rfl
      exact hne [] (by simp [splitC]) rfl
    rw [if_neg (by rintro (h | h); exact absurd h (by decide); exact h hc)]
    have hrun := run_words (isEnd := true) (n := (splitC 58 l).length) (m := (splitC 58 l).length) (gap := 9) (splitC 58 l) 0 0 [] hne (fun _ => ⟨by omega, by omega⟩) (fun e => by cases e)
    have e0 : (iL [], 9) = (([], 9) : List Int × Nat) := rfl
    rw [e0] at hrun
    rw [sideOf_ne hl]
    cases hg : foldOi (grG true (splitC 58 l).length) 0 [] (splitC 58 l) with
    | none =>
      rw [bad_none (hrun.2 hg)]; rfl
    | some gs =>
      rw [hrun.1 gs hg, Option.bind_some, Option.bind_some]
      by_cases h8 : gs.length = 8
      · rw [if_neg, if_pos h8, toN_iL, lawNum_whole h8]
        simp [iL_neg, iL_len, h8]
      · rw [if_pos, if_neg h8]
        simp [iL_neg, iL_len]
        omega
  · rw [if_pos (.inr hc)]
    by_cases hl : l = []
    · subst hl; rfl
    · rw [sideOf_empty hl]
      · rfl
      · refine Classical.byContradiction fun hn => hc (count_zero.mpr fun w hw e => hn (e ▸ hw))
theorem law6_two {x y : L} (h1 : split2 (x ++ 58 :: 58 :: y) = x :: split2 y) (h2 : dbl 0 (x ++ 58 :: 58 :: y) = x.length :: dbl (x.length + 1) (58 :: y)) (h3 : dbl (x.length + 1) (58 :: y) ≠ []) : law6 (x ++ 58 :: 58 :: y) = ip6Of (x ++ 58 :: 58 :: y) := by
  unfold law6 ip6Of
  rw [h1, h2, if_pos (.inl (by
    rw [List.length_cons]
    have := List.length_pos_iff.mpr h3
    omega))]
  rcases split2_cases y 0 with ⟨q1, q2⟩ | ⟨x', y', q1, q2, q3⟩
  · rw [q2]
    dsimp only
    have hy : y.head? = some 58 := by
      refine Classical.byContradiction fun hn => h3 ?_
      rw [dbl, if_neg (fun q => hn q.2)]
      exact dbl_nil_any q1
    have hs : sideOf true y = none := by
      cases y with
      | nil => cases hy
      | cons c r =>
        cases hy
        exact sideOf_empty (by simp) (by simp [splitC])
    rw [hs]
    cases sideOf false x <;> rfl
  · rw [q2]
    have hne := split2_ne y'
    cases hs : split2 y' with
    | nil => exact absurd hs hne
    | cons a b => rfl
theorem count_cat (a b : List L) : (a ++ [] :: b).countP (· == []) = a.countP (· == []) + 1 + b.countP (· == []) := by
  rw [List.countP_append, List.countP_cons]
  simp
  omega
theorem split_nil_count {t : L} (h : t = []) : splitC 58 t = [[]] := by subst h; rfl
theorem side_run {isEnd : Bool} {t : L} {n k gap : Nat} (gs0 : List Nat) (hgap : t = [] → gap = gs0.length) (hc : t = [] ∨ (splitC 58 t).countP (· == []) = 0) (h1 : isEnd = true → k + (splitC 58 t).length = n) (h2 : isEnd = false → k + (splitC 58 t).length < n) (h0 : gs0 = [] ∨ isEnd = true) :
    (∀ gs, sideOf isEnd t = some gs → foldOi (lawSt n) k (iL gs0, gap) (splitC 58 t) = some (iL (gs0 ++ gs), gap)) ∧ (sideOf isEnd t = none → Bad (foldOi (lawSt n) k (iL gs0, gap) (splitC 58 t))) := by
  by_cases ht : t = []
  · subst ht
    have hs : sideOf isEnd [] = some [] := rfl
    have hg := hgap rfl
    rw [hs]
    refine ⟨fun gs e => ?_, fun e => (by cases e)⟩
    cases e
    rw [List.append_nil]
    show (lawSt n (iL gs0, gap) k []).bind _ = _
    unfold lawSt
    rw [if_pos rfl, Option.bind_some]
    show some (iL gs0, (iL gs0).length) = _
    rw [iL_len, hg]
  · have hne := count_zero.mp (hc.resolve_left ht)
    rw [sideOf_ne ht]
    have hrun := run_words (isEnd := isEnd) (n := n) (m := (splitC 58 t).length) (gap := gap) (splitC 58 t) k 0 gs0 hne (fun e => ⟨by omega, h1 e⟩) h2
    have hshift : ∀ (ws : List L) (j : Nat) (gs : List Nat), foldOi (grG isEnd (splitC 58 t).length) j (gs0 ++ gs) ws = (foldOi (grG isEnd (splitC 58 t).length) j gs ws).map fun q => gs0 ++ q := by
      intro ws
      induction ws with
      | nil => intro j gs; rfl
      | cons w r ih =>
        intro j gs
        have hst : grG isEnd (splitC 58 t).length (gs0 ++ gs) j w = (grG isEnd (splitC 58 t).length gs j w).map fun q => gs0 ++ q := by
          unfold grG
          split
          · cases ip4Of w with
            | none => rfl
            | some a => simp
          · cases hexOf w 4 with
            | none => rfl
            | some a => simp
        simp only [foldOi, hst]
        cases grG isEnd (splitC 58 t).length gs j w with
        | none => rfl
        | some s => simp only [Option.map_some, Option.bind_some]; exact ih (j + 1) s
    have hsh := hshift (splitC 58 t) 0 []
    rw [List.append_nil] at hsh
    rw [hsh] at hrun
    refine ⟨fun gs e => ?_, fun e => ?_⟩
    · rw [e] at hrun; exact hrun.1 _ rfl
    · rw [e] at hrun; exact hrun.2 rfl
theorem law6_one {x y : L} (h1 : split2 (x ++ 58 :: 58 :: y) = x :: split2 y) (h2 : dbl 0 (x ++ 58 :: 58 :: y) = x.length :: dbl (x.length + 1) (58 :: y)) (h3 : dbl (x.length + 1) (58 :: y) = []) : law6 (x ++ 58 :: 58 :: y) = ip6Of (x ++ 58 :: 58 :: y) := by
  have hy : dbl 0 y = [] ∧ split2 y = [y] := by
    have hd : dbl 0 y = [] := by
      rw [dbl] at h3
      split at h3
      · cases h3
      · exact dbl_nil_any h3
    rcases split2_cases y 0 with h | ⟨a, b, _, _, q⟩
    · exact h
    · rw [hd] at q; cases q
  have hW : splitC 58 (x ++ 58 :: 58 :: y) = splitC 58 x ++ [] :: splitC 58 y := by
    rw [splitC_cat]
    congr 1
  have hi : ip6Of (x ++ 58 :: 58 :: y) = (sideOf false x).bind fun a => (sideOf true y).bind fun b => if 7 < a.length + b.length then none else some (num16 0 (a ++ List.replicate (8 - a.length - b.length) 0 ++ b)) := by
    unfold ip6Of; rw [h1, hy.2]
  rw [hi]
  unfold law6
  rw [h2, h3, hW, count_cat]
  have hx1 : x = [] → (splitC 58 x).countP (· == []) = 1 := fun e => by rw [e]; rfl
  have hy1 : y = [] → (splitC 58 y).countP (· == []) = 1 := fun e => by rw [e]; rfl
  have hem : empties [x.length] (x ++ 58 :: 58 :: y).length = 1 + (if x = [] then 1 else 0) + (if y = [] then 1 else 0) := by
    unfold empties
    dsimp only
    rw [List.length_append, List.length_cons, List.length_cons]
    congr 1
    · congr 1
      by_cases e : x = []
      · simp [e]
      · have : x.length ≠ 0 := fun q => e (List.length_eq_zero_iff.mp q)
        rw [if_neg this, if_neg e]
    · by_cases e : y = []
      · simp [e]
      · have : y.length ≠ 0 := fun q => e (List.length_eq_zero_iff.mp q)
        rw [if_neg (by omega), if_neg e]
  rw [hem]
  have hmem : ∀ t : L, (splitC 58 t).countP (· == []) ≠ 0 → [] ∈ splitC 58 t := fun t hc => Classical.byContradiction fun hn => hc (count_zero.mpr fun w hw e => hn (e ▸ hw))
  by_cases hcx : x = [] ∨ (splitC 58 x).countP (· == []) = 0
  · by_cases hcy : y = [] ∨ (splitC 58 y).countP (· == []) = 0
    · have hcount : (splitC 58 x).countP (· == []) + 1 + (splitC 58 y).countP (· == []) = 1 + (if x = [] then 1 else 0) + (if y = [] then 1 else 0) := by
        have ex : (splitC 58 x).countP (· == []) = if x = [] then 1 else 0 := by
          by_cases e : x = []
          · rw [if_pos e, hx1 e]
          · rw [if_neg e]; exact hcx.resolve_left e
        have ey : (splitC 58 y).countP (· == []) = if y = [] then 1 else 0 := by
          by_cases e : y = []
          · rw [if_pos e, hy1 e]
          · rw [if_neg e]; exact hcy.resolve_left e
        rw [ex, ey]; omega
      rw [if_neg (by rintro (h | h); exact absurd h (by simp); exact h hcount)]
      have hlen : (splitC 58 x ++ [] :: splitC 58 y).length = (splitC 58 x).length + 1 + (splitC 58 y).length := by simp; omega
      rw [hlen, foldOi_app, Nat.zero_add]
      have hfirst : (∀ gs, sideOf false x = some gs → ∃ gap, foldOi (lawSt ((splitC 58 x).length + 1 + (splitC 58 y).length)) 0 ([], 9) (splitC 58 x) = some (iL gs, gap)) ∧ (sideOf false x = none → Bad (foldOi (lawSt ((splitC 58 x).length + 1 + (splitC 58 y).length)) 0 ([], 9) (splitC 58 x))) := by
        by_cases e : x = []
        · subst e
          refine ⟨fun gs hg => ?_, fun hg => (by cases hg)⟩
          cases hg
          exact ⟨0, rfl⟩
        · have := side_run (isEnd := false) (t := x) (n := (splitC 58 x).length + 1 + (splitC 58 y).length) (k := 0) (gap := 9) [] (fun q => absurd q e) hcx (fun q => (by cases q)) (fun _ => by omega) (.inl rfl)
          exact ⟨fun gs hg => ⟨9, this.1 gs hg⟩, this.2⟩
      cases ha : sideOf false x with
      | none =>
        have hb := hfirst.2 ha
        have hbad : Bad ((foldOi (lawSt ((splitC 58 x).length + 1 + (splitC 58 y).length)) 0 ([], 9) (splitC 58 x)).bind fun s' => foldOi (lawSt ((splitC 58 x).length + 1 + (splitC 58 y).length)) ((splitC 58 x).length) s' ([] :: splitC 58 y)) := by
          intro st e
          rw [Option.bind_eq_some_iff] at e
          obtain ⟨s, e1, e2⟩ := e
          exact bad_fold _ _ s (hb s e1) st e2
        rw [bad_none hbad]; rfl
      | some a =>
        obtain ⟨gap, hf⟩ := hfirst.1 a ha
        rw [hf, Option.bind_some, Option.bind_some]
        have hmid : foldOi (lawSt ((splitC 58 x).length + 1 + (splitC 58 y).length)) ((splitC 58 x).length) (iL a, gap) ([] :: splitC 58 y) =
            foldOi (lawSt ((splitC 58 x).length + 1 + (splitC 58 y).length)) ((splitC 58 x).length + 1) (iL a, a.length) (splitC 58 y) := by
          have : lawSt ((splitC 58 x).length + 1 + (splitC 58 y).length) (iL a, gap) (splitC 58 x).length [] = some (iL a, a.length) := by
            unfold lawSt; rw [if_pos rfl, iL_len]
          simp only [foldOi, this, Option.bind_some]
        rw [hmid]
        have hsec := side_run (isEnd := true) (t := y) (n := (splitC 58 x).length + 1 + (splitC 58 y).length) (k := (splitC 58 x).length + 1) (gap := a.length) a (fun _ => rfl) hcy (fun _ => rfl) (fun q => (by cases q)) (.inr rfl)
        cases hb : sideOf true y with
        | none => rw [bad_none (hsec.2 hb)]; rfl
        | some b =>
          rw [hsec.1 b hb, Option.bind_some, Option.bind_some]
          by_cases h7 : 7 < a.length + b.length
          · rw [if_pos h7, if_pos]
            simp [iL_len, iL_neg]
            omega
          · rw [if_neg h7, if_neg, toN_iL, lawNum_eq (by omega)]
            simp [iL_len, iL_neg]
            omega
    · rw [if_pos, sideOf_empty (fun e => hcy (.inl e)) (hmem y fun e => hcy (.inr e))]
      · cases sideOf false x <;> rfl
      · refine .inr ?_
        have e1 : y ≠ [] := fun e => hcy (.inl e)
        have e2 : (splitC 58 y).countP (· == []) ≠ 0 := fun e => hcy (.inr e)
        rw [if_neg e1]
        by_cases e : x = []
        · rw [if_pos e, hx1 e]; omega
        · rw [if_neg e]; omega
  · rw [if_pos, sideOf_empty (fun e => hcx (.inl e)) (hmem x fun e => hcx (.inr e))]
    · rfl
    · refine .inr ?_
      have e1 : x ≠ [] := fun e => hcx (.inl e)
      have e2 : (splitC 58 x).countP (· == []) ≠ 0 := fun e => hcx (.inr e)
      rw [if_neg e1]
      by_cases e : y = []
      · rw [if_pos e, hy1 e]; omega
      · rw [if_neg e]; omega
theorem law6_eq (l : L) : law6 l = ip6Of l := by
  rcases split2_cases l 0 with ⟨h1, h2⟩ | ⟨x, y, rfl, h2, h3⟩
  · exact law6_none h1 h2
  · rw [Nat.zero_add] at h3
    by_cases h : dbl (x.length + 1) (58 :: y) = []
    · exact law6_one h2 h3 h
    · exact law6_two h2 h3 h
end Mine
end
section
open PySem PySem.Calls
set_option maxRecDepth 100000
namespace Mine
theorem l6_dbl {Φ : Nat → List PV → Option PV} {l : L} (hl : l.length ≤ 1000) {o1 o2 o3 o4 o5 o6 o7 o8 o9 o10 o11 : Option PV} : ev Φ cLawRead61 [some (S1 l), o1, o2, o3, o4, o5, o6, o7, o8, o9, o10, o11] = some (.list (nL (dbl 0 l))) := by
  have e := dbl_filter l l [] rfl
  rw [List.length_nil, ← List.range_eq_range'] at e
  rw [← e]
  unfold nL
  refine ev_comp_filter (vs := [I1 l.length]) (fun k : Nat => .int (k : Int)) _ _ (List.range l.length) rfl (it_range _ (by omega)) rfl (fun k hk => ?_) (fun k _ => rfl)
  have hs : sliceV (S1 l) (some (k : Int)) (some ((k : Int) + 2)) = some (S1 ((l.take (k + 2)).drop k)) := by
    show some (PV.a (.str (pySlice l (some (k : Int)) (some ((k + 2 : Nat) : Int))))) = _
    rw [slice_both _ _ _ (by omega)]; rfl
  exact ev_K rfl fun _ => ((k_b hs) rfl)
theorem m_countB (a b : Bool) : me .count (.list [.bool a, .bool b]) [.a (.bool true)] = some (.a (.int (((if a then 1 else 0) + (if b then 1 else 0) : Nat) : Int))) := by
  cases a <;> cases b <;> rfl
theorem m_countS (W : List L) : me .count (.list (W.map .str)) [.a (.str [])] = some (.a (.int ((W.countP (· == []) : Nat) : Int))) := by
  show (strsOf (W.map .str)).map (fun ss => PV.a (.int ((ss.countP (· == []) : Nat) : Int))) = _
  rw [strs_map]; rfl
theorem ite_iff {α : Type} {P Q : Prop} [Decidable P] [Decidable Q] {a b : α} (h : P ↔ Q) : (if P then a else b) = if Q then a else b := by
  by_cases q : Q
  · rw [if_pos q, if_pos (h.mpr q)]
  · rw [if_neg q, if_neg (mt h.mp q)]
theorem emp_eq (d n : Nat) : (1 : Int) + ((((if decide (PV.a (.int (d : Int)) = PV.a (.int 0)) = true then 1 else 0) + (if decide (PV.a (.int (d : Int)) = PV.a (.int ((n : Int) - 2))) = true then 1 else 0) : Nat)) : Int) = ((empties [d] n : Nat) : Int) := by
  have c1 : (decide (PV.a (.int (d : Int)) = PV.a (.int 0)) = true) ↔ d = 0 := by rw [decide_eq_true_iff, int_eq]; omega
  have c2 : (decide (PV.a (.int (d : Int)) = PV.a (.int ((n : Int) - 2))) = true) ↔ d + 2 = n := by rw [decide_eq_true_iff, int_eq]; omega
  rw [ite_iff c1, ite_iff c2]
  show (1 : Int) + ((_ + _ : Nat) : Int) = ((1 + _ + _ : Nat) : Int)
  rw [Nat.add_assoc]; rfl
theorem l6_empties {tk : Bool} {β : Type} {Φ : Nat → List PV → Option PV} {k : Store → Option β} {r : PV → Store → Option β} {s : S} {l : L} {D : List Nat} {o1 o4 o5 o6 o7 o8 o9 o10 o11 : Option PV} :
    exK tk Φ (.seq (.ite (.cmp .Eq (.bi .len (.cons (.var 2) .nil)) (.int 1)) (.seq (.assign 3 (.bin .Add (.int 1) (.me .count (.list (.cons (.cmp .Eq (.idx (.var 2) (.int 0)) (.int 0)) (.cons (.cmp .Eq (.idx (.var 2) (.int 0)) (.bin .Sub (.bi .len (.cons (.var 0) .nil)) (.int 2))) .nil))) (.cons (.bool true) .nil))))
      .nil) .nil) s) [some (S1 l), o1, some (.list (nL D)), some (.a (.int 0)), o4, o5, o6, o7, o8, o9, o10, o11] k r = exK tk Φ s [some (S1 l), o1, some (.list (nL D)), some (I1 (empties D l.length)), o4, o5, o6, o7, o8, o9, o10, o11] k r := by
  match D with
  | [] => rfl
  | _ :: _ :: _ => rfl
  | [d] =>
    refine (k_b (x := I1 d) (by rfl)) ((k_b (x := I1 d) (by rfl)) ((k_b (x := PV.list [.bool (decide (PV.a (.int (d : Int)) = PV.a (.int 0))), .bool (decide (PV.a (.int (d : Int)) = PV.a (.int ((l.length : Int) - 2))))]) (by rfl)) ((k_b (m_countB _ _)) ?_)))
    exact congrArg (fun z : Int => exK tk Φ s [some (S1 l), o1, some (.list (nL [d])), some (PV.a (.int z)), o4, o5, o6, o7, o8, o9, o10, o11] k r) (emp_eq d l.length)
theorem l6_step {Φ : Nat → List PV → Option PV} {o0 o2 o3 o9 o10 o11 : Option PV} {W : List L} (hW : W.length ≤ 1001) {G : List Int} {gap k : Nat} {w : L} (h19 : Φ 19 [S1 w] = some (optI (ip4Of w))) (h20 : Φ 20 [S1 w] = some (.a (.int (lawGroup w)))) (hk : k < W.length) (hG : G.length ≤ 2 * k) (o6 o7 o8 : Option PV) :
    ∃ ρ', ex Φ lLawRead62 [o0, some (.list (W.map .str)), o2, o3, some (.list (G.map .int)), some (I1 gap), some (I1 k), some (S1 w), o8, o9, o10, o11] = some (outO (.a .none) (lawSt W.length (G, gap) k w) ρ') ∧
      okO' (fun (st : List Int × Nat) ρ => ∃ o6 o7 o8, ρ = [o0, some (.list (W.map .str)), o2, o3, some (.list (st.1.map .int)), some (I1 st.2), o6, o7, o8, o9, o10, o11] ∧ st.1.length ≤ 2 * (k + 1)) (lawSt W.length (G, gap) k w) ρ' := by
  have lk : ∀ n, n ≤ 2 * k + 2 → n < sizeLine := fun n h => by rw [sizeLine_eq]; omega
  have hlW := @List.length_map _ _ W At.str
  have hlG := @List.length_map _ _ G At.int
  unfold lawSt
  by_cases h0 : w = []
  · rw [if_pos h0]
    refine ⟨_, ex_K rfl fun _ => ((d_t h0) rfl), some (I1 k), some (S1 w), o8, ?_, Nat.le_trans hG (Nat.mul_le_mul_left 2 (Nat.le_succ k))⟩
    show [_, _, _, _, _, some (PV.a (.int (((G.map At.int).length : Nat) : Int))), _, _, _, _, _, _] = _
    rw [hlG]; rfl
  · rw [if_neg h0]
    by_cases h1 : 46 ∈ w
    · rw [if_pos h1]
      cases hi : ip4Of w with
      | none =>
        rw [hi] at h19
        exact ⟨_, ex_K rfl fun _ => ((d_f h0) ((d_t h1) ((k_b (x := .a .none) h19) rfl))), trivial⟩
      | some t =>
        rw [hi] at h19
        have hp : PV.a (.int (k : Int)) = PV.a (.int (((W.map At.str).length : Int) - 1)) ↔ k + 1 = W.length := by rw [int_eq, hlW]; omega
        show ∃ ρ', ex Φ lLawRead62 _ = some (outO (.a .none) (if k + 1 = W.length then _ else _) ρ') ∧ okO' _ (if k + 1 = W.length then _ else _) ρ'
        by_cases hk1 : k + 1 = W.length
        · rw [if_pos hk1]
          have hl : (G.map At.int).length + [At.int ((t / 65536 : Nat) : Int), .int ((t % 65536 : Nat) : Int)].length ≤ sizeLine := by rw [hlG]; exact Nat.le_of_lt (lk _ (Nat.add_le_add_right hG 2))
          refine ⟨_, ex_K rfl fun _ => ((d_f h0) ((d_t h1) ((k_b (x := I1 t) h19) ((en_t (hp.mpr hk1)) ((k_b (b_divN t 65536 (by decide) (by decide))) ((k_b (b_modN t 65536 (by decide))) ((k_b (x := PV.list [.int ((t / 65536 : Nat) : Int), .int ((t % 65536 : Nat) : Int)]) (by rfl)) ((k_g hl) rfl)))))))), some (I1 k), some (S1 w), some (I1 t), ?_, ?_⟩
          · rw [List.map_append]; rfl
          · rw [List.length_append]; exact Nat.add_le_add_right hG 2
        · rw [if_neg hk1]
          exact ⟨_, ex_K rfl fun _ => ((d_f h0) ((d_t h1) ((k_b (x := I1 t) h19) ((en_f (mt hp.mp hk1)) rfl)))), trivial⟩
    · rw [if_neg h1]
      refine ⟨_, ex_K rfl fun _ => ((d_f h0) ((d_f h1) ((k_b h20) ((k_t (hlG ▸ lk _ (Nat.le_trans hG (Nat.le_add_right _ 2)))) rfl)))), some (I1 k), some (S1 w), o8, ?_, ?_⟩
      · rw [List.map_append]; rfl
      · rw [List.length_append]; exact Nat.le_succ_of_le (Nat.add_le_add_right hG 1)
end Mine
end
section
open PySem PySem.Calls
set_option maxRecDepth 100000
namespace Mine
theorem iL_nL (gs : List Nat) : (iL gs).map At.int = nL gs := by simp [iL, nL, Function.comp_def]
theorem l6_nstep {Φ : Nat → List PV → Option PV} {o0 o1 o2 o3 o7 o8 o10 o11 : Option PV} {gs : List Nat} {gap n p : Nat} (hl : gs.length ≤ 8) (hg : ∀ g ∈ gs, g < 65536) (hp : p < gs.length) :
    ∃ o10', ex Φ lLawRead61 [o0, o1, o2, o3, some (.list (nL gs)), some (I1 gap), some (I1 p), o7, o8, some (I1 n), o10, o11] = some (.next, [o0, o1, o2, o3, some (.list (nL gs)), some (I1 gap), some (I1 p), o7, o8, some (I1 (n + gs.getD p 0 * 65536 ^ pw gs.length gap p)), o10', o11]) := by
  have hpw : pw gs.length gap p ≤ 7 := by unfold pw; split <;> omega
  have hget := nL_get gs p hp
  have hpow : ∀ e : Int, e = (pw gs.length gap p : Nat) → binop .Pow (.a (.int 65536)) (.a (.int e)) = some (I1 (65536 ^ pw gs.length gap p)) := fun e he => he ▸ b_powN 65536 _ (Nat.le_trans hpw (by decide)) (by decide)
  have hglt : gs.getD p 0 < 65536 := by
    rw [List.getD, List.getElem?_eq_getElem hp]
    exact hg _ (List.getElem_mem _)
  have hmul : ∀ P : Nat, binop .Mult (I1 (gs.getD p 0)) (I1 P) = some (I1 (gs.getD p 0 * P)) := fun P =>
    (b_mulL _ _ (Nat.lt_trans hglt (by decide))).trans (by rw [← Int.natCast_mul]; rfl)
  have hlen : ((nL gs).length : Int) = gs.length := by rw [nL_len]
  have e1 : p < gap → (7 : Int) - (p : Int) = (pw gs.length gap p : Nat) := fun h => by unfold pw; rw [if_pos h]; omega
  have e2 : ¬ p < gap → ((nL gs).length : Int) - 1 - (p : Int) = (pw gs.length gap p : Nat) := fun h => by unfold pw; rw [if_neg h, hlen]; omega
  generalize pw gs.length gap p = e at hpow e1 e2 ⊢
  have hmul := hmul (65536 ^ e)
  generalize 65536 ^ e = P at hpow hmul ⊢
  by_cases h : p < gap
  · exact ⟨_, ex_K rfl fun _ => ((d_t (Int.ofNat_lt.mpr h)) ((k_b hget) ((k_b (hpow _ (e1 h))) ((k_b hmul) rfl))))⟩
  · exact ⟨_, ex_K rfl fun _ => ((d_f (mt Int.ofNat_lt.mp h)) ((k_b hget) ((k_b (hpow _ (e2 h))) ((k_b hmul) rfl))))⟩
theorem l6_num {Φ : Nat → List PV → Option PV} {o0 o1 o2 o3 o7 o8 o11 : Option PV} {gs : List Nat} {gap : Nat} (hl : gs.length ≤ 8) (hg : ∀ g ∈ gs, g < 65536) (o6 o10 : Option PV) :
    ∃ ρ', forGo (fun a ρ => ex Φ lLawRead61 (set ρ 6 (.a a))) ((List.range gs.length).map fun k : Nat => .int (k : Int)) [o0, o1, o2, o3, some (.list (nL gs)), some (I1 gap), o6, o7, o8, some (.a (.int 0)), o10, o11] = some (.next, ρ') ∧
      ∃ o6 o10, ρ' = [o0, o1, o2, o3, some (.list (nL gs)), some (I1 gap), o6, o7, o8, some (I1 (lawNum gs gap)), o10, o11] := by
  obtain ⟨ρ', hgo, hR⟩ := forGo_O (R := fun (n : Nat) ρ => ∃ o6 o10, ρ = [o0, o1, o2, o3, some (.list (nL gs)), some (I1 gap), o6, o7, o8, some (I1 n), o10, o11]) (enc := fun k : Nat => .int (k : Int)) (body := fun a ρ => ex Φ lLawRead61 (set ρ 6 (.a a))) (f := fun n p => some (n + gs.getD p 0 * 65536 ^ pw gs.length gap p)) (.a .none) (List.range gs.length) 0 [o0, o1, o2, o3, some (.list (nL gs)), some (I1 gap), o6, o7, o8, some (.a (.int 0)), o10, o11]
    (by rintro n ρ p hp ⟨o6, o10, rfl⟩
        obtain ⟨o, e⟩ := l6_nstep (Φ := Φ) (o0 := o0) (o1 := o1) (o2 := o2) (o3 := o3) (o7 := o7) (o8 := o8) (o10 := o10) (o11 := o11) (gap := gap) (n := n) hl hg (List.mem_range.mp hp)
        exact ⟨_, e, _, _, rfl⟩) ⟨o6, o10, rfl⟩
  rw [foldO_some] at hgo hR
  exact ⟨ρ', hgo, hR⟩
theorem c_in_int (i : Int) (G : List Int) : cmpop .In (.a (.int i)) (.list (G.map .int)) = some (decide (i ∈ G)) := by
  show (intsOf (G.map .int)).map (fun ns => ns.any (· == i)) = _
  rw [ints_mapI]
  show some _ = _
  congr 1
  rw [Bool.eq_iff_iff]
  simp
noncomputable def Clean (st : List Int × Nat) : Prop := (-1 : Int) ∈ st.1 ∨ ∃ gs : List Nat, st.1 = iL gs ∧ ∀ g ∈ gs, g < 65536
theorem lawSt_clean {n k : Nat} {st st' : List Int × Nat} {w : L} (h : Clean st) (e : lawSt n st k w = some st') : Clean st' := by
  unfold lawSt at e
  split at e
  · cases e; exact h
  · split at e
    · split at e
      · rename_i t ht
        split at e
        · cases e
          rcases h with h | ⟨gs, h1, h2⟩
          · exact .inl (List.mem_append_left _ h)
          · refine .inr ⟨gs ++ [t / 65536, t % 65536], by rw [iL_app, ← h1]; rfl, fun g hg => ?_⟩
            have := (ip4_inv ht).2
            simp only [List.mem_append, List.mem_cons, List.not_mem_nil, or_false] at hg
            rcases hg with hg | rfl | rfl
            · exact h2 g hg
            · omega
            · omega
        · cases e
      · cases e
    · cases e
      rcases h with h | ⟨gs, h1, h2⟩
      · exact .inl (List.mem_append_left _ h)
      · cases hx : hexOf w 4 with
        | none => exact .inl (by simp [lawGroup, hx])
        | some g =>
          refine .inr ⟨gs ++ [g], by rw [iL_app, ← h1]; simp [lawGroup, hx, iL], fun x hg => ?_⟩
          simp only [List.mem_append, List.mem_cons, List.not_mem_nil, or_false] at hg
          rcases hg with hg | rfl
          · exact h2 x hg
          · exact hexOf_lt (by decide) hx
theorem fold_clean {n : Nat} : ∀ {ws : List L} {k : Nat} {st st' : List Int × Nat}, Clean st → foldOi (lawSt n) k st ws = some st' → Clean st'
  | [], _, _, _, h, e => by cases e; exact h
  | w :: r, k, st, st', h, e => by
    simp only [foldOi, Option.bind_eq_some_iff] at e
    obtain ⟨s, h1, e⟩ := e
    exact fold_clean (lawSt_clean h h1) e
noncomputable def tail6 : S := (.seq (.ite (.boolE false (.cons (.cmp .In (.int (-1)) (.var 4)) (.cons (.cmp .Gt (.bi .len (.cons (.var 4) .nil)) (.bin .Sub (.int 8) (.bi .len (.cons (.var 2) .nil)))) (.cons (.boolE true (.cons (.cmp .Lt (.bi .len (.cons (.var 4) .nil)) (.int 8)) (.cons (.cmp .Eq (.var 5) (.int 9)) .nil))) .nil)))) (.seq (.ret .none)
      .nil) .nil)
      (.seq (.assign 9 (.int 0))
      (.seq (.forS 6 .range (.cons (.bi .len (.cons (.var 4) .nil)) .nil) lLawRead61)
      (.seq (.ret (.var 9))
      .nil))))
theorem l6_end {tk : Bool} {Φ : Nat → List PV → Option PV} {o0 o1 o2 o3 o6 o7 o8 : Option PV} {gs : List Nat} {gap : Nat} (h8 : gs.length ≤ 8) (hlt : ∀ g ∈ gs, g < 65536) :
    exK tk Φ (.seq (.assign 9 (.int 0)) (.seq (.forS 6 .range (.cons (.bi .len (.cons (.var 4) .nil)) .nil) lLawRead61) (.seq (.ret (.var 9)) .nil))) [o0, o1, o2, o3, some (.list (nL gs)), some (I1 gap), o6, o7, o8, none, none, none] (fun _ => none) (fun v _ => some v) = some (I1 (lawNum gs gap)) := by
  obtain ⟨ρ', hn, o6', o10', rfl⟩ := l6_num (Φ := Φ) (o0 := o0) (o1 := o1) (o2 := o2) (o3 := o3) (o7 := o7) (o8 := o8) (o11 := none) (gap := gap) h8 hlt o6 none
  have hit := it_range gs.length (Nat.lt_of_le_of_lt h8 (by decide))
  exact s_asg (x := PV.a (.int 0)) rfl rfl (s_for (vs := [I1 gs.length]) (congrArg (fun n : Nat => some [I1 n]) (nL_len gs)) rfl hit hn rfl)
theorem l6_tail {tk : Bool} {Φ : Nat → List PV → Option PV} {o0 o1 o3 o6 o7 o8 : Option PV} {D : List Nat} {G : List Int} {gap : Nat} (hc : Clean (G, gap)) :
    exK tk Φ tail6 [o0, o1, some (.list (nL D)), o3, some (.list (G.map .int)), some (I1 gap), o6, o7, o8, none, none, none] (fun _ => none) (fun v _ => some v) = some (optI (if (-1 : Int) ∈ G ∨ 8 < G.length + D.length ∨ (G.length < 8 ∧ gap = 9) then none else some (lawNum (toN G) gap))) := by
  have c2 : (8 : Int) - ((nL D).length : Int) < ((G.map At.int).length : Int) ↔ 8 < G.length + D.length := by rw [nL_len, List.length_map]; omega
  have c3 : ((G.map At.int).length : Int) < 8 ↔ G.length < 8 := by rw [List.length_map]; omega
  have c4 : PV.a (.int (gap : Int)) = PV.a (.int 9) ↔ gap = 9 := by rw [int_eq]; omega
  have ht : ev Φ (.boolE false (.cons (.cmp .In (.int (-1)) (.var 4)) (.cons (.cmp .Gt (.bi .len (.cons (.var 4) .nil)) (.bin .Sub (.int 8) (.bi .len (.cons (.var 2) .nil)))) (.cons (.boolE true (.cons (.cmp .Lt (.bi .len (.cons (.var 4) .nil)) (.int 8)) (.cons (.cmp .Eq (.var 5) (.int 9)) .nil))) .nil))))
      [o0, o1, some (.list (nL D)), o3, some (.list (G.map .int)), some (I1 gap), o6, o7, o8, none, none, none] = some (.a (.bool (decide ((-1 : Int) ∈ G ∨ 8 < G.length + D.length ∨ (G.length < 8 ∧ gap = 9))))) := by
    have pos := @decide_eq_true ((-1 : Int) ∈ G ∨ 8 < G.length + D.length ∨ (G.length < 8 ∧ gap = 9)) _
    have neg := @decide_eq_false ((-1 : Int) ∈ G ∨ 8 < G.length + D.length ∨ (G.length < 8 ∧ gap = 9)) _
    refine ev_K rfl fun _ => ((k_o (c_in_int _ _)) ?_)
    by_cases a1 : (-1 : Int) ∈ G
    · rw [pos (.inl a1)]
      exact (e_f a1) rfl
    · refine (e_t a1) ?_
      by_cases a2 : 8 < G.length + D.length
      · rw [pos (.inr (.inl a2))]
        exact (e_f (c2.mpr a2)) rfl
      · refine (e_t (mt c2.mp a2)) ?_
        by_cases a3 : G.length < 8
        · refine (d_t (c3.mpr a3)) ?_
          by_cases a4 : gap = 9
          · rw [pos (.inr (.inr ⟨a3, a4⟩))]
            exact (d_t (c4.mpr a4)) rfl
          · rw [neg fun q => q.elim a1 fun q => q.elim a2 fun q => a4 q.2]
            exact (d_f (mt c4.mp a4)) rfl
        · rw [neg fun q => q.elim a1 fun q => q.elim a2 fun q => a3 q.1]
          exact (d_f (mt c3.mp a3)) rfl
  by_cases hb : (-1 : Int) ∈ G ∨ 8 < G.length + D.length ∨ (G.length < 8 ∧ gap = 9)
  · rw [if_pos hb]
    rw [decide_eq_true hb] at ht
    exact (s_ift ht rfl) rfl
  · rw [if_neg hb]
    rw [decide_eq_false hb] at ht
    refine (s_skip ht rfl) ?_
    obtain ⟨gs, hgs, hlt⟩ := hc.resolve_left (fun q => hb (.inl q))
    dsimp only at hgs
    subst hgs
    rw [iL_nL, toN_iL]
    have h8 : ¬ 8 < (iL gs).length + D.length := fun q => hb (.inr (.inl q))
    rw [iL_len] at h8
    exact l6_end (by omega) hlt
theorem x21 {Φ : Nat → List PV → Option PV} (h19 : ∀ l, Φ 19 [S1 l] = some (optI (ip4Of l))) (h20 : ∀ l, short l = true → Φ 20 [S1 l] = some (.a (.int (lawGroup l)))) {l : L} (hs : short l = true) :
    run Φ 12 bLawRead6 [S1 l] = some (optI (ip6Of l)) := by
  rw [← law6_eq]
  have hl := (short_iff.mp hs).1
  have hm := m_split l 58 (by decide) hl
  have hcount := splitC_count 58 l
  have hsub : ∀ w ∈ splitC 58 l, short w = true := fun w hw => short_part hs hw
  unfold law6
  have hcl : ∀ st, foldOi (lawSt (splitC 58 l).length) 0 ([], 9) (splitC 58 l) = some st → Clean st := fun st e => fold_clean (.inr ⟨[], rfl, by simp⟩) e
  generalize splitC 58 l = W at hm hcount hsub hcl ⊢
  refine run_K rfl fun _ => ((k_b hm) ((k_b (l6_dbl hl)) (l6_empties.trans ?_)))
  generalize dbl 0 l = D
  generalize empties D l.length = e
  have c1 : (1 : Int) < ((nL D).length : Int) ↔ 1 < D.length := by rw [nL_len]; omega
  have c2 : PV.a (.int ((W.countP (· == []) : Nat) : Int)) = I1 e ↔ W.countP (· == []) = e := int_eq.trans Int.ofNat_inj
  by_cases h1 : 1 < D.length
  · rw [if_pos (.inl h1)]
    exact (e_f (c1.mpr h1)) rfl
  · by_cases h2 : W.countP (· == []) = e
    · rw [if_neg (fun q => q.elim h1 (fun q => q h2))]
      obtain ⟨ρ', hgo, hR⟩ : ∃ ρ', enumGo (fun k a ρ => ex Φ lLawRead62 (set (set ρ 6 (.a (.int k))) 7 (.a a))) 0 (W.map .str) [some (S1 l), some (.list (W.map .str)), some (.list (nL D)), some (I1 e), some (.list []), some (.a (.int 9)), none, none, none, none, none, none] = some (outO (.a .none) (foldOi (lawSt W.length) 0 ([], 9) W) ρ') ∧ _ :=
        enumGo_K (R := fun k (st : List Int × Nat) ρ => ∃ o6 o7 o8, ρ = [some (S1 l), some (.list (W.map .str)), some (.list (nL D)), some (I1 e), some (.list (st.1.map .int)), some (I1 st.2), o6, o7, o8, none, none, none] ∧ st.1.length ≤ 2 * k) (.a .none) W 0 ([], 9) _
          (by rintro ⟨G, gap⟩ ρ k w hw _ hk ⟨o6, o7, o8, rfl, hG⟩
              exact l6_step (Nat.le_trans hcount (Nat.succ_le_succ hl)) (h19 w) (h20 w (hsub w hw)) (by rwa [Nat.zero_add] at hk) hG o6 o7 o8) ⟨none, none, none, rfl, Nat.le_refl _⟩
      refine (e_t (mt c1.mp h1)) ((k_b (m_countS W)) ((en_t (c2.mpr h2)) ((k_b (x := PV.list []) (by rfl)) ((k_b hgo) ?_))))
      cases hf : foldOi (lawSt W.length) 0 ([], 9) W with
      | none => rfl
      | some st =>
        rw [hf] at hR
        obtain ⟨o6, o7, o8, rfl, _⟩ := hR
        exact l6_tail (hcl st hf)
    · rw [if_pos (.inr h2)]
      exact (e_t (mt c1.mp h1)) ((k_b (m_countS W)) ((en_f (mt c2.mp h2)) rfl))
end Mine
end
section
open PySem PySem.Calls
set_option maxRecDepth 100000
namespace Mine
theorem hx_dg : ∀ k, k < 16 → hx (dg k) = some k ∧ dg k ≠ 58 ∧ dg k ≠ 46 := by decide +kernel
theorem hexG_dg {n k : Nat} (h : k < 16) : hexG n (dg k) = some (n * 16 + k) := by unfold hexG; rw [(hx_dg k h).1]; rfl
theorem q16 (n m : Nat) : n / (m * 16) * 16 + n / m % 16 = n / m := by rw [← Nat.div_div_eq_div_mul]; exact Nat.div_add_mod' (n / m) 16
theorem q16' (n : Nat) : n / 16 * 16 + n % 16 = n := Nat.div_add_mod' n 16
theorem hexG_cons {n k : Nat} {r : L} (h : k < 16) : foldO hexG n (dg k :: r) = foldO hexG (n * 16 + k) r := by rw [foldO, hexG_dg h]; rfl
theorem hexW_back {g : Nat} (h : g < 65536) : hexOf (hexW g) 4 = some g := by
  unfold hexOf
  rw [if_pos (hexW_len g)]
  have m16 : ∀ n : Nat, n % 16 < 16 := fun n => Nat.mod_lt n (by decide)
  unfold hexW
  by_cases h1 : g < 16
  · rw [if_pos h1, hexG_cons h1, Nat.zero_mul, Nat.zero_add]; rfl
  · rw [if_neg h1]
    by_cases h2 : g < 256
    · rw [if_pos h2, hexG_cons (Nat.div_lt_of_lt_mul h2), hexG_cons (m16 _), Nat.zero_mul, Nat.zero_add, q16']; rfl
    · rw [if_neg h2]
      by_cases h3 : g < 4096
      · rw [if_pos h3, hexG_cons (Nat.div_lt_of_lt_mul h3), hexG_cons (m16 _), hexG_cons (m16 _), Nat.zero_mul, Nat.zero_add, q16 g 16, q16']; rfl
      · rw [if_neg h3, hexG_cons (Nat.div_lt_of_lt_mul h), hexG_cons (m16 _), hexG_cons (m16 _), hexG_cons (m16 _), Nat.zero_mul, Nat.zero_add, q16 g 256, q16 g 16, q16']; rfl
theorem all_dg {c : Nat} : ∀ {ks : List Nat}, (∀ k ∈ ks, k < 16) → c ∈ ks.map dg → ∃ k, k < 16 ∧ c = dg k := fun h hc => by
  obtain ⟨k, hk, rfl⟩ := List.mem_map.mp hc
  exact ⟨k, h k hk, rfl⟩
theorem lt_all {n k : Nat} {ks : List Nat} (h : k < n) (hs : ∀ k ∈ ks, k < n) : ∀ x ∈ k :: ks, x < n := fun x hx => (List.mem_cons.mp hx).elim (fun e => e ▸ h) (hs x)
theorem hexW_mem {g c : Nat} (h : g < 65536) (hc : c ∈ hexW g) : ∃ k, k < 16 ∧ c = dg k := by
  have m16 : ∀ n : Nat, n % 16 < 16 := fun n => Nat.mod_lt n (by decide)
  unfold hexW at hc
  by_cases h1 : g < 16
  · rw [if_pos h1] at hc
    exact all_dg (ks := [g]) (lt_all h1 nofun) hc
  · rw [if_neg h1] at hc
    by_cases h2 : g < 256
    · rw [if_pos h2] at hc
      exact all_dg (ks := [g / 16, g % 16]) (lt_all (Nat.div_lt_of_lt_mul h2) (lt_all (m16 _) nofun)) hc
    · rw [if_neg h2] at hc
      by_cases h3 : g < 4096
      · rw [if_pos h3] at hc
        exact all_dg (ks := [g / 256, g / 16 % 16, g % 16]) (lt_all (Nat.div_lt_of_lt_mul h3) (lt_all (m16 _) (lt_all (m16 _) nofun))) hc
      · rw [if_neg h3] at hc
        exact all_dg (ks := [g / 4096, g / 256 % 16, g / 16 % 16, g % 16]) (lt_all (Nat.div_lt_of_lt_mul h) (lt_all (m16 _) (lt_all (m16 _) (lt_all (m16 _) nofun)))) hc
theorem hexW_not {g : Nat} (h : g < 65536) : 58 ∉ hexW g ∧ 46 ∉ hexW g := by
  constructor
  · intro hc
    obtain ⟨k, hk, e⟩ := hexW_mem h hc
    exact (hx_dg k hk).2.1 e.symm
  · intro hc
    obtain ⟨k, hk, e⟩ := hexW_mem h hc
    exact (hx_dg k hk).2.2 e.symm
theorem hexW_ne (g : Nat) : hexW g ≠ [] := fun e => by
  have := (hexW_len g).1
  rw [e] at this
  simp at this
noncomputable def nd : L → Prop
  | [] => True
  | [_] => True
  | x :: y :: r => ¬ (x = 58 ∧ y = 58) ∧ nd (y :: r)
theorem nd_split2 : ∀ {l : L}, nd l → split2 l = [l]
  | [], _ => rfl
  | [_], _ => rfl
  | x :: y :: r, h => by rw [split2, if_neg h.1, nd_split2 h.2]; rfl
theorem nd_two : ∀ {x : L} (y : L), nd x → x.getLast? ≠ some 58 → split2 (x ++ 58 :: 58 :: y) = x :: split2 y
  | [], y, _, _ => by rw [List.nil_append, split2, if_pos ⟨rfl, rfl⟩]
  | [a], y, _, h => by
    have ha : a ≠ 58 := fun e => h (by simp [e])
    rw [List.cons_append, List.nil_append, split2, if_neg (fun q => ha q.1), split2, if_pos ⟨rfl, rfl⟩]; rfl
  | a :: b :: r, y, h1, h2 => by
    have ih := nd_two (x := b :: r) y h1.2 (by simpa using h2)
    rw [List.cons_append, List.cons_append, split2, if_neg h1.1]
    rw [List.cons_append] at ih
    rw [ih]; rfl
theorem nd_word : ∀ {w : L} (z : L), 58 ∉ w → nd z → z.head? ≠ some 58 → w ≠ [] → nd (w ++ 58 :: z)
  | [], z, _, _, _, h => absurd rfl h
  | [a], z, h1, h2, h3, _ => by
    have ha : ¬ a = 58 := fun e => h1 (by simp [e])
    refine ⟨fun q => ha q.1, ?_⟩
    cases z with
    | nil => trivial
    | cons c r => exact ⟨fun q => h3 (by simp [q.2]), h2⟩
  | a :: b :: r, z, h1, h2, h3, _ => by
    have ha : ¬ a = 58 := fun e => h1 (by simp [e])
    exact ⟨fun q => ha q.1, nd_word (w := b :: r) z (fun q => h1 (List.mem_cons_of_mem _ q)) h2 h3 (by simp)⟩
theorem nd_plain : ∀ {w : L}, 58 ∉ w → nd w
  | [], _ => trivial
  | [_], _ => trivial
  | a :: b :: r, h => ⟨fun q => h (by simp [q.1]), nd_plain (w := b :: r) fun q => h (List.mem_cons_of_mem _ q)⟩
noncomputable def GoodW' (ws : List L) : Prop := ∀ w ∈ ws, w ≠ [] ∧ 58 ∉ w
theorem join_nd : ∀ {ws : List L}, GoodW' ws → nd (joinL [58] ws) ∧ (joinL [58] ws).head? ≠ some 58 ∧ (joinL [58] ws).getLast? ≠ some 58
  | [], _ => ⟨trivial, by simp [joinL], by simp [joinL]⟩
  | [w], h => by
    obtain ⟨h1, h2⟩ := h w (by simp)
    refine ⟨nd_plain h2, fun e => ?_, fun e => ?_⟩
    · exact h2 (List.mem_of_mem_head? (by rw [show joinL [58] [w] = w from rfl] at e; exact e))
    · exact h2 (List.mem_of_getLast? (by rw [show joinL [58] [w] = w from rfl] at e; exact e))
  | w :: v :: r, h => by
    obtain ⟨h1, h2⟩ := h w (by simp)
    obtain ⟨i1, i2, i3⟩ := join_nd (ws := v :: r) fun u hu => h u (List.mem_cons_of_mem _ hu)
    have e : joinL [58] (w :: v :: r) = w ++ 58 :: joinL [58] (v :: r) := rfl
    rw [e]
    refine ⟨nd_word _ h2 i1 i2 h1, fun q => ?_, fun q => ?_⟩
    · cases w with
      | nil => exact h1 rfl
      | cons a t => exact h2 (by simp at q; simp [q])
    · rw [List.getLast?_append, List.getLast?_cons] at q
      have hv := h v (by simp)
      have hne : joinL [58] (v :: r) ≠ [] := by
        cases r with
        | nil => exact hv.1
        | cons u t =>
          show v ++ _ ≠ []
          simp [hv.1]
      cases hz : (joinL [58] (v :: r)).getLast? with
      | none => exact hne (List.getLast?_eq_none_iff.mp hz)
      | some a =>
        rw [hz] at q i3
        exact i3 (by simpa using q)
theorem goodW_hex {gs : List Nat} (h : ∀ g ∈ gs, g < 65536) : GoodW' (gs.map hexW) := fun w hw => by
  obtain ⟨g, hg, rfl⟩ := List.mem_map.mp hw
  exact ⟨hexW_ne g, (hexW_not (h g hg)).1⟩
theorem fold_hex {isEnd : Bool} {m : Nat} : ∀ (gs : List Nat) (j : Nat) (gs0 : List Nat), (∀ g ∈ gs, g < 65536) → foldOi (grG isEnd m) j gs0 (gs.map hexW) = some (gs0 ++ gs)
  | [], j, gs0, _ => by simp [foldOi]
  | g :: r, j, gs0, h => by
    have hg := h g (by simp)
    have hs : grG isEnd m gs0 j (hexW g) = some (gs0 ++ [g]) := by
      unfold grG
      rw [if_neg fun q => (hexW_not hg).2 q.2.2, hexW_back hg]; rfl
    simp only [List.map_cons, foldOi, hs, Option.bind_some]
    rw [fold_hex r (j + 1) _ fun x hx => h x (by simp [hx])]
    simp
theorem join_ne {ws : List L} (h : GoodW' ws) (hne : ws ≠ []) : joinL [58] ws ≠ [] := by
  cases ws with
  | nil => exact absurd rfl hne
  | cons w r =>
    have hw := (h w (by simp)).1
    cases r with
    | nil => exact hw
    | cons v t =>
      show w ++ _ ≠ []
      simp [hw]
theorem side_hex {isEnd : Bool} {gs : List Nat} (h : ∀ g ∈ gs, g < 65536) : sideOf isEnd (joinL [58] (gs.map hexW)) = some gs := by
  cases gs with
  | nil => rfl
  | cons g r =>
    have hg := goodW_hex h
    rw [sideOf_ne (join_ne hg (by simp)), split_join (by simp) (fun w hw => (hg w hw).2), fold_hex _ _ _ h]
    rfl
theorem text4_mem {n : Nat} : 46 ∈ text4 n ∧ 58 ∉ text4 n ∧ text4 n ≠ [] := by
  have hd : ∀ k : Nat, 58 ∉ dec (n / 2 ^ k % 256) := fun k => dec_not (by omega) (.inr (by decide))
  unfold text4 oct4
  simp only [List.map_cons, List.map_nil, joinL]
  refine ⟨by simp, ?_, by simp⟩
  simp only [List.mem_append, List.mem_singleton, not_or]
  have a := hd 24
  have b := hd 16
  have c := hd 8
  have d := hd 0
  refine ⟨a, by decide, b, by decide, c, by decide, d⟩
theorem side_v4 {gs : List Nat} {g h : Nat} (hlt : ∀ x ∈ gs, x < 65536) (hg : g < 65536) (hh : h < 65536) : sideOf true (joinL [58] (gs.map hexW ++ [text4 (g * 65536 + h)])) = some (gs ++ [g, h]) := by
  have hgood : GoodW' (gs.map hexW ++ [text4 (g * 65536 + h)]) := fun w hw => by
    rcases List.mem_append.mp hw with hw | hw
    · exact goodW_hex hlt w hw
    · simp only [List.mem_singleton] at hw
      subst hw
      exact ⟨text4_mem.2.2, text4_mem.2.1⟩
  rw [sideOf_ne (join_ne hgood (by simp)), split_join (by simp) (fun w hw => (hgood w hw).2), foldOi_app, fold_hex _ _ _ hlt, Option.bind_some]
  have hs : grG true (gs.map hexW ++ [text4 (g * 65536 + h)]).length ([] ++ gs) (0 + (gs.map hexW).length) (text4 (g * 65536 + h)) = some (gs ++ [g, h]) := by
    unfold grG
    rw [if_pos ⟨rfl, by simp, text4_mem.1⟩, ip4_text4 (by omega), Option.map_some]
    rw [show (g * 65536 + h) / 65536 = g by omega, show (g * 65536 + h) % 65536 = h by omega]
    rfl
  simp only [foldOi, hs, Option.bind_some]
theorem search_some {p : Nat → Nat → Bool} : ∀ {l : List Nat} {b m : Nat}, searchBy p l = some (b, m) → m ∈ l ∧ p m b = true ∧ b < 9 - m
  | k :: r, b, m, h => by
    unfold searchBy at h
    split at h
    · rename_i b' hf
      cases h
      exact ⟨by simp, List.find?_some hf, List.mem_range.mp (List.mem_of_find?_eq_some hf)⟩
    · obtain ⟨h1, h2, h3⟩ := search_some h
      exact ⟨List.mem_cons_of_mem _ h1, h2, h3⟩
theorem nr_spec {gs : List Nat} (h : gs.length = 8) (hm : ¬ (nr gs).2 < 2) : pz gs (nr gs).2 (nr gs).1 = true ∧ (nr gs).1 + (nr gs).2 ≤ 8 := by
  match gs, h with
  | [a, b, c, d, e, f, g, i], _ =>
    have hp : pz [a, b, c, d, e, f, g, i] = pB (zs [a, b, c, d, e, f, g, i]) := by funext m k; exact pz_B _ _ _
    have hz : zs [a, b, c, d, e, f, g, i] = [decide (a = 0), decide (b = 0), decide (c = 0), decide (d = 0), decide (e = 0), decide (f = 0), decide (g = 0), decide (i = 0)] := rfl
    have hs := search_B (decide (a = 0)) (decide (b = 0)) (decide (c = 0)) (decide (d = 0)) (decide (e = 0)) (decide (f = 0)) (decide (g = 0)) (decide (i = 0))
    have hm' : ¬ (nrF 0 (0, 0, 0) [a, b, c, d, e, f, g, i]).2.1 < 2 := hm
    rw [← hz, ← nrF_B, ← hp, if_neg hm'] at hs
    obtain ⟨h1, h2, h3⟩ := search_some hs
    refine ⟨h2, ?_⟩
    have := nr_le [a, b, c, d, e, f, g, i]
    simpa using this
theorem ip6_back {gs : List Nat} (hlen : gs.length = 8) (hlt : ∀ g ∈ gs, g < 65536) : ip6Of (text6 gs) = some (num16 0 gs) := by
  unfold text6
  by_cases hm : (nr gs).2 < 2
  · rw [if_pos hm]
    unfold ip6Of
    rw [nd_split2 (join_nd (goodW_hex hlt)).1]
    dsimp only
    rw [side_hex hlt, Option.bind_some, if_pos hlen]
  · rw [if_neg hm]
    obtain ⟨hz, hle⟩ := nr_spec hlen hm
    generalize (nr gs).1 = b at *
    generalize (nr gs).2 = m at *
    have hz : (gs.take (b + m)).drop b = List.replicate m 0 := of_decide_eq_true hz
    have hgs : gs = gs.take b ++ List.replicate m 0 ++ gs.drop (b + m) := by
      rw [← hz, List.append_assoc, List.drop_take]
      rw [show b + m - b = m by omega]
      rw [← List.drop_drop, List.take_append_drop, List.take_append_drop]
    have hla : (gs.take b).length = b := by simp; omega
    have hlb : (gs.drop (b + m)).length = 8 - (b + m) := by simp; omega
    have hta : ∀ g ∈ gs.take b, g < 65536 := fun g hg => hlt g (List.mem_of_mem_take hg)
    have htb : ∀ g ∈ gs.drop (b + m), g < 65536 := fun g hg => hlt g (List.mem_of_mem_drop hg)
    have hend : (if 7 < (gs.take b).length + (gs.drop (b + m)).length then none else some (num16 0 (gs.take b ++ List.replicate (8 - (gs.take b).length - (gs.drop (b + m)).length) 0 ++ gs.drop (b + m)))) = some (num16 0 gs) := by
      rw [if_neg (by omega), hla, hlb, show 8 - b - (8 - (b + m)) = m by omega, ← hgs]
    have hfin : ∀ ws : List L, ws.take b = (gs.take b).map hexW → sideOf true (joinL [58] (ws.drop (b + m))) = some (gs.drop (b + m)) → GoodW' (ws.drop (b + m)) → ip6Of (txt ws b m) = some (num16 0 gs) := fun ws h1 h2 h3 => by
      have ha := join_nd (goodW_hex hta)
      have hsp : split2 (txt ws b m) = [joinL [58] ((gs.take b).map hexW), joinL [58] (ws.drop (b + m))] := by
        unfold txt
        rw [h1, List.append_assoc]
        show split2 (joinL [58] ((gs.take b).map hexW) ++ 58 :: 58 :: joinL [58] (ws.drop (b + m))) = _
        rw [nd_two _ ha.1 ha.2.2, nd_split2 (join_nd h3).1]
      unfold ip6Of
      rw [hsp]
      dsimp only
      rw [side_hex hta, h2, Option.bind_some, Option.bind_some, hend]
    cases hv : v4at gs b m with
    | false =>
      refine hfin _ (by rw [words_false, List.map_take]) ?_ ?_
      · rw [words_false, ← List.map_drop]; exact side_hex htb
      · rw [words_false, ← List.map_drop]; exact goodW_hex htb
    | true =>
      have hb0 : b = 0 ∧ m ≤ 6 := by
        unfold v4at at hv
        simp only [Bool.and_eq_true, Bool.or_eq_true, decide_eq_true_eq] at hv
        refine ⟨hv.1, ?_⟩
        rcases hv.2 with h | h <;> omega
      obtain ⟨rfl, hm6⟩ := hb0
      have hw : words6 gs true = (gs.take 6).map hexW ++ [text4 (gs.getD 6 0 * 65536 + gs.getD 7 0)] := by
        unfold words6; rw [if_pos rfl, List.map_take]
      have h6 : (gs.take 6).length = 6 := by simp; omega
      have hdrop : (words6 gs true).drop (0 + m) = ((gs.take 6).drop m).map hexW ++ [text4 (gs.getD 6 0 * 65536 + gs.getD 7 0)] := by
        rw [hw, Nat.zero_add, List.drop_append_of_le_length (by rw [List.length_map]; omega), List.map_drop]
      have h67 : gs.drop 6 = [gs.getD 6 0, gs.getD 7 0] := by
        have l6 : 6 < gs.length := by rw [hlen]; decide
        have l7 : 7 < gs.length := by rw [hlen]; decide
        rw [List.drop_eq_getElem_cons l6, List.drop_eq_getElem_cons l7, List.drop_eq_nil_of_le (Nat.le_of_eq hlen), List.getD, List.getD, List.getElem?_eq_getElem l6, List.getElem?_eq_getElem l7]; rfl
      have hgd : (gs.take 6).drop m ++ [gs.getD 6 0, gs.getD 7 0] = gs.drop (0 + m) := by
        rw [← h67, Nat.zero_add]
        conv => rhs; rw [← List.take_append_drop 6 gs, List.drop_append_of_le_length (by omega)]
      have hin : ∀ g ∈ (gs.take 6).drop m, g < 65536 := fun g hg => hlt g (List.mem_of_mem_take (List.mem_of_mem_drop hg))
      have hmem : ∀ k, k < 8 → gs.getD k 0 < 65536 := fun k hk => by
        simp only [List.getD, List.getElem?_eq_getElem (show k < gs.length by omega), Option.getD_some]
        exact hlt _ (List.getElem_mem _)
      refine hfin _ (by simp) ?_ ?_
      · rw [hdrop, side_v4 hin (hmem 6 (by decide)) (hmem 7 (by decide)), hgd]
      · rw [hdrop]
        intro w hw'
        rcases List.mem_append.mp hw' with hw' | hw'
        · exact goodW_hex hin w hw'
        · simp only [List.mem_singleton] at hw'
          subst hw'
          exact ⟨text4_mem.2.2, text4_mem.2.1⟩
theorem mam {n g : Nat} (h : g < 65536) : (n * 65536 + g) % 65536 = g := by rw [Nat.add_comm, Nat.add_mul_mod_self_right, Nat.mod_eq_of_lt h]
theorem mad {n g : Nat} (h : g < 65536) : (n * 65536 + g) / 65536 = n := by rw [Nat.add_comm, Nat.add_mul_div_right _ _ (by decide), Nat.div_eq_of_lt h, Nat.zero_add]
noncomputable def gsK : Nat → Nat → List Nat
  | 0, _ => []
  | k + 1, n => gsK k (n / 65536) ++ [n % 65536]
theorem gsK_num : ∀ (gs : List Nat) (j n : Nat), (∀ g ∈ gs, g < 65536) → gsK (j + gs.length) (num16 n gs) = gsK j n ++ gs
  | [], j, n, _ => (List.append_nil _).symm
  | g :: r, j, n, h => by
    have hg := h g List.mem_cons_self
    have ih := gsK_num r (j + 1) (n * 65536 + g) fun x hx => h x (List.mem_cons_of_mem _ hx)
    rw [Nat.add_assoc, Nat.add_comm 1] at ih
    refine ih.trans ?_
    rw [gsK, mam hg, mad hg, List.append_assoc]; rfl
theorem gsK_8 (n : Nat) : gsK 8 n = gs8 n := by
  simp only [gsK, Nat.div_div_eq_div_mul, List.nil_append, List.append_assoc]
  exact congrArg (fun z => [n / _ % 65536, n / _ % 65536, n / _ % 65536, n / _ % 65536, n / _ % 65536, n / _ % 65536, n / _ % 65536, z % 65536]) (Nat.div_one n).symm
theorem gs8_num {gs : List Nat} (hlen : gs.length = 8) (hlt : ∀ g ∈ gs, g < 65536) : gs8 (num16 0 gs) = gs := by
  rw [← gsK_8]
  have := gsK_num gs 0 0 hlt
  rw [hlen] at this
  exact this
end Mine
end
section
open PySem PySem.Calls
set_option maxRecDepth 100000
namespace Mine
noncomputable def tab27 : List L := [[58, 58], [58, 58, 58], [49, 58, 58], [58, 58, 49], [49, 58, 50, 58, 51, 58, 52, 58, 53, 58, 54, 58, 55, 58, 56], [49, 58, 50, 58, 51, 58, 52, 58, 53, 58, 54, 58, 55], [49, 58, 50, 58, 51, 58, 52, 58, 53, 58, 54, 58, 55, 58, 58], [58, 58, 50, 58, 51, 58, 52, 58, 53, 58, 54, 58, 55, 58, 56], [49, 58, 58, 51, 58, 52, 58, 53, 58, 54, 58, 55, 58, 56], [49, 58, 50, 58, 51, 58, 52, 58, 58, 53, 58, 54, 58, 55, 58, 56], [49, 58, 58, 50, 58, 58, 51], [58, 49, 58, 50, 58, 51, 58, 52, 58, 53, 58, 54, 58, 55], [49, 58, 50, 58, 51, 58, 52, 58, 53, 58, 54, 58, 55, 58], [58, 49, 58, 58, 50], [49, 58, 58, 50, 58], [58, 58, 102, 102, 102, 102, 58, 49, 46, 50, 46, 51, 46, 52], [49, 58, 50, 58, 51, 58, 52, 58, 53, 58, 54, 58, 49, 46, 50, 46, 51, 46, 52], [49, 58, 50, 58, 51, 58, 52, 58, 53, 58, 54, 58, 55, 58, 49, 46, 50, 46, 51, 46, 52], [49, 58, 50, 58, 51, 58, 52, 58, 53, 58, 58, 49, 46, 50, 46, 51, 46, 52], [49, 58, 50, 58, 51, 58, 52, 58, 53, 58, 54, 58, 58, 49, 46, 50, 46, 51, 46, 52], [58, 58, 49, 46, 50, 46, 51, 46, 52, 58, 53], [49, 46, 50, 46, 51, 46, 52, 58, 58], [49, 46, 50, 46, 51, 46, 52], [58, 58, 49, 46, 50, 46, 51], [58, 58, 49, 46, 50, 46, 51, 46, 50, 53, 54], [58, 58, 48, 49, 46, 50, 46, 51, 46, 52], [49, 50, 51, 52, 53, 58, 58], [58, 58, 103], [58, 58, 65, 66, 67, 68, 58, 101, 102, 48, 49], [58, 58, 48, 48, 48, 49], [58, 58, 48, 48, 48, 48, 49], [58], [49], [58, 58, 49, 47, 54, 52], [58, 58, 49, 46, 50, 46, 51, 46, 52, 46, 53], [49, 58, 50, 58, 51, 58, 52, 58, 53, 58, 54, 58, 55, 58, 56, 58, 57], [49, 58, 50, 58, 51, 58, 52, 58, 53, 58, 54, 58, 55, 58, 56, 58, 58, 57, 58, 58], [49, 58, 58, 58, 50], [58, 58, 48, 120, 49], []]
theorem x27 (Φ : Nat → List PV → Option PV) : run Φ 1 bLawEdges6 [] = some (.list (tab27.map .str)) := by kernel_rfl
theorem tab27_ok : tab27.length = 40 ∧ ∀ w ∈ tab27, w.length ≤ 100 ∧ short w = true := by decide +kernel
noncomputable def tab28 : List L := [[49, 46, 50, 46, 51, 46, 52], [48, 46, 48, 46, 48, 46, 48], [50, 53, 53, 46, 50, 53, 53, 46, 50, 53, 53, 46, 50, 53, 53], [50, 53, 54, 46, 48, 46, 48, 46, 49], [49, 46, 50, 46, 51], [49, 46, 50, 46, 51, 46, 52, 46, 53], [48, 49, 46, 50, 46, 51, 46, 52], [49, 46, 46, 51, 46, 52], [49, 46, 50, 46, 51, 46], [49, 46, 50, 46, 51, 46, 52, 120], [49, 48, 48, 48, 46, 48, 46, 48, 46, 49], [97, 46, 98, 46, 99, 46, 100], [48, 48, 46, 48, 46, 48, 46, 48], [49, 46, 50, 46, 51, 46, 45, 52], [49, 46, 50, 46, 51, 46, 43, 52], [49, 44, 50, 44, 51, 44, 52], [50, 52, 57, 46, 57, 57, 46, 49, 48, 48, 46, 49, 48], [46, 49, 46, 50, 46, 51], [49, 46, 50, 46, 51, 46, 52, 32], []]
theorem x28 (Φ : Nat → List PV → Option PV) : run Φ 1 bLawEdges4 [] = some (.list (tab28.map .str)) := by kernel_rfl
theorem tab28_ok : tab28.length = 20 ∧ ∀ w ∈ tab28, w.length ≤ 100 ∧ short w = true := by decide +kernel
noncomputable def tab29 : List L := [[47, 48], [47, 51, 50], [47, 50, 52], [47, 56], [47, 49], [47, 51, 49], [47, 51, 51], [47, 54, 52], [47, 49, 50, 55], [47, 49, 50, 56], [47, 49, 50, 57], [47], [47, 48, 56], [47, 45, 49], [47, 49, 47, 50], [], [47, 32, 56], [47, 50, 53, 54]]
theorem x29 (Φ : Nat → List PV → Option PV) : run Φ 1 bLawLengths [] = some (.list (tab29.map .str)) := by kernel_rfl
theorem tab29_ok : tab29.length = 18 ∧ ∀ w ∈ tab29, w.length ≤ 100 ∧ short w = true := by decide +kernel
noncomputable def tab30 : List L := [[48, 58, 49, 58, 50, 58, 51, 58, 52, 58, 53], [48, 48, 58, 49, 98, 58, 50, 67, 58, 102, 70, 58, 65, 48, 58, 57, 97], [48, 58, 49, 58, 50, 58, 51, 58, 52], [48, 58, 49, 58, 50, 58, 51, 58, 52, 58, 53, 58, 54], [48, 58, 49, 58, 50, 58, 51, 58, 52, 58, 49, 48, 48], [48, 58, 49, 58, 50, 58, 51, 58, 52, 58], [48, 58, 49, 58, 50, 58, 51, 58, 52, 58, 103], [48, 48, 49, 58, 50, 58, 51, 58, 52, 58, 53, 58, 54], [], [48, 45, 49, 45, 50, 45, 51, 45, 52, 45, 53], [97, 58, 66, 58, 99, 58, 68, 58, 101, 58, 70], [58, 49, 58, 50, 58, 51, 58, 52, 58, 53]]
theorem x30 (Φ : Nat → List PV → Option PV) : run Φ 1 bLawEdgesmac [] = some (.list (tab30.map .str)) := by kernel_rfl
theorem tab30_ok : tab30.length = 12 ∧ ∀ w ∈ tab30, w.length ≤ 100 ∧ short w = true := by decide +kernel
end Mine
end
section
open PySem PySem.Calls
set_option maxRecDepth 100000
namespace Mine
theorem b_modI (n : Int) (b : Nat) (h : 0 < b) : ∃ i : Nat, i < b ∧ binop .Mod (.a (.int n)) (.a (.int (b : Int))) = some (.a (.int (i : Int))) := by
  have h1 := Int.emod_nonneg n (show (b : Int) ≠ 0 by omega)
  have h2 := Int.emod_lt_of_pos n (show (0 : Int) < b by omega)
  refine ⟨(n % (b : Int)).toNat, by omega, ?_⟩
  rw [b_mod _ _ (by omega), Int.toNat_of_nonneg h1]
theorem idx_strs {ws : List L} {i : Nat} (h : i < ws.length) : ∃ w ∈ ws, index (.list (ws.map .str)) (.a (.int (i : Int))) = some (.a (.str w)) := by
  refine ⟨ws[i], List.getElem_mem _, ?_⟩
  rw [i_list _ _ (by omega), Int.toNat_natCast, List.getElem?_map, List.getElem?_eq_getElem h]; rfl
theorem forGo_range {n : Nat} {R : Nat → Store → Prop} {body : At → Store → Option (Fl × Store)} (h : ∀ p ρ, p < n → R p ρ → ∃ ρ', body (.int (p : Int)) ρ = some (.next, ρ') ∧ R (p + 1) ρ') :
    ∀ ρ, R 0 ρ → ∃ ρ', forGo body ((List.range n).map fun k : Nat => .int (k : Int)) ρ = some (.next, ρ') ∧ R n ρ' := by
  have gen : ∀ m s ρ, s + m = n → R s ρ → ∃ ρ', forGo body ((List.range' s m).map fun k : Nat => .int (k : Int)) ρ = some (.next, ρ') ∧ R n ρ' := by
    intro m
    induction m with
    | zero => intro s ρ e r; exact ⟨ρ, rfl, by rw [← e]; exact r⟩
    | succ m ih =>
      intro s ρ e r
      obtain ⟨ρ', h1, h2⟩ := h s ρ (by omega) r
      obtain ⟨ρ'', h3, h4⟩ := ih (s + 1) ρ' (by omega) h2
      refine ⟨ρ'', ?_, h4⟩
      rw [List.range'_succ, List.map_cons, forGo, h1, Option.bind_some]
      exact h3
  intro ρ r
  rw [List.range_eq_range']
  exact gen n 0 ρ (by omega) r
theorem forGo_each {α : Type} {enc : α → At} {R : Store → Prop} {body : At → Store → Option (Fl × Store)} : ∀ (items : List α), (∀ ρ a, a ∈ items → R ρ → ∃ ρ', body (enc a) ρ = some (.next, ρ') ∧ R ρ') → ∀ ρ, R ρ → ∃ ρ', forGo body (items.map enc) ρ = some (.next, ρ') ∧ R ρ'
  | [], _, ρ, r => ⟨ρ, rfl, r⟩
  | a :: q, h, ρ, r => by
    obtain ⟨ρ1, h1, r1⟩ := h ρ a List.mem_cons_self r
    obtain ⟨ρ2, h2, r2⟩ := forGo_each q (fun ρ b hb => h ρ b (List.mem_cons_of_mem _ hb)) ρ1 r1
    exact ⟨ρ2, by rw [List.map_cons, forGo, h1]; exact h2, r2⟩
noncomputable def Asc (l : L) : Prop := ∀ c ∈ l, c < 128
theorem asc_app {a b : L} (h : Asc a) (k : Asc b) : Asc (a ++ b) := fun c hc => (List.mem_append.mp hc).elim (h c) (k c)
theorem asc_short {l : L} (h : Asc l) (hl : l.length ≤ 1000) : short l = true := short_iff.mpr ⟨hl, h⟩
theorem catS {a b : L} (h : a.length + b.length ≤ 1000) : binop .Add (.a (.str a)) (.a (.str b)) = some (.a (.str (a ++ b))) := b_cat a b (by rw [sizeLine_eq]; omega)
noncomputable def signs : List L := [[], [58], [46], [48], [70], [53], [120]]
theorem signs_ok : signs.length = 7 ∧ ∀ w ∈ signs, w.length ≤ 1 ∧ ∀ c ∈ w, c < 128 := by decide +kernel
theorem x26_end {tk : Bool} {Φ : Nat → List PV → Option PV} {l w : L} {o : Option PV} {p k : Nat} (hl : l.length ≤ 900) (hw : w.length ≤ 1) :
    exK tk Φ (.seq (.ret (.bin .Add (.bin .Add (.slice (.var 0) .none (.var 3)) (.var 2)) (.slice (.var 0) (.bin .Add (.var 3) (.var 4)) .none))) .nil) [some (S1 l), o, some (S1 w), some (I1 p), some (I1 k)] (fun _ => none) (fun v _ => some v) = some (S1 (l.take p ++ w ++ l.drop (p + k))) := by
  have lk : ∀ n, n ≤ 1801 → n ≤ sizeLine := fun n h => by rw [sizeLine_eq]; omega
  have h1 : (l.take p).length ≤ 900 := Nat.le_trans (List.length_take_le' p l) hl
  have h2 : (l.drop (p + k)).length ≤ 900 := by rw [List.length_drop]; exact Nat.le_trans (Nat.sub_le _ _) hl
  have s1 : sliceV (S1 l) none (some (p : Int)) = some (S1 (l.take p)) := congrArg (fun z => some (S1 z)) (slice_take l p)
  have s2 : sliceV (S1 l) (some ((p : Int) + (k : Int))) none = some (S1 (l.drop (p + k))) := congrArg (fun z => some (S1 z)) (slice_drop l (p + k))
  exact (k_b s1) ((k_g (lk _ (by omega))) ((k_b s2) ((k_g (lk _ (by rw [List.length_append]; omega))) rfl)))
theorem x26_ok {l w : L} {p k : Nat} (ha : Asc l) (hw : w.length ≤ 1) (hw2 : Asc w) : (l.take p ++ w ++ l.drop (p + k)).length ≤ l.length + 1 ∧ Asc (l.take p ++ w ++ l.drop (p + k)) :=
  ⟨by simp; omega, asc_app (asc_app (fun c hc => ha c (List.mem_of_mem_take hc)) hw2) fun c hc => ha c (List.mem_of_mem_drop hc)⟩
theorem x26 (Φ : Nat → List PV → Option PV) (l : L) (n : Int) (hl : l.length ≤ 900) (ha : Asc l) : ∃ t, run Φ 5 bLawChanged [S1 l, .a (.int n)] = some (S1 t) ∧ t.length ≤ l.length + 1 ∧ Asc t := by
  obtain ⟨i, hi, m7⟩ := b_modI n 7 (by decide)
  obtain ⟨w, hw, hidx⟩ := idx_strs (ws := signs) (i := i) (by rw [signs_ok.1]; exact hi)
  obtain ⟨hw1, hw2⟩ := signs_ok.2 w hw
  obtain ⟨p, hp, mp⟩ := b_modI (n / 7) (l.length + 1) (Nat.succ_pos _)
  obtain ⟨q, hq, m2⟩ := b_modI (n / 7 / ((l.length + 1 : Nat) : Int)) 2 (by decide)
  by_cases h : w = []
  · exact ⟨_, run_K rfl fun _ => ((k_b (x := PV.list (signs.map .str)) (by rfl)) ((k_b m7) ((k_b hidx) ((k_b (b_div n 7 (by decide) (by decide))) ((k_b mp) ((d_t h) (x26_end (k := 1) hl hw1))))))), x26_ok ha hw1 hw2⟩
  · have dl : binop .FloorDiv (.a (.int (n / 7))) (.a (.int ((l.length + 1 : Nat) : Int))) = some (.a (.int (n / 7 / ((l.length + 1 : Nat) : Int)))) := b_div _ _ (by omega) (by omega)
    exact ⟨_, run_K rfl fun _ => ((k_b (x := PV.list (signs.map .str)) (by rfl)) ((k_b m7) ((k_b hidx) ((k_b (b_div n 7 (by decide) (by decide))) ((k_b mp) ((d_f h) ((k_b (b_div n 7 (by decide) (by decide))) ((k_b dl) ((k_b m2) (x26_end (k := q) hl hw1)))))))))), x26_ok ha hw1 hw2⟩
end Mine
end
section
open PySem PySem.Calls
set_option maxRecDepth 100000
namespace Mine
noncomputable def shpA : L := [120, 48, 48, 120, 120, 48, 48, 120, 32, 48, 48, 48, 48, 48, 48, 120, 120, 32, 48, 48, 48, 48, 48, 102, 120, 120, 32, 120, 48, 120, 120, 120, 120, 120, 120, 32, 120, 120, 120, 120, 120, 120, 120, 120, 32, 48, 48, 48, 48, 48, 120, 120, 120, 32, 48, 48, 48, 48, 48, 48, 48, 120, 32, 48, 48, 48, 48, 48, 48, 48, 48, 32, 120, 48, 48, 48, 48, 48, 48, 120, 32, 120, 120, 48, 48, 48, 48, 48, 48, 32, 48, 48, 48, 120, 120, 48, 48, 48]
noncomputable def shpB : L := [32, 48, 120, 120, 120, 120, 120, 120, 48, 32, 48, 48, 120, 48, 48, 48, 120, 48, 32, 120, 48, 120, 48, 120, 48, 120, 48, 32, 48, 48, 48, 48, 48, 102, 48, 48, 32, 48, 48, 48, 48, 48, 48, 120, 48, 32, 120, 120, 120, 120, 120, 120, 48, 48, 32, 48, 48, 120, 120, 120, 120, 48, 48]
noncomputable def shp : List L := splitC 32 (shpA ++ shpB)
theorem shp_ok : shp.length = 18 ∧ ∀ w ∈ shp, w.length = 8 ∧ ∀ c ∈ w, c = 48 ∨ c = 102 ∨ c = 120 := by decide +kernel
noncomputable def marks : List Nat := [8193, 3512, 1, 65535, 160, 4096, 15, 16]
theorem marks_ok : marks.length = 8 ∧ ∀ m ∈ marks, m < 65536 := by decide +kernel
theorem b_powS {a k : Nat} (h : k ≤ 8) (h' : a ≤ 65536) : binop .Pow (.a (.int (a : Int))) (.a (.int (k : Int))) = some (.a (.int ((a ^ k : Nat) : Int))) := b_powN a k (by omega) (by omega)
theorem pow_bd {a k : Nat} (h : k ≤ 8) (h' : a ≤ 65536) (h0 : 0 < a) : 0 < a ^ k ∧ a ^ k < 2 ^ 200 :=
  ⟨Nat.pow_pos h0, Nat.lt_of_le_of_lt (Nat.le_trans (Nat.pow_le_pow_left h' k) (Nat.pow_le_pow_right (by decide) h)) (by decide)⟩
theorem b_divI (n : Int) (b : Nat) (h : 0 < b) (h' : b < 2 ^ 200) : ∃ q : Int, binop .FloorDiv (.a (.int n)) (.a (.int (b : Int))) = some (.a (.int q)) := ⟨_, b_div n b (by omega) (by omega)⟩
theorem marks_get {i : Nat} (h : i < 8) : index (.list (nL marks)) (I1 i) = some (I1 (marks.getD i 0)) ∧ marks.getD i 0 < 65536 := by
  have hlt : i < marks.length := marks_ok.1.symm ▸ h
  refine ⟨nL_get marks i hlt, ?_⟩
  rw [List.getD, List.getElem?_eq_getElem hlt]
  exact marks_ok.2 _ (List.getElem_mem _)
noncomputable def LG (sh : L) (rest : Int) (a b c : Option PV) (p : Nat) (ρ : Store) : Prop := ∃ (gs : List Nat) (o7 o8 o9 : Option PV), ρ = [a, b, c, some (S1 sh), some (.a (.int rest)), some (.list (nL marks)), some (.list (nL gs)), o7, o8, o9] ∧ gs.length = p ∧ ∀ g ∈ gs, g < 65536
theorem lg_end {tk : Bool} {Φ : Nat → List PV → Option PV} {o0 o1 o2 : Option PV} {sh : L} {rest v : Int} (hs : sh.length = 8 ∧ ∀ c ∈ sh, c = 48 ∨ c = 102 ∨ c = 120) {gs : List Nat} {p dr : Nat} (hp : p < 8) (hg : gs.length = p) (hlt : ∀ g ∈ gs, g < 65536) (hd : dr < 65536) :
    Yes (LG sh rest o0 o1 o2 (p + 1)) (exK tk Φ (.seq (.append 6 (.dictIdx [[48], [102], [120]] (.cons (.int 0) (.cons (.int 65535) (.cons (.var 9) .nil))) (.idx (.var 3) (.var 7)))) .nil) [o0, o1, o2, some (S1 sh), some (.a (.int rest)), some (.list (nL marks)), some (.list (nL gs)), some (I1 p), some (.a (.int v)), some (I1 dr)] some (fun _ _ => none)) := by
  have hpl : p < sh.length := hs.1.symm ▸ hp
  have hi : index (S1 sh) (I1 p) = some (S1 [sh[p]]) := (i_str _ _ (Int.natCast_nonneg p)).trans (by rw [Int.toNat_natCast, List.getElem?_eq_getElem hpl]; rfl)
  have hgo : ∀ g : Nat, g < 65536 → dictGet [[48], [102], [120]] [.int 0, .int 65535, .int (dr : Int)] [sh[p]] = some (.int (g : Int)) → Yes (LG sh rest o0 o1 o2 (p + 1)) (exK tk Φ (.seq (.append 6 (.dictIdx [[48], [102], [120]] (.cons (.int 0) (.cons (.int 65535) (.cons (.var 9) .nil))) (.idx (.var 3) (.var 7)))) .nil) [o0, o1, o2, some (S1 sh), some (.a (.int rest)), some (.list (nL marks)), some (.list (nL gs)), some (I1 p), some (.a (.int v)), some (I1 dr)] some (fun _ _ => none)) := fun g hg65 hd => by
    have he : ev Φ (.dictIdx [[48], [102], [120]] (.cons (.int 0) (.cons (.int 65535) (.cons (.var 9) .nil))) (.idx (.var 3) (.var 7))) [o0, o1, o2, some (S1 sh), some (.a (.int rest)), some (.list (nL marks)), some (.list (nL gs)), some (I1 p), some (.a (.int v)), some (I1 dr)] = some (I1 g) := by
      show (index (S1 sh) (I1 p)).bind (fun k => (pStr k).bind fun l => (dictGet [[48], [102], [120]] [.int 0, .int 65535, .int (dr : Int)] l).map PV.a) = _
      rw [hi]
      show (dictGet [[48], [102], [120]] [.int 0, .int 65535, .int (dr : Int)] [sh[p]]).map PV.a = _
      rw [hd]; rfl
    have hl : (nL gs).length < sizeLine := by rw [nL_len, hg, sizeLine_eq]; exact Nat.lt_trans hp (by decide)
    refine (y_b he) ((y_t hl) (y_e ?_))
    refine ⟨gs ++ [g], some (I1 p), some (.a (.int v)), some (I1 dr), ?_, ?_, fun x hx => ?_⟩
    · rw [nL_app]; rfl
    · rw [List.length_append, hg]; rfl
    · rcases List.mem_append.mp hx with hx | hx
      · exact hlt x hx
      · exact List.mem_singleton.mp hx ▸ hg65
  rcases hs.2 sh[p] (List.getElem_mem _) with e | e | e
  · exact hgo 0 (by decide) (by rw [e]; rfl)
  · exact hgo 65535 (by decide) (by rw [e]; rfl)
  · exact hgo dr hd (by rw [e]; rfl)
theorem lg_step {Φ : Nat → List PV → Option PV} {o0 o1 o2 : Option PV} {sh : L} {rest : Int} (hs : sh.length = 8 ∧ ∀ c ∈ sh, c = 48 ∨ c = 102 ∨ c = 120) {p : Nat} {ρ : Store} (hp : p < 8) (h : LG sh rest o0 o1 o2 p ρ) :
    ∃ ρ', ex Φ lLawGroups1 (set ρ 7 (I1 p)) = some (.next, ρ') ∧ LG sh rest o0 o1 o2 (p + 1) ρ' := by
  obtain ⟨gs, o7, o8, o9, rfl, hg, hlt⟩ := h
  obtain ⟨p7, p7'⟩ := pow_bd (a := 7) (k := p) (Nat.le_of_lt hp) (by decide) (by decide)
  obtain ⟨p6, p6'⟩ := pow_bd (a := 65536) (k := p) (Nat.le_of_lt hp) (by decide) (by decide)
  have w7 := b_powS (a := 7) (Nat.le_of_lt hp) (by decide)
  have w6 := b_powS (a := 65536) (Nat.le_of_lt hp) (by decide)
  obtain ⟨q7, d7⟩ := b_divI rest (7 ^ p) p7 p7'
  obtain ⟨q6, d6⟩ := b_divI rest (65536 ^ p) p6 p6'
  obtain ⟨i16, _, m16⟩ := b_modI (q7 + (p : Int)) 16 (by decide)
  obtain ⟨i8, hi8, m8⟩ := b_modI (q7 + (p : Int)) 8 (by decide)
  obtain ⟨i5, hi5, m5⟩ := b_modI q6 65535 (by decide)
  obtain ⟨hidx, hmk⟩ := marks_get hi8
  refine ex_Y rfl fun _ => ((y_b w7) ((y_b d7) ((y_b m16) (y_if (fun _ => ?_) (fun _ => ?_)))))
  · exact (y_b m8) ((y_b hidx) (lg_end hs hp hg hlt hmk))
  · exact (y_b w6) ((y_b d6) ((y_b m5) (lg_end (dr := 1 + i5) hs hp hg hlt (Nat.add_comm _ _ ▸ Nat.succ_lt_succ hi5))))
theorem x24 (Φ : Nat → List PV → Option PV) (n : Int) (k : Nat) : ∃ gs : List Nat, run Φ 10 bLawGroups [.a (.int n), I1 k] = some (.list (nL gs)) ∧ gs.length = 8 ∧ ∀ g ∈ gs, g < 65536 := by
  have hcat : shpA.length + shpB.length ≤ sizeLine := by rw [sizeLine_eq]; decide
  have hsp : me .split (S1 (shpA ++ shpB)) [S1 [32]] = some (.list (shp.map .str)) := m_split _ 32 (by decide) (by decide)
  obtain ⟨i, hi, m18⟩ := b_modI (n + (k : Int)) 18 (by decide)
  obtain ⟨sh, hsh, hidx⟩ := idx_strs (ws := shp) (i := i) (by rw [shp_ok.1]; exact hi)
  have h : Yes (fun v => ∃ gs : List Nat, v = .list (nL gs) ∧ gs.length = 8 ∧ ∀ g ∈ gs, g < 65536) (run Φ 10 bLawGroups [.a (.int n), I1 k]) := by
    refine run_Y rfl fun _ => ((y_g hcat) ((y_b hsp) ((y_b m18) ((y_b hidx) ((y_b (b_div n 18 (by decide) (by decide))) ((y_b (x := PV.list (nL marks)) (by rfl)) ((y_b (x := PV.list []) (by rfl)) (y_for (vs := [I1 8]) rfl rfl (it_range 8 (by decide)) (forGo_range (n := 8) (R := LG sh (n / 18) (some (.a (.int n))) (some (I1 k)) (some (S1 shpA))) (fun p ρ hp h => lg_step (shp_ok.2 sh hsh) hp h) _ ⟨[], none, none, none, rfl, rfl, nofun⟩) ?_))))))))
    rintro ρ' ⟨gs, o7, o8, o9, rfl, h8, hlt⟩
    exact ⟨_, rfl, gs, rfl, h8, hlt⟩
  obtain ⟨_, e, gs, rfl, h⟩ := h
  exact ⟨gs, e, h⟩
noncomputable def bWords : List L := [[48], [49], [97, 48], [70, 70, 70, 70], [100, 66, 56], [48, 48, 48, 48], [69, 102, 49], [57]]
noncomputable def bTails : List L := [[], [], [49, 46, 50, 46, 51, 46, 52], [49, 57, 57, 46, 50, 53, 53, 46, 48, 46, 50, 53, 48], [49, 50, 51, 52, 53], [49, 46, 50, 46, 51, 46, 50, 53, 54], [103], []]
theorem bWords_ok : bWords.length = 8 ∧ ∀ w ∈ bWords, w.length ≤ 4 ∧ ∀ c ∈ w, c < 128 := by decide +kernel
theorem bTails_ok : bTails.length = 8 ∧ ∀ w ∈ bTails, w.length ≤ 20 ∧ ∀ c ∈ w, c < 128 := by decide +kernel
theorem asc_58 : Asc [58] := by unfold Asc; simp
theorem asc_5858 : Asc [58, 58] := by unfold Asc; simp
noncomputable def LB (n : Option PV) (tl : L) (gap many : Nat) (rest : Int) (p : Nat) (ρ : Store) : Prop := ∃ (t : L) (o7 : Option PV), ρ = [n, some (.list (bWords.map .str)), some (S1 tl), some (I1 gap), some (I1 many), some (.a (.int rest)), some (S1 t), o7] ∧ t.length ≤ 6 * p ∧ Asc t
theorem lsz {n : Nat} (h : n ≤ 1000) : n ≤ sizeLine := by rw [sizeLine_eq]; exact Nat.le_trans h (by decide)
theorem lb_step {Φ : Nat → List PV → Option PV} {o0 : Option PV} {tl : L} {gap many p : Nat} {rest : Int} {ρ : Store} (hp : p < 9) (h : LB o0 tl gap many rest p ρ) : ∃ ρ', ex Φ lLawBuilt1 (set ρ 7 (I1 p)) = some (.next, ρ') ∧ LB o0 tl gap many rest (p + 1) ρ' := by
  obtain ⟨t, o7, rfl, ht, ha⟩ := h
  obtain ⟨p8, p8'⟩ := pow_bd (a := 8) (k := p) (Nat.le_of_lt_succ hp) (by decide) (by decide)
  have w8 := b_powS (a := 8) (Nat.le_of_lt_succ hp) (by decide)
  obtain ⟨q8, d8⟩ := b_divI rest (8 ^ p) p8 p8'
  obtain ⟨i, hi, m8⟩ := b_modI (q8 + (p : Int)) 8 (by decide)
  obtain ⟨w, hw, hidx⟩ := idx_strs (ws := bWords) (i := i) (by rw [bWords_ok.1]; exact hi)
  obtain ⟨hw1, hw2⟩ := bWords_ok.2 w hw
  have hmid : ∀ (tk : Bool) (t1 : L), t1.length ≤ 6 * p + 2 → Asc t1 → Yes (LB o0 tl gap many rest (p + 1)) (exK tk Φ (.seq (.assign 6 (.bin .Add (.var 6) (.idx (.var 1) (.bin .Mod (.bin .Add (.bin .FloorDiv (.var 5) (.bin .Pow (.int 8) (.var 7))) (.var 7)) (.int 8))))) .nil) [o0, some (.list (bWords.map .str)), some (S1 tl), some (I1 gap), some (I1 many), some (.a (.int rest)), some (S1 t1), some (I1 p)] some (fun _ _ => none)) := fun tk t1 h1 h2 =>
    (y_b w8) ((y_b d8) ((y_b m8) ((y_b hidx) ((y_g (lsz (by omega))) (y_e ⟨t1 ++ w, _, rfl, by rw [List.length_append]; omega, asc_app h2 hw2⟩)))))
  have hcat : ∀ q : L, q.length ≤ 2 → (t ++ q).length ≤ 6 * p + 2 := fun q hq => by rw [List.length_append]; exact Nat.add_le_add ht hq
  refine ex_Y rfl fun tk => (y_if (fun _ => ?_) (fun _ => (y_if (fun _ => ?_) (fun _ => ?_))))
  · exact (y_g (lsz (Nat.le_trans (Nat.add_le_add_right ht 2) (by omega)))) (hmid tk (t ++ [58, 58]) (hcat _ (by decide)) (asc_app ha asc_5858))
  · exact (y_g (lsz (Nat.le_trans (Nat.add_le_add_right ht 1) (by omega)))) (hmid tk (t ++ [58]) (hcat _ (by decide)) (asc_app ha asc_58))
  · exact hmid tk t (Nat.le_add_right_of_le ht) ha
theorem lb_end {tk : Bool} {Φ : Nat → List PV → Option PV} {o0 o1 o3 o4 o5 o7 : Option PV} {tl t : L} (ht1 : tl.length ≤ 20) (ht2 : Asc tl) (h : t.length ≤ 100) (ha : Asc t) :
    Yes (fun v => ∃ t, v = S1 t ∧ t.length ≤ 200 ∧ Asc t) (exK tk Φ (.seq (.ite (.boolE true (.cons (.cmp .NotEq (.var 2) (.str [])) (.cons (.cmp .NotEq (.var 6) (.str [])) (.cons (.cmp .NotEq (.slice (.var 6) (.int (-1)) .none) (.str [58])) .nil)))) (.seq (.assign 6 (.bin .Add (.var 6) (.str [58])))
      .nil) .nil)
      (.seq (.ret (.bin .Add (.var 6) (.var 2)))
      .nil)) [o0, o1, some (S1 tl), o3, o4, o5, some (S1 t), o7] (fun _ => none) (fun v _ => some v)) := by
  have hfin : ∀ (tk : Bool) (t2 : L), t2.length ≤ 101 → Asc t2 → Yes (fun v => ∃ t, v = S1 t ∧ t.length ≤ 200 ∧ Asc t) (exK tk Φ (.seq (.ret (.bin .Add (.var 6) (.var 2))) .nil) [o0, o1, some (S1 tl), o3, o4, o5, some (S1 t2), o7] (fun _ => none) (fun v _ => some v)) := fun tk t2 h1 h2 =>
    (y_g (lsz (by omega))) (y_e ⟨t2 ++ tl, rfl, by rw [List.length_append]; omega, asc_app h2 ht2⟩)
  have hno := fun tk => hfin tk t (Nat.le_succ_of_le h) ha
  refine y_if (fun _ => (y_if (fun _ => ((y_b (x := S1 (pySlice t (some (-1)) none)) (by rfl)) (y_if (fun _ => ?_) (fun _ => hno tk)))) (fun _ => hno tk))) (fun _ => hno tk)
  exact (y_g (lsz (Nat.le_trans (Nat.add_le_add_right h 1) (by decide)))) (hfin tk (t ++ [58]) (by rw [List.length_append]; exact Nat.succ_le_succ h) (asc_app ha asc_58))
theorem x25 (Φ : Nat → List PV → Option PV) (n : Int) : ∃ t, run Φ 8 bLawBuilt [.a (.int n)] = some (S1 t) ∧ t.length ≤ 200 ∧ Asc t := by
  obtain ⟨i, hi, m8⟩ := b_modI (n / 90) 8 (by decide)
  obtain ⟨gap, hgap, m10⟩ := b_modI n 10 (by decide)
  obtain ⟨many, hmany, m9⟩ := b_modI (n / 10) 9 (by decide)
  obtain ⟨tl, htl, hidx⟩ := idx_strs (ws := bTails) (i := i) (by rw [bTails_ok.1]; exact hi)
  obtain ⟨ht1, ht2⟩ := bTails_ok.2 tl htl
  have h : Yes (fun v => ∃ t, v = S1 t ∧ t.length ≤ 200 ∧ Asc t) (run Φ 8 bLawBuilt [.a (.int n)]) := by
    refine run_Y rfl fun tk => ((y_b (x := PV.list (bWords.map .str)) (by rfl)) ((y_b (x := PV.list (bTails.map .str)) (by rfl)) ((y_b (b_div n 90 (by decide) (by decide))) ((y_b m8) ((y_b hidx) ((y_b m10) ((y_b (b_div n 10 (by decide) (by decide))) ((y_b m9) ((y_b (b_div n 720 (by decide) (by decide))) (y_for (vs := [I1 many]) rfl rfl (it_range many (Nat.lt_trans hmany (by decide))) (forGo_range (n := many) (R := LB (some (.a (.int n))) tl gap many (n / 720)) (fun p ρ hp h => lb_step (Nat.lt_trans hp hmany) h) _ ⟨[], none, rfl, Nat.zero_le _, nofun⟩) ?_))))))))))
    rintro ρ' ⟨t, o7, rfl, hl, ha⟩
    have hl : t.length ≤ 50 := by omega
    refine y_if (fun _ => ((y_g (lsz (Nat.le_trans (Nat.add_le_add_right hl 2) (by decide)))) ?_)) (fun _ => lb_end ht1 ht2 (Nat.le_trans hl (by decide)) ha)
    exact lb_end (t := t ++ [58, 58]) ht1 ht2 (by rw [List.length_append]; exact Nat.le_trans (Nat.add_le_add_right hl 2) (by decide)) (asc_app ha asc_5858)
  obtain ⟨_, e, t, rfl, h⟩ := h
  exact ⟨t, e, h⟩
end Mine
end
section
open PySem PySem.Calls
set_option maxRecDepth 100000
namespace Mine
theorem asc_join {sep : L} (hs : Asc sep) : ∀ {ws : List L}, (∀ w ∈ ws, Asc w) → Asc (joinL sep ws)
  | [], _ => fun c hc => by cases hc
  | [w], h => h w (by simp)
  | w :: v :: r, h => asc_app (h w (by simp)) (asc_app hs (asc_join (ws := v :: r) hs fun u hu => h u (List.mem_cons_of_mem _ hu)))
theorem dg_lt : ∀ k, k < 16 → dg k < 128 := by decide +kernel
theorem asc_hexW {g : Nat} (h : g < 65536) : Asc (hexW g) := fun c hc => by
  obtain ⟨k, hk, rfl⟩ := hexW_mem h hc
  exact dg_lt k hk
theorem asc_dec {k : Nat} (h : k < 1000) : Asc (dec k) := fun c hc => by
  refine Classical.byContradiction fun hn => dec_not (k := k) (c := c) h (.inr (by omega)) hc
theorem asc_text4 (n : Nat) : Asc (text4 n) := by
  unfold text4
  refine asc_join (by unfold Asc; simp) fun w hw => ?_
  simp only [oct4, List.map_cons, List.map_nil, List.mem_cons, List.not_mem_nil, or_false] at hw
  rcases hw with rfl | rfl | rfl | rfl <;> exact asc_dec (by omega)
theorem asc_words6 {gs : List Nat} (hlt : ∀ g ∈ gs, g < 65536) (v : Bool) : ∀ w ∈ words6 gs v, Asc w := by
  intro w hw
  unfold words6 at hw
  split at hw
  · rcases List.mem_append.mp hw with hw | hw
    · obtain ⟨g, hg, rfl⟩ := List.mem_map.mp (List.mem_of_mem_take hw)
      exact asc_hexW (hlt g hg)
    · simp only [List.mem_singleton] at hw
      subst hw; exact asc_text4 _
  · obtain ⟨g, hg, rfl⟩ := List.mem_map.mp hw
    exact asc_hexW (hlt g hg)
theorem text6_asc {gs : List Nat} (hlen : gs.length = 8) (hlt : ∀ g ∈ gs, g < 65536) : Asc (text6 gs) ∧ (text6 gs).length ≤ 500 := by
  unfold text6
  split
  · have hf := few_words hlen false
    rw [words_false] at hf
    exact ⟨asc_join asc_58 (asc_words6 hlt false), by have := (few_join hf).2; omega⟩
  · have hf := few_words hlen (v4at gs (nr gs).1 (nr gs).2)
    have ha := asc_words6 hlt (v4at gs (nr gs).1 (nr gs).2)
    unfold txt
    refine ⟨asc_app (asc_app (asc_join asc_58 fun w hw => ha w (List.mem_of_mem_take hw)) asc_5858) (asc_join asc_58 fun w hw => ha w (List.mem_of_mem_drop hw)), ?_⟩
    have h1 := (few_join (hf.take (nr gs).1)).2
    have h2 := (few_join (hf.drop ((nr gs).1 + (nr gs).2))).2
    simp only [List.length_append, List.length_cons, List.length_nil]
    omega
theorem text6_short {gs : List Nat} (hlen : gs.length = 8) (hlt : ∀ g ∈ gs, g < 65536) : short (text6 gs) = true := by
  obtain ⟨h1, h2⟩ := text6_asc hlen hlt
  exact asc_short h1 (by omega)
theorem macW_len (n : Nat) : (macW n).length ≤ 1000 := by
  have := joinL_len [58] ((oct6 n).map mac2)
  rw [sumLen_mac] at this
  unfold macW
  simp [oct6] at this ⊢
  omega
theorem sum_map : ∀ l : List Nat, (l.map fun k : Nat => (k : Int)).sum = ((l.sum : Nat) : Int)
  | [] => rfl
  | a :: r => by rw [List.map_cons, List.sum_cons, List.sum_cons, sum_map r, ← Int.natCast_add]
theorem sum_nL (l : List Nat) : bi .sum [.list (nL l)] = some (I1 l.sum) := by
  show (intsOf (nL l)).map (fun ns => PV.a (.int ns.sum)) = _
  unfold nL
  rw [ints_map, Option.map_some, sum_map]; rfl
noncomputable def prods (gs : List Nat) : List Nat := (List.range 8).map fun j => gs.getD j 0 * 65536 ^ (7 - j)
theorem prods_to (gs : List Nat) : ∀ k, k ≤ 8 → ((List.range k).map fun j => gs.getD j 0 * 65536 ^ (7 - j)).sum = numTo gs 8 9 k
  | 0, _ => rfl
  | k + 1, h => by
    have hp : pw 8 9 k = 7 - k := by unfold pw; rw [if_pos (by omega)]
    rw [List.range_succ, List.map_append, List.sum_append, prods_to gs k (by omega), numTo_succ, hp, List.map_cons, List.map_nil, List.sum_cons, List.sum_nil, Nat.add_zero]
theorem prods_sum {gs : List Nat} (h : gs.length = 8) : (prods gs).sum = num16 0 gs := by
  unfold prods
  have := lawNum_whole h
  unfold lawNum at this
  rw [h] at this
  rw [prods_to gs 8 (Nat.le_refl _), this]
theorem ev_prods {Φ : Nat → List PV → Option PV} {o0 o1 o3 o4 : Option PV} {gs : List Nat} (hlen : gs.length = 8) (hlt : ∀ g ∈ gs, g < 65536) : ev Φ cLawIsWritten1 [o0, o1, some (.list (nL gs)), o3, o4, none] = some (.list (nL (prods gs))) := by
  unfold prods nL
  rw [List.map_map]
  refine ev_comp_map (vs := [I1 8]) (fun k : Nat => .int (k : Int)) _ (List.range 8) rfl (it_range 8 (by decide)) fun j hj => ?_
  have hj := List.mem_range.mp hj
  have hget := nL_get gs j (hlen.symm ▸ hj)
  have hglt : gs.getD j 0 < 65536 := by
    rw [List.getD, List.getElem?_eq_getElem (hlen.symm ▸ hj)]
    exact hlt _ (List.getElem_mem _)
  have hpow : binop .Pow (.a (.int 65536)) (.a (.int ((7 : Int) - (j : Int)))) = some (I1 (65536 ^ (7 - j))) := by
    rw [show (7 : Int) - (j : Int) = ((7 - j : Nat) : Int) from (Int.natCast_sub (Nat.le_of_lt_succ hj)).symm]
    exact b_powN 65536 (7 - j) (Nat.le_trans (Nat.sub_le _ _) (by decide)) (by decide)
  have hmul := b_mulL (gs.getD j 0) ((65536 ^ (7 - j) : Nat) : Int) (Nat.lt_trans hglt (by decide))
  show ev Φ _ _ = some (I1 (gs.getD j 0 * 65536 ^ (7 - j)))
  generalize gs.getD j 0 = g at hget hmul ⊢
  generalize 65536 ^ (7 - j) = P at hpow hmul ⊢
  exact ev_K rfl fun _ => ((k_b hget) ((k_b hpow) ((k_b hmul) rfl)))
noncomputable def sc (xs : List Int) : PV := .list (xs.map .int)
theorem ne_str (l : L) : cmpop .NotEq (S1 l) (S1 l) = some false := congrArg (fun b => some !b) (decide_eq_true (p := l = l) rfl)
theorem eq_str (l : L) : cmpop .Eq (S1 l) (S1 l) = some true := congrArg some (decide_eq_true (p := l = l) rfl)
theorem ne_int (i : Int) : cmpop .NotEq (.a (.int i)) (.a (.int i)) = some false := congrArg (fun b => some !b) (decide_eq_true (p := PV.a (.int i) = .a (.int i)) rfl)
theorem eq_int (i : Int) : cmpop .Eq (.a (.int i)) (.a (.int i)) = some true := congrArg some (decide_eq_true (p := PV.a (.int i) = .a (.int i)) rfl)
theorem ne_same {o : Option Nat} : cmpop .NotEq (optI o) (optI o) = some false := by
  cases o with
  | none => rfl
  | some n => exact ne_int n
structure HW (Φ : Nat → List PV → Option PV) : Prop where
  h14 : ∀ xs k, Φ 14 [sc xs, I1 k] = some (.a (.int (digit xs k)))
  h24 : ∀ (n : Int) (k : Nat), ∃ gs : List Nat, Φ 24 [.a (.int n), I1 k] = some (.list (nL gs)) ∧ gs.length = 8 ∧ ∀ g ∈ gs, g < 65536
  h17 : ∀ gs : List Nat, gs.length = 8 → (∀ g ∈ gs, g < 65536) → Φ 17 [.list (nL gs)] = some (S1 (text6 gs))
  h9 : ∀ n : Nat, Φ 9 [I1 n] = some (S1 (text6 (gs8 n)))
  h7 : ∀ l, short l = true → Φ 7 [S1 l] = some (optI (ip6Of l))
  h16 : ∀ n : Nat, Φ 16 [I1 n] = some (S1 (text4 n))
  h5 : ∀ n : Nat, Φ 5 [I1 n] = some (S1 (text4 n))
  h4 : ∀ l, short l = true → Φ 4 [S1 l] = some (optI (ip4Of l))
  h18 : ∀ n : Nat, n < 2 ^ 48 → Φ 18 [I1 n] = some (S1 (macW n))
  h11 : ∀ n : Nat, n < 2 ^ 48 → Φ 11 [I1 n] = some (S1 (macW n))
  h10 : ∀ l : L, l.length ≤ 1000 → Φ 10 [S1 l] = some (optI (macOf l))
noncomputable def WR (xs : List Int) (ρ : Store) : Prop := ∃ o1 o2 o3 o4, ρ = [some (sc xs), o1, o2, o3, o4, none]
theorem w_step {Φ : Nat → List PV → Option PV} (H : HW Φ) (xs : List Int) (k : Nat) (ρ : Store) (h : WR xs ρ) : ∃ ρ', ex Φ lLawIsWritten1 (set ρ 1 (I1 k)) = some (.next, ρ') ∧ WR xs ρ' := by
  obtain ⟨o1, o2, o3, o4, rfl⟩ := h
  have c14 := H.h14 xs k
  obtain ⟨gs, c24, hlen, hlt⟩ := H.h24 (digit xs k) k
  have c17 := H.h17 gs hlen hlt
  have c9 := H.h9 (num16 0 gs)
  rw [gs8_num hlen hlt] at c9
  have c7 := H.h7 _ (text6_short hlen hlt)
  rw [ip6_back hlen hlt] at c7
  have hsum := sum_nL (prods gs)
  rw [prods_sum hlen] at hsum
  exact ex_Y rfl fun _ => ((y_b c14) ((y_b c24) ((y_b (ev_prods hlen hlt)) ((y_b hsum) ((y_b c17) ((y_b c9) ((y_ne (text6 gs)) ((y_b c7) ((y_ne (I1 (num16 0 gs))) (y_e ⟨_, _, _, _, rfl⟩))))))))))
theorem x31 {Φ : Nat → List PV → Option PV} (H : HW Φ) (xs : List Int) : run Φ 6 bLawIsWritten [sc xs] = some (.a (.bool true)) := by
  have p32 := b_powN 2 32 (by decide) (by decide)
  have p48 := b_powN 2 48 (by decide) (by decide)
  obtain ⟨n, hn, m32⟩ := b_modI (digit xs 3 + 3221226239) (2 ^ 32) (by decide)
  obtain ⟨m, hm, m48⟩ := b_modI (digit xs 4 * 257 + 116703297696) (2 ^ 48) (by decide)
  have c3 : Φ 14 [sc xs, .a (.int 3)] = some (.a (.int (digit xs 3))) := H.h14 xs 3
  have c4 : Φ 14 [sc xs, .a (.int 4)] = some (.a (.int (digit xs 4))) := H.h14 xs 4
  have c16 := H.h16 n
  have c5 := H.h5 n
  have cr4 := H.h4 (text4 n) (asc_short (asc_text4 n) (Nat.le_trans (text4_len n) (by decide)))
  rw [ip4_text4 hn] at cr4
  have c18 := H.h18 m hm
  have c11 := H.h11 m hm
  have c10 := H.h10 (macW m) (macW_len m)
  rw [mac_back hm] at c10
  generalize 2 ^ 32 = e32 at p32 m32
  generalize 2 ^ 48 = e48 at p48 m48
  have h : Yes (fun v => v = .a (.bool true)) (run Φ 6 bLawIsWritten [sc xs]) := by
    refine run_Y rfl fun _ => y_for (vs := [I1 3]) rfl rfl (it_range 3 (by decide)) (forGo_range (n := 3) (R := fun _ ρ => WR xs ρ) (fun p ρ _ h => w_step H xs p ρ h) _ ⟨none, none, none, none, rfl⟩) ?_
    rintro ρ' ⟨o1, o2, o3, o4, rfl⟩
    exact (y_b c3) ((y_b p32) ((y_b m32) ((y_b c16) ((y_b c5) ((y_ne (text4 n)) ((y_b cr4) ((y_ne (I1 n)) ((y_b c4) ((y_b (b_mulR _ 257 (by decide))) ((y_b p48) ((y_b m48) ((y_b c18) ((y_b c11) ((y_eq (macW m)) ((y_b c10) ((y_eq (I1 m)) (y_e rfl)))))))))))))))))
  obtain ⟨_, e, rfl⟩ := h
  exact e
end Mine
end
section
open PySem PySem.Calls
set_option maxRecDepth 100000
namespace Mine
structure H6 (Φ : Nat → List PV → Option PV) : Prop where
  h14 : ∀ xs k, Φ 14 [sc xs, I1 k] = some (.a (.int (digit xs k)))
  h25 : ∀ n : Int, ∃ t, Φ 25 [.a (.int n)] = some (S1 t) ∧ t.length ≤ 200 ∧ Asc t
  h26 : ∀ (l : L) (n : Int), l.length ≤ 900 → Asc l → ∃ t, Φ 26 [S1 l, .a (.int n)] = some (S1 t) ∧ t.length ≤ l.length + 1 ∧ Asc t
  h27 : Φ 27 [] = some (.list (tab27.map .str))
  h7 : ∀ l, short l = true → Φ 7 [S1 l] = some (optI (ip6Of l))
  h21 : ∀ l, short l = true → Φ 21 [S1 l] = some (optI (ip6Of l))
noncomputable def Shorts (ts : List L) (k : Nat) : Prop := ts.length ≤ k ∧ ∀ t ∈ ts, short t = true
theorem shorts_app {a b : List L} {i j : Nat} (h : Shorts a i) (k : Shorts b j) : Shorts (a ++ b) (i + j) :=
  ⟨by rw [List.length_append]; have := h.1; have := k.1; omega, fun t ht => (List.mem_append.mp ht).elim (h.2 t) (k.2 t)⟩
theorem shorts_one {a : List L} {i : Nat} {w : L} (h : Shorts a i) (k : short w = true) : Shorts (a ++ [w]) (i + 1) := shorts_app h ⟨Nat.le_refl _, fun t ht => List.mem_singleton.mp ht ▸ k⟩
theorem b_mulN (a b : Int) (h : a.natAbs < 2 ^ 64) : binop .Mult (.a (.int a)) (.a (.int b)) = some (.a (.int (a * b))) := b_mulL a b h
noncomputable def R6 (xs : List Int) (o4 : Option (Option PV)) (n : Nat) (ρ : Store) : Prop := ∃ (ts : List L) (o2 o3 p4 : Option PV), ρ = [some (sc xs), some (.list (ts.map .str)), o2, o3, o4.getD p4] ∧ Shorts ts n
theorem r6_step3 {Φ : Nat → List PV → Option PV} (H : H6 Φ) (xs : List Int) {k : Nat} (hk : k < 2) {ρ : Store} (h : R6 xs none (2 * k) ρ) : ∃ ρ', ex Φ lLawIsRead63 (set ρ 2 (I1 k)) = some (.next, ρ') ∧ R6 xs none (2 * (k + 1)) ρ' := by
  obtain ⟨ts, o2, o3, o4, rfl, ht⟩ := h
  obtain ⟨d, hd⟩ : ∃ d : Int, index (.list [.int 222, .int 89]) (I1 k) = some (.a (.int d)) := by
    match k, hk with
    | 0, _ => exact ⟨222, rfl⟩
    | 1, _ => exact ⟨89, rfl⟩
  have c14 : Φ 14 [sc xs, .a (.int (5 + (k : Int)))] = some (.a (.int (digit xs (5 + k)))) := H.h14 xs (5 + k)
  have c14' : Φ 14 [sc xs, .a (.int (7 + (k : Int)))] = some (.a (.int (digit xs (7 + k)))) := H.h14 xs (7 + k)
  obtain ⟨t, c25, ht1, ht2⟩ := H.h25 (digit xs (5 + k) + d)
  obtain ⟨u, c26, hu1, hu2⟩ := H.h26 t (digit xs (7 + k) + 61 * (k : Int)) (Nat.le_trans ht1 (by decide)) ht2
  have hl : (ts.map At.str).length + [At.str t, .str u].length ≤ sizeLine := by
    rw [sizeLine_eq, List.length_map]
    exact Nat.le_trans (Nat.add_le_add_right ht.1 2) (by omega)
  have hsh : Shorts (ts ++ [t, u]) (2 * (k + 1)) := by
    rw [show ts ++ [t, u] = (ts ++ [t]) ++ [u] from (List.append_assoc ts [t] [u]).symm]
    exact shorts_one (shorts_one ht (asc_short ht2 (Nat.le_trans ht1 (by decide)))) (asc_short hu2 (Nat.le_trans hu1 (Nat.succ_le_succ (Nat.le_trans ht1 (by decide)))))
  refine ex_Y rfl fun _ => ((y_b c14) ((y_b (x := PV.list [.int 222, .int 89]) (by rfl)) ((y_b hd) ((y_b c25) ((y_b c14') ((y_b (b_mulN 61 k (by decide))) ((y_b c26) ((y_b (x := PV.list [.str t, .str u]) (by rfl)) ((y_g hl) (y_e ?_))))))))))
  exact ⟨ts ++ [t, u], _, _, _, by rw [List.map_append]; rfl, hsh⟩
theorem r6_step2 {Φ : Nat → List PV → Option PV} (H : H6 Φ) (xs : List Int) {k : Nat} (hk : k < 8) {ρ : Store} (h : R6 xs (some (some (.list (tab27.map .str)))) (4 + k) ρ) : ∃ ρ', ex Φ lLawIsRead62 (set ρ 2 (I1 k)) = some (.next, ρ') ∧ R6 xs (some (some (.list (tab27.map .str)))) (4 + (k + 1)) ρ' := by
  obtain ⟨ts, o2, o3, o4, rfl, ht⟩ := h
  have c14 : Φ 14 [sc xs, .a (.int 9)] = some (.a (.int (digit xs 9))) := H.h14 xs 9
  obtain ⟨i, hi, m40⟩ := b_modI (digit xs 9 + 5 * (k : Int)) 40 (by decide)
  obtain ⟨w, hw, hidx⟩ := idx_strs (ws := tab27) (i := i) (by rw [tab27_ok.1]; exact hi)
  have hl : (ts.map At.str).length < sizeLine := by
    rw [sizeLine_eq, List.length_map]
    exact Nat.lt_of_le_of_lt ht.1 (Nat.lt_of_lt_of_le (Nat.add_lt_add_left hk 4) (by decide))
  have hmap : ts.map At.str ++ [At.str w] = (ts ++ [w]).map At.str := by rw [List.map_append]; rfl
  have hsh := shorts_one ht (tab27_ok.2 _ hw).2
  generalize tab27.map At.str = T at hidx ⊢
  refine ex_Y rfl fun _ => ((y_b c14) ((y_b (b_mulN 5 k (by decide))) ((y_b m40) ((y_b hidx) ((y_t hl) (y_e ?_))))))
  exact ⟨ts ++ [w], some (I1 k), o3, none, by rw [← hmap]; rfl, hsh⟩
theorem x32 {Φ : Nat → List PV → Option PV} (H : H6 Φ) (xs : List Int) : run Φ 5 bLawIsRead6 [sc xs] = some (.a (.bool true)) := by
  have h : Yes (fun v => v = .a (.bool true)) (run Φ 5 bLawIsRead6 [sc xs]) := by
    refine run_Y rfl fun _ => ((y_b (x := PV.list []) (by rfl)) (y_for (vs := [I1 2]) rfl rfl (it_range 2 (by decide)) (forGo_range (n := 2) (R := fun k ρ => R6 xs none (2 * k) ρ) (fun p ρ hp h => r6_step3 H xs hp h) _ ⟨[], none, none, none, rfl, Nat.le_refl _, nofun⟩) ?_))
    rintro ρ' ⟨ts, o2, o3, o4, rfl, hts⟩
    refine (y_b H.h27) (y_for (vs := [I1 8]) rfl rfl (it_range 8 (by decide)) (forGo_range (n := 8) (R := fun k ρ => R6 xs (some (some (.list (tab27.map .str)))) (4 + k) ρ) (fun p ρ hp h => r6_step2 H xs hp h) _ ⟨ts, _, _, none, rfl, hts⟩) ?_)
    rintro ρ' ⟨us, p2, p3, p4, rfl, hus⟩
    refine y_frz (y_for (vs := [.list (us.map .str)]) rfl rfl rfl (forGo_each (R := fun ρ => ∃ o3, ρ = [some (sc xs), some (.list (us.map .str)), p2, o3, some (.list (tab27.map .str))]) us (fun ρ t ht ⟨o3, e⟩ => ?_) _ ⟨p3, rfl⟩) ?_)
    · subst e
      generalize tab27.map At.str = T
      exact ex_Y rfl fun _ => ((y_b (H.h7 t (hus.2 t ht))) ((y_b (H.h21 t (hus.2 t ht))) ((y_o ne_same) (y_e ⟨_, rfl⟩))))
    · rintro ρ' ⟨o3, rfl⟩
      exact y_e rfl
  obtain ⟨_, e, rfl⟩ := h
  exact e
structure H4 (Φ : Nat → List PV → Option PV) : Prop where
  h14 : ∀ xs k, Φ 14 [sc xs, I1 k] = some (.a (.int (digit xs k)))
  h24 : ∀ (n : Int) (k : Nat), ∃ gs : List Nat, Φ 24 [.a (.int n), I1 k] = some (.list (nL gs)) ∧ gs.length = 8 ∧ ∀ g ∈ gs, g < 65536
  h17 : ∀ gs : List Nat, gs.length = 8 → (∀ g ∈ gs, g < 65536) → Φ 17 [.list (nL gs)] = some (S1 (text6 gs))
  h28 : Φ 28 [] = some (.list (tab28.map .str))
  h29 : Φ 29 [] = some (.list (tab29.map .str))
  h4 : ∀ l, short l = true → Φ 4 [S1 l] = some (optI (ip4Of l))
  h19 : ∀ l, Φ 19 [S1 l] = some (optI (ip4Of l))
  h13 : ∀ l, short l = true → Φ 13 [S1 l] = some (optT (prefOf l))
  h23 : ∀ l, short l = true → Φ 23 [S1 l] = some (optT (prefOf l))
theorem ne_sameT {o : Option (Nat × Nat × Nat)} : cmpop .NotEq (optT o) (optT o) = some false := by
  have : cmpop .NotEq (optT o) (optT o) = some !decide (optT o = optT o) := by cases o <;> rfl
  rw [this, decide_eq_true rfl]; rfl
noncomputable def R4 (xs : List Int) (first : Int) (six : L) (ρ : Store) : Prop := ∃ o4 o5 o6, ρ = [some (sc xs), some (.a (.int first)), some (.list (tab29.map .str)), some (S1 six), o4, o5, o6]
theorem edge {ws : List L} {N : Nat} (hok : ws.length = N ∧ ∀ w ∈ ws, w.length ≤ 100 ∧ short w = true) (h0 : 0 < N) (n : Int) : ∃ (i : Nat) (w : L), binop .Mod (.a (.int n)) (.a (.int (N : Int))) = some (I1 i) ∧ index (.list (ws.map .str)) (I1 i) = some (S1 w) ∧ w.length ≤ 100 ∧ short w = true := by
  obtain ⟨i, hi, m⟩ := b_modI n N h0
  obtain ⟨w, hw, hidx⟩ := idx_strs (ws := ws) (i := i) (hok.1.symm ▸ hi)
  exact ⟨i, w, m, hidx, hok.2 w hw⟩
theorem r4_step {Φ : Nat → List PV → Option PV} (H : H4 Φ) (xs : List Int) {first : Int} {six : L} (h6 : Asc six ∧ six.length ≤ 500) {k : Nat} {ρ : Store} (h : R4 xs first six ρ) : ∃ ρ', ex Φ lLawIsRead42 (set ρ 4 (I1 k)) = some (.next, ρ') ∧ R4 xs first six ρ' := by
  obtain ⟨o4, o5, o6, rfl⟩ := h
  obtain ⟨i, t, m20, hidx, htl, hts⟩ := edge tab28_ok (by decide) (first + 5 * (k : Int))
  obtain ⟨j, u, m18, hidu, hul, hus⟩ := edge tab29_ok (by decide) (first + 7 * (k : Int))
  obtain ⟨q, v, m18', hidv, hvl, hvs⟩ := edge tab29_ok (by decide) (first + 7 * (k : Int) + 9)
  have s1 : short (t ++ u) = true := asc_short (asc_app (short_iff.mp hts).2 (short_iff.mp hus).2) (by rw [List.length_append]; omega)
  have s2 : short (six ++ v) = true := asc_short (asc_app h6.1 (short_iff.mp hvs).2) (by rw [List.length_append]; have := h6.2; omega)
  have hall : ∀ w ∈ [t ++ u, six ++ v], short w = true := fun w hw => by
    rcases List.mem_cons.mp hw with rfl | hw
    · exact s1
    · exact List.mem_singleton.mp hw ▸ s2
  have l1 : t.length + u.length ≤ sizeLine := lsz (by omega)
  have l2 : six.length + v.length ≤ sizeLine := lsz (by have := h6.2; omega)
  have c28 := H.h28
  unfold R4
  generalize tab29.map At.str = T at hidu hidv ⊢
  generalize tab28.map At.str = U at hidx c28
  have ei : evs Φ (.cons (.list (.cons (.bin .Add (.var 5) (.idx (.var 2) (.bin .Mod (.bin .Add (.var 1) (.bin .Mult (.int 7) (.var 4))) (.int 18)))) (.cons (.bin .Add (.var 3) (.idx (.var 2) (.bin .Mod (.bin .Add (.bin .Add (.var 1) (.bin .Mult (.int 7) (.var 4))) (.int 9)) (.int 18)))) .nil))) .nil) [some (sc xs), some (.a (.int first)), some (.list T), some (S1 six), some (I1 k), some (S1 t), o6] = some [.list [.str (t ++ u), .str (six ++ v)]] :=
    evs_one (ev_K rfl fun _ => ((k_b (b_mulN 7 k (by decide))) ((k_b m18) ((k_b hidu) ((k_g l1) ((k_b (b_mulN 7 k (by decide))) ((k_b m18') ((k_b hidv) ((k_g l2) ((k_b (x := PV.list [.str (t ++ u), .str (six ++ v)]) (by rfl)) rfl))))))))))
  refine ex_Y rfl fun _ => ((y_b c28) ((y_b (b_mulN 5 k (by decide))) ((y_b m20) ((y_b hidx) ((y_b (H.h4 t hts)) ((y_b (H.h19 t)) ((y_o ne_same) (y_for ei rfl rfl (forGo_each (enc := At.str) (R := fun ρ => ∃ o6, ρ = [some (sc xs), some (.a (.int first)), some (.list T), some (S1 six), some (I1 k), some (S1 t), o6]) [t ++ u, six ++ v] (fun ρ w hw ⟨o6, e⟩ => ?_) _ ⟨o6, rfl⟩) ?_))))))))
  · subst e
    exact ex_Y rfl fun _ => ((y_b (H.h13 w (hall w hw))) ((y_b (H.h23 w (hall w hw))) ((y_o ne_sameT) (y_e ⟨_, rfl⟩))))
  · rintro ρ' ⟨o6, rfl⟩
    exact y_e ⟨_, _, _, rfl⟩
theorem x33 {Φ : Nat → List PV → Option PV} (H : H4 Φ) (xs : List Int) : run Φ 7 bLawIsRead4 [sc xs] = some (.a (.bool true)) := by
  have c14 : Φ 14 [sc xs, .a (.int 10)] = some (.a (.int (digit xs 10))) := H.h14 xs 10
  obtain ⟨gs, c24, hlen, hlt⟩ := H.h24 (digit xs 10 / 18) 0
  have c17 := H.h17 gs hlen hlt
  have h6 := text6_asc hlen hlt
  generalize digit xs 10 = first at *
  have h : Yes (fun v => v = .a (.bool true)) (run Φ 7 bLawIsRead4 [sc xs]) := by
    refine run_Y rfl fun _ => ((y_b c14) ((y_b H.h29) ((y_b (b_div first 18 (by decide) (by decide))) ((y_b c24) ((y_b c17) (y_for (vs := [I1 4]) rfl rfl (it_range 4 (by decide)) (forGo_range (n := 4) (R := fun _ ρ => R4 xs first (text6 gs) ρ) (fun p ρ _ h => r4_step H xs h6 h) _ ⟨none, none, none, rfl⟩) ?_))))))
    rintro ρ' ⟨o4, o5, o6, rfl⟩
    exact y_e rfl
  obtain ⟨_, e, rfl⟩ := h
  exact e
structure HL (Φ : Nat → List PV → Option PV) : Prop where
  h14 : ∀ xs k, Φ 14 [sc xs, I1 k] = some (.a (.int (digit xs k)))
  h30 : Φ 30 [] = some (.list (tab30.map .str))
  h10 : ∀ l : L, l.length ≤ 1000 → Φ 10 [S1 l] = some (optI (macOf l))
  h22 : ∀ l, short l = true → Φ 22 [S1 l] = some (optI (macOf l))
  h31 : ∀ xs, Φ 31 [sc xs] = some (.a (.bool true))
  h32 : ∀ xs, Φ 32 [sc xs] = some (.a (.bool true))
  h33 : ∀ xs, Φ 33 [sc xs] = some (.a (.bool true))
theorem x34 {Φ : Nat → List PV → Option PV} (H : HL Φ) (xs : List Int) : run Φ 3 bLaw [sc xs] = some (.a (.bool true)) := by
  have c14 : Φ 14 [sc xs, .a (.int 11)] = some (.a (.int (digit xs 11))) := H.h14 xs 11
  have h30 := H.h30
  have h : Yes (fun v => v = .a (.bool true)) (run Φ 3 bLaw [sc xs]) := by
    refine run_Y rfl fun _ => ((y_b (H.h31 xs)) ((y_b (H.h32 xs)) ((y_b (H.h33 xs)) (y_for (vs := [I1 4]) rfl rfl (it_range 4 (by decide)) (forGo_range (n := 4) (R := fun _ ρ => ∃ o1 o2, ρ = [some (sc xs), o1, o2]) (fun k ρ _ ⟨o1, o2, e⟩ => ?_) _ ⟨none, none, rfl⟩) ?_))))
    · subst e
      obtain ⟨i, t, m12, hidx, htl, hts⟩ := edge tab30_ok (by decide) (digit xs 11 + 3 * (k : Int))
      have c10 := H.h10 t (Nat.le_trans htl (by decide))
      generalize tab30.map At.str = T at hidx h30
      exact ex_Y rfl fun _ => ((y_b h30) ((y_b c14) ((y_b (b_mulN 3 k (by decide))) ((y_b m12) ((y_b hidx) ((y_b c10) ((y_b (H.h22 t hts)) ((y_o ne_same) (y_e ⟨_, _, rfl⟩)))))))))
    · rintro ρ' ⟨o1, o2, rfl⟩
      exact y_e rfl
  obtain ⟨_, e, rfl⟩ := h
  exact e
end Mine
end
section
open PySem PySem.Calls PySem.W PyProof.Rows
set_option maxRecDepth 100000
namespace Mine
structure Plan where
  nm : Str
  sl : List (Option Str)
  ps : List Str
  D : Option Nat
  st : S
noncomputable def hexPlan : Plan := ⟨Str.ofString "hex_text", slHexText, psHexText, dHexText, bHexText⟩
noncomputable def plans : List Plan := [⟨Str.ofString "octets_of", slOctetsOf, psOctetsOf, dOctetsOf, bOctetsOf⟩,
  ⟨Str.ofString "decimal_of", slDecimalOf, psDecimalOf, dDecimalOf, bDecimalOf⟩,
  ⟨Str.ofString "hex_of", slHexOf, psHexOf, dHexOf, bHexOf⟩,
  hexPlan,
  ⟨Str.ofString "ip4_of", slIp4Of, psIp4Of, dIp4Of, bIp4Of⟩,
  ⟨Str.ofString "ip4_text", slIp4Text, psIp4Text, dIp4Text, bIp4Text⟩,
  ⟨Str.ofString "groups_of", slGroupsOf, psGroupsOf, dGroupsOf, bGroupsOf⟩,
  ⟨Str.ofString "ip6_of", slIp6Of, psIp6Of, dIp6Of, bIp6Of⟩,
  ⟨Str.ofString "nought_run", slNoughtRun, psNoughtRun, dNoughtRun, bNoughtRun⟩,
  ⟨Str.ofString "ip6_text", slIp6Text, psIp6Text, dIp6Text, bIp6Text⟩,
  ⟨Str.ofString "mac_of", slMacOf, psMacOf, dMacOf, bMacOf⟩,
  ⟨Str.ofString "mac_text", slMacText, psMacText, dMacText, bMacText⟩,
  ⟨Str.ofString "mask_of", slMaskOf, psMaskOf, dMaskOf, bMaskOf⟩,
  ⟨Str.ofString "prefix_of", slPrefixOf, psPrefixOf, dPrefixOf, bPrefixOf⟩,
  ⟨Str.ofString "_law_digit", slLawDigit, psLawDigit, dLawDigit, bLawDigit⟩,
  ⟨Str.ofString "_law_hex", slLawHex, psLawHex, dLawHex, bLawHex⟩,
  ⟨Str.ofString "_law_text4", slLawText4, psLawText4, dLawText4, bLawText4⟩,
  ⟨Str.ofString "_law_text6", slLawText6, psLawText6, dLawText6, bLawText6⟩,
  ⟨Str.ofString "_law_textmac", slLawTextmac, psLawTextmac, dLawTextmac, bLawTextmac⟩,
  ⟨Str.ofString "_law_read4", slLawRead4, psLawRead4, dLawRead4, bLawRead4⟩,
  ⟨Str.ofString "_law_group", slLawGroup, psLawGroup, dLawGroup, bLawGroup⟩,
  ⟨Str.ofString "_law_read6", slLawRead6, psLawRead6, dLawRead6, bLawRead6⟩,
  ⟨Str.ofString "_law_readmac", slLawReadmac, psLawReadmac, dLawReadmac, bLawReadmac⟩,
  ⟨Str.ofString "_law_prefix", slLawPrefix, psLawPrefix, dLawPrefix, bLawPrefix⟩,
  ⟨Str.ofString "_law_groups", slLawGroups, psLawGroups, dLawGroups, bLawGroups⟩,
  ⟨Str.ofString "_law_built", slLawBuilt, psLawBuilt, dLawBuilt, bLawBuilt⟩,
  ⟨Str.ofString "_law_changed", slLawChanged, psLawChanged, dLawChanged, bLawChanged⟩,
  ⟨Str.ofString "_law_edges6", slLawEdges6, psLawEdges6, dLawEdges6, bLawEdges6⟩,
  ⟨Str.ofString "_law_edges4", slLawEdges4, psLawEdges4, dLawEdges4, bLawEdges4⟩,
  ⟨Str.ofString "_law_lengths", slLawLengths, psLawLengths, dLawLengths, bLawLengths⟩,
  ⟨Str.ofString "_law_edgesmac", slLawEdgesmac, psLawEdgesmac, dLawEdgesmac, bLawEdgesmac⟩,
  ⟨Str.ofString "_law_is_written", slLawIsWritten, psLawIsWritten, dLawIsWritten, bLawIsWritten⟩,
  ⟨Str.ofString "_law_is_read6", slLawIsRead6, psLawIsRead6, dLawIsRead6, bLawIsRead6⟩,
  ⟨Str.ofString "_law_is_read4", slLawIsRead4, psLawIsRead4, dLawIsRead4, bLawIsRead4⟩,
  ⟨Str.ofString "law", slLaw, psLaw, dLaw, bLaw⟩]
noncomputable def psTab : List (List Str) := [[]] ++ ["groups", "number", "script", "text", "word"].map (fun x => [Str.ofString x]) ++ [("length", "bits"), ("number", "k"), ("number", "least"), ("number", "size"), ("script", "place"), ("text", "is_end"), ("text", "most"), ("text", "number")].map fun x => [Str.ofString x.1, Str.ofString x.2]
noncomputable def Plan.cx (q : Plan) (sc : Scope) : Cx := ⟨q.sl, sc.names, fnName, true⟩
noncomputable def Plan.okD (q : Plan) (pa : Arguments) (body : List Stmt) (sc : Scope) : Bool :=
  planB (q.cx sc) q.ps q.D && okSs (q.cx sc) q.D q.st body && sc.kind == .function && !sc.isCoroutine && !sc.isGenerator && plainArgs pa q.ps
structure Plan.Ok (q : Plan) (pa : Arguments) (body : List Stmt) (sc : Scope) : Prop where
  plan : planB (q.cx sc) q.ps q.D = true
  ok : okSs (q.cx sc) q.D q.st body = true
  kind : sc.kind = .function
  co : sc.isCoroutine = false
  gen : sc.isGenerator = false
  args : plainArgs pa q.ps = true
theorem and2 {a b : Bool} (h : (a && b) = true) : a = true ∧ b = true := Bool.and_eq_true_iff.mp h
theorem not1 {a : Bool} (h : (!a) = true) : a = false := by cases a; rfl; cases h
theorem Plan.okD_spec {q : Plan} {pa : Arguments} {body : List Stmt} {sc : Scope} (h : q.okD pa body sc = true) : q.Ok pa body sc := by
  have h1 := and2 h
  have h2 := and2 h1.1
  have h3 := and2 h2.1
  have h4 := and2 h3.1
  have h5 := and2 h4.1
  exact ⟨h5.1, h5.2, eq_of_beq h4.2, not1 h3.2, not1 h2.2, h1.2⟩
noncomputable def view : Program :=
  { PySem.Challenge.pw_pf0341_01 with main := { PySem.Challenge.pw_pf0341_01.main with
    body := ((PySem.Challenge.pw_pf0341_01.main.body.drop 1).take 2) ++ ((PySem.Challenge.pw_pf0341_01.main.body.drop 4).take 1 ++ ((PySem.Challenge.pw_pf0341_01.main.body.drop 6).take 2 ++ ((PySem.Challenge.pw_pf0341_01.main.body.drop 9).take 10 ++ PySem.Challenge.pw_pf0341_01.main.body.drop 20))) } }
noncomputable def vRef : Value → Option Addr
  | .ref a => some a
  | _ => none
noncomputable def dSeq : Data → Option (Array Value)
  | .seq a _ => some a
  | _ => none
noncomputable def dFunc : Data → Option FuncData
  | .func a => some a
  | _ => none
noncomputable def bStmts : FuncBody → Option (List Stmt)
  | .stmts b => some b
  | _ => none
noncomputable def isOne (l : List Value) : Bool := match l with
  | [v] => (match v with
    | .int i _ => decide (i = 1)
    | _ => false)
  | _ => false
theorem vRef_inv {v : Value} {a : Addr} (h : vRef v = some a) : v = .ref a := by
  cases v <;> first | (cases h; done) | (cases h; rfl)
theorem dSeq_inv {v : Data} {a : Array Value} (h : dSeq v = some a) : ∃ n, v = .seq a n := by
  cases v <;> first | (cases h; done) | (cases h; exact ⟨_, rfl⟩)
theorem dFunc_inv {v : Data} {a : FuncData} (h : dFunc v = some a) : v = .func a := by
  cases v <;> first | (cases h; done) | (cases h; rfl)
theorem bStmts_inv {v : FuncBody} {a : List Stmt} (h : bStmts v = some a) : v = .stmts a := by
  cases v <;> first | (cases h; done) | (cases h; rfl)
theorem isOne_inv {l : List Value} (h : isOne l = true) : ∃ t, l = [.int 1 t] := by
  match l, h with
  | [v], h =>
    cases v with
    | int i t =>
      have : i = 1 := of_decide_eq_true h
      exact ⟨t, by rw [this]⟩
    | _ => exact (Bool.false_ne_true h).elim
noncomputable def fdOk (h : Heap) (fd : FuncData) : Bool :=
  (bStmts fd.body).any (fun b => hexPlan.okD fd.params b fd.scope) && fd.closure.isEmpty && fd.globals == mainGlobals && fd.builtins == builtinsNs && h.codeRecOk fd.code fd.qualname &&
    (vRef fd.defaults).any fun T => (h.get? T).any fun o => (dSeq o.data).any fun items => isOne items.toList
noncomputable def hexOk (h : Heap) : Bool := h.isNs mainGlobals && ((h.nsMap mainGlobals hexPlan.nm).bind vRef).any fun f => (h.get? f).any fun o => (dFunc o.data).any fun fd => fdOk h fd
inductive FnAt (H : Heap) (mg : Str → Option Value) (q : Plan) (fd : FuncData) : Prop
  | mk (a : Addr) (o : Obj) (body : List Stmt) (h1 : mg q.nm = some (.ref a)) (h2 : H.get? a = some o) (h3 : o.data = .func fd) (h4 : H.CodeRec fd.code fd.qualname) (h5 : fd.body = .stmts body) (h6 : fd.closure = [])
      (h7 : fd.globals = mainGlobals) (h8 : fd.builtins = builtinsNs) (h9 : q.Ok fd.params body fd.scope) : FnAt H mg q fd
inductive HexIn (H : Heap) : Prop
  | mk (mg : Str → Option Value) (fd : FuncData) (T : Addr) (o : Obj) (items : Array Value) (n : Nat) (t : Nat) (g : H.Ns mainGlobals mg) (x : FnAt H mg hexPlan fd) (d : fd.defaults = .ref T) (ho : H.get? T = some o) (hs : o.data = .seq items n)
      (hi : items.toList = [.int 1 t]) : HexIn H
theorem any_inv1 {α : Type} {o : Option α} {f : α → Bool} (h : o.any f = true) : ∃ a, o = some a ∧ f a = true := by
  cases o with
  | none => cases h
  | some a => exact ⟨a, rfl, h⟩
theorem hexIn_of {h : Heap} (e : hexOk h = true) : HexIn h := by
  obtain ⟨e1, e⟩ := and2 e
  obtain ⟨f, e2, e⟩ := any_inv1 e
  obtain ⟨v, e2, e3⟩ := bind_some2 e2
  obtain rfl := vRef_inv e3
  obtain ⟨o, ho, e⟩ := any_inv1 e
  obtain ⟨fd, hfd, e⟩ := any_inv1 e
  obtain ⟨e, k1⟩ := and2 e
  obtain ⟨e, k2⟩ := and2 e
  obtain ⟨e, k3⟩ := and2 e
  obtain ⟨e, k4⟩ := and2 e
  obtain ⟨e, k5⟩ := and2 e
  obtain ⟨b, hb, e⟩ := any_inv1 e
  obtain ⟨T, hT, k1⟩ := any_inv1 k1
  obtain ⟨oT, hoT, k1⟩ := any_inv1 k1
  obtain ⟨items, hi, k1⟩ := any_inv1 k1
  obtain ⟨n, hn⟩ := dSeq_inv hi
  obtain ⟨t, ht⟩ := isOne_inv k1
  exact ⟨_, fd, T, oT, items, n, t, .of_isNs e1, ⟨f, o, b, e2, ho, dFunc_inv hfd, .of_ok k2, bStmts_inv hb, List.isEmpty_iff.mp k5, eq_of_beq k4, eq_of_beq k3, Plan.okD_spec e⟩, vRef_inv hT, hoT, hn, ht⟩
theorem FnAt.keeps {h h' : Heap} {mg : Str → Option Value} {q : Plan} {fd : FuncData} (k : ∀ b o, h.get? b = some o → h'.get? b = some o) : FnAt h mg q fd → FnAt h' mg q fd
  | ⟨a, o, b, h1, h2, h3, h4, h5, h6, h7, h8, h9⟩ => ⟨a, o, b, h1, k _ _ h2, h3, h4.keeps k, h5, h6, h7, h8, h9⟩
theorem HexIn.keeps {h h' : Heap} (k : ∀ b o, h.get? b = some o → h'.get? b = some o) : HexIn h → HexIn h'
  | ⟨mg, fd, T, o, items, n, t, g, x, d, ho, hs, hi⟩ => ⟨mg, fd, T, o, items, n, t, g.keeps k, x.keeps k, d, k _ _ ho, hs, hi⟩
noncomputable def Plan.ok (q : Plan) (d : DefRec) : Bool := d.name == q.nm && q.okD d.params d.body d.scope
noncomputable def chkK (k : Nat) : Bool := (plans[k]?).any fun q => (k == 3 || ((recsOf view).find? fun d => d.name == q.nm).any q.ok) && fnName k == some q.nm && psTab.contains q.ps
theorem ckA : (List.range' 0 9).all chkK = true := by kernel_rfl
theorem ckB : (List.range' 9 9).all chkK = true := by kernel_rfl
theorem ckC : (List.range' 18 9).all chkK = true := by kernel_rfl
theorem ckD : (List.range' 27 8).all chkK = true := by kernel_rfl
end Mine
end
section
open PySem PySem.Calls PySem.W PyProof.Rows
set_option maxRecDepth 100000
set_option maxHeartbeats 0
namespace Mine
theorem look1 : namesResolve PySem.Challenge.rw_pf0341_01.row.prog = true := by kernel_rfl
theorem bare0 : (["vars", "dir", "locals"] : List Str).filter (readsOut PySem.Challenge.rw_pf0341_01.row.prog PySem.Challenge.rw_pf0341_01.row.prog.main.body) = [] := by kernel_rfl
theorem look2a : noRoadLSs { strict := !(importedModules PySem.Challenge.rw_pf0341_01.row.prog.main.body).all cThrough.contains, foot := none, bare := [] } PySem.Challenge.rw_pf0341_01.row.prog.main.body = true := by kernel_rfl
theorem look2 : noRoadLSs { strict := !(importedModules PySem.Challenge.rw_pf0341_01.row.prog.main.body).all cThrough.contains, foot := none, bare := (["vars", "dir", "locals"] : List Str).filter (readsOut PySem.Challenge.rw_pf0341_01.row.prog PySem.Challenge.rw_pf0341_01.row.prog.main.body) } PySem.Challenge.rw_pf0341_01.row.prog.main.body = true :=
  (congrArg (fun b => noRoadLSs { strict := !(importedModules PySem.Challenge.rw_pf0341_01.row.prog.main.body).all cThrough.contains, foot := none, bare := b } PySem.Challenge.rw_pf0341_01.row.prog.main.body) bare0).trans look2a
theorem look3 : (namesMeet PySem.Challenge.rw_pf0341_01.row.prog PySem.Challenge.rw_pf0341_01.row.prog.main.body fun _ n => attrL n) = true := by kernel_rfl
theorem look4 : noRoadLSs { strict := true, foot := some PySem.Challenge.rw_pf0341_01.bound', writes := PySem.Challenge.rw_pf0341_01.writes, may := PySem.Challenge.rw_pf0341_01.may } PySem.Challenge.rw_pf0341_01.footing = true := by kernel_rfl
theorem said : PySem.Challenge.rw_pf0341_01.wellSaid = true := by
  unfold OpenLaw.wellSaid OpenRow.wellSaid OpenRow.partSaid looksOpen
  repeat' (with_reducible refine look_both ?_ ?_)
  all_goals first | with_reducible exact look1 | with_reducible exact look2 | with_reducible exact look3 | with_reducible exact look4 | kernel_rfl
noncomputable def loose : List Str := [Str.ofString "hex_text"]
def row : OpenRow := PySem.Challenge.rw_pf0341_01.row
noncomputable def xt (s : Shared) : Bool := xlAt view [] s && recOk row.toRowW.records s
theorem left : LeftO row.prog view loose xt (fun s => hexOk s.heap) (fun _ => true) 3204 := fun _ => by kernel_rfl
end Mine
end
section
open PySem PySem.Calls PySem.W PyProof.Rows
set_option maxRecDepth 100000
namespace Mine
theorem plainArgs_form {P : Arguments} {ps : List Str} (h : plainArgs P ps = true) : ∃ as ds, P = ⟨[], as, none, [], [], none, ds⟩ ∧ as.map (·.arg) = ps := by
  obtain ⟨po, as, va, ko, kd, kw, ds⟩ := P
  obtain ⟨h, e1⟩ := and2 h
  obtain ⟨h, e2⟩ := and2 h
  obtain ⟨h, e3⟩ := and2 h
  obtain ⟨h, e4⟩ := and2 h
  obtain ⟨e6, e5⟩ := and2 h
  obtain rfl := List.isEmpty_iff.mp e6
  obtain rfl := Option.isNone_iff_eq_none.mp e4
  obtain rfl := List.isEmpty_iff.mp e3
  obtain rfl := List.isEmpty_iff.mp e2
  obtain rfl := Option.isNone_iff_eq_none.mp e1
  exact ⟨as, ds, rfl, eq_of_beq e5⟩
noncomputable def Binds (ps : List Str) : Prop := ∀ (nm qn : Str) (as : List Arg) (ds : List PySem.Expr) (b : FuncBody) (sc : Scope) (g : Addr) (cl : List (Str × Addr)) (kd doc pm : Value) (an : Option Addr) (cd ct : Value) (bu : Addr) (vals : List Value),
  as.map (·.arg) = ps → vals.length = ps.length → bindArgs ⟨nm, qn, ⟨[], as, none, [], [], none, ds⟩, b, sc, g, cl, .none, kd, doc, pm, an, cd, ct, bu⟩ ⟨vals, []⟩ = pure (ps.zip vals)
theorem binds0 : Binds [] := fun _ _ as _ _ _ _ _ _ _ _ _ _ _ _ vals h k => by
  obtain rfl := List.map_eq_nil_iff.mp h
  obtain rfl := List.length_eq_zero_iff.mp k
  rfl
theorem binds1 {a : Str} (r : ∀ (nm qn : Str) (x : Option PySem.Expr) (p : Pos) (ds : List PySem.Expr) (b : FuncBody) (sc : Scope) (g : Addr) (cl : List (Str × Addr)) (kd doc pm : Value) (an : Option Addr) (cd ct : Value) (bu : Addr) (v : Value),
    bindArgs ⟨nm, qn, ⟨[], [⟨a, x, p⟩], none, [], [], none, ds⟩, b, sc, g, cl, .none, kd, doc, pm, an, cd, ct, bu⟩ ⟨[v], []⟩ = pure [(a, v)]) : Binds [a] := fun _ _ as _ _ _ _ _ _ _ _ _ _ _ _ vals h k => by
  obtain ⟨v, rfl⟩ := List.length_eq_one_iff.mp k
  obtain ⟨y, rfl, e⟩ := List.map_eq_singleton_iff.mp h
  obtain ⟨y, x, p⟩ := y
  obtain rfl : y = a := e
  exact r ..
theorem binds2 {a b : Str} (r : ∀ (nm qn : Str) (x x' : Option PySem.Expr) (p p' : Pos) (ds : List PySem.Expr) (bo : FuncBody) (sc : Scope) (g : Addr) (cl : List (Str × Addr)) (kd doc pm : Value) (an : Option Addr) (cd ct : Value) (bu : Addr) (v u : Value),
    bindArgs ⟨nm, qn, ⟨[], [⟨a, x, p⟩, ⟨b, x', p'⟩], none, [], [], none, ds⟩, bo, sc, g, cl, .none, kd, doc, pm, an, cd, ct, bu⟩ ⟨[v, u], []⟩ = pure [(a, v), (b, u)]) : Binds [a, b] := fun _ _ as _ _ _ _ _ _ _ _ _ _ _ _ vals h k => by
  obtain ⟨v, q, rfl⟩ := List.exists_cons_of_length_eq_add_one k
  obtain ⟨u, rfl⟩ := List.length_eq_one_iff.mp (Nat.succ.inj k)
  obtain ⟨y, as, rfl, e1, e⟩ := List.map_eq_cons_iff.mp h
  obtain ⟨z, rfl, e2⟩ := List.map_eq_singleton_iff.mp e
  obtain ⟨y, x, p⟩ := y
  obtain ⟨z, x', p'⟩ := z
  obtain rfl : y = a := e1
  obtain rfl : z = b := e2
  exact r ..
theorem binds_tab : ∀ ps ∈ psTab, Binds ps := by
  unfold psTab
  simp only [List.map_cons, List.map_nil, List.cons_append, List.nil_append, List.forall_mem_cons]
  refine ⟨binds0, ?_, ?_, ?_, ?_, ?_, ?_, ?_, ?_, ?_, ?_, ?_, ?_, ?_, fun _ h => nomatch h⟩
  iterate 5 (· exact binds1 fun _ _ _ _ _ _ _ _ _ _ _ _ _ _ _ _ _ => rfl)
  iterate 8 (· exact binds2 fun _ _ _ _ _ _ _ _ _ _ _ _ _ _ _ _ _ _ _ _ => rfl)
theorem bindsTo_plain {s : Shared} {fd : FuncData} {ps : List Str} {vals : List Value} (h : ps ∈ psTab) (hp : plainArgs fd.params ps = true) (hd : fd.defaults = .none) (hl : vals.length = ps.length) : BindsTo s fd ⟨vals, []⟩ (ps.zip vals) := by
  obtain ⟨nm, qn, pa, b, sc, g, cl, df, kd, doc, pm, an, cd, ct, bu⟩ := fd
  obtain ⟨as, ds, rfl, e⟩ := plainArgs_form hp
  obtain rfl : df = .none := hd
  exact .of_eq (binds_tab ps h _ _ as ds _ _ _ _ _ _ _ _ _ _ _ vals e hl)
theorem bindsTo_hex {s : Shared} {fd : FuncData} {T : Addr} {o : Obj} {items : Array Value} {n t : Nat} (hp : plainArgs fd.params hexPlan.ps = true) (hd : fd.defaults = .ref T) (ho : s.heap.get? T = some o) (hs : o.data = .seq items n) (hi : items.toList = [.int 1 t]) (v : Value) :
    BindsTo s fd ⟨[v], []⟩ (hexPlan.ps.zip [v, .int 1 t]) ∧ ∀ u, BindsTo s fd ⟨[v, u], []⟩ (hexPlan.ps.zip [v, u]) := by
  obtain ⟨nm, qn, pa, b, sc, g, cl, df, kd, doc, pm, an, cd, ct, bu⟩ := fd
  obtain ⟨as, ds, rfl, e⟩ := plainArgs_form hp
  obtain ⟨y, as, rfl, e1, e⟩ := List.map_eq_cons_iff.mp (e : as.map (·.arg) = [Str.ofString "number", Str.ofString "least"])
  obtain ⟨z, rfl, e2⟩ := List.map_eq_singleton_iff.mp e
  obtain ⟨y, x, p⟩ := y
  obtain ⟨z, x', p'⟩ := z
  obtain rfl : y = Str.ofString "number" := e1
  obtain rfl : z = Str.ofString "least" := e2
  obtain ⟨items⟩ := items
  obtain rfl : items = [.int 1 t] := hi
  exact ⟨.of_defaults hd ho hs rfl rfl, fun u => .of_defaults hd ho hs rfl rfl⟩
noncomputable def tabRun (Φ : Nat → List PV → Option PV) (k : Nat) (q : Plan) (args : List PV) : Option PV :=
  if k = 3 ∧ args.length = 1 then run Φ q.sl.length q.st (args ++ [.a (.int 1)]) else if args.length = q.ps.length then run Φ q.sl.length q.st args else none
noncomputable def Tab : Nat → Nat → List PV → Option PV
  | 0, _, _ => none
  | k + 1, f, args => if f = k then (plans[k]?).bind fun q => tabRun (Tab k) k q args else Tab k f args
noncomputable def Has (mg : Str → Option Value) (H : Heap) (nm : Str) : Prop := ∃ a o fd, mg nm = some (.ref a) ∧ H.get? a = some o ∧ o.data = .func fd
section
variable {prog : Program} {w : World} {mg mb : Str → Option Value} {H : Heap} {n : Nat} {Φ : Nat → List PV → Option PV} {loose : List Str} {mean : ExcName → Option Value}
theorem FnOk.nil {nm : Str} (h : Has mg H nm) : FnOk prog w mg H n nm (fun _ => none) := by
  obtain ⟨a, o, fd, h1, h2, h3⟩ := h
  exact ⟨a, o, fd, h1, h2, h3, fun A s vals args r _ _ _ e => nomatch e⟩
theorem FnAt.has {q : Plan} {fd : FuncData} (x : FnAt H mg q fd) : Has mg H q.nm := by
  obtain ⟨a, o, b, h1, h2, h3, _, _, _, _, _, _⟩ := x
  exact ⟨a, o, fd, h1, h2, h3⟩
theorem FnAt.fn {q : Plan} {fd : FuncData} {F : List PV → Option PV} (x : FnAt H mg q fd) (G : Gd mg mb H) (fns : ∀ f nm, fnName f = some nm → FnOk prog w mg H n nm (Φ f))
    (hb : plainArgs fd.params q.ps = true → q.ps.Nodup → ∀ s vals args r, Sub H s.heap → Paired (fun v x => Rep s.heap v x) vals args → F args = some r →
      ∃ vals' args' ρ', BindsTo s fd ⟨vals, []⟩ (q.ps.zip vals') ∧ Paired (fun v x => Rep s.heap v x) vals' args' ∧ vals'.length = q.ps.length ∧ ex Φ q.st (initS q.sl.length args') = some (.ret r, ρ')) : FnOk prog w mg H (n + 1) q.nm F := by
  obtain ⟨a, o, b, h1, h2, h3, h4, h5, h6, h7, h8, h9⟩ := x
  exact fnOk_of G (c := q.cx fd.scope) h1 h2 h3 h4 h5 h6 h7 h8 h9.kind rfl h9.co h9.gen (planB_spec h9.plan) h9.ok fns (hb h9.args (planB_spec h9.plan).nd)
theorem fn_plain {k : Nat} {q : Plan} {fd : FuncData} (x : FnAt H mg q fd) (hd : fd.defaults = .none) (hk : ¬ k = 3) (ht : q.ps ∈ psTab) (G : Gd mg mb H) (fns : ∀ f nm, fnName f = some nm → FnOk prog w mg H n nm (Φ f)) :
    FnOk prog w mg H (n + 1) q.nm (tabRun Φ k q) := by
  refine x.fn G fns fun hp _ s vals args r _ hv hr => ?_
  unfold tabRun at hr
  rw [if_neg (fun h => hk h.1)] at hr
  by_cases hl : args.length = q.ps.length
  · rw [if_pos hl] at hr
    obtain ⟨ρ', e⟩ := run_ex hr
    have hl := hv.length.trans hl
    exact ⟨vals, args, ρ', bindsTo_plain ht hp hd hl, hv, hl, e⟩
  · rw [if_neg hl] at hr; cases hr
theorem fn_hex (x : HexIn H) (G : Gd mg mb H) (fns : ∀ f nm, fnName f = some nm → FnOk prog w mg H n nm (Φ f)) : FnOk prog w mg H (n + 1) hexPlan.nm (tabRun Φ 3 hexPlan) := by
  obtain ⟨mg', fd, T, o, items, m, t, g, x, d, ho, hs, hi⟩ := x
  obtain rfl : mg' = mg := g.eq_nsMap.trans G.g.eq_nsMap.symm
  refine x.fn G fns fun hp _ s vals args r hsub hv hr => ?_
  have hb := fun v => bindsTo_hex (s := s) hp d (hsub _ _ ho) hs hi v
  cases hv with
  | nil => cases hr
  | cons h1 hv =>
    cases hv with
    | nil =>
      obtain ⟨ρ', e⟩ := run_ex (show run Φ _ _ _ = some r from hr)
      exact ⟨_, [_, .a (.int 1)], ρ', (hb _).1, .cons h1 (.cons ⟨t, rfl⟩ .nil), rfl, e⟩
    | cons h2 hv =>
      cases hv with
      | nil =>
        obtain ⟨ρ', e⟩ := run_ex (show run Φ _ _ _ = some r from hr)
        exact ⟨_, _, ρ', (hb _).2 _, .cons h1 (.cons h2 .nil), rfl, e⟩
      | cons _ _ => cases hr
theorem has_hex (x : HexIn H) (G : Gd mg mb H) : Has mg H hexPlan.nm := by
  obtain ⟨mg', fd, T, o, items, m, t, g, x, d, ho, hs, hi⟩ := x
  obtain rfl : mg' = mg := g.eq_nsMap.trans G.g.eq_nsMap.symm
  exact x.has
theorem ckAll {k : Nat} (h : k < 35) : chkK k = true := by
  have go : ∀ {s m : Nat}, (List.range' s m).all chkK = true → s ≤ k → k < s + m → chkK k = true := fun h h1 h2 => List.all_eq_true.mp h k (List.mem_range'_1.mpr ⟨h1, h2⟩)
  rcases Nat.lt_or_ge k 9 with h1 | h1
  · exact go ckA (Nat.zero_le k) h1
  · rcases Nat.lt_or_ge k 18 with h2 | h2
    · exact go ckB h1 h2
    · rcases Nat.lt_or_ge k 27 with h3 | h3
      · exact go ckC h2 h3
      · exact go ckD h3 h
theorem chkK_spec {k : Nat} (h : chkK k = true) : ∃ q, plans[k]? = some q ∧ fnName k = some q.nm ∧ q.ps ∈ psTab ∧ (k = 3 ∨ ∃ d ∈ recsOf view, d.name = q.nm ∧ q.Ok d.params d.body d.scope) := by
  obtain ⟨q, hq, h⟩ := any_inv1 h
  obtain ⟨h, h3⟩ := and2 h
  obtain ⟨h1, h2⟩ := and2 h
  refine ⟨q, hq, eq_of_beq h2, List.contains_iff_mem.mp h3, ((Bool.or_eq_true _ _).mp h1).imp eq_of_beq fun h => ?_⟩
  obtain ⟨d, hd, h⟩ := any_inv1 h
  obtain ⟨h1, h2⟩ := and2 h
  exact ⟨d, List.mem_of_find?_eq_some hd, eq_of_beq h1, Plan.okD_spec h2⟩
theorem fnName_lt {f : Nat} {nm : Str} (h : fnName f = some nm) : f < 35 := (List.getElem?_eq_some_iff.mp h).1
theorem at_top (T : Top view loose mean mg mb H) {q : Plan} {d : DefRec} (hd : d ∈ recsOf view) (hn : d.name = q.nm) (ok : q.Ok d.params d.body d.scope) : ∃ fd, FnAt H mg q fd ∧ fd.defaults = .none := by
  obtain ⟨a, o, pm, code, doc, g1, g2, g3, g4⟩ := T.fn d hd
  rw [hn] at g1
  exact ⟨_, ⟨a, o, d.body, g1, g2, g3, g4, rfl, rfl, rfl, rfl, ok⟩, rfl⟩
theorem tab_fn (T : Top view loose mean mg mb H) (X : HexIn H) (G : Gd mg mb H) : ∀ k, k ≤ 35 → ∀ f nm, fnName f = some nm → FnOk prog w mg H k nm (Tab k f) := by
  have has : ∀ f nm, fnName f = some nm → Has mg H nm := fun f nm hf => by
    obtain ⟨q, h1, h2, h3, h4⟩ := chkK_spec (ckAll (fnName_lt hf))
    obtain rfl := Option.some.inj (hf.symm.trans h2)
    rcases h4 with rfl | ⟨d, hd, hn, ok⟩
    · obtain rfl : hexPlan = q := Option.some.inj h1
      exact has_hex X G
    · obtain ⟨fd, x, _⟩ := at_top T hd hn ok
      exact x.has
  intro k
  induction k with
  | zero => exact fun _ f nm hf => FnOk.nil (has f nm hf)
  | succ k ih =>
    intro hk f nm hf
    have ih := ih (Nat.le_of_succ_le hk)
    by_cases e : f = k
    · subst e
      obtain ⟨q, h1, h2, h3, h4⟩ := chkK_spec (ckAll (fnName_lt hf))
      obtain rfl := Option.some.inj (hf.symm.trans h2)
      have e2 : Tab (f + 1) f = tabRun (Tab f) f q := by
        funext args
        rw [Tab, if_pos rfl, h1]; rfl
      rw [e2]
      by_cases e3 : f = 3
      · subst e3
        obtain rfl : hexPlan = q := Option.some.inj h1
        exact fn_hex X G ih
      · obtain ⟨d, hd, hn, ok⟩ := h4.resolve_left e3
        obtain ⟨fd, x, hd⟩ := at_top T hd hn ok
        exact fn_plain x hd e3 h3 G ih
    · have e2 : Tab (k + 1) f = Tab k f := by
        funext args
        rw [Tab, if_neg e]
      rw [e2]
      exact FnOk.mono (ih f nm hf) (Nat.le_succ k)
end
end Mine
end
section
open PySem PySem.Calls PySem.W
set_option maxRecDepth 100000
namespace Mine
theorem tab_lt : ∀ {k f : Nat}, f < k → Tab k f = Tab (f + 1) f
  | 0, f, h => absurd h (Nat.not_lt_zero _)
  | k + 1, f, h => by
    by_cases e : f = k
    · rw [e]
    · have : Tab (k + 1) f = Tab k f := by
        funext args
        rw [Tab, if_neg e]
      rw [this, tab_lt (show f < k by omega)]
theorem tab_eq {k f : Nat} (h : f < k) (hf : f ≠ 3) {q : Plan} (hq : plans[f]? = some q) {args : List PV} (ha : args.length = q.ps.length) : Tab k f args = run (Tab f) q.sl.length q.st args := by
  rw [tab_lt h, Tab, if_pos rfl, hq]
  exact (if_neg (fun e => hf e.1)).trans (if_pos ha)
theorem tab_3 {k : Nat} (h : 3 < k) {g least : Nat} (hg : g < 65536) (h1 : least = 1 ∨ least = 2) : Tab k 3 [I1 g, I1 least] = some (S1 (hexT g least)) := by
  rw [tab_lt h, Tab, if_pos rfl]
  exact x3 _ hg h1
theorem tab_3d {k : Nat} (h : 3 < k) {g : Nat} (hg : g < 65536) : Tab k 3 [I1 g] = some (S1 (hexW g)) := by
  rw [tab_lt h, Tab, if_pos rfl, ← hexT_one]
  exact x3 _ hg (.inl rfl)
section
variable {k : Nat}
theorem f0 (h : 0 < k) (n : Nat) (hn : n < 2 ^ 48) : Tab k 0 [I1 n, I1 6] = some (.bytes ((oct6 n).map fun o => o.toUInt8)) := (tab_eq h (by decide) rfl rfl).trans (x0 _ hn)
theorem f1 (h : 1 < k) (l : L) (m : Nat) : Tab k 1 [S1 l, I1 m] = some (optI (decOf l m)) := (tab_eq h (by decide) rfl rfl).trans (x1 _ l m)
theorem f2 (h : 2 < k) (l : L) (m : Nat) : Tab k 2 [S1 l, I1 m] = some (optI (hexOf l m)) := (tab_eq h (by decide) rfl rfl).trans (x2 _ l m)
theorem f4 (h : 4 < k) (l : L) (hl : short l = true) : Tab k 4 [S1 l] = some (optI (ip4Of l)) := (tab_eq h (by decide) rfl rfl).trans (x4 (f1 (by decide)) l (short_iff.mp hl).1)
theorem f5 (h : 5 < k) (n : Nat) : Tab k 5 [I1 n] = some (S1 (text4 n)) := (tab_eq h (by decide) rfl rfl).trans (x5 _ n)
theorem f6 (h : 6 < k) (t : L) (e : Bool) (ht : short t = true) : Tab k 6 [S1 t, .a (.bool e)] = some (optL (sideOf e t)) := (tab_eq h (by decide) rfl rfl).trans (x6 (f4 (by decide)) (f2 (by decide)) ht e)
theorem f7 (h : 7 < k) (l : L) (hl : short l = true) : Tab k 7 [S1 l] = some (optI (ip6Of l)) := (tab_eq h (by decide) rfl rfl).trans (x7 (f6 (by decide)) hl)
theorem f8 (h : 8 < k) (gs : List Nat) : Tab k 8 [.list (nL gs)] = some (.tup [.int ((nr gs).1 : Int), .int ((nr gs).2 : Int)]) := (tab_eq h (by decide) rfl rfl).trans (x8 _ gs)
theorem f9 (h : 9 < k) (n : Nat) : Tab k 9 [I1 n] = some (S1 (text6 (gs8 n))) := (tab_eq h (by decide) rfl rfl).trans (x9 (f8 (by decide)) (fun g hg => tab_3d (by decide) hg) (f5 (by decide)) n)
theorem f10 (h : 10 < k) (l : L) (hl : l.length ≤ 1000) : Tab k 10 [S1 l] = some (optI (macOf l)) := (tab_eq h (by decide) rfl rfl).trans (x10 (f2 (by decide)) l hl)
theorem f11 (h : 11 < k) (n : Nat) (hn : n < 2 ^ 48) : Tab k 11 [I1 n] = some (S1 (macW n)) := (tab_eq h (by decide) rfl rfl).trans (x11 (f0 (by decide)) (fun g least hg hl => tab_3 (by decide) hg hl) hn)
theorem f12 (h : 12 < k) (len bits : Nat) (h1 : len ≤ bits) (h2 : bits ≤ 128) : Tab k 12 [I1 len, I1 bits] = some (I1 (2 ^ bits - 2 ^ (bits - len))) := (tab_eq h (by decide) rfl rfl).trans (x12 _ h1 h2)
theorem f13 (h : 13 < k) (l : L) (hl : short l = true) : Tab k 13 [S1 l] = some (optT (prefOf l)) := (tab_eq h (by decide) rfl rfl).trans (x13 (f4 (by decide)) (f7 (by decide)) (f1 (by decide)) (f12 (by decide)) hl)
theorem f14 (h : 14 < k) (xs : List Int) (i : Nat) : Tab k 14 [sc xs, I1 i] = some (.a (.int (digit xs i))) := (tab_eq h (by decide) rfl rfl).trans (x14 _ xs i)
theorem f15 (h : 15 < k) (g : Nat) (hg : g < 65536) : Tab k 15 [I1 g] = some (S1 (hexW g)) := (tab_eq h (by decide) rfl rfl).trans (x15 _ hg)
theorem f16 (h : 16 < k) (n : Nat) : Tab k 16 [I1 n] = some (S1 (text4 n)) := (tab_eq h (by decide) rfl rfl).trans (x16 _ n)
theorem f17 (h : 17 < k) (gs : List Nat) (hl : gs.length = 8) (hg : ∀ g ∈ gs, g < 65536) : Tab k 17 [.list (nL gs)] = some (S1 (text6 gs)) := (tab_eq h (by decide) rfl rfl).trans (x17 (f15 (by decide)) (f16 (by decide)) hl hg)
theorem f18 (h : 18 < k) (n : Nat) (hn : n < 2 ^ 48) : Tab k 18 [I1 n] = some (S1 (macW n)) := (tab_eq h (by decide) rfl rfl).trans (x18 _ hn)
theorem f19 (h : 19 < k) (l : L) : Tab k 19 [S1 l] = some (optI (ip4Of l)) := (tab_eq h (by decide) rfl rfl).trans (x19 (f16 (by decide)) l)
theorem f20 (h : 20 < k) (l : L) (hl : short l = true) : Tab k 20 [S1 l] = some (.a (.int (lawGroup l))) := (tab_eq h (by decide) rfl rfl).trans (x20 _ l (short_iff.mp hl).2)
theorem f21 (h : 21 < k) (l : L) (hl : short l = true) : Tab k 21 [S1 l] = some (optI (ip6Of l)) := (tab_eq h (by decide) rfl rfl).trans (x21 (f19 (by decide)) (f20 (by decide)) hl)
theorem f22 (h : 22 < k) (l : L) (hl : short l = true) : Tab k 22 [S1 l] = some (optI (macOf l)) := (tab_eq h (by decide) rfl rfl).trans (x22 (f20 (by decide)) hl)
theorem f23 (h : 23 < k) (l : L) (hl : short l = true) : Tab k 23 [S1 l] = some (optT (prefOf l)) := (tab_eq h (by decide) rfl rfl).trans (x23 (f19 (by decide)) (f21 (by decide)) hl)
theorem f24 (h : 24 < k) (n : Int) (j : Nat) : ∃ gs : List Nat, Tab k 24 [.a (.int n), I1 j] = some (.list (nL gs)) ∧ gs.length = 8 ∧ ∀ g ∈ gs, g < 65536 := by
  obtain ⟨gs, h1, h2, h3⟩ := x24 (Tab 24) n j
  exact ⟨gs, (tab_eq h (by decide) rfl rfl).trans h1, h2, h3⟩
theorem f25 (h : 25 < k) (n : Int) : ∃ t, Tab k 25 [.a (.int n)] = some (S1 t) ∧ t.length ≤ 200 ∧ Asc t := by
  obtain ⟨t, h1, h2, h3⟩ := x25 (Tab 25) n
  exact ⟨t, (tab_eq h (by decide) rfl rfl).trans h1, h2, h3⟩
theorem f26 (h : 26 < k) (l : L) (n : Int) (hl : l.length ≤ 900) (ha : Asc l) : ∃ t, Tab k 26 [S1 l, .a (.int n)] = some (S1 t) ∧ t.length ≤ l.length + 1 ∧ Asc t := by
  obtain ⟨t, h1, h2, h3⟩ := x26 (Tab 26) l n hl ha
  exact ⟨t, (tab_eq h (by decide) rfl rfl).trans h1, h2, h3⟩
theorem f27 (h : 27 < k) : Tab k 27 [] = some (.list (tab27.map .str)) := (tab_eq h (by decide) rfl rfl).trans (x27 _)
theorem f28 (h : 28 < k) : Tab k 28 [] = some (.list (tab28.map .str)) := (tab_eq h (by decide) rfl rfl).trans (x28 _)
theorem f29 (h : 29 < k) : Tab k 29 [] = some (.list (tab29.map .str)) := (tab_eq h (by decide) rfl rfl).trans (x29 _)
theorem f30 (h : 30 < k) : Tab k 30 [] = some (.list (tab30.map .str)) := (tab_eq h (by decide) rfl rfl).trans (x30 _)
theorem f31 (h : 31 < k) (xs : List Int) : Tab k 31 [sc xs] = some (.a (.bool true)) := (tab_eq h (by decide) rfl rfl).trans
  (x31 ⟨f14 (by decide), f24 (by decide), f17 (by decide), f9 (by decide), f7 (by decide), f16 (by decide), f5 (by decide), f4 (by decide), f18 (by decide), f11 (by decide), f10 (by decide)⟩ xs)
theorem f32 (h : 32 < k) (xs : List Int) : Tab k 32 [sc xs] = some (.a (.bool true)) := (tab_eq h (by decide) rfl rfl).trans
  (x32 ⟨f14 (by decide), f25 (by decide), f26 (by decide), f27 (by decide), f7 (by decide), f21 (by decide)⟩ xs)
theorem f33 (h : 33 < k) (xs : List Int) : Tab k 33 [sc xs] = some (.a (.bool true)) := (tab_eq h (by decide) rfl rfl).trans
  (x33 ⟨f14 (by decide), f24 (by decide), f17 (by decide), f28 (by decide), f29 (by decide), f4 (by decide), f19 (by decide), f13 (by decide), f23 (by decide)⟩ xs)
end
theorem law_true (xs : List Int) : Tab 35 34 [.list (xs.map .int)] = some (.a (.bool true)) := (tab_eq (by decide) (by decide) rfl rfl).trans
  (x34 ⟨f14 (by decide), f30 (by decide), f10 (by decide), f22 (by decide), f31 (by decide), f32 (by decide), f33 (by decide)⟩ xs)
end Mine
end
section
open PySem PySem.Calls PySem.W PyProof.Rows
set_option maxRecDepth 100000
namespace Mine
theorem gd_of {mean : ExcName → Option Value} {mg mb : Str → Option Value} {H : Heap} {p : Program} {loose : List Str} (T : Top p loose mean mg mb H)
    (h : (usedNames.all fun x => !startupNames.contains x && !loose.contains x && !((recsOf p).map (·.name)).contains x && !((litsOf p).map (·.1)).contains x && !((clssOf p loose).map (·.name)).contains x) = true) : Gd mg mb H :=
  ⟨T.g, T.b, T.builtins, T.nolimit, fun x hx => by
    obtain ⟨h1, e⟩ := and2 (List.all_eq_true.mp h x hx)
    obtain ⟨h2, d⟩ := and2 h1
    obtain ⟨h3, c⟩ := and2 h2
    obtain ⟨a, b⟩ := and2 h3
    have no : ∀ {l : List Str}, (!l.contains x) = true → x ∉ l := fun h q => Bool.false_ne_true ((not1 h).symm.trans (List.contains_iff_mem.mpr q))
    exact T.free x (no a) (no b) (no c) (no d) (no e)⟩
theorem caller_ok : AOk 35 callerA := ⟨rfl, by decide, by decide⟩
theorem names_ok : (usedNames.all fun x => !startupNames.contains x && !(looseW view loose).contains x && !((recsOf view).map (·.name)).contains x && !((litsOf view).map (·.1)).contains x && !((clssOf view (looseW view loose)).map (·.name)).contains x) = true := by kernel_rfl
theorem well_ints {P : Params} {h : Heap} : ∀ {xs : List Int} {vs : List Value}, WellAll P h vs (ofPys (xs.map PyData.int)) → Paired RepA vs (xs.map .int)
  | [], _, x => by cases x; exact .nil
  | i :: r, _, x => by
    cases x with
    | cons a b =>
      cases a
      exact .cons ⟨_, rfl⟩ (well_ints b)
theorem rep_script {P : Params} {h : Heap} {L : Addr} {xs : List Int} (hw : Well P h (.ref L) (ofPy (.list (xs.map PyData.int)))) (hl : xs.length ≤ 63) : Rep h (.ref L) (.list (xs.map .int)) := by
  rw [ofPy] at hw
  cases hw with
  | list ho hv =>
    have p := well_ints hv
    have e := p.length
    rw [List.length_map] at e
    exact ⟨L, _, rfl, ⟨_, ho⟩, p, lsz (Nat.le_trans (Nat.le_of_eq e) (Nat.le_trans hl (by decide)))⟩
theorem whole : PySem.Challenge.rw_pf0341_01.Holds := by
  refine holds_law said fun said => ?_
  refine holds_open (r := row) (q := view) (loose := loose) (Xt := xt) (XP := XL view []) (YP := fun _ h => HexIn h) (N := 3204) left (fun _ _ e => hexIn_of e) (fun _ _ _ x k => x.keeps k) (fun s e => xl_of s (and2 e).1) XL.keeps (by rfl) (by rfl) (by rfl) (fun s e => recFacts_of (and2 e).2) (by rfl) said (by decide +kernel) ⟨rfl, rfl, rfl, rfl, rfl, by decide +kernel⟩ ?hw ?hc
  case hw => w_witness2
  intro w s₀ s₁ mg mb G Y fa o pm cd doc dV kV ho hd hcd hD hmg hg args vals as hpre hlay hrd hwl hlo
  have T := Ground.T G
  clear hcd hD ho hd G
  wrow_args hpre hlay hrd hwl hlo
  have w1 := ‹Well _ _ _ _›
  refine enter_call ?_
  obtain ⟨a, o', fd, m1, m2, m3, call⟩ := tab_fn (prog := row.prog) (w := w) T Y (gd_of T names_ok) 35 (Nat.le_refl _) 34 (PySem.Str.ofString "law") rfl
  have e : fa = a := by
    have := hmg.symm.trans m1
    cases this
    rfl
  subst e
  refine codeAny_mono (call callerA s₁ _ [_] _ caller_ok (fun _ _ x => x) (.cons (rep_script w1 (by omega)) .nil) (law_true _)) ?_
  rintro res s' ⟨v, rfl, k, r, f⟩
  have r' : v = .bool true := r
  subst r'
  have hK := keeps_sub k
  obtain ⟨h', tk, rfl, _⟩ := k
  refine GoodW.toG ⟨.inl ⟨_, .bool true, [], rfl, raisesW_false (by wrow_none_raised), ReadsW.bool true, ?_, fun _ => ⟨List.nodup_nil, nofun⟩⟩, hK, rfl, hg⟩
  kernel_rfl
end Mine
end
theorem PySem.Challenge.cw_pf0341_01_holds : PySem.Challenge.rw_pf0341_01.Holds :=
  Mine.whole
