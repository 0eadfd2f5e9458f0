import PyProof.Rows.All
import Wide.All
import OpenK.AllK
import Wide.FinOn
import PyProof.EnumStmt
import PyProof.EnumMake
import PySem.Challenge.RW_pf0341_01
set_option Elab.async false
set_option linter.unusedSimpArgs false
set_option linter.unusedVariables false
section
open PySem PySem.W PyProof.Rows
namespace Mine
set_option maxRecDepth 100000 in
set_option maxHeartbeats 8000000 in
open_top hd for PySem.Challenge.rw_pf0341_01
end Mine
end
section
open PySem PySem.Calls
set_option maxRecDepth 100000
namespace Mine

/-! Plain values and what represents them -/
inductive At where
  | none | bool (b : Bool) | int (i : Int) | str (l : List Nat)
  deriving DecidableEq, Inhabited

inductive PV where
  | a (x : At) | list (xs : List At) | tup (xs : List At) | bytes (b : List UInt8)
  deriving DecidableEq, Inhabited

def RepA (v : Value) : At → Prop
  | .none => v = .none
  | .bool b => v = .bool b
  | .int i => ∃ t, v = .int i t
  | .str l => ∃ t, v = .str ⟨l.toArray⟩ t ∧ l.length ≤ sizeLine

def PlainTup (h : Heap) (a : Addr) (items : Array Value) : Prop := ∃ n, h.get? a = some { cls := .type "tuple", data := .seq items n }

def Rep (h : Heap) (v : Value) : PV → Prop
  | .a x => RepA v x
  | .list xs => ∃ a vs, v = .ref a ∧ h.PlainList a vs.toArray ∧ Paired RepA vs xs ∧ vs.length ≤ sizeLine
  | .tup xs => ∃ a vs, v = .ref a ∧ PlainTup h a vs.toArray ∧ Paired RepA vs xs ∧ vs.length ≤ sizeLine
  | .bytes b => ∃ t, v = .bytes b.toArray t

def Sub (h h' : Heap) : Prop := ∀ b o, h.get? b = some o → h'.get? b = some o
theorem Sub.refl (h : Heap) : Sub h h := fun _ _ e => e
theorem Sub.trans {h h' h'' : Heap} (x : Sub h h') (y : Sub h' h'') : Sub h h'' := fun b o e => y b o (x b o e)
theorem Sub.push (h : Heap) (o : Obj) : Sub h (h.push o) := fun _ _ e => Heap.get?_push_of_some _ e

theorem Rep.mono {h h' : Heap} {v : Value} : ∀ {r : PV}, Rep h v r → Sub h h' → Rep h' v r
  | .a _, x, _ => x
  | .list _, ⟨a, vs, e, ⟨n, hp⟩, hx, hl⟩, k => ⟨a, vs, e, ⟨n, k _ _ hp⟩, hx, hl⟩
  | .tup _, ⟨a, vs, e, ⟨n, hp⟩, hx, hl⟩, k => ⟨a, vs, e, ⟨n, k _ _ hp⟩, hx, hl⟩
  | .bytes _, x, _ => x

theorem keeps_refl (s : Shared) : Keeps s s := ⟨s.heap, s.toks, rfl, fun _ _ e => e⟩
theorem keeps_sub {s s' : Shared} (k : Keeps s s') : Sub s.heap s'.heap := by
  obtain ⟨h, tk, rfl, k⟩ := k; exact k
theorem keeps_trans {s s' s'' : Shared} (x : Keeps s s') (y : Keeps s' s'') : Keeps s s'' := by
  obtain ⟨h, tk, rfl, k⟩ := x
  obtain ⟨h', tk', rfl, k'⟩ := y
  exact ⟨h', tk', rfl, fun b o e => k' b o (k b o e)⟩
theorem keeps_tok (s : Shared) (t : Nat) : Keeps s { s with toks := t } := ⟨s.heap, t, rfl, fun _ _ e => e⟩
theorem keeps_push (s : Shared) (o : Obj) (t : Nat) : Keeps s { s with heap := s.heap.push o, toks := t } := ⟨_, t, rfl, Sub.push _ _⟩
theorem keeps_push' (s : Shared) (o : Obj) : Keeps s { s with heap := s.heap.push o } := ⟨_, s.toks, rfl, Sub.push _ _⟩

def Fresh (h : Heap) (v : Value) : Prop := ∀ a, v = .ref a → h.get? a = none
theorem Fresh.sub {h h' : Heap} {v : Value} (x : Fresh h' v) (k : Sub h h') : Fresh h v := fun a e => by
  cases q : h.get? a with
  | none => rfl
  | some o => have := k a o q; rw [x a e] at this; cases this
theorem fresh_size (h : Heap) : Fresh h (.ref h.objs.size) := fun a e => by
  cases e
  cases q : h.get? h.objs.size with
  | none => rfl
  | some o => exact absurd (Heap.lt_size q) (Nat.lt_irrefl _)
theorem fresh_atom {h : Heap} {v : Value} {x : At} (r : RepA v x) : Fresh h v := fun a e => by
  subst e
  cases x <;> simp [RepA] at r

/-! The triple for an expression: from s the tree gives a value that represents r, keeps every object, raises never -/
def Ev (prog : Program) (w : World) (A : Around) (t : Sem Value) (s : Shared) (fr : Bool) (r : PV) : Prop :=
  wpAny (model prog w) A t (fun v s' => Keeps s s' ∧ Rep s'.heap v r ∧ (fr = true → Fresh s.heap v)) (fun _ _ => False) s

section
variable {prog : Program} {w : World} {A : Around} {E : Value → Shared → Prop} {s : Shared} {t : Sem Value} {r : PV} {fr : Bool} {Q : Value → Shared → Prop}
theorem Ev.use (x : Ev prog w A t s fr r) (h : ∀ v s', Keeps s s' → Rep s'.heap v r → (fr = true → Fresh s.heap v) → Q v s') : wpAny (model prog w) A t Q E s :=
  wpAny_mono x (fun v s' k => h v s' k.1 k.2.1 k.2.2) fun _ _ f => f.elim
/-- an end with an atom -/
theorem end_atom {s s' : Shared} {v : Value} {x : At} {fr : Bool} (k : Keeps s s') (r : RepA v x) : Keeps s s' ∧ Rep s'.heap v (.a x) ∧ (fr = true → Fresh s.heap v) := ⟨k, r, fun _ => fresh_atom r⟩
end

theorem paired_len {vs : List Value} {xs : List At} (h : Paired RepA vs xs) : vs.length = xs.length := h.length
theorem paired_app {vs ws : List Value} {xs ys : List At} (h : Paired RepA vs xs) (k : Paired RepA ws ys) : Paired RepA (vs ++ ws) (xs ++ ys) := by
  induction h with
  | nil => exact k
  | cons f _ ih => exact .cons f ih
theorem paired_rep {vs : List Value} {xs : List At} (h : Paired RepA vs xs) : ∀ n : Nat, Paired RepA (List.replicate n vs).flatten (List.replicate n xs).flatten
  | 0 => .nil
  | n + 1 => by
    rw [List.replicate_succ, List.replicate_succ, List.flatten_cons, List.flatten_cons]
    exact paired_app h (paired_rep h n)
theorem paired_get {vs : List Value} {xs : List At} (h : Paired RepA vs xs) : ∀ {i : Nat} {x : At}, xs[i]? = some x → ∃ v, vs[i]? = some v ∧ RepA v x := by
  induction h with
  | nil => intro i x e; simp at e
  | cons f _ ih =>
    intro i x e
    cases i with
    | zero => simp at e; subst e; exact ⟨_, by simp, f⟩
    | succ i => simpa using ih (by simpa using e)
theorem paired_get' {vs : List Value} {xs : List At} (h : Paired RepA vs xs) : ∀ {i : Nat} {v : Value}, vs[i]? = some v → ∃ x, xs[i]? = some x ∧ RepA v x := by
  induction h with
  | nil => intro i x e; simp at e
  | cons f _ ih =>
    intro i x e
    cases i with
    | zero => simp at e; subst e; exact ⟨_, by simp, f⟩
    | succ i => simpa using ih (by simpa using e)
theorem paired_take {vs : List Value} {xs : List At} (h : Paired RepA vs xs) : ∀ n, Paired RepA (vs.take n) (xs.take n) := by
  induction h with
  | nil => intro n; simpa using Paired.nil
  | cons f _ ih => intro n; cases n with
    | zero => simpa using Paired.nil
    | succ n => simpa using Paired.cons f (ih n)
theorem paired_drop {vs : List Value} {xs : List At} (h : Paired RepA vs xs) : ∀ n, Paired RepA (vs.drop n) (xs.drop n) := by
  induction h with
  | nil => intro n; simpa using Paired.nil
  | cons f t ih => intro n; cases n with
    | zero => simpa using Paired.cons f t
    | succ n => simpa using ih n
theorem paired_set {vs : List Value} {xs : List At} (h : Paired RepA vs xs) {v : Value} {x : At} (r : RepA v x) : ∀ n, Paired RepA (vs.set n v) (xs.set n x) := by
  induction h with
  | nil => intro n; simpa using Paired.nil
  | cons f t ih => intro n; cases n with
    | zero => simpa using Paired.cons r t
    | succ n => simpa using Paired.cons f (ih n)

/-! Binary operations -/
def big : Int := 2 ^ 200
def binop (op : Operator) (x y : PV) : Option PV :=
  match op, x, y with
  | .Add, .a (.int a), .a (.int b) => some (.a (.int (a + b)))
  | .Add, .a (.str a), .a (.str b) => if a.length + b.length ≤ sizeLine then some (.a (.str (a ++ b))) else none
  | .Add, .list a, .list b => if a.length + b.length ≤ sizeLine then some (.list (a ++ b)) else none
  | .Sub, .a (.int a), .a (.int b) => some (.a (.int (a - b)))
  | .Mult, .a (.int a), .a (.int b) => if a.natAbs < 2 ^ 64 ∨ b.natAbs < 2 ^ 64 ∨ (a.natAbs < 2 ^ 200 ∧ b.natAbs < 2 ^ 200) then some (.a (.int (a * b))) else none
  | .Mult, .list a, .a (.int b) => if -(2 ^ 63) ≤ b ∧ b < 2 ^ 63 ∧ a.length * b.toNat ≤ 2 ^ 24 then some (.list (List.replicate b.toNat a).flatten) else none
  | .FloorDiv, .a (.int a), .a (.int b) => if 0 < b ∧ b < 2 ^ 200 then some (.a (.int (a / b))) else none
  | .Mod, .a (.int a), .a (.int b) => if 0 < b then some (.a (.int (a % b))) else none
  | .Pow, .a (.int a), .a (.int b) => if 0 ≤ b ∧ b ≤ 1000000 ∧ a.natAbs < 2 ^ 64 then some (.a (.int (a ^ b.toNat))) else none
  | .LShift, .a (.int a), .a (.int b) => if 0 ≤ b ∧ b ≤ 1000 ∧ a.natAbs < 2 ^ 200 then some (.a (.int (a * 2 ^ b.toNat))) else none
  | .RShift, .a (.int a), .a (.int b) => if 0 ≤ b then some (.a (.int (a / 2 ^ b.toNat))) else none
  | .BitAnd, .a (.int a), .a (.int b) => if 0 ≤ a ∧ 0 ≤ b then some (.a (.int ((a.toNat &&& b.toNat : Nat) : Int))) else none
  | .BitOr, .a (.int a), .a (.int b) => if 0 ≤ a ∧ 0 ≤ b then some (.a (.int ((a.toNat ||| b.toNat : Nat) : Int))) else none
  | _, _, _ => none

theorem log2_lt_of {n k : Nat} (h : n < 2 ^ k) (hk : 0 < k) : n.log2 < k := by
  by_cases h0 : n = 0
  · subst h0; simpa using hk
  · exact (Nat.log2_lt h0).mpr h
theorem intBits_le {a : Int} {k : Nat} (h : a.natAbs < 2 ^ k) : Builtin.Int.intBits a ≤ k := by
  unfold Builtin.Int.intBits
  split
  · exact Nat.zero_le _
  · rename_i h0
    have h0' : a.natAbs ≠ 0 := by simpa using h0
    have := (Nat.log2_lt h0').mpr h
    omega
theorem mulOk_of {a b : Int} (h : a.natAbs < 2 ^ 64 ∨ b.natAbs < 2 ^ 64 ∨ (a.natAbs < 2 ^ 200 ∧ b.natAbs < 2 ^ 200)) : IntMulOk a b := by
  rcases h with h | h | ⟨h, k⟩
  · exact IntMulOk.of_left (intBits_le h)
  · exact IntMulOk.of_right (intBits_le h)
  · have := intBits_le h
    have := intBits_le k
    unfold IntMulOk Builtin.Int.intTooBig
    simp [bitsLine]
    intros
    omega
end Mine
end
section
open PySem PySem.Calls
set_option maxRecDepth 100000
namespace Mine
section
variable {prog : Program} {w : World} {A : Around} {s : Shared}

theorem plain_isList {h : Heap} {a : Addr} {its : Array Value} (x : h.PlainList a its) : h.IsList a its := by
  obtain ⟨n, e⟩ := x; exact ⟨_, e, rfl, n, rfl⟩
theorem list_type {a : Addr} {its : Array Value} (x : s.heap.PlainList a its) : s.TypeIs (.ref a) "list" := by
  obtain ⟨n, e⟩ := x; exact ⟨_, e, rfl⟩
theorem tup_type {a : Addr} {its : Array Value} (x : PlainTup s.heap a its) : s.TypeIs (.ref a) "tuple" := by
  obtain ⟨n, e⟩ := x; exact ⟨_, e, rfl⟩

theorem end_new {s : Shared} {o : Obj} {vs : List Value} {xs : List At} {fr : Bool} {n : Nat} (tk : Nat) (ho : o = { cls := .type "list", data := .seq vs.toArray n }) (p : Paired RepA vs xs) (hl : vs.length ≤ sizeLine) :
    Keeps s { s with heap := s.heap.push o, toks := tk } ∧ Rep (s.heap.push o) (.ref s.heap.objs.size) (.list xs) ∧ (fr = true → Fresh s.heap (.ref s.heap.objs.size)) := by
  subst ho
  exact ⟨keeps_push _ _ _, ⟨_, vs, rfl, ⟨n, Heap.get?_push_size _ rfl⟩, p, hl⟩, fun _ => fresh_size _⟩
theorem end_newT {s : Shared} {o : Obj} {vs : List Value} {xs : List At} {fr : Bool} {n : Nat} (tk : Nat) (ho : o = { cls := .type "tuple", data := .seq vs.toArray n }) (p : Paired RepA vs xs) (hl : vs.length ≤ sizeLine) :
    Keeps s { s with heap := s.heap.push o, toks := tk } ∧ Rep (s.heap.push o) (.ref s.heap.objs.size) (.tup xs) ∧ (fr = true → Fresh s.heap (.ref s.heap.objs.size)) := by
  subst ho
  exact ⟨keeps_push _ _ _, ⟨_, vs, rfl, ⟨n, Heap.get?_push_size _ rfl⟩, p, hl⟩, fun _ => fresh_size _⟩

theorem binop_sound {op : Operator} {x y r : PV} {v u : Value} {fr : Bool} (hx : Rep s.heap v x) (hy : Rep s.heap u y) (e : binop op x y = some r) :
    Ev prog w A (binaryOp op v u) s fr r := by
  unfold binop at e
  split at e
  · cases e; obtain ⟨t, rfl⟩ := hx; obtain ⟨t', rfl⟩ := hy
    exact PyProof.Rows.add_int (end_atom (keeps_tok _ _) ⟨_, rfl⟩)
  · split at e
    · rename_i a b hl; cases e; obtain ⟨t, rfl, h1⟩ := hx; obtain ⟨t', rfl, h2⟩ := hy
      refine SB.add (fun t' k => end_atom (keeps_tok _ _) ⟨t', ?_, by simpa using hl⟩) (by simpa [Str.length] using hl)
      show Value.str ⟨a.toArray ++ b.toArray⟩ t' = _
      simp
    · cases e
  · split at e
    · rename_i a b hl; cases e
      obtain ⟨l, vs, rfl, ⟨n, hp⟩, p, h1⟩ := hx
      obtain ⟨l', ws, rfl, ⟨n', hp'⟩, p', h2⟩ := hy
      rw [← paired_len p, ← paired_len p'] at hl
      refine concat_meets ⟨_, hp, rfl⟩ ⟨_, hp', rfl⟩ noFill_list_add seq_list_add PySem.F.slot_list_add PySem.F.entry_list_add (PySem.F.args_list_add_2 _ _) (PyProof.Rows.list_addW l l' vs.toArray ws.toArray n n' _ _ _ _ (by simpa using hl)) ⟨hp, hp', ?_⟩
      have := end_new (s := s) (fr := fr) (n := 0) s.toks (o := { cls := .type "list", data := .seq (vs ++ ws).toArray }) rfl (paired_app p p') (by simpa using hl)
      simpa using this
    · cases e
  · cases e; obtain ⟨t, rfl⟩ := hx; obtain ⟨t', rfl⟩ := hy
    exact PyProof.Rows.sub_int (end_atom (keeps_tok _ _) ⟨_, rfl⟩)
  · split at e
    · rename_i a b hm; cases e; obtain ⟨t, rfl⟩ := hx; obtain ⟨t', rfl⟩ := hy
      exact PyProof.Rows.mul_int (end_atom (keeps_tok _ _) ⟨_, rfl⟩) (mulOk_of hm)
    · cases e
  · split at e
    · rename_i a b hm; cases e
      obtain ⟨l, vs, rfl, ⟨n, hp⟩, p, h1⟩ := hx; obtain ⟨t', rfl⟩ := hy
      obtain ⟨m1, m2, m3⟩ := hm
      rw [← paired_len p] at m3
      have m3' : vs.toArray.size * b.toNat ≤ 2 ^ 24 := by simpa using m3
      refine wpAny_binaryOp_repeat_ref (T := "list") (U := "int") (by decide) ⟨_, hp, rfl⟩ (fun s' => typeIs_int s' b t') noFill_list_mul F.fills_int_mul F.slot_int_rmul repeat_list F.slot_int_index.lookup
        (call_meets F.slot_int_rmul (typeIs_int s b t') F.entry_int_rmul (F.args_int_rmul_2 _ _) (int___rmul___int_list b t' l vs.toArray n)
        ⟨hp, rfl, ⟨_, hp, rfl⟩, call_meets F.slot_list_mul ⟨_, hp, rfl⟩ F.entry_list_mul (F.args_list_mul_2 _ _)
          (AutoListH.list___mul___list_int_3 l vs.toArray n b t' (by simp [Builtin.List.listFitsIndex]; omega) (by omega) (by simp [Builtin.List.listTooLong, sizeLine]; omega))
          ⟨hp, ?_⟩⟩)
      have hz : (List.replicate b.toNat vs).flatten.length ≤ sizeLine := by
        rw [List.length_flatten, List.map_replicate, List.sum_replicate_nat, sizeLine_eq, Nat.mul_comm]; omega
      have := end_new (s := s) (fr := fr) (n := 0) s.toks (o := { cls := .type "list", data := .seq (List.replicate b.toNat vs).flatten.toArray }) rfl (paired_rep p b.toNat) hz
      rw [PyProof.Rows.listMul_foldl_if]
      simpa using this
    · cases e
  · split at e
    · rename_i a b hm; cases e; obtain ⟨t, rfl⟩ := hx; obtain ⟨t', rfl⟩ := hy
      refine PyProof.Rows.floordiv_int (by omega) (end_atom (keeps_tok _ _) ⟨s.toks, ?_⟩) (.inl (PyProof.noPylong_of_log2 ?_))
      · rw [Int.fdiv_eq_ediv_of_nonneg _ (by omega)]
      · have : b.natAbs < 2 ^ 200 := by omega
        have := log2_lt_of this (by decide)
        omega
    · cases e
  · split at e
    · rename_i a b hm; cases e; obtain ⟨t, rfl⟩ := hx; obtain ⟨t', rfl⟩ := hy
      refine PyProof.Rows.mod_int' (by omega) (end_atom (keeps_tok _ _) ⟨s.toks, ?_⟩)
      rw [Int.fmod_eq_emod_of_nonneg _ (by omega)]
    · cases e
  · split at e
    · rename_i a b hm; cases e; obtain ⟨t, rfl⟩ := hx; obtain ⟨t', rfl⟩ := hy
      exact PyProof.Rows.pow_int_small hm.1 hm.2.1 hm.2.2 (end_atom (keeps_tok _ _) ⟨_, rfl⟩)
    · cases e
  · split at e
    · rename_i a b hm; cases e; obtain ⟨t, rfl⟩ := hx; obtain ⟨t', rfl⟩ := hy
      refine PyProof.Rows.lshift_int hm.1 ?_ (end_atom (keeps_tok _ _) ⟨_, rfl⟩)
      have := intBits_le hm.2.2
      omega
    · cases e
  · split at e
    · rename_i a b hm; cases e; obtain ⟨t, rfl⟩ := hx; obtain ⟨t', rfl⟩ := hy
      refine PyProof.Rows.rshift_int hm (end_atom (keeps_tok _ _) ⟨s.toks, ?_⟩)
      rw [Int.fdiv_eq_ediv_of_nonneg _ (Int.le_of_lt (Int.pow_pos (by decide)))]
    · cases e
  · split at e
    · rename_i a b hm; cases e; obtain ⟨t, rfl⟩ := hx; obtain ⟨t', rfl⟩ := hy
      refine PyProof.Rows.and_int (end_atom (keeps_tok _ _) ⟨s.toks, ?_⟩)
      unfold Builtin.bitAnd; simp [hm.1, hm.2]
    · cases e
  · split at e
    · rename_i a b hm; cases e; obtain ⟨t, rfl⟩ := hx; obtain ⟨t', rfl⟩ := hy
      refine PyProof.Rows.or_int (end_atom (keeps_tok _ _) ⟨s.toks, ?_⟩)
      have e1 : ¬ (0 ≤ Builtin.bitNot a) := by unfold Builtin.bitNot; omega
      have e2 : ¬ (0 ≤ Builtin.bitNot b) := by unfold Builtin.bitNot; omega
      have e3 : ∀ z : Int, Builtin.bitNot (Builtin.bitNot z) = z := fun z => by unfold Builtin.bitNot; omega
      unfold Builtin.bitOr Builtin.bitAnd
      simp [e1, e2, e3]
    · cases e
  · cases e
end
end Mine
end
section
open PySem PySem.Calls
set_option maxRecDepth 100000
namespace Mine

def At.plain : At → Bool
  | .none => true
  | .int _ => true
  | _ => false
def PV.plain : PV → Bool
  | .a x => x.plain
  | .list xs => xs.all At.plain
  | .tup xs => xs.all At.plain
  | .bytes _ => false
def intsOf : List At → Option (List Int)
  | [] => some []
  | .int i :: r => (intsOf r).map (i :: ·)
  | _ :: _ => none
def strsOf : List At → Option (List (List Nat))
  | [] => some []
  | .str i :: r => (strsOf r).map (i :: ·)
  | _ :: _ => none

def cmpop (op : CmpOp) (x y : PV) : Option Bool :=
  match op, x, y with
  | .Eq, .a (.str a), .a (.str b) => some (decide (a = b))
  | .NotEq, .a (.str a), .a (.str b) => some (!decide (a = b))
  | .Eq, x, y => if x.plain && y.plain then some (decide (x = y)) else none
  | .NotEq, x, y => if x.plain && y.plain then some (!decide (x = y)) else none
  | .Lt, .a (.int a), .a (.int b) => some (decide (a < b))
  | .LtE, .a (.int a), .a (.int b) => some (decide (a ≤ b))
  | .Gt, .a (.int a), .a (.int b) => some (decide (b < a))
  | .GtE, .a (.int a), .a (.int b) => some (decide (b ≤ a))
  | .LtE, .a (.str a), .a (.str b) => some (!decide (b < a))
  | .Is, .a x, .a .none => some (decide (x = .none))
  | .Is, .list _, .a .none => some false
  | .In, .a (.str [c]), .a (.str x) => some (decide (c ∈ x))
  | .In, .a (.int i), .list xs => (intsOf xs).map fun ns => ns.any (· == i)
  | .NotIn, .a (.str l), .list xs => (strsOf xs).map fun ss => !(ss.any (· == l))
  | _, _, _ => none

def toPyA : At → PyData
  | .none => .none
  | .bool b => .bool b
  | .int i => .int i
  | .str l => .str ⟨l.toArray⟩
def toPy : PV → PyData
  | .a x => toPyA x
  | .list xs => .list (xs.map toPyA)
  | .tup xs => .tuple (xs.map toPyA)
  | .bytes _ => .none

theorem reads_a {h : Heap} {v : Value} : ∀ {x : At}, x.plain = true → RepA v x → Reads h v (toPyA x) []
  | .none, _, e => by cases e; exact .none
  | .int _, _, ⟨t, e⟩ => by cases e; exact .int _ _
  | .bool _, p, _ => by cases p
  | .str _, p, _ => by cases p
theorem reads_all {h : Heap} {vs : List Value} {xs : List At} (p : Paired RepA vs xs) : xs.all At.plain = true → ReadsAll h vs (xs.map toPyA) [] := by
  induction p with
  | nil => intro _; exact .nil
  | cons f _ ih =>
    intro e
    simp only [List.all_cons, Bool.and_eq_true] at e
    exact ReadsAll.cons (as := []) (reads_a e.1 f) (ih e.2)
theorem reads_pv {h : Heap} {v : Value} : ∀ {x : PV}, x.plain = true → Rep h v x → ∃ as, Reads h v (toPy x) as
  | .a _, p, e => ⟨_, reads_a p e⟩
  | .list _, p, ⟨a, vs, e, ⟨n, hp⟩, q, _⟩ => by subst e; exact ⟨_, Reads.list hp rfl rfl (reads_all q p)⟩
  | .tup _, p, ⟨a, vs, e, ⟨n, hp⟩, q, _⟩ => by subst e; exact ⟨_, Reads.tuple hp rfl rfl (reads_all q p)⟩
  | .bytes _, p, _ => by cases p

theorem canLay_a : ∀ {x : At}, x.plain = true → (toPyA x).canLay0 = true ∧ (toPyA x).depth = 0
  | .none, _ => ⟨rfl, rfl⟩
  | .int _, _ => ⟨rfl, rfl⟩
  | .bool _, p => by cases p
  | .str _, p => by cases p
theorem canLay_all : ∀ {xs : List At}, xs.all At.plain = true → PyData.canLayAll0 (xs.map toPyA) = true ∧ PyData.depthAll (xs.map toPyA) = 0
  | [], _ => ⟨rfl, rfl⟩
  | x :: r, e => by
    simp only [List.all_cons, Bool.and_eq_true] at e
    have h1 := canLay_a e.1
    have h2 := canLay_all e.2
    simp [PyData.canLayAll0, PyData.depthAll, h1, h2]
theorem shaped_pv : ∀ {x : PV}, x.plain = true → SeqAt.shaped (toPy x) = true
  | .a _, p => by have := canLay_a p; simp [SeqAt.shaped, toPy, this]
  | .list _, p => by have := canLay_all p; simp [SeqAt.shaped, toPy, this, PyData.canLay0, PyData.depth]
  | .tup _, p => by have := canLay_all p; simp [SeqAt.shaped, toPy, this, PyData.canLay0, PyData.depth]
  | .bytes _, p => by cases p
theorem eqv_a : ∀ {x y : At}, x.plain = true → y.plain = true → PyData.eqv (toPyA x) (toPyA y) = decide (x = y)
  | .none, .none, _, _ => by simp [toPyA, PyData.eqv]
  | .int a, .int b, _, _ => by simp [toPyA, PyData.eqv]; rfl
  | .none, .int _, _, _ => by simp [toPyA, PyData.eqv]
  | .int _, .none, _, _ => by simp [toPyA, PyData.eqv]
  | .bool _, _, p, _ => by cases p
  | .str _, _, p, _ => by cases p
  | _, .bool _, _, p => by cases p
  | _, .str _, _, p => by cases p
theorem eqv_all : ∀ {xs ys : List At}, xs.all At.plain = true → ys.all At.plain = true → PyData.eqvAll (xs.map toPyA) (ys.map toPyA) = decide (xs = ys)
  | [], [], _, _ => by simp [PyData.eqvAll]
  | [], _ :: _, _, _ => by simp [PyData.eqvAll]
  | _ :: _, [], _, _ => by simp [PyData.eqvAll]
  | x :: r, y :: t, p, q => by
    simp only [List.all_cons, Bool.and_eq_true] at p q
    have h1 := eqv_a p.1 q.1
    have h2 := eqv_all p.2 q.2
    simp only [List.map_cons, PyData.eqvAll, h1, h2]
    by_cases e : x = y <;> by_cases e' : r = t <;> simp [e, e']
theorem eqv_pv : ∀ {x y : PV}, x.plain = true → y.plain = true → PyData.eqv (toPy x) (toPy y) = decide (x = y)
  | .a _, .a _, p, q => by have := eqv_a p q; simp [toPy, this]
  | .list _, .list _, p, q => by have := eqv_all p q; simp [toPy, this, PyData.eqv]
  | .tup _, .tup _, p, q => by have := eqv_all p q; simp [toPy, this, PyData.eqv]
  | .a x, .list _, _, _ => by cases x <;> simp [toPy, toPyA, PyData.eqv]
  | .a x, .tup _, _, _ => by cases x <;> simp [toPy, toPyA, PyData.eqv]
  | .list _, .a x, _, _ => by cases x <;> simp [toPy, toPyA, PyData.eqv]
  | .tup _, .a x, _, _ => by cases x <;> simp [toPy, toPyA, PyData.eqv]
  | .list _, .tup _, _, _ => by simp [toPy, PyData.eqv]
  | .tup _, .list _, _, _ => by simp [toPy, PyData.eqv]
  | .bytes _, _, p, _ => by cases p
  | _, .bytes _, _, p => by cases p

theorem intsAre_of {vs : List Value} {xs : List At} (p : Paired RepA vs xs) : ∀ {ns : List Int}, intsOf xs = some ns → PyProof.Rows.IntsAre vs ns := by
  induction p with
  | nil => intro ns e; cases e; exact .nil
  | @cons v x _ r f _ ih =>
    intro ns e
    cases x with
    | int i =>
      obtain ⟨t, rfl⟩ := f
      simp only [intsOf, Option.map_eq_some_iff] at e
      obtain ⟨m, hm, rfl⟩ := e
      exact .cons _ _ (ih hm)
    | _ => cases e
theorem strsAre_of {vs : List Value} {xs : List At} (p : Paired RepA vs xs) : ∀ {ns : List (List Nat)}, strsOf xs = some ns → PyProof.Rows.StrsAre vs (ns.map fun l => ⟨l.toArray⟩) := by
  induction p with
  | nil => intro ns e; cases e; exact .nil
  | @cons v x _ r f _ ih =>
    intro ns e
    cases x with
    | str i =>
      obtain ⟨t, rfl, _⟩ := f
      simp only [strsOf, Option.map_eq_some_iff] at e
      obtain ⟨m, hm, rfl⟩ := e
      exact .cons _ _ (ih hm)
    | _ => cases e
theorem str_beq (a b : List Nat) : ((⟨a.toArray⟩ : Str) == ⟨b.toArray⟩) = (a == b) := by
  by_cases h : a = b
  · subst h; simp
  · have : ¬ (⟨a.toArray⟩ : Str) = ⟨b.toArray⟩ := fun e => h (by simpa using congrArg (fun z : Str => z.cps.toList) e)
    rw [beq_eq_false_iff_ne.mpr this, beq_eq_false_iff_ne.mpr h]

theorem beq_dec (a b : List Nat) : (a == b) = decide (a = b) := by
  by_cases h : a = b <;> simp [h]
section
variable {prog : Program} {w : World} {A : Around} {s : Shared} {E : Value → Shared → Prop} {Q : Value → Shared → Prop}
theorem cmpop_sound {op : CmpOp} {x y : PV} {r : Bool} {v u : Value} (hx : Rep s.heap v x) (hy : Rep s.heap u y) (hu : A.units + 64 < cLine) (e : cmpop op x y = some r) (h : Q (.bool r) s) :
    wpAny (model prog w) A (compareOp op v u) Q E s := by
  unfold cmpop at e
  split at e
  · cases e; obtain ⟨t, rfl, _⟩ := hx; obtain ⟨t', rfl, _⟩ := hy
    refine PySem.P.eq_str ?_
    rw [beq_dec]; exact h
  · cases e; obtain ⟨t, rfl, _⟩ := hx; obtain ⟨t', rfl, _⟩ := hy
    refine PySem.P.ne_str ?_
    rw [bne, beq_dec]; exact h
  · split at e
    · rename_i p; cases e
      simp only [Bool.and_eq_true] at p
      obtain ⟨_, r1⟩ := reads_pv p.1 hx
      obtain ⟨_, r2⟩ := reads_pv p.2 hy
      refine PyProof.Rows.eq_dataH r1 r2 (shaped_pv p.1) (shaped_pv p.2) hu ?_
      rw [eqv_pv p.1 p.2]; exact h
    · cases e
  · split at e
    · rename_i p; cases e
      simp only [Bool.and_eq_true] at p
      obtain ⟨_, r1⟩ := reads_pv p.1 hx
      obtain ⟨_, r2⟩ := reads_pv p.2 hy
      refine PyProof.Rows.ne_dataH r1 r2 (shaped_pv p.1) (shaped_pv p.2) hu ?_
      rw [eqv_pv p.1 p.2]; exact h
    · cases e
  · cases e; obtain ⟨t, rfl⟩ := hx; obtain ⟨t', rfl⟩ := hy
    exact PySem.P.lt_int h
  · cases e; obtain ⟨t, rfl⟩ := hx; obtain ⟨t', rfl⟩ := hy
    exact PySem.P.le_int h
  · cases e; obtain ⟨t, rfl⟩ := hx; obtain ⟨t', rfl⟩ := hy
    exact PySem.P.gt_int h
  · cases e; obtain ⟨t, rfl⟩ := hx; obtain ⟨t', rfl⟩ := hy
    exact PySem.P.ge_int h
  · cases e; obtain ⟨t, rfl, _⟩ := hx; obtain ⟨t', rfl, _⟩ := hy
    refine PySem.P.le_str ?_
    simpa using h
  · rename_i x; cases e; cases hy
    cases x with
    | none => cases hx; exact wpAny_is_plain rfl (by simpa using h)
    | bool b => cases hx; exact wpAny_is_other rfl nofun (by simpa using h)
    | int b => obtain ⟨t, rfl⟩ := hx; exact wpAny_is_other rfl nofun (by simpa using h)
    | str b => obtain ⟨t, rfl, _⟩ := hx; exact wpAny_is_other rfl nofun (by simpa using h)
  · cases e; cases hy
    obtain ⟨a, vs, rfl, _⟩ := hx
    exact wpAny_is_other rfl nofun h
  · cases e; obtain ⟨t, rfl, _⟩ := hx; obtain ⟨t', rfl, _⟩ := hy
    refine PySem.P.in_str ?_
    have := StrLaws.found_one
    simp only [this]
    simpa using h
  · rename_i i xs
    simp only [Option.map_eq_some_iff] at e
    obtain ⟨ns, hn, rfl⟩ := e
    obtain ⟨t, rfl⟩ := hx
    obtain ⟨a, vs, rfl, hp, q, _⟩ := hy
    exact PyProof.Rows.in_list_ints (plain_isList hp) (intsAre_of q hn) h
  · rename_i i xs
    simp only [Option.map_eq_some_iff] at e
    obtain ⟨ns, hn, rfl⟩ := e
    obtain ⟨t, rfl, _⟩ := hx
    obtain ⟨a, vs, rfl, hp, q, _⟩ := hy
    refine PyProof.Rows.notin_list_strs (plain_isList hp) (strsAre_of q hn) ?_
    rw [List.any_map]
    simp only [Function.comp_def, str_beq]
    exact h
  · cases e
end
end Mine
end
section
open PySem PySem.Calls
set_option maxRecDepth 100000
namespace Mine
open Builtin.Str (occurrences strSub subAt glued tooLong strSliceIndices)

/-! Slices -/
def clip (n d : Nat) : Option Int → Nat
  | none => d
  | some i => if i < 0 then (i + n).toNat else min i.toNat n
def pySlice {α : Type} (l : List α) (lo hi : Option Int) : List α := (l.take (clip l.length l.length hi)).drop (clip l.length 0 lo)

theorem clip_le (n : Nat) (o : Option Int) {d : Nat} (hd : d ≤ n) : clip n d o ≤ n := by
  cases o with
  | none => exact hd
  | some i => unfold clip; dsimp only; split <;> omega
def clipI (n d : Int) : Option Int → Int
  | none => d
  | some i => max (0 : Int) (min (if i < (0 : Int) then i + n else i) n)
theorem clip_int (n d : Nat) (o : Option Int) : clipI (n : Int) (d : Int) o = ((clip n d o : Nat) : Int) := by
  cases o with
  | none => rfl
  | some i => unfold clip clipI; dsimp only; split <;> omega
theorem range_plain (a b : Nat) : sliceRange (a : Int) (b : Int) 1 = (List.range (b - a)).map (fun k => a + k) := by
  unfold sliceRange
  simp only [show ((1 : Int) > 0) = True from by simp, if_true]
  by_cases hlt : (a : Int) < b
  · have e3 : (((b : Int) - a + 1 - 1) / 1).toNat = b - a := by simp
    simp only [hlt, if_true, e3]
    refine List.map_congr_left fun k _ => ?_
    omega
  · have : b - a = 0 := by omega
    simp [hlt, this]
theorem indices_eq (lo hi : Option Int) (n : Nat) : strSliceIndices lo hi 1 n = (List.range (clip n n hi - clip n 0 lo)).map (fun k => clip n 0 lo + k) := by
  rw [← range_plain, ← clip_int, ← clip_int]
  unfold strSliceIndices
  cases lo <;> cases hi <;> simp [clipI]
theorem picks_all {α : Type} (l : List α) (a b : Nat) (hb : b ≤ l.length) : ((List.range (b - a)).map (fun k => a + k)).filterMap (l[·]?) = (l.take b).drop a := by
  by_cases h : a ≤ b
  · rw [StrLaws.picks l (b - a) a (by omega), List.drop_take]
  · have : b - a = 0 := by omega
    rw [this, List.drop_of_length_le (by rw [List.length_take]; omega)]; simp
theorem slice_str (l : List Nat) (lo hi : Option Int) : Txt.slice ⟨l.toArray⟩ lo hi = ⟨(pySlice l lo hi).toArray⟩ := by
  have e : ((strSliceIndices lo hi 1 l.length).filterMap (fun i => (l.toArray)[i]?)) = pySlice l lo hi := by
    rw [indices_eq]
    have := picks_all l (clip l.length 0 lo) (clip l.length l.length hi) (clip_le _ _ (Nat.le_refl _))
    simpa [pySlice] using this
  unfold Txt.slice
  have hl : (⟨l.toArray⟩ : Str).length = l.length := by simp [Str.length]
  rw [hl]
  split
  · rename_i h
    have h' : (strSliceIndices lo hi 1 l.length).length = l.length := by simpa using h
    rw [indices_eq] at h'
    have hc := clip_le l.length hi (Nat.le_refl l.length)
    simp at h'
    have : pySlice l lo hi = l := by
      unfold pySlice
      by_cases h0 : l.length = 0
      · have : l = [] := List.length_eq_zero_iff.mp h0
        subst this; simp
      · have h1 : clip l.length 0 lo = 0 := by omega
        have h2 : clip l.length l.length hi = l.length := by omega
        rw [h1, h2]; simp
    rw [this]
  · rw [← e]
theorem slice_list (l : List Value) (lo hi : Option Int) : slicePick l.toArray lo hi none = (pySlice l lo hi).toArray := by
  unfold slicePick
  congr 1
  have hb : (sliceBounds lo hi none l.toArray.size) = (((clip l.length 0 lo : Nat) : Int), ((clip l.length l.length hi : Nat) : Int), (1 : Int)) := by
    rw [← clip_int, ← clip_int]
    unfold sliceBounds
    cases lo <;> cases hi <;> simp [clipI]
  rw [hb]
  dsimp only
  rw [range_plain]
  have := picks_all l (clip l.length 0 lo) (clip l.length l.length hi) (clip_le _ _ (Nat.le_refl _))
  simpa [pySlice] using this
theorem pySlice_len {α : Type} (l : List α) (lo hi : Option Int) : (pySlice l lo hi).length ≤ l.length := by
  unfold pySlice; simp; omega
theorem paired_slice {vs : List Value} {xs : List At} (h : Paired RepA vs xs) (lo hi : Option Int) : Paired RepA (pySlice vs lo hi) (pySlice xs lo hi) := by
  unfold pySlice
  rw [paired_len h]
  exact paired_drop (paired_take h _) _

/-! Join -/
def joinL (sep : List Nat) : List (List Nat) → List Nat
  | [] => []
  | [x] => x
  | x :: y :: r => x ++ (sep ++ joinL sep (y :: r))
theorem join_str (sep : List Nat) : ∀ ls : List (List Nat), Txt.join ⟨sep.toArray⟩ (ls.map fun l => ⟨l.toArray⟩) = ⟨(joinL sep ls).toArray⟩ := by
  intro ls
  show glued _ _ = _
  rw [StrLaws.glued_eq_join]
  induction ls with
  | nil => rfl
  | cons x r ih =>
    cases r with
    | nil => rfl
    | cons y r =>
      show ((⟨x.toArray⟩ : Str) ++ ⟨sep.toArray⟩ ++ Str.join ⟨sep.toArray⟩ ((y :: r).map fun l => ⟨l.toArray⟩)) = _
      rw [ih]
      show Str.mk (x.toArray ++ sep.toArray ++ (joinL sep (y :: r)).toArray) = _
      simp [joinL, List.append_assoc]
def sumLen : List (List Nat) → Nat
  | [] => 0
  | x :: r => x.length + sumLen r
theorem joinOk_of {sep : List Nat} {ls : List (List Nat)} (h : sumLen ls + ls.length * sep.length ≤ sizeLine) : JoinOk ⟨sep.toArray⟩ (ls.map fun l => ⟨l.toArray⟩) = true := by
  unfold JoinOk
  rw [StrLaws.joinTotal]
  have e : ((ls.map fun l => (⟨l.toArray⟩ : Str)).map (·.length)).sum = sumLen ls := by
    clear h
    induction ls with
    | nil => rfl
    | cons x r ih => simp only [List.map_cons, List.sum_cons, sumLen, ih]; simp [Str.length]
  rw [e]
  simp [tooLong, Str.length]
  omega
theorem joinL_len (sep : List Nat) : ∀ ls : List (List Nat), (joinL sep ls).length ≤ sumLen ls + ls.length * sep.length
  | [] => by simp [joinL]
  | [x] => by simp [joinL, sumLen]
  | x :: y :: r => by
    have := joinL_len sep (y :: r)
    simp only [joinL, List.length_append, sumLen, List.length_cons] at *
    have e : (r.length + 1 + 1) * sep.length = (r.length + 1) * sep.length + sep.length := by rw [Nat.add_mul]; simp
    omega

/-! Find of one sign -/
def findC (c : Nat) : List Nat → Int
  | [] => -1
  | x :: r => if x = c then 0 else (let k := findC c r; if k < 0 then -1 else k + 1)
theorem findC_spec (c : Nat) : ∀ l : List Nat, (findC c l = -1 ∧ c ∉ l) ∨ ∃ i : Nat, findC c l = i ∧ l[i]? = some c ∧ ∀ k, k < i → l[k]? ≠ some c
  | [] => .inl ⟨rfl, by simp⟩
  | x :: r => by
    by_cases h : x = c
    · exact .inr ⟨0, by simp [findC, h], by simp [h], fun k hk => absurd hk (Nat.not_lt_zero _)⟩
    · rcases findC_spec c r with ⟨e, hn⟩ | ⟨i, e, h1, h2⟩
      · refine .inl ⟨by simp [findC, h, e], ?_⟩
        simp only [List.mem_cons, not_or]
        exact ⟨fun q => h q.symm, hn⟩
      · refine .inr ⟨i + 1, ?_, by simpa using h1, ?_⟩
        · simp only [findC, h, if_false, e]
          rw [if_neg (by omega)]; rfl
        · intro k hk
          cases k with
          | zero => simpa using h
          | succ k => simpa using h2 k (by omega)
theorem find_one (l : List Nat) (c : Nat) : Txt.find ⟨l.toArray⟩ ⟨#[c]⟩ = findC c l := by
  have at_iff : ∀ i, StrLaws.At ⟨l.toArray⟩ ⟨#[c]⟩ (⟨l.toArray⟩ : Str).length i ↔ l[i]? = some c := fun i => by
    have := StrLaws.subAt_one ⟨l.toArray⟩ c i
    simpa [StrLaws.At] using this
  unfold Txt.find
  rcases StrLaws.occ_head ⟨l.toArray⟩ ⟨#[c]⟩ 1 (Nat.le_refl 1) with ⟨e, hn⟩ | ⟨i, r, e, h1, h2⟩
  · rw [e]
    rcases findC_spec c l with ⟨e', _⟩ | ⟨i, e', h1, _⟩
    · exact e'.symm
    · exact absurd ((at_iff i).mpr h1) (hn i)
  · rw [e]
    have h1' := (at_iff i).mp h1
    rcases findC_spec c l with ⟨e', hm⟩ | ⟨j, e', k1, k2⟩
    · exact absurd (List.mem_of_getElem? h1') hm
    · rw [e']
      have : i = j := by
        rcases Nat.lt_trichotomy i j with q | q | q
        · exact absurd h1' (k2 i q)
        · exact q
        · exact absurd ((at_iff j).mpr k1) (h2 j q)
      subst this; rfl

/-! Split -/
def splitL (sep : List Nat) : Nat → List Nat → List (List Nat)
  | 0, l => [l]
  | _ + 1, [] => [[]]
  | n + 1, c :: r => if sep.isPrefixOf (c :: r) then [] :: splitL sep n ((c :: r).drop sep.length)
      else match splitL sep n r with
        | [] => [[c]]
        | h :: t => (c :: h) :: t
def consFirst (p : List Nat) : List (List Nat) → List (List Nat)
  | [] => [p]
  | h :: t => (p ++ h) :: t
theorem splitL_ne (sep : List Nat) : ∀ n l, splitL sep n l ≠ [] := by
  intro n l
  cases n with
  | zero => simp [splitL]
  | succ n =>
    cases l with
    | nil => simp [splitL]
    | cons c r =>
      unfold splitL
      split
      · simp
      · split <;> simp
theorem splitL_skip (sep : List Nat) : ∀ (p rest : List Nat) (n : Nat), p.length ≤ n → (∀ k, k < p.length → sep.isPrefixOf ((p ++ rest).drop k) = false) →
    splitL sep n (p ++ rest) = consFirst p (splitL sep (n - p.length) rest)
  | [], rest, n, _, _ => by
    simp only [List.nil_append, List.length_nil, Nat.sub_zero]
    cases h : splitL sep n rest with
    | nil => exact absurd h (splitL_ne _ _ _)
    | cons a b => rfl
  | c :: p, rest, n, hn, hk => by
    cases n with
    | zero => simp at hn
    | succ n =>
      have h0 := hk 0 (by simp)
      simp only [List.drop_zero] at h0
      have ih := splitL_skip sep p rest n (by simpa using hn) (fun k hk' => by simpa using hk (k + 1) (by simpa using hk'))
      simp only [List.cons_append] at h0 ⊢
      rw [splitL, h0]
      simp only [Bool.false_eq_true, if_false, ih]
      have : n + 1 - (c :: p).length = n - p.length := by simp
      rw [this]
      cases h : splitL sep (n - p.length) rest with
      | nil => exact absurd h (splitL_ne _ _ _)
      | cons a b => rfl
theorem splitL_none (sep : List Nat) : ∀ (l : List Nat) (n : Nat), l.length < n → (∀ k, k < l.length → sep.isPrefixOf (l.drop k) = false) → splitL sep n l = [l] := by
  intro l n hn hk
  have := splitL_skip sep l [] n (Nat.le_of_lt hn) (by simpa using hk)
  rw [List.append_nil] at this
  rw [this]
  have : ∃ m, n - l.length = m + 1 := ⟨n - l.length - 1, by omega⟩
  obtain ⟨m, hm⟩ := this
  rw [hm]; simp [splitL, consFirst]
theorem at_prefix (l sep : List Nat) (i : Nat) (hs : sep ≠ []) : StrLaws.At ⟨l.toArray⟩ ⟨sep.toArray⟩ (⟨l.toArray⟩ : Str).length i ↔ sep.isPrefixOf (l.drop i) = true := by
  unfold StrLaws.At
  rw [StrLaws.subAt_eq]
  simp only [Str.length, List.size_toArray, beq_iff_eq, List.isPrefixOf_iff_prefix]
  constructor
  · rintro ⟨h1, h2⟩
    exact ⟨(l.drop i).drop sep.length, by
      have e := List.take_append_drop sep.length (l.drop i)
      rw [h2] at e; exact e⟩
  · rintro ⟨t, ht⟩
    refine ⟨?_, by rw [← ht]; simp⟩
    have := congrArg List.length ht
    simp at this
    have : 0 < sep.length := List.length_pos_iff.mpr hs
    omega
theorem split_chain (l sep : List Nat) (hs : sep ≠ []) : ∀ (cuts : List Nat) (a f n : Nat), StrLaws.ChainG ⟨l.toArray⟩ ⟨sep.toArray⟩ (⟨l.toArray⟩ : Str).length a cuts f → (∀ k, f ≤ k → ¬ StrLaws.At ⟨l.toArray⟩ ⟨sep.toArray⟩ (⟨l.toArray⟩ : Str).length k) → (l.drop a).length < n →
    (StrLaws.partsFrom ⟨l.toArray⟩ sep.length a cuts) = (splitL sep n (l.drop a)).map fun p => ⟨p.toArray⟩
  | [], a, f, n, hc, hf, hn => by
    have e : f = a := hc
    subst e
    rw [splitL_none sep (l.drop f) n hn fun k hk => ?_]
    · show [strSub ⟨l.toArray⟩ f l.toArray.size] = _
      rw [List.map_cons, List.map_nil]
      congr 1
      refine StrLaws.mk_of_toList ?_
      rw [StrLaws.strSub_toList]
      simp [List.take_of_length_le]
    · rw [List.drop_drop]
      have := hf (f + k) (by omega)
      rw [at_prefix l sep _ hs] at this
      exact Bool.eq_false_iff.mpr this
  | c :: r, a, f, n, ⟨h1, h2, h3, h4⟩, hf, hn => by
    have hlen : 0 < sep.length := List.length_pos_iff.mpr hs
    have h2' := (at_prefix l sep c hs).mp h2
    have hcl : c + sep.length ≤ l.length := by
      have := h2.1; simpa [Str.length] using this
    have hsplit : l.drop a = (l.drop a).take (c - a) ++ l.drop c := by
      have : l.drop c = (l.drop a).drop (c - a) := by rw [List.drop_drop]; congr 1; omega
      rw [this, List.take_append_drop]
    have hpl : ((l.drop a).take (c - a)).length = c - a := by simp; omega
    have hskip := splitL_skip sep ((l.drop a).take (c - a)) (l.drop c) n (by rw [hpl]; simp at hn; omega) (fun k hk => by
      rw [hpl] at hk
      rw [← hsplit, List.drop_drop]
      have := h3 (a + k) (by omega) (by omega)
      rw [at_prefix l sep _ hs] at this
      exact Bool.eq_false_iff.mpr this)
    rw [← hsplit, hpl] at hskip
    have hm : ∃ m, n - (c - a) = m + 1 := ⟨n - (c - a) - 1, by simp at hn; omega⟩
    obtain ⟨m, hm⟩ := hm
    rw [hm] at hskip
    have hne : ∃ x t, l.drop c = x :: t := by
      cases q : l.drop c with
      | nil => have := congrArg List.length q; simp at this; omega
      | cons x t => exact ⟨x, t, rfl⟩
    obtain ⟨x, t, hx⟩ := hne
    have hs1 : splitL sep (m + 1) (l.drop c) = [] :: splitL sep m (l.drop (c + sep.length)) := by
      rw [hx] at h2' ⊢
      rw [splitL, h2']
      simp only [if_true]
      rw [← hx, List.drop_drop]
    rw [hskip, hs1]
    have ih := split_chain l sep hs r (c + sep.length) f m (by simpa [Str.length] using h4) hf (by simp at hn ⊢; omega)
    show strSub ⟨l.toArray⟩ a c :: StrLaws.partsFrom ⟨l.toArray⟩ sep.length (c + sep.length) r = _
    rw [ih]
    simp only [consFirst, List.append_nil, List.map_cons]
    congr 1
    refine StrLaws.mk_of_toList ?_
    rw [StrLaws.strSub_toList]
theorem split_str (l sep : List Nat) (hs : sep ≠ []) (h256 : sep.all (· < 256) = true) : Txt.split ⟨l.toArray⟩ ⟨sep.toArray⟩ = (splitL sep (l.length + 1) l).map fun p => ⟨p.toArray⟩ := by
  have hk : Builtin.Str.strKind ⟨sep.toArray⟩ = 1 := by
    unfold Builtin.Str.strKind
    have : (sep.toArray.all fun x => decide (x < 256)) = true := by simpa using h256
    rw [if_pos this]
  have hk' : ¬ Builtin.Str.strKind ⟨l.toArray⟩ < 1 := by
    unfold Builtin.Str.strKind
    split
    · omega
    · split <;> omega
  have hlen : 1 ≤ (⟨sep.toArray⟩ : Str).length := by
    have := List.length_pos_iff.mpr hs
    show 1 ≤ sep.toArray.size
    rw [List.size_toArray]; exact this
  obtain ⟨f, hc, hf⟩ := StrLaws.occ_tight ⟨l.toArray⟩ ⟨sep.toArray⟩ hlen
  have main := split_chain l sep hs _ 0 f (l.length + 1) hc hf (by simp)
  rw [List.drop_zero] at main
  rw [← main]
  have hsl : (⟨sep.toArray⟩ : Str).length = sep.length := by simp [Str.length]
  unfold Txt.split
  rw [hk]
  split
  · rename_i h
    have h' : (⟨l.toArray⟩ : Str).length < (⟨sep.toArray⟩ : Str).length := by simpa [hk'] using h
    have : occurrences ⟨l.toArray⟩ ⟨sep.toArray⟩ 0 (⟨l.toArray⟩ : Str).length ((⟨l.toArray⟩ : Str).length + 1) = [] := by
      cases q : occurrences ⟨l.toArray⟩ ⟨sep.toArray⟩ 0 (⟨l.toArray⟩ : Str).length ((⟨l.toArray⟩ : Str).length + 1) with
      | nil => rfl
      | cons c r => rw [q] at hc; have := hc.2.1.1; omega
    rw [this]
    show _ = [strSub _ _ _]
    rw [StrLaws.sub_whole]
  · split
    · rename_i h
      have : occurrences ⟨l.toArray⟩ ⟨sep.toArray⟩ 0 (⟨l.toArray⟩ : Str).length ((⟨l.toArray⟩ : Str).length + 1) = [] := by simpa using h
      rw [this]
      show _ = [strSub _ _ _]
      rw [StrLaws.sub_whole]
    · rw [StrLaws.partsBetween_eq, hsl]
theorem splitL_count (sep : List Nat) (hs : sep ≠ []) : ∀ (n : Nat) (l : List Nat), (splitL sep n l).length ≤ l.length + 1
  | 0, l => by simp [splitL]
  | n + 1, [] => by simp [splitL]
  | n + 1, c :: r => by
    have hlen : 0 < sep.length := List.length_pos_iff.mpr hs
    unfold splitL
    split
    · have := splitL_count sep hs n ((c :: r).drop sep.length)
      simp at this ⊢; omega
    · have := splitL_count sep hs n r
      split
      · simp
      · rename_i h; rw [h] at this; simp at this ⊢; omega
theorem splitL_len (sep : List Nat) : ∀ (n : Nat) (l p : List Nat), p ∈ splitL sep n l → p.length ≤ l.length
  | 0, l, p, h => by simp [splitL] at h; simp [h]
  | n + 1, [], p, h => by simp [splitL] at h; simp [h]
  | n + 1, c :: r, p, h => by
    unfold splitL at h
    split at h
    · rcases List.mem_cons.mp h with rfl | h
      · simp
      · have := splitL_len sep n _ p h
        simp at this ⊢; omega
    · split at h
      · simp at h; simp [h]
      · rename_i a b q
        rcases List.mem_cons.mp h with rfl | h
        · have := splitL_len sep n r a (by rw [q]; exact .head _)
          simp at this ⊢; omega
        · have := splitL_len sep n r p (by rw [q]; exact .tail _ h)
          simp at this ⊢; omega

/-! lower of one ASCII sign -/
def lowerC (c : Nat) : Nat := if 65 ≤ c ∧ c ≤ 90 then c + 32 else c
theorem lower_one : ∀ c, c < 128 → (Txt.lower ⟨#[c]⟩).cps = #[lowerC c] := by decide +kernel
end Mine
end
section
open PySem PySem.Calls
set_option maxRecDepth 100000
namespace Mine
open Builtin.Str (occurrences strSub subAt glued tooLong strSliceIndices)

def minL : List Int → Option Int
  | [] => none
  | x :: r => some (match minL r with | none => x | some y => if y < x then y else x)
def maxL : List Int → Option Int
  | [] => none
  | x :: r => some (match maxL r with | none => x | some y => if x < y then y else x)
theorem minL_of : ∀ {ns : List Int} {k m : Int}, minL ns = some k → m ∈ ns → (∀ a ∈ ns, m ≤ a) → m = k := by
  have key : ∀ {ns : List Int} {k : Int}, minL ns = some k → k ∈ ns ∧ ∀ a ∈ ns, k ≤ a := by
    intro ns
    induction ns with
    | nil => intro k e; cases e
    | cons x r ih =>
      intro k e
      unfold minL at e
      cases h : minL r with
      | none =>
        rw [h] at e; cases e
        have : r = [] := by cases r with
          | nil => rfl
          | cons a b => simp [minL] at h
        subst this; simp
      | some y =>
        rw [h] at e; cases e
        obtain ⟨h1, h2⟩ := ih h
        dsimp only
        split
        · rename_i hlt
          refine ⟨.tail _ h1, fun a ha => ?_⟩
          rcases List.mem_cons.mp ha with rfl | ha
          · omega
          · exact h2 a ha
        · rename_i hlt
          refine ⟨.head _, fun a ha => ?_⟩
          rcases List.mem_cons.mp ha with rfl | ha
          · omega
          · have := h2 a ha; omega
  intro ns k m e h1 h2
  obtain ⟨k1, k2⟩ := key e
  have := h2 k k1
  have := k2 m h1
  omega
theorem maxL_of : ∀ {ns : List Int} {k m : Int}, maxL ns = some k → m ∈ ns → (∀ a ∈ ns, a ≤ m) → m = k := by
  have key : ∀ {ns : List Int} {k : Int}, maxL ns = some k → k ∈ ns ∧ ∀ a ∈ ns, a ≤ k := by
    intro ns
    induction ns with
    | nil => intro k e; cases e
    | cons x r ih =>
      intro k e
      unfold maxL at e
      cases h : maxL r with
      | none =>
        rw [h] at e; cases e
        have : r = [] := by cases r with
          | nil => rfl
          | cons a b => simp [maxL] at h
        subst this; simp
      | some y =>
        rw [h] at e; cases e
        obtain ⟨h1, h2⟩ := ih h
        dsimp only
        split
        · rename_i hlt
          refine ⟨.tail _ h1, fun a ha => ?_⟩
          rcases List.mem_cons.mp ha with rfl | ha
          · omega
          · exact h2 a ha
        · rename_i hlt
          refine ⟨.head _, fun a ha => ?_⟩
          rcases List.mem_cons.mp ha with rfl | ha
          · omega
          · have := h2 a ha; omega
  intro ns k m e h1 h2
  obtain ⟨k1, k2⟩ := key e
  have := h2 k k1
  have := k2 m h1
  omega

def textInt (i : Int) : List Nat := (Str.ofString (toString i)).cps.toList
inductive BI where | len | ord | str | min | max | sum | bytes
  deriving DecidableEq
def byteOk (n : Int) : Bool := decide (0 ≤ n) && decide (n < 256)
def bi (f : BI) (args : List PV) : Option PV :=
  match f, args with
  | .len, [.a (.str l)] => some (.a (.int l.length))
  | .len, [.list xs] => some (.a (.int xs.length))
  | .ord, [.a (.str [c])] => some (.a (.int c))
  | .str, [.a (.int i)] => if i.natAbs < 2 ^ 64 ∧ (textInt i).length ≤ sizeLine then some (.a (.str (textInt i))) else none
  | .min, [.list xs] => (intsOf xs).bind fun ns => (minL ns).map fun k => .a (.int k)
  | .max, [.list xs] => (intsOf xs).bind fun ns => (maxL ns).map fun k => .a (.int k)
  | .sum, [.list xs] => (intsOf xs).map fun ns => .a (.int ns.sum)
  | .bytes, [.list xs] => (intsOf xs).bind fun ns => if ns.all byteOk then some (.bytes (ns.map fun n => n.toNat.toUInt8)) else none
  | _, _ => none
def biVal : BI → Value
  | .len => .builtin "len" | .ord => .builtin "ord" | .str => .type "str" | .min => .builtin "min" | .max => .builtin "max" | .sum => .builtin "sum" | .bytes => .type "bytes"

section
variable {prog : Program} {w : World} {A : Around} {s : Shared}
theorem keeps_of {h' : Heap} {tk : Nat} (hk : ∀ b o, s.heap.get? b = some o → h'.get? b = some o) : Keeps s { s with heap := h', toks := tk } := ⟨h', tk, rfl, hk⟩

theorem paired0 {α β : Type} {F : α → β → Prop} {vs : List α} (h : Paired F vs []) : vs = [] := by cases h; rfl
theorem paired1 {α β : Type} {F : α → β → Prop} {vs : List α} {x : β} (h : Paired F vs [x]) : ∃ v, vs = [v] ∧ F v x := by
  cases h with
  | cons h t => cases t; exact ⟨_, rfl, h⟩
theorem min_sound {l : Addr} {vs : List Value} {ns : List Int} {k : Int} {fr : Bool} (hh : A.handled = none) (hl : s.heap.IsList l vs.toArray) (hi : PyProof.Rows.IntsAre vs ns) (e : minL ns = some k) :
    Ev prog w A (call (.builtin "min") [.ref l]) s fr (.a (.int k)) := by
  have hne : 0 < ns.length := by cases ns with
    | nil => cases e
    | cons a b => simp
  obtain ⟨xs, ex⟩ := hi.allInts.items
  have hns : ns = xs.toList.map (·.1) := by rw [← hi.numsOf, ← nums_intItems, ← ex]
  have hsz : 0 < xs.size := by
    have h3 := hne; rw [hns, List.length_map, Array.length_toList] at h3; exact h3
  rw [ex] at hl
  refine min_intList hh hl hsz fun v h' tk hv hk => ?_
  obtain ⟨t, rfl⟩ := intItems_at hv
  obtain ⟨h1, h2⟩ := argBest_lt (numAt xs) (xs.size - 1)
  refine end_atom (keeps_of hk) ⟨t, ?_⟩
  rw [minL_of e (m := numAt xs (argBest (fun i j => decide (numAt xs i < numAt xs j)) (xs.size - 1))) ?_ ?_]
  · rw [hns, numAt_eq]; exact getD_mem (by rw [List.length_map, Array.length_toList]; omega)
  · intro a ha
    rw [hns] at ha
    obtain ⟨j, hj, rfl⟩ := mem_getD ha
    rw [List.length_map, Array.length_toList] at hj
    rw [← numAt_eq]; exact h2 j (by omega)
theorem max_sound {l : Addr} {vs : List Value} {ns : List Int} {k : Int} {fr : Bool} (hh : A.handled = none) (hl : s.heap.IsList l vs.toArray) (hi : PyProof.Rows.IntsAre vs ns) (e : maxL ns = some k) :
    Ev prog w A (call (.builtin "max") [.ref l]) s fr (.a (.int k)) := by
  have hne : 0 < ns.length := by cases ns with
    | nil => cases e
    | cons a b => simp
  obtain ⟨xs, ex⟩ := hi.allInts.items
  have hns : ns = xs.toList.map (·.1) := by rw [← hi.numsOf, ← nums_intItems, ← ex]
  have hsz : 0 < xs.size := by
    have h3 := hne; rw [hns, List.length_map, Array.length_toList] at h3; exact h3
  rw [ex] at hl
  refine max_intList hh hl hsz fun v h' tk hv hk => ?_
  obtain ⟨t, rfl⟩ := intItems_at hv
  obtain ⟨h1, h2⟩ := argBest_gt (numAt xs) (xs.size - 1)
  refine end_atom (keeps_of hk) ⟨t, ?_⟩
  rw [maxL_of e (m := numAt xs (argBest (fun i j => decide (numAt xs i > numAt xs j)) (xs.size - 1))) ?_ ?_]
  · rw [hns, numAt_eq]; exact getD_mem (by rw [List.length_map, Array.length_toList]; omega)
  · intro a ha
    rw [hns] at ha
    obtain ⟨j, hj, rfl⟩ := mem_getD ha
    rw [List.length_map, Array.length_toList] at hj
    rw [← numAt_eq]; exact h2 j (by omega)
theorem sum_sound {l : Addr} {vs : List Value} {ns : List Int} {fr : Bool} (hh : A.handled = none) (hl : s.heap.IsList l vs.toArray) (hi : PyProof.Rows.IntsAre vs ns) :
    Ev prog w A (call (.builtin "sum") [.ref l]) s fr (.a (.int ns.sum)) := by
  obtain ⟨xs, ex⟩ := hi.allInts.items
  have hns : ns = xs.toList.map (·.1) := by rw [← hi.numsOf, ← nums_intItems, ← ex]
  rw [ex] at hl
  refine sum_intListG hh hl fun h' tk t' hk => ?_
  refine end_atom (keeps_of hk) ⟨t', ?_⟩
  rw [preSum_eq, List.take_of_length_le (by simp), hns]

theorem bi_sound {f : BI} {args : List PV} {vals : List Value} {r : PV} {fr : Bool} (hh : A.handled = none) (ha : Paired (fun v x => Rep s.heap v x) vals args) (e : bi f args = some r) :
    Ev prog w A (call (biVal f) vals) s fr r := by
  unfold bi at e
  split at e
  · cases e
    obtain ⟨v, rfl, h1⟩ := paired1 ha
    obtain ⟨t, rfl, hl⟩ := h1
    refine PySem.P.len_str ?_ (end_atom (keeps_tok _ _) ⟨s.toks + 1, ?_⟩)
    · simp [Str.length]; rw [sizeLine_eq] at hl; omega
    · simp [Str.length]
  · cases e
    obtain ⟨v, rfl, h1⟩ := paired1 ha
    obtain ⟨a, vs, rfl, hp, p, hl⟩ := h1
    have := paired_len p
    refine PySem.Calls.call_len_list (plain_isList hp) ?_ (end_atom (keeps_tok _ _) ⟨s.toks + 1, ?_⟩)
    · simp; rw [sizeLine_eq] at hl; omega
    · simp [this]
  · cases e
    obtain ⟨v, rfl, h1⟩ := paired1 ha
    obtain ⟨t, rfl, hl⟩ := h1
    exact PySem.P.ord_of_char (end_atom (keeps_tok _ _) ⟨_, rfl⟩)
  · split at e
    · rename_i i hm
      cases e
      obtain ⟨v, rfl, h1⟩ := paired1 ha
      obtain ⟨t, rfl⟩ := h1
      refine PySem.P.str_of_int ?_ (end_atom (keeps_tok _ _) ⟨_, rfl, hm.2⟩)
      have := log2_lt_of hm.1 (by decide)
      omega
    · cases e
  · simp only [Option.bind_eq_some_iff, Option.map_eq_some_iff] at e
    obtain ⟨ns, hn, k, hk, rfl⟩ := e
    obtain ⟨v, rfl, h1⟩ := paired1 ha
    obtain ⟨a, vs, rfl, hp, p, hl⟩ := h1
    exact min_sound hh (plain_isList hp) (intsAre_of p hn) hk
  · simp only [Option.bind_eq_some_iff, Option.map_eq_some_iff] at e
    obtain ⟨ns, hn, k, hk, rfl⟩ := e
    obtain ⟨v, rfl, h1⟩ := paired1 ha
    obtain ⟨a, vs, rfl, hp, p, hl⟩ := h1
    exact max_sound hh (plain_isList hp) (intsAre_of p hn) hk
  · simp only [Option.map_eq_some_iff] at e
    obtain ⟨ns, hn, rfl⟩ := e
    obtain ⟨v, rfl, h1⟩ := paired1 ha
    obtain ⟨a, vs, rfl, hp, p, hl⟩ := h1
    exact sum_sound hh (plain_isList hp) (intsAre_of p hn)
  · simp only [Option.bind_eq_some_iff] at e
    obtain ⟨ns, hn, e⟩ := e
    split at e
    · rename_i hb
      cases e
      obtain ⟨v, rfl, h1⟩ := paired1 ha
      obtain ⟨a, vs, rfl, hp, p, hl⟩ := h1
      refine PySem.call_bytes_ints (plain_isList hp) (intsAre_of p hn) (fun n hm => ?_) hl hh fun h' t k hk => ⟨keeps_of hk, ⟨t, rfl⟩, fun _ a e => nomatch e⟩
      have := List.all_eq_true.mp hb n hm
      simp only [byteOk, Bool.and_eq_true, decide_eq_true_eq] at this
      exact this
    · cases e
  · cases e
end
end Mine
end
section
open PySem PySem.Calls
set_option maxRecDepth 100000
namespace Mine
open Builtin.Str (occurrences strSub subAt glued tooLong strSliceIndices partsBetween)

inductive ME where | split | find | join | lower | count | index
  deriving DecidableEq
def meName : ME → Str
  | .split => Str.ofString "split" | .find => Str.ofString "find" | .join => Str.ofString "join" | .lower => Str.ofString "lower" | .count => Str.ofString "count" | .index => Str.ofString "index"
def meT : ME → String
  | .split | .find | .join | .lower => "str"
  | .count | .index => "list"
def meId : ME → String
  | .split => "str.split" | .find => "str.find" | .join => "str.join" | .lower => "str.lower" | .count => "list.count" | .index => "list.index"
def boolsOf : List At → Option (List Bool)
  | [] => some []
  | .bool i :: r => (boolsOf r).map (i :: ·)
  | _ :: _ => none
def me (m : ME) (x : PV) (args : List PV) : Option PV :=
  match m, x, args with
  | .split, .a (.str l), [.a (.str sep)] => if sep ≠ [] ∧ sep.all (· < 256) = true ∧ l.length < sizeLine then some (.list ((splitL sep (l.length + 1) l).map .str)) else none
  | .find, .a (.str l), [.a (.str [c])] => some (.a (.int (findC c l)))
  | .join, .a (.str sep), [.list xs] => (strsOf xs).bind fun ls => if sumLen ls + ls.length * sep.length ≤ sizeLine then some (.a (.str (joinL sep ls))) else none
  | .lower, .a (.str [c]), [] => if c < 128 then some (.a (.str [lowerC c])) else none
  | .count, .list xs, [.a (.bool b)] => (boolsOf xs).map fun bs => .a (.int (bs.countP (· == b) : Nat))
  | .count, .list xs, [.a (.str l)] => (strsOf xs).map fun ss => .a (.int (ss.countP (· == l) : Nat))
  | .index, .list xs, [.a (.str l)] => (strsOf xs).bind fun ss => if l ∈ ss then some (.a (.int (ss.idxOf l : Nat))) else none
  | _, _, _ => none
def meRecv (m : ME) (x : PV) : Bool := match m, x with
  | .split, .a (.str _) | .find, .a (.str _) | .join, .a (.str _) | .lower, .a (.str _) => true
  | .count, .list _ | .index, .list _ => true
  | _, _ => false
theorem me_recv {m : ME} {x : PV} {args : List PV} {r : PV} (e : me m x args = some r) : meRecv m x = true := by
  unfold me at e
  split at e <;> first | rfl | cases e

theorem me_plain (m : ME) : PlainAttrs (meT m) := by cases m <;> first | exact PySem.F.plainAttrs_str | exact PySem.F.plainAttrs_list
theorem me_slot (m : ME) : Slot (meT m) (meName m) (meId m) := by
  cases m
  · exact PySem.F.slot_str_split
  · exact PySem.F.slot_str_find
  · exact PySem.F.slot_str_join
  · exact PySem.F.slot_str_lower
  · exact PySem.F.slot_list_count
  · exact PySem.F.slot_list_index
theorem me_type (m : ME) : typeOf (.builtin (meId m)) = pure (.type "method_descriptor") := by
  cases m
  · exact PySem.F.type_str_split
  · exact PySem.F.type_str_find
  · exact PySem.F.type_str_join
  · exact PySem.F.type_str_lower
  · exact PySem.F.type_list_count
  · exact PySem.F.type_list_index

theorem paired_strs (ls : List (List Nat)) (hz : ∀ l ∈ ls, l.length ≤ sizeLine) : ∀ tk, Paired RepA (strsFrom tk (ls.map fun l => ⟨l.toArray⟩)) (ls.map .str) := by
  induction ls with
  | nil => intro tk; exact .nil
  | cons x r ih => intro tk; exact .cons ⟨tk, rfl, hz x (.head _)⟩ (ih (fun l hl => hz l (.tail _ hl)) _)
theorem strsFrom_len : ∀ (tk : Nat) (xs : List Str), (strsFrom tk xs).length = xs.length
  | _, [] => rfl
  | tk, x :: r => by simp [strsFrom, strsFrom_len (tk + 1) r]
theorem strPairs {vs : List Value} {xs : List At} (p : Paired RepA vs xs) : ∀ {ls : List (List Nat)}, strsOf xs = some ls → ∃ l : List (Str × Tok), vs = strValues l ∧ l.map (·.1) = ls.map fun l => ⟨l.toArray⟩ := by
  induction p with
  | nil => intro ns e; cases e; exact ⟨[], rfl, rfl⟩
  | @cons v x _ r f _ ih =>
    intro ns e
    cases x with
    | str i =>
      obtain ⟨t, rfl, _⟩ := f
      simp only [strsOf, Option.map_eq_some_iff] at e
      obtain ⟨m, hm, rfl⟩ := e
      obtain ⟨l, h1, h2⟩ := ih hm
      exact ⟨(⟨i.toArray⟩, t) :: l, by rw [h1]; rfl, by simp [h2]⟩
    | _ => cases e
theorem countP_strs {vs : List Value} {xs : List At} (p : Paired RepA vs xs) (k : List Nat) : ∀ {ls : List (List Nat)}, strsOf xs = some ls → vs.countP (PyProof.Rows.isStrOf ⟨k.toArray⟩) = ls.countP (· == k) := by
  induction p with
  | nil => intro ns e; cases e; rfl
  | @cons v x _ r f _ ih =>
    intro ns e
    cases x with
    | str i =>
      obtain ⟨t, rfl, _⟩ := f
      simp only [strsOf, Option.map_eq_some_iff] at e
      obtain ⟨m, hm, rfl⟩ := e
      rw [List.countP_cons, List.countP_cons, ih hm]
      simp only [PyProof.Rows.isStrOf, str_beq]
    | _ => cases e
theorem isStr_at {vs : List Value} {xs : List At} (p : Paired RepA vs xs) (k : List Nat) : ∀ {ls : List (List Nat)}, strsOf xs = some ls → ∀ (j : Nat) (v : Value), vs[j]? = some v → ∃ l, ls[j]? = some l ∧ PyProof.Rows.isStrOf ⟨k.toArray⟩ v = (l == k) := by
  induction p with
  | nil => intro ns e j v h; simp at h
  | @cons v x _ r f _ ih =>
    intro ns e j u hu
    cases x with
    | str i =>
      obtain ⟨t, rfl, _⟩ := f
      simp only [strsOf, Option.map_eq_some_iff] at e
      obtain ⟨m, hm, rfl⟩ := e
      cases j with
      | zero => simp at hu; subst hu; exact ⟨i, by simp, by simp only [PyProof.Rows.isStrOf, str_beq]⟩
      | succ j => simpa using ih hm j u (by simpa using hu)
    | _ => cases e
theorem strsOf_len : ∀ {xs : List At} {ls : List (List Nat)}, strsOf xs = some ls → ls.length = xs.length
  | [], _, e => by cases e; rfl
  | .str i :: r, _, e => by
    simp only [strsOf, Option.map_eq_some_iff] at e
    obtain ⟨m, hm, rfl⟩ := e
    simp [strsOf_len hm]
  | .none :: _, _, e => by cases e
  | .bool _ :: _, _, e => by cases e
  | .int _ :: _, _, e => by cases e
theorem bools_eq {vs : List Value} {xs : List At} (p : Paired RepA vs xs) (k : Bool) : ∀ {bs : List Bool}, boolsOf xs = some bs → vs.countP (PyProof.Rows.isBoolOf k) = bs.countP (· == k) ∧ ∀ y ∈ vs, ∀ (A : Around) (s : Shared), SeqAt.EqAt A s y (.bool k) (PyProof.Rows.isBoolOf k y) := by
  induction p with
  | nil => intro ns e; cases e; exact ⟨rfl, fun y hy => nomatch hy⟩
  | @cons v x _ r f _ ih =>
    intro ns e
    cases x with
    | bool i =>
      cases f
      simp only [boolsOf, Option.map_eq_some_iff] at e
      obtain ⟨m, hm, rfl⟩ := e
      obtain ⟨h1, h2⟩ := ih hm
      refine ⟨?_, fun y hy A s => ?_⟩
      · rw [List.countP_cons, List.countP_cons, h1]; simp only [PyProof.Rows.isBoolOf]; rfl
      · rcases List.mem_cons.mp hy with rfl | hy
        · exact SeqAt.EqAt.bool_bool i k
        · exact h2 y hy A s
    | _ => cases e

theorem before_idx {k : List Nat} : ∀ {ns : List (List Nat)} {j : Nat}, j < ns.idxOf k → ∀ (h2 : j < ns.length), (ns[j] == k) = false
  | [], _, h, _ => by simp at h
  | n :: r, 0, h, _ => by
    by_cases e : n = k
    · subst e; simp at h
    · simpa using e
  | n :: r, j + 1, h, h2 => by
    by_cases e : n = k
    · subst e; simp at h
    · rw [List.idxOf_cons] at h
      have : (n == k) = false := by simpa using e
      simp only [this, cond_false] at h
      simpa using before_idx (ns := r) (j := j) (by simpa using h) (by simpa using h2)
section
variable {prog : Program} {w : World} {A : Around} {s : Shared}
theorem split_sound {l sep : List Nat} {t u : Tok} {fr : Bool} (hs : sep ≠ []) (h256 : sep.all (· < 256) = true) (hl' : l.length < sizeLine) :
    Ev prog w A (call (.builtin "str.split") [.str ⟨l.toArray⟩ t, .str ⟨sep.toArray⟩ u]) s fr (.list ((splitL sep (l.length + 1) l).map .str)) := by
  have hl : l.length ≤ sizeLine := Nat.le_of_lt hl'
  have key := split_str l sep hs h256
  have hy : ((⟨sep.toArray⟩ : Str).length == 0) = false := by
    have := List.length_pos_iff.mpr hs
    simp [Str.length, hs]
  have hcount : (splitL sep (l.length + 1) l).length ≤ sizeLine := Nat.le_trans (splitL_count sep hs _ _) (by omega)
  have hz : ∀ p ∈ splitL sep (l.length + 1) l, p.length ≤ sizeLine := fun p hp => Nat.le_trans (splitL_len sep _ _ _ hp) hl
  have one : ∀ {tk : Tok}, (splitL sep (l.length + 1) l).map (fun p => (⟨p.toArray⟩ : Str)) = [⟨l.toArray⟩] → Paired RepA [Value.str ⟨l.toArray⟩ tk] ((splitL sep (l.length + 1) l).map .str) := by
    intro tk e
    cases q : splitL sep (l.length + 1) l with
    | nil => rw [q] at e; cases e
    | cons a b =>
      rw [q] at e
      cases b with
      | nil =>
        simp only [List.map_cons, List.map_nil, List.cons.injEq, and_true] at e
        have : a = l := by simpa using congrArg (fun z : Str => z.cps.toList) e
        subst this
        exact .cons ⟨tk, rfl, hl⟩ .nil
      | cons c d => simp at e
  have onelen : (1 : Nat) ≤ sizeLine := by rw [sizeLine_eq]; omega
  unfold Txt.split at key
  cases h1 : (decide ((⟨l.toArray⟩ : Str).length < (⟨sep.toArray⟩ : Str).length) || decide (Builtin.Str.strKind ⟨l.toArray⟩ < Builtin.Str.strKind ⟨sep.toArray⟩))
  · rw [h1] at key
    simp only [Bool.false_eq_true, if_false] at key
    cases hf : (occurrences ⟨l.toArray⟩ ⟨sep.toArray⟩ 0 (⟨l.toArray⟩ : Str).length ((⟨l.toArray⟩ : Str).length + 1)).isEmpty
    · rw [hf] at key
      simp only [Bool.false_eq_true, if_false] at key
      have hn : (partsBetween ⟨l.toArray⟩ (occurrences ⟨l.toArray⟩ ⟨sep.toArray⟩ 0 (⟨l.toArray⟩ : Str).length ((⟨l.toArray⟩ : Str).length + 1)) (⟨sep.toArray⟩ : Str).length).length ≤ sizeLine := by
        rw [key, List.length_map]
        exact hcount
      refine call_meets F.slot_str_split (typeIs_str _ _ _) F.entry_str_split (F.args_str_split_2 _ _) (meets_str_split_sep ⟨l.toArray⟩ ⟨sep.toArray⟩ t u h1 hy hf (by simpa [Str.length] using hl) hn) ?_
      rw [key]
      have hlen : (strsFrom s.toks ((splitL sep (l.length + 1) l).map fun p => (⟨p.toArray⟩ : Str))).length ≤ sizeLine := by
        rw [strsFrom_len, ← key]; exact hn
      exact end_new _ rfl (paired_strs _ hz _) hlen
    · rw [hf] at key
      simp only [if_true] at key
      exact call_meets F.slot_str_split (typeIs_str _ _ _) F.entry_str_split (F.args_str_split_2 _ _) (meets_str_split_not_found ⟨l.toArray⟩ ⟨sep.toArray⟩ t u h1 hy hf)
        (end_new s.toks rfl (one key.symm) onelen)
  · rw [h1] at key
    simp only [if_true] at key
    exact call_meets F.slot_str_split (typeIs_str _ _ _) F.entry_str_split (F.args_str_split_2 _ _) (meets_str_split_cannot_occur ⟨l.toArray⟩ ⟨sep.toArray⟩ t u h1)
      (end_new s.toks rfl (one key.symm) onelen)

theorem paired2 {α β : Type} {F : α → β → Prop} {vs : List α} {x y : β} (h : Paired F vs [x, y]) : ∃ v u, vs = [v, u] ∧ F v x ∧ F u y := by
  cases h with
  | cons h t => obtain ⟨u, rfl, h2⟩ := paired1 t; exact ⟨_, u, rfl, h, h2⟩

theorem me_sound {m : ME} {x : PV} {v : Value} {args : List PV} {vals : List Value} {r : PV} {fr : Bool} (hx : Rep s.heap v x) (ha : Paired (fun v x => Rep s.heap v x) vals args) (e : me m x args = some r) :
    Ev prog w A (call (.builtin (meId m)) (v :: vals)) s fr r := by
  unfold me at e
  split at e
  · split at e
    · rename_i hm; cases e
      obtain ⟨t, rfl, h1⟩ := hx
      obtain ⟨u, rfl, h2⟩ := paired1 ha
      obtain ⟨t', rfl, h3⟩ := h2
      exact split_sound hm.1 hm.2.1 hm.2.2
    · cases e
  · cases e
    obtain ⟨t, rfl, h1⟩ := hx
    obtain ⟨u, rfl, h2⟩ := paired1 ha
    obtain ⟨t', rfl, h3⟩ := h2
    refine SC.find (end_atom (keeps_tok _ _) ⟨s.toks, ?_⟩)
    rw [find_one]
  · simp only [Option.bind_eq_some_iff] at e
    obtain ⟨ls, hn, e⟩ := e
    split at e
    · rename_i hm; cases e
      obtain ⟨t, rfl, h1⟩ := hx
      obtain ⟨u, rfl, h2⟩ := paired1 ha
      obtain ⟨a, vs, rfl, hp, p, hl⟩ := h2
      obtain ⟨l, rfl, hl2⟩ := strPairs p hn
      refine SC.join (plain_isList hp) hl2 (joinOk_of hm) fun t' k => end_atom (keeps_tok _ _) ⟨t', ?_, ?_⟩
      · rw [join_str]
      · exact Nat.le_trans (joinL_len _ _) hm
    · cases e
  · split at e
    · rename_i c hm; cases e
      obtain ⟨t, rfl, h1⟩ := hx
      cases paired0 ha
      have hc := lower_one c hm
      have hcl : Txt.lower ⟨[c].toArray⟩ = ⟨#[lowerC c]⟩ := Str.ext' hc
      refine SC.lower ?_ (end_atom (keeps_tok _ _) ⟨s.toks, ?_, ?_⟩)
      · rw [hcl]; rfl
      · rw [hcl]
      · rw [sizeLine_eq]; simp
    · cases e
  · simp only [Option.map_eq_some_iff] at e
    obtain ⟨bs, hn, rfl⟩ := e
    obtain ⟨a, vs, rfl, ⟨n, hp⟩, p, hl⟩ := hx
    obtain ⟨u, rfl, h2⟩ := paired1 ha
    cases h2
    rename_i b
    obtain ⟨h1, h2⟩ := bools_eq p b hn
    refine call_meets PySem.F.slot_list_count ⟨_, hp, rfl⟩ PySem.F.entry_list_count (PySem.F.args_list_count_2 _ _) (SeqAt.list_countAt a vs.toArray n none #[] (.bool b) (PyProof.Rows.isBoolOf b)) ⟨hp, fun y hy => h2 y (by simpa using hy) _ _, ?_⟩
    rw [show vs.toArray.toList = vs from rfl, h1]
    exact end_atom (keeps_tok _ _) ⟨_, rfl⟩
  · simp only [Option.map_eq_some_iff] at e
    obtain ⟨bs, hn, rfl⟩ := e
    obtain ⟨a, vs, rfl, ⟨n, hp⟩, p, hl⟩ := hx
    obtain ⟨u, rfl, h2⟩ := paired1 ha
    obtain ⟨t', rfl, h3⟩ := h2
    rename_i k
    refine call_meets PySem.F.slot_list_count ⟨_, hp, rfl⟩ PySem.F.entry_list_count (PySem.F.args_list_count_2 _ _) (SeqAt.list_countAt a vs.toArray n none #[] (.str ⟨k.toArray⟩ t') (PyProof.Rows.isStrOf ⟨k.toArray⟩)) ⟨hp, fun y hy => (PyProof.Rows.eq_isStrOf _ t' (strsAre_of p hn) y (by simpa using hy)).at _ _, ?_⟩
    rw [show vs.toArray.toList = vs from rfl, countP_strs p k hn]
    exact end_atom (keeps_tok _ _) ⟨_, rfl⟩
  · simp only [Option.bind_eq_some_iff] at e
    obtain ⟨ls, hn, e⟩ := e
    split at e
    · rename_i k hm; cases e
      obtain ⟨a, vs, rfl, ⟨n, hp⟩, p, hl⟩ := hx
      obtain ⟨u, rfl, h2⟩ := paired1 ha
      obtain ⟨t', rfl, h3⟩ := h2
      have hj : ls.idxOf k < ls.length := List.idxOf_lt_length_iff.mpr hm
      have hlen : ls.length = vs.length := by rw [strsOf_len hn, paired_len p]
      rw [sizeLine_eq] at hl
      refine call_meets PySem.F.slot_list_index ⟨_, hp, rfl⟩ PySem.F.entry_list_index (PySem.F.args_list_index_2 _ _)
        (SeqAt.list_indexAt a vs.toArray n none #[] (.str ⟨k.toArray⟩ t') (PyProof.Rows.isStrOf ⟨k.toArray⟩) (ls.idxOf k) (by simpa [← hlen] using hj) (by omega) ?_ ?_) ⟨hp, fun y hy => (PyProof.Rows.eq_isStrOf _ t' (strsAre_of p hn) y (by simpa using hy)).at _ _, end_atom (keeps_tok _ _) ⟨_, rfl⟩⟩
      · obtain ⟨l, h1, h2⟩ := isStr_at p k hn (ls.idxOf k) vs[ls.idxOf k] (by simp)
        show PyProof.Rows.isStrOf _ vs[ls.idxOf k] = true
        rw [h2]
        rw [List.getElem?_eq_getElem hj, List.getElem_idxOf hj] at h1
        cases h1; simp
      · intro j hjs hlt
        have hjs' : j < vs.length := by simpa using hjs
        obtain ⟨l, h1, h2⟩ := isStr_at p k hn j vs[j] (by simp)
        show PyProof.Rows.isStrOf _ vs[j] = false
        rw [h2]
        rw [List.getElem?_eq_getElem (by omega)] at h1
        cases h1
        exact before_idx hlt _
    · cases e
  · cases e
end
end Mine
end
section
open PySem PySem.Calls
set_option maxRecDepth 100000
namespace Mine

/-! The own syntax -/
inductive IK where | val | range
  deriving DecidableEq
inductive E where
  | none | bool (b : Bool) | int (i : Int) | str (l : List Nat)
  | var (i : Nat)
  | bin (op : Operator) (l r : E)
  | notE (x : E)
  | cmp (op : CmpOp) (l r : E)
  | cmp2 (o1 o2 : CmpOp) (a b c : E)
  | boolE (isAnd : Bool) (args : E)
  | ite (c a b : E)
  | call (f : Nat) (args : E)
  | nil | cons (h t : E)
  | bi (f : BI) (args : E)
  | me (m : ME) (o args : E)
  | idx (o i : E)
  | slice (o lo hi : E)
  | list (args : E) | tup (args : E)
  | comp (elt : E) (x : Nat) (k : IK) (it test : E)
  | dictIdx (keys : List (List Nat)) (vals i : E)
  deriving DecidableEq

inductive S where
  | nil | seq (h t : S)
  | assign (i : Nat) (e : E)
  | assign2 (i j : Nat) (e : E)
  | ret (e : E)
  | retD (i : Nat)
  | freeze (t : S)
  | ite (c : E) (t f : S)
  | forS (x : Nat) (k : IK) (it : E) (body : S)
  | forEnum (i x : Nat) (it : E) (body : S)
  | whileS (n : Nat) (c : E) (body : S)
  | append (x : Nat) (e : E)
  | setItem (x : Nat) (i e : E)
  | raiseS
  deriving DecidableEq

def E.isNil : E → Bool
  | .nil => true
  | _ => false
def E.isNone : E → Bool
  | .none => true
  | _ => false

/-! The store -/
abbrev Store := List (Option PV)
def get : Store → Nat → Option PV
  | [], _ => none
  | x :: _, 0 => x
  | _ :: r, i + 1 => get r i
def set : Store → Nat → PV → Store
  | [], _, _ => []
  | _ :: r, 0, v => some v :: r
  | x :: r, i + 1, v => x :: set r i v
theorem get_set_ne : ∀ {ρ : Store} {i j : Nat} {v : PV}, i ≠ j → get (set ρ i v) j = get ρ j
  | [], _, _, _, _ => rfl
  | _ :: _, 0, 0, _, h => absurd rfl h
  | _ :: _, 0, _ + 1, _, _ => rfl
  | _ :: _, _ + 1, 0, _, _ => rfl
  | _ :: r, i + 1, j + 1, _, h => get_set_ne (ρ := r) (i := i) (j := j) (by omega)
theorem get_set_eq : ∀ {ρ : Store} {i : Nat} {v u : PV}, get (set ρ i v) i = some u → u = v
  | [], _, _, _, h => by cases h
  | _ :: _, 0, _, _, h => by cases h; rfl
  | _ :: r, i + 1, _, _, h => get_set_eq (ρ := r) (i := i) h

/-! The evaluator -/
def truth : PV → Option Bool
  | .a (.bool b) => some b
  | _ => none
def atom : PV → Option At
  | .a x => some x
  | _ => none
def atoms : List PV → Option (List At)
  | [] => some []
  | .a x :: r => (atoms r).map (x :: ·)
  | _ :: _ => none
def rangeL (a : Int) : Nat → List At
  | 0 => []
  | n + 1 => .int a :: rangeL (a + 1) n
def rangeD (a : Int) : Nat → List At
  | 0 => []
  | n + 1 => .int a :: rangeD (a - 1) n
def iterItems (k : IK) (args : List PV) : Option (List At) :=
  match k, args with
  | .val, [.list xs] => some xs
  | .val, [.tup xs] => some xs
  | .val, [.a (.str l)] => some (l.map fun c => .str [c])
  | .val, [.bytes b] => if b.length ≤ sizeLine then some (b.map fun c => .int (c.toNat : Int)) else none
  | .range, [.a (.int n)] => if -1000000 < n ∧ n < 1000000 then some (rangeL 0 n.toNat) else none
  | .range, [.a (.int a), .a (.int b), .a (.int c)] => if c = -1 ∧ -1000000 < a ∧ a < 1000000 ∧ -1000000 < b ∧ b < 1000000 then some (rangeD a (a - b).toNat) else none
  | _, _ => none
def index (o i : PV) : Option PV :=
  match o, i with
  | .a (.str l), .a (.int i) => if 0 ≤ i then (l[i.toNat]?).map fun c => .a (.str [c]) else none
  | .list xs, .a (.int i) => if 0 ≤ i then (xs[i.toNat]?).map .a else none
  | _, _ => none
def part : Option PV → Option (Option Int)
  | some (.a .none) => some none
  | some (.a (.int i)) => some (some i)
  | _ => none
def sliceV (o : PV) (lo hi : Option Int) : Option PV :=
  match o with
  | .a (.str l) => some (.a (.str (pySlice l lo hi)))
  | .list xs => some (.list (pySlice xs lo hi))
  | _ => none
def compGo (tst : At → Option Bool) (elt : At → Option At) : List At → Option (List At)
  | [] => some []
  | a :: r => (tst a).bind fun b => if b then (elt a).bind fun y => (compGo tst elt r).map (y :: ·) else compGo tst elt r
def dictGet : List (List Nat) → List At → List Nat → Option At
  | k :: ks, v :: vs, l => if k = l then some v else dictGet ks vs l
  | _, _, _ => none

mutual
def ev (Φ : Nat → List PV → Option PV) : E → Store → Option PV
  | .none, _ => some (.a .none)
  | .bool b, _ => some (.a (.bool b))
  | .int i, _ => some (.a (.int i))
  | .str l, _ => if l.length ≤ sizeLine then some (.a (.str l)) else none
  | .var i, ρ => get ρ i
  | .bin op l r, ρ => (ev Φ l ρ).bind fun a => (ev Φ r ρ).bind fun b => binop op a b
  | .notE x, ρ => ((ev Φ x ρ).bind truth).map fun b => .a (.bool (!b))
  | .cmp op l r, ρ => (ev Φ l ρ).bind fun a => (ev Φ r ρ).bind fun b => (cmpop op a b).map fun c => .a (.bool c)
  | .cmp2 o1 o2 a b c, ρ => (ev Φ a ρ).bind fun x => (ev Φ b ρ).bind fun y => (cmpop o1 x y).bind fun r => if r then (ev Φ c ρ).bind fun z => (cmpop o2 y z).map fun q => .a (.bool q) else some (.a (.bool false))
  | .boolE isAnd args, ρ => (evb Φ isAnd args ρ).map fun b => .a (.bool b)
  | .ite c a b, ρ => ((ev Φ c ρ).bind truth).bind fun t => if t then ev Φ a ρ else ev Φ b ρ
  | .call f args, ρ => (evs Φ args ρ).bind fun vs => Φ f vs
  | .nil, _ => none
  | .cons _ _, _ => none
  | .bi f args, ρ => (evs Φ args ρ).bind fun vs => bi f vs
  | .me m o args, ρ => (ev Φ o ρ).bind fun x => (evs Φ args ρ).bind fun vs => me m x vs
  | .idx o i, ρ => (ev Φ o ρ).bind fun x => (ev Φ i ρ).bind fun y => index x y
  | .slice o lo hi, ρ => (ev Φ o ρ).bind fun x => (part (ev Φ lo ρ)).bind fun a => (part (ev Φ hi ρ)).bind fun b => sliceV x a b
  | .list args, ρ => (evs Φ args ρ).bind fun vs => if vs.length ≤ sizeLine then (atoms vs).map .list else none
  | .tup args, ρ => (evs Φ args ρ).bind fun vs => if vs.length ≤ sizeLine then (atoms vs).map .tup else none
  | .comp elt x k it test, ρ => (evs Φ it ρ).bind fun vs => (iterItems k vs).bind fun items =>
      (compGo (fun a => if test.isNil then some true else (ev Φ test (set ρ x (.a a))).bind truth) (fun a => (ev Φ elt (set ρ x (.a a))).bind atom) items).map .list
  | .dictIdx keys vals i, ρ => (evs Φ vals ρ).bind fun vs => (atoms vs).bind fun xs => (ev Φ i ρ).bind fun k => match k with
      | .a (.str l) => (dictGet keys xs l).map .a
      | _ => none
termination_by structural e => e
def evs (Φ : Nat → List PV → Option PV) : E → Store → Option (List PV)
  | .nil, _ => some []
  | .cons h t, ρ => (ev Φ h ρ).bind fun v => (evs Φ t ρ).map (v :: ·)
  | _, _ => none
termination_by structural e => e
def evb (Φ : Nat → List PV → Option PV) (isAnd : Bool) : E → Store → Option Bool
  | .nil, _ => some isAnd
  | .cons h t, ρ => ((ev Φ h ρ).bind truth).bind fun b => if b = isAnd then evb Φ isAnd t ρ else some b
  | _, _ => none
termination_by structural e => e
end

def fresh : E → Bool
  | .var _ => false
  | .ite _ a b => fresh a && fresh b
  | _ => true
def isAt : PV → Bool
  | .a _ => true
  | _ => false
inductive Fl where | next | ret (v : PV)
def forGo (body : At → Store → Option (Fl × Store)) : List At → Store → Option (Fl × Store)
  | [], ρ => some (.next, ρ)
  | a :: r, ρ => (body a ρ).bind fun p => match p.1 with
    | .next => forGo body r p.2
    | .ret v => some (.ret v, p.2)
def enumGo (body : Int → At → Store → Option (Fl × Store)) : Int → List At → Store → Option (Fl × Store)
  | _, [], ρ => some (.next, ρ)
  | k, a :: r, ρ => (body k a ρ).bind fun p => match p.1 with
    | .next => enumGo body (k + 1) r p.2
    | .ret v => some (.ret v, p.2)
def whileGo (c : Store → Option Bool) (body : Store → Option (Fl × Store)) : Nat → Store → Option (Fl × Store)
  | 0, _ => none
  | n + 1, ρ => (c ρ).bind fun b => if b then (body ρ).bind fun p => match p.1 with
      | .next => whileGo c body n p.2
      | .ret v => some (.ret v, p.2)
    else some (.next, ρ)

def ex (Φ : Nat → List PV → Option PV) : S → Store → Option (Fl × Store)
  | .nil, ρ => some (.next, ρ)
  | .seq h t, ρ => (ex Φ h ρ).bind fun p => match p.1 with
    | .next => ex Φ t p.2
    | .ret v => some (.ret v, p.2)
  | .assign i e, ρ => (ev Φ e ρ).map fun v => (.next, set ρ i v)
  | .assign2 i j e, ρ => (ev Φ e ρ).bind fun v => match v with
    | .tup [a, b] => some (.next, set (set ρ i (.a a)) j (.a b))
    | _ => none
  | .ret e, ρ => (ev Φ e ρ).bind fun v => if fresh e || isAt v then some (.ret v, ρ) else none
  | .retD i, ρ => (get ρ i).map fun v => (.ret v, ρ)
  | .freeze t, ρ => (ex Φ t ρ).bind fun p => match p.1 with
    | .ret v => some (.ret v, p.2)
    | .next => none
  | .ite c t f, ρ => ((ev Φ c ρ).bind truth).bind fun b => if b then ex Φ t ρ else ex Φ f ρ
  | .forS x k it body, ρ => (evs Φ it ρ).bind fun vs => (iterItems k vs).bind fun items => forGo (fun a ρ => ex Φ body (set ρ x (.a a))) items ρ
  | .forEnum i x it body, ρ => (ev Φ it ρ).bind fun v => match v with
    | .list xs => enumGo (fun k a ρ => ex Φ body (set (set ρ i (.a (.int k))) x (.a a))) 0 xs ρ
    | _ => none
  | .whileS n c body, ρ => whileGo (fun ρ => (ev Φ c ρ).bind truth) (fun ρ => ex Φ body ρ) n ρ
  | .append x e, ρ => (ev Φ e ρ).bind fun v => match get ρ x, v with
    | some (.list xs), .a a => if xs.length < sizeLine then some (.next, set ρ x (.list (xs ++ [a]))) else none
    | _, _ => none
  | .setItem x i e, ρ => (ev Φ e ρ).bind fun v => (ev Φ i ρ).bind fun k => match get ρ x, k, v with
    | some (.list xs), .a (.int k), .a a => if 0 ≤ k ∧ k < xs.length then some (.next, set ρ x (.list (xs.set k.toNat a))) else none
    | _, _, _ => none
  | .raiseS, _ => none
termination_by structural s => s

/-! Does a tree of the own syntax stand for a tree of the model's? -/
structure Cx where
  sl : List (Option Str)
  kinds : List (Str × NameKind)
  fn : Nat → Option Str
  top : Bool
def Cx.glob (c : Cx) (x : Str) : Bool := c.kinds.lookup x == some .globalImplicit
def biName : BI → Str
  | .len => Str.ofString "len" | .ord => Str.ofString "ord" | .str => Str.ofString "str" | .min => Str.ofString "min" | .max => Str.ofString "max" | .sum => Str.ofString "sum" | .bytes => Str.ofString "bytes"
def rangeName : Str := Str.ofString "range"
def debugName : Str := Str.ofString "__debug__"
def baseOk : Expr → Bool
  | .Call (.Name _ _) [] [] _ => false
  | _ => true
def relab (c : Cx) (names : List (Str × NameKind)) : List (Str × NameKind) :=
  names.map fun p => if (p.2 == NameKind.free && c.kinds.lookup p.1 == some NameKind.cell) then (p.1, NameKind.cell) else p
def setAt : List (Option Str) → Nat → Option Str → List (Option Str)
  | [], _, _ => []
  | _ :: r, 0, v => v :: r
  | x :: r, i + 1, v => x :: setAt r i v
def compSl (c : Cx) (names : List (Str × NameKind)) (k : Nat) (x : Str) : List (Option Str) :=
  setAt (c.sl.map fun o => match o with
    | some y => if names.lookup y == some .free && c.kinds.lookup y == some .cell then some y else none
    | none => none) k (some x)
def compCx (c : Cx) (names : List (Str × NameKind)) (k : Nat) (x : Str) : Cx := { sl := compSl c names k x, kinds := relab c names, fn := c.fn, top := false }
def scopeOk (c : Cx) (sc : Scope) (k : Nat) (x : Str) : Bool :=
  c.top && sc.kind == .function && sc.names.all (fun p => p.2 != .cell) && sc.names.all (fun p => p.2 != .local || sc.names.lookup p.1 == some .local) && sc.names.lookup x == some .local &&
  sc.names.all (fun p => p.2 != .free || c.kinds.lookup p.1 == some .cell) && (sc.names.map (·.1)).eraseDups.length == sc.names.length && decide (k < c.sl.length) && (c.sl[k]? == some none)

def okK : List (List Nat) → List (Option Expr) → Bool
  | [], [] => true
  | k :: ks, some (.Constant (.str x) _ _) :: r => x.cps.toList == k && okK ks r
  | _, _ => false

def okO (n : Bool) (r : Expr → Bool) : Option Expr → Bool
  | none => n
  | some x => r x
def okT (n : Bool) (r : Expr → Bool) : List Expr → Bool
  | [] => n
  | [x] => r x
  | _ => false
mutual
def okE (c : Cx) : E → Expr → Bool
  | .none, .Constant .none _ _ => true
  | .bool b, .Constant (.bool d) _ _ => b == d
  | .int i, .Constant (.int j) _ _ => i == j
  | .int i, .UnaryOp .USub (.Constant (.int j) _ _) _ => i == -j
  | .str l, .Constant (.str x) _ _ => x.cps.toList == l
  | .var i, .Name x _ => c.sl[i]? == some (some x) && !(x == debugName)
  | .bin op l r, .BinOp l' op' r' _ => op == op' && okE c l l' && okE c r r'
  | .notE x, .UnaryOp .Not x' _ => okE c x x'
  | .cmp op l r, .Compare l' [op'] [r'] _ => op == op' && okE c l l' && okE c r r'
  | .cmp2 o1 o2 a b d, .Compare a' [p1, p2] [b', d'] _ => o1 == p1 && o2 == p2 && okE c a a' && okE c b b' && okE c d d'
  | .boolE isAnd args, .BoolOp op es _ => (op == (if isAnd then .And else .Or)) && okEs c args es && !es.isEmpty
  | .ite t a b, .IfExp t' a' b' _ => okE c t t' && okE c a a' && okE c b b'
  | .call f args, .Call (.Name x _) es [] _ => c.fn f == some x && c.glob x && !(x == debugName) && okEs c args es && decide (es.length ≤ 30)
  | .bi f args, .Call (.Name x _) es [] _ => biName f == x && c.glob x && okEs c args es
  | .me m o args, .Call (.Attribute o' name apos) es [] pos => meName m == name && baseOk o' && (apos.endLine == pos.line) && okE c o o' && okEs c args es && decide (es.length < 29)
  | .idx o i, .Subscript o' i' _ => okE c o o' && okE c i i'
  | .slice o lo hi, .Subscript o' (.Slice lo' hi' none _) _ => okE c o o' && okO lo.isNone (okE c lo) lo' && okO hi.isNone (okE c hi) hi'
  | .list args, .List es _ => okEs c args es
  | .tup args, .Tuple es _ _ => okEs c args es
  | .comp elt x .val (.cons it .nil) test, .ListComp elt' [⟨.Name y _, it', ifs, 0⟩] sc _ => scopeOk c sc x y && okE c it it' && okE (compCx c sc.names x y) elt elt' && okT test.isNil (okE (compCx c sc.names x y) test) ifs
  | .comp elt x .range args test, .ListComp elt' [⟨.Name y _, .Call (.Name r _) es [] _, ifs, 0⟩] sc _ => scopeOk c sc x y && rangeName == r && c.glob r && okEs c args es && okE (compCx c sc.names x y) elt elt' && okT test.isNil (okE (compCx c sc.names x y) test) ifs
  | .dictIdx keys vals i, .Subscript (.Dict ks vs _) i' _ => okEs c vals vs && okE c i i' && okK keys ks && decide (keys.length ≤ 15) && decide (keys ≠ []) && decide (keys.length = vs.length) && decide keys.Nodup
  | _, _ => false
termination_by structural e => e
def okEs (c : Cx) : E → List Expr → Bool
  | .nil, [] => true
  | .cons h t, e :: es => okE c h e && okEs c t es
  | _, _ => false
termination_by structural e => e
end
end Mine
end
section
open PySem PySem.Calls
set_option maxRecDepth 100000
namespace Mine

/-! What the world is to give, and what a frame is to be -/
def usedNames : List Str := rangeName :: Str.ofString "enumerate" :: [biName .len, biName .ord, biName .str, biName .min, biName .max, biName .sum, biName .bytes]
structure Gd (mg mb : Str → Option Value) (h : Heap) : Prop where
  g : h.Ns mainGlobals mg
  b : h.Ns builtinsNs mb
  bi : ∀ x : Str, x ≠ "__name__" → mb x = bootBuiltins x
  nolimit : h.NoLimit
  nob : ∀ x ∈ usedNames, mg x = none
structure AOk (n : Nat) (A : Around) : Prop where
  handled : A.handled = none
  depth : A.depth + n < recursionLimit
  units : A.units + 8 * n + 128 < cLine
theorem AOk.mono {n m : Nat} {A : Around} (x : AOk n A) (h : m ≤ n) : AOk m A := ⟨x.handled, by have := x.depth; omega, by have := x.units; omega⟩
theorem AOk.deeper {n : Nat} {A : Around} {env : Env} (x : AOk (n + 1) A) : AOk n (A.deeper env) :=
  ⟨x.handled, by have := x.depth; show A.depth + 1 + n < _; omega, by have := x.units; show A.units + 3 + 8 * n + 128 < _; omega⟩

structure EnvOk (c : Cx) (env : Env) : Prop where
  kind : env.scope.kind = .function
  globals : env.globals = mainGlobals
  builtins : env.builtins = builtinsNs
  names : env.scope.names = c.kinds
  cells : c.top = true → ∀ y, c.kinds.lookup y = some .cell → ∃ a, env.cells.lookup y = some a
def NameIs (env : Env) (h : Heap) (x : Str) (r : PV) : Prop :=
  (env.kindOf x = some .local ∧ ∃ m v, h.Ns env.locals m ∧ m x = some v ∧ Rep h v r) ∨
  (env.kindOf x = some .cell ∧ ∃ a v, env.cells.lookup x = some a ∧ h.IsCell a (some v) ∧ Rep h v r)
theorem NameIs.mono {env : Env} {h h' : Heap} {x : Str} {r : PV} (q : NameIs env h x r) (k : Sub h h') : NameIs env h' x r := by
  rcases q with ⟨e, m, v, hn, hm, hr⟩ | ⟨e, a, v, hc, hi, hr⟩
  · exact .inl ⟨e, m, v, hn.keeps k, hm, hr.mono k⟩
  · exact .inr ⟨e, a, v, hc, hi.keeps k, hr.mono k⟩
def Inv (c : Cx) (ρ : Store) (env : Env) (h : Heap) : Prop := ∀ i x r, c.sl[i]? = some (some x) → get ρ i = some r → NameIs env h x r
theorem Inv.mono {c : Cx} {ρ : Store} {env : Env} {h h' : Heap} (q : Inv c ρ env h) (k : Sub h h') : Inv c ρ env h' := fun i x r a b => (q i x r a b).mono k

def FnOk (prog : Program) (w : World) (mg : Str → Option Value) (H₀ : Heap) (n : Nat) (name : Str) (F : List PV → Option PV) : Prop :=
  ∃ a o fd, mg name = some (.ref a) ∧ H₀.get? a = some o ∧ o.data = .func fd ∧
    ∀ A s vals args r, AOk n A → Sub H₀ s.heap → Paired (fun v x => Rep s.heap v x) vals args → F args = some r →
      codeAny (model prog w) A (.call (.ref a) ⟨vals, []⟩) (fun res s' => ∃ v, res = .ok (.ret v) ∧ Keeps s s' ∧ Rep s'.heap v r ∧ Fresh s.heap v) s

structure Cok (prog : Program) (w : World) (mg mb : Str → Option Value) (H₀ : Heap) (n : Nat) (Φ : Nat → List PV → Option PV) (c : Cx) (env : Env) (ρ : Store) (h : Heap) : Prop where
  eo : EnvOk c env
  inv : Inv c ρ env h
  base : Sub H₀ h
  fns : ∀ f name, c.fn f = some name → FnOk prog w mg H₀ n name (Φ f)

section
variable {prog : Program} {w : World} {mg mb : Str → Option Value} {H₀ : Heap} {n : Nat} {Φ : Nat → List PV → Option PV} {A : Around}
theorem Cok.mono {c : Cx} {env : Env} {ρ : Store} {h h' : Heap} (q : Cok prog w mg mb H₀ n Φ c env ρ h) (k : Sub h h') : Cok prog w mg mb H₀ n Φ c env ρ h' :=
  ⟨q.eo, q.inv.mono k, q.base.trans k, q.fns⟩


variable (prog w mg mb H₀ n Φ A) in
def EOk (e : E) : Prop := ∀ c x ρ env s r, okE c e x = true → Cok prog w mg mb H₀ n Φ c env ρ s.heap → ev Φ e ρ = some r → Ev prog w A (eval x env) s (fresh e) r
variable (prog w mg mb H₀ n Φ A) in
def TOk (e : E) : Prop := ∀ c x ρ env s b, okE c e x = true → Cok prog w mg mb H₀ n Φ c env ρ s.heap → ev Φ e ρ = some (.a (.bool b)) →
  wpAny (model prog w) A (isTrue x env (eval x env)) (fun b' s' => b' = b ∧ Keeps s s') (fun _ _ => False) s
variable (prog w mg mb H₀ n Φ A) in
def AsOk (e : E) : Prop := ∀ c es ρ env s vs pos, okEs c e es = true → Cok prog w mg mb H₀ n Φ c env ρ s.heap → evs Φ e ρ = some vs →
  wpAny (model prog w) A (spliced (backTo pos (starEach es env))) (fun us s' => Keeps s s' ∧ Paired (fun v x => Rep s'.heap v x) us vs) (fun _ _ => False) s
variable (prog w mg mb H₀ n Φ A) in
def BsOk (e : E) : Prop := ∀ isAnd c es ρ env s b, okEs c e es = true → Cok prog w mg mb H₀ n Φ c env ρ s.heap → evb Φ isAnd e ρ = some b →
  (∀ pos, es ≠ [] → wpAny (model prog w) A (boolOp pos (if isAnd then .And else .Or) (evalEach es env)) (fun v s' => v = .bool b ∧ Keeps s s') (fun _ _ => False) s) ∧
  wpAny (model prog w) A (allTrue (if isAnd then .And else .Or) es env) (fun b' s' => b' = b ∧ Keeps s s') (fun _ _ => False) s
variable (prog w mg mb H₀ n Φ A) in
def PsOk (e : E) : Prop := ∀ c (keys : List (List Nat)) ks es ρ env s vs pos, okEs c e es = true → okK keys ks = true → keys.length = es.length → Cok prog w mg mb H₀ n Φ c env ρ s.heap → evs Φ e ρ = some vs →
  wpAny (model prog w) A (evalPairs (pairTrees ks es env pos)) (fun ps s' => Keeps s s' ∧ ∃ kvs : List (Str × Value), Carries (PySem.strKind prog w) ps kvs ∧ kvs.map (·.1) = keys.map (fun k => ⟨k.toArray⟩) ∧ Paired (fun v x => Rep s'.heap v x) (kvs.map (·.2)) vs) (fun _ _ => False) s
/-- all that is said of one tree -/
structure All (prog : Program) (w : World) (mg mb : Str → Option Value) (H₀ : Heap) (n : Nat) (Φ : Nat → List PV → Option PV) (A : Around) (e : E) : Prop where
  pe : EOk prog w mg mb H₀ n Φ A e
  pt : TOk prog w mg mb H₀ n Φ A e
  pas : AsOk prog w mg mb H₀ n Φ A e
  pbs : BsOk prog w mg mb H₀ n Φ A e
  pps : PsOk prog w mg mb H₀ n Φ A e

theorem okE_noStar {c : Cx} {e : E} {x : Expr} (h : okE c e x = true) : ∀ y p, x ≠ .Starred y p := by
  intro y p q
  subst q
  cases e <;> simp [okE] at h
theorem starEach_cons {x : Expr} {es : List Expr} {env : Env} (h : ∀ y p, x ≠ .Starred y p) : starEach (x :: es) env = (false, eval x env) :: starEach es env := by
  cases x <;> first | rfl | exact absurd rfl (h _ _)
/-- the plain way of a test -/
def plainTest : Expr → Bool
  | .UnaryOp .Not _ _ => false
  | .BoolOp _ _ _ => false
  | .IfExp _ _ _ _ => false
  | .Compare _ _ _ _ => false
  | _ => true
theorem test_plain {x : Expr} {env : Env} {s : Shared} {b fr : Bool} (h : plainTest x = true) (q : Ev prog w A (eval x env) s fr (.a (.bool b))) :
    wpAny (model prog w) A (isTrue x env (eval x env)) (fun b' s' => b' = b ∧ Keeps s s') (fun _ _ => False) s := by
  have e : isTrue x env (eval x env) = (do let v ← eval x env; standAt x.pos; holding [v] (truthy v)) := by
    cases x <;> first | rfl | (cases h) | skip
    rename_i op _ _
    cases op <;> first | rfl | cases h
  refine wpAny_isTrue_value (q.use fun v s' k r _ => ?_) e
  cases r
  exact wpAny_truthy_bool ⟨rfl, k⟩

theorem not_as {e : E} (h1 : ∀ Φ ρ, evs Φ e ρ = none) : AsOk prog w mg mb H₀ n Φ A e := fun _ _ _ _ _ _ _ _ _ e => by rw [h1] at e; cases e
theorem not_ps {e : E} (h1 : ∀ Φ ρ, evs Φ e ρ = none) : PsOk prog w mg mb H₀ n Φ A e := fun _ _ _ _ _ _ _ _ _ _ _ _ _ e => by rw [h1] at e; cases e
theorem not_bs {e : E} (h1 : ∀ Φ i ρ, evb Φ i e ρ = none) : BsOk prog w mg mb H₀ n Φ A e := fun _ _ _ _ _ _ _ _ _ e => by rw [h1] at e; cases e
theorem not_e {e : E} (h1 : ∀ Φ ρ, ev Φ e ρ = none) : EOk prog w mg mb H₀ n Φ A e := fun _ _ _ _ _ _ _ _ e => by rw [h1] at e; cases e
theorem not_t {e : E} (h1 : ∀ Φ ρ, ev Φ e ρ = none) : TOk prog w mg mb H₀ n Φ A e := fun _ _ _ _ _ _ _ _ e => by rw [h1] at e; cases e

/-! constants, names -/
theorem all_none : All prog w mg mb H₀ n Φ A .none := by
  have he : EOk prog w mg mb H₀ n Φ A .none := by
    intro c x ρ env s r h q e
    cases x <;> first | (simp [okE] at h; done) | skip
    rename_i v _ _
    cases v <;> first | (simp [okE] at h; done) | skip
    try simp [okE] at h
    cases e
    exact wpAny_Constant_none ⟨keeps_refl _, rfl, fun _ => fresh_atom (x := .none) rfl⟩
  exact ⟨he, fun _ _ _ _ _ _ _ _ e => (by cases e), not_as (fun _ _ => rfl), not_bs (fun _ _ _ => rfl), not_ps (fun _ _ => rfl)⟩
theorem all_bool {b : Bool} : All prog w mg mb H₀ n Φ A (.bool b) := by
  have he : EOk prog w mg mb H₀ n Φ A (.bool b) := by
    intro c x ρ env s r h q e
    cases x <;> first | (simp [okE] at h; done) | skip
    rename_i v _ _
    cases v <;> first | (simp [okE] at h; done) | skip
    try simp [okE] at h
    subst h
    cases e
    exact wpAny_Constant_bool ⟨keeps_refl _, rfl, fun _ => fresh_atom (x := .bool b) rfl⟩
  refine ⟨he, fun c x ρ env s b' h q e => test_plain ?_ (he c x ρ env s _ h q e), not_as (fun _ _ => rfl), not_bs (fun _ _ _ => rfl), not_ps (fun _ _ => rfl)⟩
  cases x <;> first | (simp [okE] at h; done) | rfl
theorem all_int {i : Int} : All prog w mg mb H₀ n Φ A (.int i) := by
  have he : EOk prog w mg mb H₀ n Φ A (.int i) := by
    intro c x ρ env s r h q e
    cases e
    cases x with
    | Constant v k p =>
      cases v <;> first | (simp [okE] at h; done) | skip
      simp [okE] at h
      subst h
      exact wpAny_Constant_int (end_atom (keeps_tok _ _) ⟨_, rfl⟩)
    | UnaryOp op y p =>
      cases op <;> first | (simp [okE] at h; done) | skip
      cases y <;> first | (simp [okE] at h; done) | skip
      rename_i v _ _
      cases v <;> first | (simp [okE] at h; done) | skip
      simp [okE] at h
      subst h
      exact wpAny_UnaryOp (wpAny_Constant_int (PySem.P.neg_int (end_atom ⟨s.heap, _, rfl, fun _ _ e => e⟩ ⟨_, rfl⟩)))
    | _ => simp [okE] at h
  exact ⟨he, fun _ _ _ _ _ _ _ _ e => (by cases e), not_as (fun _ _ => rfl), not_bs (fun _ _ _ => rfl), not_ps (fun _ _ => rfl)⟩
theorem all_str {l : List Nat} : All prog w mg mb H₀ n Φ A (.str l) := by
  have he : EOk prog w mg mb H₀ n Φ A (.str l) := by
    intro c x ρ env s r h q e
    cases x <;> first | (simp [okE] at h; done) | skip
    rename_i v _ _
    cases v <;> first | (simp [okE] at h; done) | skip
    try simp [okE] at h
    subst h
    simp only [ev] at e
    split at e
    · rename_i hl
      cases e
      exact wpAny_Constant_str (end_atom (keeps_tok _ _) ⟨s.toks, by simp, hl⟩)
    · cases e
  refine ⟨he, fun _ _ _ _ _ _ _ _ e => ?_, not_as (fun _ _ => rfl), not_bs (fun _ _ _ => rfl), not_ps (fun _ _ => rfl)⟩
  simp only [ev] at e
  split at e <;> cases e
theorem all_var {i : Nat} : All prog w mg mb H₀ n Φ A (.var i) := by
  have he : EOk prog w mg mb H₀ n Φ A (.var i) := by
    intro c x ρ env s r h q e
    cases x <;> first | (simp [okE] at h; done) | skip
    simp [okE] at h
    rename_i y p
    obtain ⟨h1, h2⟩ := h
    have hd : (y == ("__debug__" : Str)) = false := by
      rw [beq_eq_false_iff_ne]; exact h2
    refine wpAny_Name ?_ hd
    rcases q.inv i y r h1 e with ⟨hk, m, v, hn, hm, hr⟩ | ⟨hk, a, v, hc, hi, hr⟩
    · exact wpAny_loadName_local q.eo.kind hk hn hm ⟨keeps_refl _, hr, fun h => by cases h⟩
    · exact wpAny_loadName_cell q.eo.kind hk hc hi ⟨keeps_refl _, hr, fun h => by cases h⟩
  refine ⟨he, fun c x ρ env s b' h q e => test_plain ?_ (he c x ρ env s _ h q e), not_as (fun _ _ => rfl), not_bs (fun _ _ _ => rfl), not_ps (fun _ _ => rfl)⟩
  cases x <;> first | (simp [okE] at h; done) | rfl

/-! operations -/
theorem all_bin {op : Operator} {l r : E} (hl : All prog w mg mb H₀ n Φ A l) (hr : All prog w mg mb H₀ n Φ A r) : All prog w mg mb H₀ n Φ A (.bin op l r) := by
  have he : EOk prog w mg mb H₀ n Φ A (.bin op l r) := by
    intro c x ρ env s v h q e
    cases x <;> first | (simp [okE] at h; done) | skip
    simp [okE] at h
    rename_i l' op' r' p
    obtain ⟨⟨rfl, h1⟩, h2⟩ := h
    simp only [ev, Option.bind_eq_some_iff] at e
    obtain ⟨a, ha, b, hb, e⟩ := e
    refine wpAny_BinOp ((hl.pe c l' ρ env s a h1 q ha).use fun va s₁ k₁ r₁ _ => (hr.pe c r' ρ env s₁ b h2 (q.mono (keeps_sub k₁)) hb).use fun vb s₂ k₂ r₂ _ => ?_)
    refine (binop_sound (fr := true) (r₁.mono (keeps_sub k₂)) r₂ e).use fun v' s₃ k₃ r₃ f₃ => ⟨keeps_trans k₁ (keeps_trans k₂ k₃), r₃, fun _ => (f₃ rfl).sub ((keeps_sub k₁).trans (keeps_sub k₂))⟩
  refine ⟨he, fun c x ρ env s b' h q e => test_plain ?_ (he c x ρ env s _ h q e), not_as (fun _ _ => rfl), not_bs (fun _ _ _ => rfl), not_ps (fun _ _ => rfl)⟩
  cases x <;> first | (simp [okE] at h; done) | rfl
end
end Mine
end
section
open PySem PySem.Calls
set_option maxRecDepth 100000
namespace Mine
section
variable {prog : Program} {w : World} {mg mb : Str → Option Value} {H₀ : Heap} {n : Nat} {Φ : Nat → List PV → Option PV} {A : Around}

theorem truth_eq {o : Option PV} {b : Bool} (h : o.bind truth = some b) : o = some (.a (.bool b)) := by
  cases o with
  | none => cases h
  | some v =>
    cases v with
    | a x => cases x <;> simp [truth] at h; subst h; rfl
    | _ => simp [truth] at h

/-- a bool that a test gives is what the value's tree gives too -/
theorem all_notE {x : E} (hx : All prog w mg mb H₀ n Φ A x) : All prog w mg mb H₀ n Φ A (.notE x) := by
  have inv : ∀ {c : Cx} {y : Expr}, okE c (.notE x) y = true → ∃ x' p, y = .UnaryOp .Not x' p ∧ okE c x x' = true := by
    intro c y h
    cases y <;> first | (simp [okE] at h; done) | skip
    rename_i op x' p
    cases op <;> first | (simp [okE] at h; done) | skip
    simp [okE] at h
    exact ⟨_, _, rfl, h⟩
  have ht : TOk prog w mg mb H₀ n Φ A (.notE x) := by
    intro c y ρ env s b h q e
    obtain ⟨x', p, rfl, h'⟩ := inv h
    simp only [ev, Option.map_eq_some_iff] at e
    obtain ⟨b', hb, e⟩ := e
    cases e
    refine wpAny_isTrue_Not (wpAny_mono (hx.pt c x' ρ env s b' h' q (truth_eq hb)) (fun v s' k => ?_) fun _ _ e => e)
    obtain ⟨rfl, k⟩ := k
    exact ⟨rfl, k⟩
  refine ⟨?_, ht, not_as (fun _ _ => rfl), not_bs (fun _ _ _ => rfl), not_ps (fun _ _ => rfl)⟩
  intro c y ρ env s r h q e
  obtain ⟨x', p, rfl, h'⟩ := inv h
  simp only [ev, Option.map_eq_some_iff] at e
  obtain ⟨b', hb, rfl⟩ := e
  refine wpAny_UnaryOp ((hx.pe c x' ρ env s _ h' q (truth_eq hb)).use fun v s' k rr _ => ?_)
  cases rr
  exact wpAny_bind (wpAny_truthy_bool (wpAny_pure (end_atom (x := .bool (!b')) k rfl)))

theorem all_cmp {op : CmpOp} {l r : E} (hA : AOk n A) (hl : All prog w mg mb H₀ n Φ A l) (hr : All prog w mg mb H₀ n Φ A r) : All prog w mg mb H₀ n Φ A (.cmp op l r) := by
  have hu : A.units + 64 < cLine := by have := hA.units; omega
  have inv : ∀ {c : Cx} {y : Expr}, okE c (.cmp op l r) y = true → ∃ l' r' p, y = .Compare l' [op] [r'] p ∧ okE c l l' = true ∧ okE c r r' = true ∧ behindInMarks op r' = false := by
    intro c y h
    cases y <;> first | (simp [okE] at h; done) | skip
    rename_i l' ops rs p
    cases ops with
    | nil => simp [okE] at h
    | cons o ops =>
      cases ops with
      | cons _ _ => simp [okE] at h
      | nil =>
        cases rs with
        | nil => simp [okE] at h
        | cons r' rs =>
          cases rs with
          | cons _ _ => simp [okE] at h
          | nil =>
            simp [okE] at h
            obtain ⟨⟨rfl, h1⟩, h2⟩ := h
            refine ⟨_, _, _, rfl, h1, h2, ?_⟩
            cases r' <;> first | rfl | skip
            cases r <;> simp [okE] at h2
  have main : ∀ {c : Cx} {l' r' : Expr} {ρ : Store} {env : Env} {s : Shared} {b : Bool} {Q : Value → Shared → Prop} {F : Value → Shared → Prop}, okE c l l' = true → okE c r r' = true → Cok prog w mg mb H₀ n Φ c env ρ s.heap →
      ev Φ (.cmp op l r) ρ = some (.a (.bool b)) → (∀ s', Keeps s s' → Q (.bool b) s') →
      wpAny (model prog w) A (eval l' env) (fun a s₁ => wpAny (model prog w) A (eval r' env) (fun b s₂ => wpAny (model prog w) A (compareOp op a b) Q F s₂) F s₁) F s := by
    intro c l' r' ρ env s b Q F h1 h2 q e hQ
    simp only [ev, Option.bind_eq_some_iff, Option.map_eq_some_iff] at e
    obtain ⟨a, ha, b', hb, d, hd, e⟩ := e
    cases e
    exact (hl.pe c l' ρ env s a h1 q ha).use fun va s₁ k₁ r₁ _ => (hr.pe c r' ρ env s₁ b' h2 (q.mono (keeps_sub k₁)) hb).use fun vb s₂ k₂ r₂ _ =>
      cmpop_sound (r₁.mono (keeps_sub k₂)) r₂ hu hd (hQ _ (keeps_trans k₁ k₂))
  have isb : ∀ {ρ v}, ev Φ (.cmp op l r) ρ = some v → ∃ b, v = .a (.bool b) := by
    intro ρ v e
    simp only [ev, Option.bind_eq_some_iff, Option.map_eq_some_iff] at e
    obtain ⟨a, ha, b', hb, d, hd, e⟩ := e
    exact ⟨d, e.symm⟩
  refine ⟨?_, ?_, not_as (fun _ _ => rfl), not_bs (fun _ _ _ => rfl), not_ps (fun _ _ => rfl)⟩
  · intro c y ρ env s v h q e
    obtain ⟨l', r', p, rfl, h1, h2, hm⟩ := inv h
    obtain ⟨b, rfl⟩ := isb e
    exact wpAny_Compare1 (main h1 h2 q e fun s' k => end_atom (x := .bool b) k rfl) hm
  · intro c y ρ env s b h q e
    obtain ⟨l', r', p, rfl, h1, h2, hm⟩ := inv h
    exact wpAny_isTrue_Compare1 (main h1 h2 q e fun s' k => wpAny_truthy_bool ⟨rfl, k⟩) hm

theorem all_cmp2 {o1 o2 : CmpOp} {a b d : E} (hA : AOk n A) (ha : All prog w mg mb H₀ n Φ A a) (hb : All prog w mg mb H₀ n Φ A b) (hd : All prog w mg mb H₀ n Φ A d) : All prog w mg mb H₀ n Φ A (.cmp2 o1 o2 a b d) := by
  have hu : A.units + 64 < cLine := by have := hA.units; omega
  have noMark : ∀ {c : Cx} {e : E} {x : Expr} {op : CmpOp}, okE c e x = true → behindInMarks op x = false := by
    intro c e x op h
    cases x <;> first | rfl | skip
    cases e <;> simp [okE] at h
  have inv : ∀ {c : Cx} {y : Expr}, okE c (.cmp2 o1 o2 a b d) y = true → ∃ a' b' d' p, y = .Compare a' [o1, o2] [b', d'] p ∧ okE c a a' = true ∧ okE c b b' = true ∧ okE c d d' = true := by
    intro c y h
    cases y <;> first | (simp [okE] at h; done) | skip
    rename_i l' ops rs p
    cases ops with
    | nil => simp [okE] at h
    | cons o ops =>
      cases ops with
      | nil => simp [okE] at h
      | cons o' ops =>
        cases ops with
        | cons _ _ => simp [okE] at h
        | nil =>
          cases rs with
          | nil => simp [okE] at h
          | cons r' rs =>
            cases rs with
            | nil => simp [okE] at h
            | cons r'' rs =>
              cases rs with
              | cons _ _ => simp [okE] at h
              | nil =>
                simp [okE] at h
                obtain ⟨⟨⟨⟨rfl, rfl⟩, h1⟩, h2⟩, h3⟩ := h
                exact ⟨_, _, _, _, rfl, h1, h2, h3⟩
  have main : ∀ {c : Cx} {a' b' d' : Expr} {ρ : Store} {env : Env} {s : Shared} {r : Bool}, okE c a a' = true → okE c b b' = true → okE c d d' = true → Cok prog w mg mb H₀ n Φ c env ρ s.heap →
      ev Φ (.cmp2 o1 o2 a b d) ρ = some (.a (.bool r)) → ∃ x y q, ev Φ a ρ = some x ∧ ev Φ b ρ = some y ∧ cmpop o1 x y = some q ∧ ((q = false ∧ r = false) ∨ (q = true ∧ ∃ z, ev Φ d ρ = some z ∧ cmpop o2 y z = some r)) := by
    intro c a' b' d' ρ env s r h1 h2 h3 q e
    simp only [ev, Option.bind_eq_some_iff] at e
    obtain ⟨x, hx, y, hy, q', hq, e⟩ := e
    refine ⟨x, y, q', hx, hy, hq, ?_⟩
    cases q' with
    | false => simp at e; exact .inl ⟨rfl, e⟩
    | true =>
      simp only [if_true, Option.bind_eq_some_iff, Option.map_eq_some_iff] at e
      obtain ⟨z, hz, r', hr, e⟩ := e
      cases e
      exact .inr ⟨rfl, z, hz, hr⟩
  have isb : ∀ {ρ v}, ev Φ (.cmp2 o1 o2 a b d) ρ = some v → ∃ b, v = .a (.bool b) := by
    intro ρ v e
    simp only [ev, Option.bind_eq_some_iff] at e
    obtain ⟨x, hx, y, hy, q', hq, e⟩ := e
    cases q' with
    | false => simp at e; exact ⟨false, e.symm⟩
    | true =>
      simp only [if_true, Option.bind_eq_some_iff, Option.map_eq_some_iff] at e
      obtain ⟨z, hz, r', hr, e⟩ := e
      exact ⟨r', e.symm⟩
  refine ⟨?_, ?_, not_as (fun _ _ => rfl), not_bs (fun _ _ _ => rfl), not_ps (fun _ _ => rfl)⟩
  · intro c y ρ env s v h q e
    obtain ⟨a', b', d', p, rfl, h1, h2, h3⟩ := inv h
    obtain ⟨r, rfl⟩ := isb e
    obtain ⟨x, y, q', hx, hy, hq, hr⟩ := main h1 h2 h3 q e
    have hm : lastMarks [o1, o2] [b', d'] = false := noMark h3
    refine PyProof.Rows.Compare_chain (rs := []) (ops := []) ((ha.pe c a' ρ env s x h1 q hx).use fun va s₁ k₁ r₁ _ => PyProof.Rows.chain_link ((hb.pe c b' ρ env s₁ y h2 (q.mono (keeps_sub k₁)) hy).use fun vb s₂ k₂ r₂ _ =>
      cmpop_sound (r₁.mono (keeps_sub k₂)) r₂ hu hq (wpAny_truthy_bool ?_))) hm
    rcases hr with ⟨rfl, rfl⟩ | ⟨rfl, z, hz, hr⟩
    · exact end_atom (x := .bool false) (keeps_trans k₁ k₂) rfl
    · refine PyProof.Rows.chain_last ((hd.pe c d' ρ env s₂ z h3 ((q.mono (keeps_sub k₁)).mono (keeps_sub k₂)) hz).use fun vd s₃ k₃ r₃ _ =>
        cmpop_sound (r₂.mono (keeps_sub k₃)) r₃ hu hr (end_atom (x := .bool r) (keeps_trans k₁ (keeps_trans k₂ k₃)) rfl))
  · intro c y ρ env s r h q e
    obtain ⟨a', b', d', p, rfl, h1, h2, h3⟩ := inv h
    obtain ⟨x, y, q', hx, hy, hq, hr⟩ := main h1 h2 h3 q e
    have hm : lastMarks [o1, o2] [b', d'] = false := noMark h3
    refine PyProof.Rows.isTrue_chain (rs := []) (ops := []) ((ha.pe c a' ρ env s x h1 q hx).use fun va s₁ k₁ r₁ _ => PyProof.Rows.test_link ((hb.pe c b' ρ env s₁ y h2 (q.mono (keeps_sub k₁)) hy).use fun vb s₂ k₂ r₂ _ =>
      cmpop_sound (r₁.mono (keeps_sub k₂)) r₂ hu hq (wpAny_truthy_bool ?_))) hm
    rcases hr with ⟨rfl, rfl⟩ | ⟨rfl, z, hz, hr⟩
    · exact ⟨rfl, keeps_trans k₁ k₂⟩
    · refine PyProof.Rows.test_last ((hd.pe c d' ρ env s₂ z h3 ((q.mono (keeps_sub k₁)).mono (keeps_sub k₂)) hz).use fun vd s₃ k₃ r₃ _ =>
        cmpop_sound (r₂.mono (keeps_sub k₃)) r₃ hu hr (wpAny_truthy_bool ⟨rfl, keeps_trans k₁ (keeps_trans k₂ k₃)⟩))

/-! lists of trees -/
theorem all_nil : All prog w mg mb H₀ n Φ A .nil := by
  refine ⟨not_e (fun _ _ => rfl), not_t (fun _ _ => rfl), ?_, ?_, ?_⟩
  rotate_left 2
  · intro c keys ks es ρ env s vs pos h hk hl q e
    cases es with
    | cons _ _ => simp [okEs] at h
    | nil =>
      cases e
      cases keys with
      | cons _ _ => simp at hl
      | nil =>
        cases ks with
        | cons _ _ => simp [okK] at hk
        | nil => exact pairTrees_nil_walk ⟨keeps_refl _, [], trivial, rfl, .nil⟩
  · intro c es ρ env s vs pos h q e
    cases es with
    | cons _ _ => simp [okEs] at h
    | nil =>
      cases e
      exact Calls.spliced_nil ⟨keeps_refl _, .nil⟩
  · intro isAnd c es ρ env s b h q e
    cases es with
    | cons _ _ => simp [okEs] at h
    | nil =>
      simp [evb] at e
      subst e
      refine ⟨fun _ h => absurd rfl h, ?_⟩
      cases isAnd
      · exact wpAny_allTrue_Or_nil ⟨rfl, keeps_refl _⟩
      · exact wpAny_allTrue_And_nil ⟨rfl, keeps_refl _⟩
theorem all_cons {x r : E} (hx : All prog w mg mb H₀ n Φ A x) (hr : All prog w mg mb H₀ n Φ A r) : All prog w mg mb H₀ n Φ A (.cons x r) := by
  refine ⟨not_e (fun _ _ => rfl), not_t (fun _ _ => rfl), ?_, ?_, ?_⟩
  rotate_left 2
  · intro c keys ks es ρ env s vs pos h hk hl q e
    cases es with
    | nil => simp [okEs] at h
    | cons y es =>
      simp [okEs] at h
      simp only [evs, Option.bind_eq_some_iff, Option.map_eq_some_iff] at e
      obtain ⟨v, hv, us, hus, rfl⟩ := e
      cases keys with
      | nil => simp at hl
      | cons key keys =>
        cases ks with
        | nil => simp [okK] at hk
        | cons k ks =>
          cases k with
          | none => simp [okK] at hk
          | some k =>
            cases k <;> first | (simp [okK] at hk; done) | skip
            rename_i kc _ _
            cases kc <;> first | (simp [okK] at hk; done) | skip
            rename_i kx
            simp [okK] at hk
            obtain ⟨h5, hk⟩ := hk
            have hkx : kx = ⟨key.toArray⟩ := Str.ext' (by rw [← h5])
            subst hkx
            refine pairTrees_cons_walk (wpAny_Constant_str ?_)
            have k0 : Keeps s { s with toks := s.toks + 1 } := keeps_tok _ _
            refine (hx.pe c y ρ env _ v h.1 (q.mono (keeps_sub k0)) hv).use fun v' s₁ k₁ r₁ _ => wpAny_mono (hr.pps c keys ks es ρ env s₁ us pos h.2 hk (by simpa using hl) ((q.mono (keeps_sub k0)).mono (keeps_sub k₁)) hus) (fun ps s₂ k₂ => ?_) fun _ _ e => e
            obtain ⟨k₂, kvs, hc, hn, hp⟩ := k₂
            have hi : (PySem.strKind prog w).is ⟨key.toArray⟩ (.str ⟨key.toArray⟩ s.toks) = true := strKind_is prog w _ _
            exact ⟨keeps_trans k0 (keeps_trans k₁ k₂), (⟨key.toArray⟩, v') :: kvs, ⟨hi, rfl, hc⟩, by simp [hn], .cons (r₁.mono (keeps_sub k₂)) hp⟩
  · intro c es ρ env s vs pos h q e
    cases es with
    | nil => simp [okEs] at h
    | cons y es =>
      simp [okEs] at h
      simp only [evs, Option.bind_eq_some_iff, Option.map_eq_some_iff] at e
      obtain ⟨v, hv, us, hus, rfl⟩ := e
      have e1 : backTo pos (starEach (y :: es) env) = (false, eval y env) :: backTo pos (starEach es env) := by
        rw [starEach_cons (okE_noStar h.1)]; rfl
      rw [e1]
      refine Calls.spliced_cons ((hx.pe c y ρ env s v h.1 q hv).use fun v' s₁ k₁ r₁ _ => wpAny_mono (hr.pas c es ρ env s₁ us pos h.2 (q.mono (keeps_sub k₁)) hus) (fun us' s₂ k₂ => ?_) fun _ _ e => e)
      exact ⟨keeps_trans k₁ k₂.1, .cons (r₁.mono (keeps_sub k₂.1)) k₂.2⟩
  · intro isAnd c es ρ env s b h q e
    cases es with
    | nil => simp [okEs] at h
    | cons y es =>
      simp [okEs] at h
      simp only [evb, Option.bind_eq_some_iff] at e
      obtain ⟨b', hb, e⟩ := e
      have hb := truth_eq (Option.bind_eq_some_iff.mpr hb)
      refine ⟨fun pos _ => ?_, ?_⟩
      · cases es with
        | nil =>
          have he : b' = b := by
            cases r <;> simp [okEs] at h
            simp [evb] at e
            split at e
            · rename_i q'; rw [q']; simpa using e
            · simpa using e
          subst he
          show wpAny (model prog w) A (boolOp pos _ [eval y env]) _ _ s
          show wpAny (model prog w) A (eval y env) _ _ s
          refine (hx.pe c y ρ env s _ h.1 q hb).use fun v s₁ k₁ r₁ _ => ?_
          cases r₁
          exact ⟨rfl, k₁⟩
        | cons y' es =>
          show wpAny (model prog w) A (do
            let v ← eval y env
            standAt pos
            let t ← holding [v] (truthy v)
            match (if isAnd then BoolOp.And else BoolOp.Or), t with
            | .And, false | .Or, true => pure v
            | _, _ => boolOp pos (if isAnd then .And else .Or) (evalEach (y' :: es) env)) _ _ s
          refine wpAny_bind ((hx.pe c y ρ env s _ h.1 q hb).use fun v s₁ k₁ r₁ _ => wpAny_bind (wpAny_standAt (wpAny_bind (wpAny_holding ?_))))
          cases r₁
          refine wpAny_truthy_bool ?_
          by_cases hba : b' = isAnd
          · rw [if_pos hba] at e
            have rest := wpAny_mono ((hr.pbs isAnd c (y' :: es) ρ env s₁ b h.2 (q.mono (keeps_sub k₁)) e).1 pos (by simp)) (Q' := fun v s' => v = .bool b ∧ Keeps s s') (fun _ _ z => ⟨z.1, keeps_trans k₁ z.2⟩) (fun _ _ z => z)
            subst hba
            cases b' <;> exact rest
          · rw [if_neg hba] at e
            cases e
            cases b <;> cases isAnd <;> first | exact wpAny_pure ⟨rfl, k₁⟩ | exact absurd rfl hba
      · have t1 := hx.pt c y ρ env s b' h.1 q hb
        cases isAnd
        · refine wpAny_allTrue_Or_cons (wpAny_mono t1 (fun v s₁ k => ?_) fun _ _ e => e)
          obtain ⟨rfl, k₁⟩ := k
          cases v
          · simp at e
            exact wpAny_mono (hr.pbs false c es ρ env s₁ b h.2 (q.mono (keeps_sub k₁)) e).2 (fun _ _ z => ⟨z.1, keeps_trans k₁ z.2⟩) (fun _ _ z => z)
          · simp at e
            subst e
            exact ⟨rfl, k₁⟩
        · refine wpAny_allTrue_And_cons (wpAny_mono t1 (fun v s₁ k => ?_) fun _ _ e => e)
          obtain ⟨rfl, k₁⟩ := k
          cases v
          · simp at e
            subst e
            exact ⟨rfl, k₁⟩
          · simp at e
            exact wpAny_mono (hr.pbs true c es ρ env s₁ b h.2 (q.mono (keeps_sub k₁)) e).2 (fun _ _ z => ⟨z.1, keeps_trans k₁ z.2⟩) (fun _ _ z => z)
theorem all_boolE {isAnd : Bool} {args : E} (ha : All prog w mg mb H₀ n Φ A args) : All prog w mg mb H₀ n Φ A (.boolE isAnd args) := by
  have inv : ∀ {c : Cx} {y : Expr}, okE c (.boolE isAnd args) y = true → ∃ es p, y = .BoolOp (if isAnd then .And else .Or) es p ∧ okEs c args es = true ∧ es ≠ [] := by
    intro c y h
    cases y <;> first | (simp [okE] at h; done) | skip
    simp [okE] at h
    obtain ⟨⟨rfl, h1⟩, h2⟩ := h
    exact ⟨_, _, rfl, h1, h2⟩
  refine ⟨?_, ?_, not_as (fun _ _ => rfl), not_bs (fun _ _ _ => rfl), not_ps (fun _ _ => rfl)⟩
  · intro c y ρ env s v h q e
    obtain ⟨es, p, rfl, h1, h2⟩ := inv h
    simp only [ev, Option.map_eq_some_iff] at e
    obtain ⟨b, hb, rfl⟩ := e
    show wpAny (model prog w) A (boolOp p _ (evalEach es env)) _ _ s
    refine wpAny_mono ((ha.pbs isAnd c es ρ env s b h1 q hb).1 p h2) (fun v s' k => ?_) fun _ _ e => e
    obtain ⟨rfl, k⟩ := k
    exact end_atom (x := .bool b) k rfl
  · intro c y ρ env s b h q e
    obtain ⟨es, p, rfl, h1, h2⟩ := inv h
    simp only [ev, Option.map_eq_some_iff] at e
    obtain ⟨b', hb, e⟩ := e
    cases e
    exact wpAny_isTrue_BoolOp (ha.pbs isAnd c es ρ env s b h1 q hb).2
theorem all_ite {t a b : E} (ht : All prog w mg mb H₀ n Φ A t) (ha : All prog w mg mb H₀ n Φ A a) (hb : All prog w mg mb H₀ n Φ A b) : All prog w mg mb H₀ n Φ A (.ite t a b) := by
  have inv : ∀ {c : Cx} {y : Expr}, okE c (.ite t a b) y = true → ∃ t' a' b' p, y = .IfExp t' a' b' p ∧ okE c t t' = true ∧ okE c a a' = true ∧ okE c b b' = true := by
    intro c y h
    cases y <;> first | (simp [okE] at h; done) | skip
    simp [okE] at h
    obtain ⟨⟨h1, h2⟩, h3⟩ := h
    exact ⟨_, _, _, _, rfl, h1, h2, h3⟩
  refine ⟨?_, ?_, not_as (fun _ _ => rfl), not_bs (fun _ _ _ => rfl), not_ps (fun _ _ => rfl)⟩
  · intro c y ρ env s v h q e
    obtain ⟨t', a', b', p, rfl, h1, h2, h3⟩ := inv h
    simp only [ev] at e
    obtain ⟨d, hd, e⟩ := Option.bind_eq_some_iff.mp e
    refine wpAny_IfExp (wpAny_mono (ht.pt c t' ρ env s d h1 q (truth_eq hd)) (fun d' s₁ k => ?_) fun _ _ e => e)
    obtain ⟨rfl, k₁⟩ := k
    cases d'
    · simp at e
      exact (hb.pe c b' ρ env s₁ v h3 (q.mono (keeps_sub k₁)) e).use fun v' s₂ k₂ r₂ f₂ => ⟨keeps_trans k₁ k₂, r₂, fun hf => (f₂ (by simp [fresh] at hf; exact hf.2)).sub (keeps_sub k₁)⟩
    · simp at e
      exact (ha.pe c a' ρ env s₁ v h2 (q.mono (keeps_sub k₁)) e).use fun v' s₂ k₂ r₂ f₂ => ⟨keeps_trans k₁ k₂, r₂, fun hf => (f₂ (by simp [fresh] at hf; exact hf.1)).sub (keeps_sub k₁)⟩
  · intro c y ρ env s v h q e
    obtain ⟨t', a', b', p, rfl, h1, h2, h3⟩ := inv h
    simp only [ev] at e
    obtain ⟨d, hd, e⟩ := Option.bind_eq_some_iff.mp e
    show wpAny (model prog w) A (do if ← isTrue t' env (eval t' env) then isTrue a' env (eval a' env) else isTrue b' env (eval b' env)) _ _ s
    refine wpAny_bind (wpAny_mono (ht.pt c t' ρ env s d h1 q (truth_eq hd)) (fun d' s₁ k => ?_) fun _ _ e => e)
    obtain ⟨rfl, k₁⟩ := k
    cases d'
    · simp at e
      exact wpAny_mono (hb.pt c b' ρ env s₁ v h3 (q.mono (keeps_sub k₁)) e) (fun _ _ z => ⟨z.1, keeps_trans k₁ z.2⟩) (fun _ _ z => z)
    · simp at e
      exact wpAny_mono (ha.pt c a' ρ env s₁ v h2 (q.mono (keeps_sub k₁)) e) (fun _ _ z => ⟨z.1, keeps_trans k₁ z.2⟩) (fun _ _ z => z)
end
end Mine
end
section
open PySem PySem.Calls
set_option maxRecDepth 100000
namespace Mine
section
variable {prog : Program} {w : World} {mg mb : Str → Option Value} {H₀ : Heap} {n : Nat} {Φ : Nat → List PV → Option PV} {A : Around}

theorem trees_plain {c : Cx} {env : Env} {pos : Pos} : ∀ {args : E} {es : List Expr}, okEs c args es = true → (backTo pos (starEach es env)).any (·.1) = false ∧ (backTo pos (starEach es env)).all (fun x => !x.1) = true
  | args, [], _ => ⟨rfl, rfl⟩
  | args, y :: es, h => by
    cases args <;> first | (simp [okEs] at h; done) | skip
    simp [okEs] at h
    have e1 : backTo pos (starEach (y :: es) env) = (false, eval y env) :: backTo pos (starEach es env) := by
      rw [starEach_cons (okE_noStar h.1)]; rfl
    obtain ⟨h1, h2⟩ := trees_plain (env := env) (pos := pos) h.2
    rw [e1]
    exact ⟨by rw [List.any_cons, h1]; rfl, by rw [List.all_cons, h2]; rfl⟩
theorem args_eval {args : E} (ha : All prog w mg mb H₀ n Φ A args) {c : Cx} {es : List Expr} {ρ : Store} {env : Env} {s : Shared} {vs : List PV} {pos : Pos} {f : Value} (h : okEs c args es = true)
    (q : Cok prog w mg mb H₀ n Φ c env ρ s.heap) (e : evs Φ args ρ = some vs) :
    wpAny (model prog w) A (evalArgs f true (backTo pos (starEach es env)) []) (fun a s' => a.kw = [] ∧ Keeps s s' ∧ Paired (fun v x => Rep s'.heap v x) a.pos vs) (fun _ _ => False) s := by
  have key := ha.pas c es ρ env s vs pos h q e
  cases es with
  | nil =>
    cases args <;> first | (simp [okEs] at h; done) | skip
    cases e
    exact PyProof.Rows.evalArgs_nil3 ⟨rfl, keeps_refl _, .nil⟩
  | cons y es =>
    cases args <;> first | (simp [okEs] at h; done) | skip
    simp [okEs] at h
    have e1 : backTo pos (starEach (y :: es) env) = (false, eval y env) :: backTo pos (starEach es env) := by
      rw [starEach_cons (okE_noStar h.1)]; rfl
    rw [e1] at key ⊢
    exact Calls.evalArgs_plain (wpAny_mono key (fun us s' k => ⟨rfl, k.1, k.2⟩) fun _ _ e => e)
theorem glob_kind {c : Cx} {env : Env} {x : Str} (he : EnvOk c env) (h : c.glob x = true) : env.kindOf x = some .globalImplicit := by
  unfold Env.kindOf
  rw [he.names]
  simpa [Cx.glob] using h
theorem call_fn {args : E} (G : Gd mg mb H₀) (hA : AOk n A) (ha : All prog w mg mb H₀ n Φ A args) {f : Nat} {c : Cx} {x : Str} {np pos : Pos} {es : List Expr} {ρ : Store} {env : Env} {s : Shared} {r : PV} {fr : Bool}
    (h1 : c.fn f = some x) (h2 : c.glob x = true) (h3 : (x == debugName) = false) (h4 : okEs c args es = true) (q : Cok prog w mg mb H₀ n Φ c env ρ s.heap) (e : ev Φ (.call f args) ρ = some r) :
    Ev prog w A (eval (.Call (.Name x np) es [] pos) env) s fr r := by
  simp only [ev, Option.bind_eq_some_iff] at e
  obtain ⟨vs, hvs, e⟩ := e
  obtain ⟨a, o, fd, hm, ho, hd, hc⟩ := q.fns f x h1
  refine wpAny_Call_NameR (Calls.Name_function_global q.eo.kind (glob_kind q.eo h2) (Calls.loadGlobal_global (by rw [q.eo.globals]; exact G.g.keeps q.base) hm ?_) h3)
  refine Calls.callWith_function (o := o) (fd := fd) (wpAny_mono (args_eval ha h4 q hvs) (fun b s₁ k => ?_) fun _ _ e => e)
  obtain ⟨kw, k₁, hp⟩ := k
  have hs := q.base.trans (keeps_sub k₁)
  refine ⟨⟨hs _ _ ho, hd⟩, ?_⟩
  rw [kw]
  refine wpAny_call (codeAny_mono (hc A s₁ b.pos vs r hA hs hp e) fun res s' h => ?_)
  obtain ⟨v, rfl, k₂, r₂, f₂⟩ := h
  exact ⟨keeps_trans k₁ k₂, r₂, fun _ => f₂.sub (keeps_sub k₁)⟩
theorem all_call {f : Nat} {args : E} (G : Gd mg mb H₀) (hA : AOk n A) (ha : All prog w mg mb H₀ n Φ A args) : All prog w mg mb H₀ n Φ A (.call f args) := by
  have inv : ∀ {c : Cx} {y : Expr}, okE c (.call f args) y = true → ∃ x np es pos, y = .Call (.Name x np) es [] pos ∧ c.fn f = some x ∧ c.glob x = true ∧ (x == debugName) = false ∧ okEs c args es = true := by
    intro c y h
    cases y <;> first | (simp [okE] at h; done) | skip
    rename_i fe es ks pos
    cases ks with
    | cons _ _ => simp [okE] at h
    | nil =>
      cases fe <;> first | (simp [okE] at h; done) | skip
      simp [okE] at h
      obtain ⟨⟨⟨⟨h1, h2⟩, h3⟩, h4⟩, h5⟩ := h
      exact ⟨_, _, _, _, rfl, h1, h2, by rw [beq_eq_false_iff_ne]; exact h3, h4⟩
  have he : EOk prog w mg mb H₀ n Φ A (.call f args) := by
    intro c y ρ env s r h q e
    obtain ⟨x, np, es, pos, rfl, h1, h2, h3, h4⟩ := inv h
    exact call_fn G hA ha h1 h2 h3 h4 q e
  refine ⟨he, fun c x ρ env s b' h q e => test_plain ?_ (he c x ρ env s _ h q e), not_as (fun _ _ => rfl), not_bs (fun _ _ _ => rfl), not_ps (fun _ _ => rfl)⟩
  obtain ⟨x, np, es, pos, rfl, _⟩ := inv h
  rfl

theorem bi_boot (f : BI) : bootBuiltins (biName f) = some (biVal f) := by
  cases f
  · exact PyProof.Rows.Boot.«len»
  · exact PyProof.Rows.Boot.«ord»
  · exact PyProof.Rows.Boot.«str»
  · exact PyProof.Rows.Boot.«min»
  · exact PyProof.Rows.Boot.«max»
  · exact PyProof.Rows.Boot.«sum»
  · exact PyProof.Rows.Boot.«bytes»
theorem bi_used (f : BI) : biName f ∈ usedNames := by cases f <;> simp [usedNames]
theorem bi_ne (f : BI) : biName f ≠ "__name__" := by cases f <;> decide
theorem bi_dbg (f : BI) : (biName f == ("__debug__" : Str)) = false := by cases f <;> decide
theorem all_bi {f : BI} {args : E} (G : Gd mg mb H₀) (hA : AOk n A) (ha : All prog w mg mb H₀ n Φ A args) : All prog w mg mb H₀ n Φ A (.bi f args) := by
  have inv : ∀ {c : Cx} {y : Expr}, okE c (.bi f args) y = true → ∃ np es pos, y = .Call (.Name (biName f) np) es [] pos ∧ c.glob (biName f) = true ∧ okEs c args es = true := by
    intro c y h
    cases y <;> first | (simp [okE] at h; done) | skip
    rename_i fe es ks pos
    cases ks with
    | cons _ _ => simp [okE] at h
    | nil =>
      cases fe <;> first | (simp [okE] at h; done) | skip
      simp [okE] at h
      obtain ⟨⟨rfl, h2⟩, h4⟩ := h
      exact ⟨_, _, _, rfl, h2, h4⟩
  have he : EOk prog w mg mb H₀ n Φ A (.bi f args) := by
    intro c y ρ env s r h q e
    obtain ⟨np, es, pos, rfl, h2, h4⟩ := inv h
    simp only [ev, Option.bind_eq_some_iff] at e
    obtain ⟨vs, hvs, e⟩ := e
    refine wpAny_Call_NameR (Calls.Name_function_global q.eo.kind (glob_kind q.eo h2) (Calls.loadGlobal_builtin (v := biVal f) (by rw [q.eo.globals]; exact G.g.keeps q.base) (G.nob _ (bi_used f)) (by rw [q.eo.builtins]; exact G.b.keeps q.base)
      (by rw [G.bi _ (bi_ne f)]; exact bi_boot f) ?_) (bi_dbg f))
    have fin : ∀ (b : Args) (s₁ : Shared), b.kw = [] ∧ Keeps s s₁ ∧ Paired (fun v x => Rep s₁.heap v x) b.pos vs →
        wpAny (model prog w) A (call (biVal f) ([] ++ b.pos) b.kw) (fun v s' => Keeps s s' ∧ Rep s'.heap v r ∧ (true = true → Fresh s.heap v)) (fun _ _ => False) s₁ := by
      intro b s₁ k
      obtain ⟨kw, k₁, hp⟩ := k
      rw [kw]
      exact (bi_sound (fr := true) hA.handled hp e).use fun v s₂ k₂ r₂ f₂ => ⟨keeps_trans k₁ k₂, r₂, fun _ => (f₂ rfl).sub (keeps_sub k₁)⟩
    have hpl := (trees_plain (env := env) (pos := pos) h4).1
    have run := args_eval (f := biVal f) (pos := pos) ha h4 q hvs
    cases f
    · exact Calls.callWith_builtin hpl (wpAny_mono run fin fun _ _ e => e)
    · exact Calls.callWith_builtin hpl (wpAny_mono run fin fun _ _ e => e)
    · exact PySem.callWith_type hpl (wpAny_mono run fin fun _ _ e => e)
    · exact Calls.callWith_builtin hpl (wpAny_mono run fin fun _ _ e => e)
    · exact Calls.callWith_builtin hpl (wpAny_mono run fin fun _ _ e => e)
    · exact Calls.callWith_builtin hpl (wpAny_mono run fin fun _ _ e => e)
    · exact PySem.callWith_type hpl (wpAny_mono run fin fun _ _ e => e)
  refine ⟨he, fun c x ρ env s b' h q e => test_plain ?_ (he c x ρ env s _ h q e), not_as (fun _ _ => rfl), not_bs (fun _ _ _ => rfl), not_ps (fun _ _ => rfl)⟩
  obtain ⟨np, es, pos, rfl, _⟩ := inv h
  rfl

theorem base_ok {o : Expr} {name : Str} {env : Env} (h : baseOk o = true) : attributeBase o name env (eval o env) = eval o env := by
  unfold attributeBase
  split
  · rename_i x1 x2 x3; simp [baseOk] at h
  · rfl
theorem recv_type {m : ME} {x : PV} {v : Value} {s : Shared} (h : Rep s.heap v x) (e : meRecv m x = true) : s.TypeIs v (meT m) ∧ ∀ a, v = .ref a → ∃ ob, s.heap.get? a = some ob ∧ ob.dict = none := by
  have hs : ∀ {l}, Rep s.heap v (.a (.str l)) → s.TypeIs v "str" ∧ ∀ a, v = .ref a → ∃ ob, s.heap.get? a = some ob ∧ ob.dict = none := by
    rintro l ⟨t, rfl, _⟩
    exact ⟨typeIs_str _ _ _, fun _ e => nomatch e⟩
  have hl : ∀ {l}, Rep s.heap v (.list l) → s.TypeIs v "list" ∧ ∀ a, v = .ref a → ∃ ob, s.heap.get? a = some ob ∧ ob.dict = none := by
    rintro l ⟨a, vs, rfl, ⟨n, hp⟩, _⟩
    exact ⟨⟨_, hp, rfl⟩, fun _ e => by cases e; exact ⟨_, hp, rfl⟩⟩
  cases m <;> cases x <;> first | (simp [meRecv] at e; done) | exact hl h | skip
  all_goals
    rename_i y
    cases y <;> first | (simp [meRecv] at e; done) | exact hs h
theorem all_me {m : ME} {o args : E} (ho : All prog w mg mb H₀ n Φ A o) (ha : All prog w mg mb H₀ n Φ A args) : All prog w mg mb H₀ n Φ A (.me m o args) := by
  have inv : ∀ {c : Cx} {y : Expr}, okE c (.me m o args) y = true → ∃ o' ap es pos, y = .Call (.Attribute o' (meName m) ap) es [] pos ∧ baseOk o' = true ∧ (ap.endLine == pos.line) = true ∧ okE c o o' = true ∧ okEs c args es = true ∧ es.length < 29 := by
    intro c y h
    cases y <;> first | (simp [okE] at h; done) | skip
    rename_i fe es ks pos
    cases ks with
    | cons _ _ => simp [okE] at h
    | nil =>
      cases fe <;> first | (simp [okE] at h; done) | skip
      simp [okE] at h
      obtain ⟨⟨⟨⟨⟨rfl, h1⟩, h2⟩, h3⟩, h4⟩, h5⟩ := h
      exact ⟨_, _, _, _, rfl, h1, by simpa using h2, h3, h4, h5⟩
  have he : EOk prog w mg mb H₀ n Φ A (.me m o args) := by
    intro c y ρ env s r h q e
    obtain ⟨o', ap, es, pos, rfl, h1, h2, h3, h4, h5⟩ := inv h
    simp only [ev, Option.bind_eq_some_iff] at e
    obtain ⟨x, hx, vs, hvs, e⟩ := e
    have hpl := trees_plain (env := env) (pos := pos) h4
    refine wpAny_Call_method (base_ok h1) ?_ h2 (me_plain m) (me_slot m) (me_type m) ((ho.pe c o' ρ env s x h3 q hx).use fun v s₁ k₁ r₁ _ => ?_)
    · rw [hpl.2]; simp [backToKw, keywordEach]; omega
    · obtain ⟨t1, t2⟩ := recv_type r₁ (me_recv e)
      refine ⟨t1, t2, Calls.callWith_builtin hpl.1 (wpAny_mono (args_eval ha h4 (q.mono (keeps_sub k₁)) hvs) (fun b s₂ k => ?_) fun _ _ e => e)⟩
      obtain ⟨kw, k₂, hp⟩ := k
      rw [kw]
      exact (me_sound (fr := true) (r₁.mono (keeps_sub k₂)) hp e).use fun v s₃ k₃ r₃ f₃ => ⟨keeps_trans k₁ (keeps_trans k₂ k₃), r₃, fun _ => (f₃ rfl).sub ((keeps_sub k₁).trans (keeps_sub k₂))⟩
  refine ⟨he, fun c x ρ env s b' h q e => test_plain ?_ (he c x ρ env s _ h q e), not_as (fun _ _ => rfl), not_bs (fun _ _ _ => rfl), not_ps (fun _ _ => rfl)⟩
  obtain ⟨o', ap, es, pos, rfl, _⟩ := inv h
  rfl

/-! displays -/
theorem atoms_paired {h : Heap} : ∀ {vs : List PV} {us : List Value} {xs : List At}, Paired (fun v x => Rep h v x) us vs → atoms vs = some xs → Paired RepA us xs
  | [], _, _, p, e => by cases p; cases e; exact .nil
  | .a x :: r, _, _, p, e => by
    simp only [atoms, Option.map_eq_some_iff] at e
    obtain ⟨ys, hy, rfl⟩ := e
    cases p with
    | cons f t => exact .cons f (atoms_paired t hy)
  | .list _ :: _, _, _, _, e => by cases e
  | .tup _ :: _, _, _, _, e => by cases e
  | .bytes _ :: _, _, _, _, e => by cases e
theorem all_list {args : E} (ha : All prog w mg mb H₀ n Φ A args) : All prog w mg mb H₀ n Φ A (.list args) := by
  refine ⟨?_, ?_, not_as (fun _ _ => rfl), not_bs (fun _ _ _ => rfl), not_ps (fun _ _ => rfl)⟩
  · intro c y ρ env s r h q e
    cases y <;> first | (simp [okE] at h; done) | skip
    simp [okE] at h
    simp only [ev, Option.bind_eq_some_iff] at e
    obtain ⟨vs, hvs, e⟩ := e
    split at e
    · rename_i hl
      simp only [Option.map_eq_some_iff] at e
      obtain ⟨xs, hx, rfl⟩ := e
      refine wpAny_List (wpAny_mono (ha.pas c _ ρ env s vs _ h q hvs) (fun us s₁ k => ?_) fun _ _ e => e)
      obtain ⟨k₁, hp⟩ := k
      have hlen := hp.length
      have end' := end_new (s := s₁) (fr := true) (n := 0) s₁.toks (o := { cls := .type "list", data := .seq us.toArray }) rfl (atoms_paired hp hx) (by omega)
      exact ⟨by omega, keeps_trans k₁ end'.1, end'.2.1, fun _ => (end'.2.2 rfl).sub (keeps_sub k₁)⟩
    · cases e
  · intro c y ρ env s b h q e
    simp only [ev, Option.bind_eq_some_iff] at e
    obtain ⟨vs, hvs, e⟩ := e
    split at e <;> simp at e
theorem all_tup {args : E} (ha : All prog w mg mb H₀ n Φ A args) : All prog w mg mb H₀ n Φ A (.tup args) := by
  refine ⟨?_, ?_, not_as (fun _ _ => rfl), not_bs (fun _ _ _ => rfl), not_ps (fun _ _ => rfl)⟩
  · intro c y ρ env s r h q e
    cases y <;> first | (simp [okE] at h; done) | skip
    simp [okE] at h
    simp only [ev, Option.bind_eq_some_iff] at e
    obtain ⟨vs, hvs, e⟩ := e
    split at e
    · rename_i hl
      simp only [Option.map_eq_some_iff] at e
      obtain ⟨xs, hx, rfl⟩ := e
      refine wpAny_Tuple (wpAny_mono (ha.pas c _ ρ env s vs _ h q hvs) (fun us s₁ k => ?_) fun _ _ e => e)
      obtain ⟨k₁, hp⟩ := k
      have hlen := hp.length
      have end' := end_newT (s := s₁) (fr := true) (n := 0) s₁.toks (o := { cls := .type "tuple", data := .seq us.toArray }) rfl (atoms_paired hp hx) (by omega)
      exact ⟨by omega, keeps_trans k₁ end'.1, end'.2.1, fun _ => (end'.2.2 rfl).sub (keeps_sub k₁)⟩
    · cases e
  · intro c y ρ env s b h q e
    simp only [ev, Option.bind_eq_some_iff] at e
    obtain ⟨vs, hvs, e⟩ := e
    split at e <;> simp at e
end
end Mine
end
section
open PySem PySem.Calls
set_option maxRecDepth 100000
namespace Mine
section
variable {prog : Program} {w : World} {mg mb : Str → Option Value} {H₀ : Heap} {n : Nat} {Φ : Nat → List PV → Option PV} {A : Around}

theorem subscripted_plain {c : Cx} {e : E} {x : Expr} (h : okE c e x = true) (o i : Value) : subscripted x false o i = operate [o, i] (getItem o i) := by
  cases x <;> first | rfl | skip
  cases e <;> simp [okE] at h
theorem index_sound {s : Shared} {o i r : PV} {v u : Value} {fr : Bool} {value : Expr} {c : Cx} {e : E} {x : Expr} (h : okE c e x = true) (ho : Rep s.heap v o) (hi : Rep s.heap u i) (q : index o i = some r) :
    Ev prog w A (PyProof.Rows.subscriptTail value x v u) s fr r := by
  unfold index at q
  split at q
  · rename_i l k
    split at q
    · rename_i h0
      simp only [Option.map_eq_some_iff] at q
      obtain ⟨cc, hc, rfl⟩ := q
      obtain ⟨t, rfl, hl⟩ := ho
      obtain ⟨t', rfl⟩ := hi
      have hlt : k.toNat < l.length := (List.getElem?_eq_some_iff.mp hc).1
      rw [sizeLine_eq] at hl
      have hch : Txt.charAt ⟨l.toArray⟩ k = some cc := by
        have := StrLaws.at_nonneg (x := ⟨l.toArray⟩) h0 (n := cc) (by simpa using hc)
        exact this
      refine PyProof.Rows.tail_any (typeIs_str _ _ _) F.slot_str_getitem.lookup (SB.getItem ?_ (by rw [hch]; rfl) ?_) (subscripted_plain h _ _)
      · simp [fitsSsize]; omega
      · refine end_atom (keeps_tok _ _) ⟨s.toks, ?_, ?_⟩
        · unfold Txt.item; rw [hch]; rfl
        · rw [sizeLine_eq]; simp
    · cases q
  · rename_i xs k
    split at q
    · rename_i h0
      simp only [Option.map_eq_some_iff] at q
      obtain ⟨y, hy, rfl⟩ := q
      obtain ⟨a, vs, rfl, hp, p, hl⟩ := ho
      obtain ⟨t', rfl⟩ := hi
      obtain ⟨z, hz, hr⟩ := paired_get p hy
      have hlt : k.toNat < vs.length := (List.getElem?_eq_some_iff.mp hz).1
      rw [sizeLine_eq] at hl
      exact PyProof.Rows.tail_any (list_type hp) slot_list_getitem.lookup (wpAny_getItem_list (plain_isList hp) h0 (by omega) (by simpa using hz) (end_atom (keeps_refl _) hr)) (subscripted_plain h _ _)
    · cases q
  · cases q

theorem all_idx {o i : E} (ho : All prog w mg mb H₀ n Φ A o) (hi : All prog w mg mb H₀ n Φ A i) : All prog w mg mb H₀ n Φ A (.idx o i) := by
  have he : EOk prog w mg mb H₀ n Φ A (.idx o i) := by
    intro c y ρ env s r h q e
    cases y <;> first | (simp [okE] at h; done) | skip
    simp [okE] at h
    simp only [ev, Option.bind_eq_some_iff] at e
    obtain ⟨a, ha, b, hb, e⟩ := e
    exact PyProof.Rows.Subscript_ ((ho.pe c _ ρ env s a h.1 q ha).use fun va s₁ k₁ r₁ _ => (hi.pe c _ ρ env s₁ b h.2 (q.mono (keeps_sub k₁)) hb).use fun vb s₂ k₂ r₂ _ =>
      (index_sound (fr := true) h.2 (r₁.mono (keeps_sub k₂)) r₂ e).use fun v s₃ k₃ r₃ f₃ => ⟨keeps_trans k₁ (keeps_trans k₂ k₃), r₃, fun _ => (f₃ rfl).sub ((keeps_sub k₁).trans (keeps_sub k₂))⟩)
  refine ⟨he, fun c x ρ env s b' h q e => test_plain ?_ (he c x ρ env s _ h q e), not_as (fun _ _ => rfl), not_bs (fun _ _ _ => rfl), not_ps (fun _ _ => rfl)⟩
  cases x <;> first | (simp [okE] at h; done) | rfl

theorem part_sound {e : E} (h : All prog w mg mb H₀ n Φ A e) {c : Cx} {x : Option Expr} {ρ : Store} {env : Env} {s : Shared} {p : Option Int} (ok : okO e.isNone (okE c e) x = true) (q : Cok prog w mg mb H₀ n Φ c env ρ s.heap) (hp : part (ev Φ e ρ) = some p) :
    wpAny (model prog w) A (evalPart x env) (fun v s' => Keeps s s' ∧ IsPart v p) (fun _ _ => False) s := by
  cases x with
  | none =>
    cases e <;> first | (simp [okO, E.isNone] at ok; done) | skip
    simp [ev, part] at hp
    subst hp
    exact wpAny_pure ⟨keeps_refl _, .none⟩
  | some x =>
    have ok : okE c e x = true := ok
    cases hv : ev Φ e ρ with
    | none => rw [hv] at hp; cases hp
    | some v =>
      rw [hv] at hp
      refine (h.pe c x ρ env s v ok q hv).use fun v' s₁ k₁ r₁ _ => ⟨k₁, ?_⟩
      cases v with
      | a y =>
        cases y <;> first | (simp [part] at hp; done) | skip
        · simp [part] at hp; subst hp; cases r₁; exact .none
        · simp [part] at hp; subst hp; obtain ⟨t, rfl⟩ := r₁; exact .int _ _
      | _ => simp [part] at hp
theorem part_val {v : Value} {p : Option Int} (h : IsPart v p) : ∃ l : Option (Int × Tok), v = partValue l ∧ p = l.map (·.1) := by
  cases h with
  | none => exact ⟨none, rfl, rfl⟩
  | int i t => exact ⟨some (i, t), rfl, rfl⟩

theorem all_slice {o lo hi : E} (ho : All prog w mg mb H₀ n Φ A o) (hl : All prog w mg mb H₀ n Φ A lo) (hh : All prog w mg mb H₀ n Φ A hi) : All prog w mg mb H₀ n Φ A (.slice o lo hi) := by
  have inv : ∀ {c : Cx} {y : Expr}, okE c (.slice o lo hi) y = true → ∃ o' lo' hi' p p', y = .Subscript o' (.Slice lo' hi' none p) p' ∧ okE c o o' = true ∧ okO lo.isNone (okE c lo) lo' = true ∧ okO hi.isNone (okE c hi) hi' = true := by
    intro c y h
    cases y <;> first | (simp [okE] at h; done) | skip
    rename_i o' sl p
    cases sl <;> first | (simp [okE] at h; done) | skip
    rename_i st _
    cases st with
    | some _ => simp [okE] at h
    | none =>
      simp [okE] at h
      exact ⟨_, _, _, _, _, rfl, h.1.1, h.1.2, h.2⟩
  have he : EOk prog w mg mb H₀ n Φ A (.slice o lo hi) := by
    intro c y ρ env s r h q e
    obtain ⟨o', lo', hi', p, p', rfl, h1, h2, h3⟩ := inv h
    simp only [ev, Option.bind_eq_some_iff] at e
    obtain ⟨x, hx, a, ha, b, hb, e⟩ := e
    refine PyProof.Rows.Subscript_ ((ho.pe c _ ρ env s x h1 q hx).use fun v s₁ k₁ r₁ _ => wpAny_Slice (wpAny_mono (part_sound hl h2 (q.mono (keeps_sub k₁)) ha) (fun vl s₂ k₂ =>
      wpAny_mono (part_sound hh h3 ((q.mono (keeps_sub k₁)).mono (keeps_sub k₂.1)) hb) (fun vu s₃ k₃ => wpAny_pure ?_) fun _ _ e => e.elim) fun _ _ e => e.elim))
    obtain ⟨k₂, p₂⟩ := k₂
    obtain ⟨k₃, p₃⟩ := k₃
    have kk := keeps_trans k₁ (keeps_trans k₂ k₃)
    have k₄ : Keeps s₃ { s₃ with heap := s₃.heap.push { cls := .type "slice", data := .fields #[vl, vu, .none] } } := keeps_push' _ _
    have r₃ := (r₁.mono (keeps_sub k₂)).mono (keeps_sub k₃)
    obtain ⟨pl, rfl, rfl⟩ := part_val p₂
    obtain ⟨pu, rfl, rfl⟩ := part_val p₃
    cases x with
    | a x =>
      cases x <;> first | (simp [sliceV] at e; done) | skip
      simp [sliceV] at e
      subst e
      rename_i l
      obtain ⟨t, rfl, hsz⟩ := r₃
      refine PyProof.Rows.tail_any (ops := [_, _]) (typeIs_str _ _ _) F.slot_str_getitem.lookup (wpAny_getItem_str_slice (l := pl) (u := pu) (st := none) ⟨_, Heap.get?_push_size _ rfl, rfl, rfl⟩ rfl
        (post_val_or_str ⟨?_, fun t' k => ?_⟩)) rfl
      · have e1 := slice_str l (pl.map (·.1)) (pu.map (·.1))
        show (Txt.slice ⟨l.toArray⟩ (pl.map (·.1)) (pu.map (·.1))).length ≤ sizeLine
        rw [e1]
        have := pySlice_len l (pl.map (·.1)) (pu.map (·.1))
        simp [Str.length]; omega
      · have e1 := slice_str l (pl.map (·.1)) (pu.map (·.1))
        show _ ∧ Rep _ (.str (Txt.slice ⟨l.toArray⟩ (pl.map (·.1)) (pu.map (·.1))) t') _ ∧ _
        rw [e1]
        have := pySlice_len l (pl.map (·.1)) (pu.map (·.1))
        exact ⟨keeps_trans kk ⟨_, k, rfl, keeps_sub k₄⟩, ⟨t', rfl, by omega⟩, fun _ a e => nomatch e⟩
    | list xs =>
      simp [sliceV] at e
      subst e
      obtain ⟨a, vs, rfl, hp, pp, hsz⟩ := r₃
      have hp' : (s₃.heap.push { cls := .type "slice", data := .fields #[partValue pl, partValue pu, .none] }).PlainList a vs.toArray := by
        obtain ⟨n', e⟩ := hp; exact ⟨n', Heap.get?_push_of_some _ e⟩
      refine PyProof.Rows.tail_any (ops := [_, .ref a]) (list_type (s := { s₃ with heap := _ }) hp') slot_list_getitem.lookup (wpAny_getItem_list_slice (plain_isList hp') (Heap.IsSliceOf.new ..) p₂ p₃ .none (by simp) ?_ (by simpa using hsz)) rfl
      rw [slice_list]
      have hlen : (pySlice vs (pl.map (·.1)) (pu.map (·.1))).length ≤ sizeLine := Nat.le_trans (pySlice_len _ _ _) hsz
      have end' := end_new (s := { s₃ with heap := s₃.heap.push { cls := .type "slice", data := .fields #[partValue pl, partValue pu, .none] } }) (fr := true) (n := 0) s₃.toks (o := { cls := .type "list", data := .seq (pySlice vs (pl.map (·.1)) (pu.map (·.1))).toArray }) rfl (paired_slice pp _ _) hlen
      exact ⟨keeps_trans kk (keeps_trans k₄ end'.1), end'.2.1, fun _ => (end'.2.2 rfl).sub (keeps_sub (keeps_trans kk k₄))⟩
    | _ => simp [sliceV] at e
  refine ⟨he, fun c x ρ env s b' h q e => test_plain ?_ (he c x ρ env s _ h q e), not_as (fun _ _ => rfl), not_bs (fun _ _ _ => rfl), not_ps (fun _ _ => rfl)⟩
  obtain ⟨o', lo', hi', p, p', rfl, _⟩ := inv h
  rfl

theorem dictGet_valueAt : ∀ {keys : List (List Nat)} {vs : List At} {kvs : List (Str × Value)} {l : List Nat} {r : At}, kvs.map (·.1) = keys.map (fun k => (⟨k.toArray⟩ : Str)) → Paired RepA (kvs.map (·.2)) vs →
    dictGet keys vs l = some r → ∃ v, valueAt kvs ⟨l.toArray⟩ = some v ∧ RepA v r
  | [], _, _, _, _, _, _, e => by simp [dictGet] at e
  | k :: ks, vs, kvs, l, r, h1, h2, e => by
    cases kvs with
    | nil => simp at h1
    | cons p rest =>
      obtain ⟨pk, pv⟩ := p
      simp only [List.map_cons, List.cons.injEq] at h1
      obtain ⟨rfl, h1⟩ := h1
      cases h2 with
      | cons f t =>
        simp only [dictGet] at e
        split at e
        · rename_i hk; cases e; subst hk
          exact ⟨pv, by simp [valueAt], f⟩
        · rename_i hk
          obtain ⟨v, hv, hr⟩ := dictGet_valueAt h1 t e
          refine ⟨v, ?_, hr⟩
          have : ¬ ((⟨k.toArray⟩ : Str) = ⟨l.toArray⟩) := fun q => hk (by simpa using congrArg (fun z : Str => z.cps.toList) q)
          unfold valueAt at hv ⊢
          rw [List.find?_cons_of_neg (by simpa using this)]
          exact hv
theorem okK_all : ∀ {keys : List (List Nat)} {ks : List (Option Expr)}, okK keys ks = true → ks.all (·.isSome) = true ∧ ks.length = keys.length
  | [], [], _ => ⟨rfl, rfl⟩
  | [], _ :: _, h => by simp [okK] at h
  | _ :: _, [], h => by simp [okK] at h
  | k :: keys, x :: ks, h => by
    cases x with
    | none => simp [okK] at h
    | some x =>
      cases x <;> first | (simp [okK] at h; done) | skip
      rename_i v _ _
      cases v <;> first | (simp [okK] at h; done) | skip
      simp [okK] at h
      obtain ⟨h1, h2⟩ := okK_all h.2
      exact ⟨by simp [h1], by simp [h2]⟩
theorem all_dictIdx {keys : List (List Nat)} {vals i : E} (hv : All prog w mg mb H₀ n Φ A vals) (hi : All prog w mg mb H₀ n Φ A i) : All prog w mg mb H₀ n Φ A (.dictIdx keys vals i) := by
  have inv : ∀ {c : Cx} {y : Expr}, okE c (.dictIdx keys vals i) y = true → ∃ ks vs dp i' p, y = .Subscript (.Dict ks vs dp) i' p ∧ okEs c vals vs = true ∧ okE c i i' = true ∧ okK keys ks = true ∧ keys.length ≤ 15 ∧ keys ≠ [] ∧ keys.length = vs.length ∧ keys.Nodup := by
    intro c y h
    cases y <;> first | (simp [okE] at h; done) | skip
    rename_i d i' p
    cases d <;> first | (simp [okE] at h; done) | skip
    simp [okE] at h
    obtain ⟨⟨⟨⟨⟨⟨h1, h2⟩, h3⟩, h4⟩, h5⟩, h6⟩, h7⟩ := h
    exact ⟨_, _, _, _, _, rfl, h1, h2, h3, h4, h5, h6, h7⟩
  have he : EOk prog w mg mb H₀ n Φ A (.dictIdx keys vals i) := by
    intro c y ρ env s r h q e
    obtain ⟨ks, es, dp, i', p, rfl, h1, h2, h3, h4, h5, h6, h7⟩ := inv h
    simp only [ev, Option.bind_eq_some_iff] at e
    obtain ⟨vs, hvs, xs, hxs, k, hk, e⟩ := e
    obtain ⟨hka, hkl⟩ := okK_all h3
    have k0 : Keeps s { s with heap := s.heap.push { cls := .type "dict", data := .dict #[] } } := keeps_push' _ _
    refine PyProof.Rows.Subscript_ (wpAny_Dict_walk (knd := PySem.strKind prog w) hka (by omega) (by intro q; rw [q] at hkl; simp at hkl; exact h5 (List.length_eq_zero_iff.mp hkl.symm)) (by omega)
      (wpAny_mono (hv.pps c keys ks es ρ env _ vs dp h1 h3 h6 (q.mono (keeps_sub k0)) hvs) (fun ps s₁ k₁ => ?_) fun _ _ e => e.elim))
    obtain ⟨k₁, kvs, hc, hn, hp⟩ := k₁
    refine ⟨kvs, hc, ?_, fun h' hd hs => ?_⟩
    · exact (Heap.DictOf.new s.heap).keep (keeps_sub k₁)
    · have hnd : (kvs.map (·.1)).Nodup := by
        rw [hn]
        refine List.pairwise_map.mpr (List.Pairwise.imp (fun {a b} ne e => ne ?_) h7)
        simpa using congrArg (fun z : Str => z.cps.toList) e
      rw [merged_nil_of_nodup kvs hnd] at hd
      have hsz : s.heap.get? s.heap.objs.size = none := fresh_size s.heap _ rfl
      have k₂ : Keeps s { s₁ with heap := h', toks := s₁.toks + ps.length } := by
        obtain ⟨h₁, t₁, rfl, kk⟩ := k₁
        refine ⟨h', _, rfl, fun b o hb => ?_⟩
        refine (hs.2 b ?_).trans (kk b o (Heap.get?_push_of_some _ hb))
        intro eq; rw [eq] at hb; rw [hsz] at hb; cases hb
      refine (hi.pe c i' ρ env _ k h2 (q.mono (keeps_sub k₂)) hk).use fun vi s₂ k₃ r₃ _ => ?_
      cases k with
      | a x =>
        cases x <;> first | (simp at e; done) | skip
        rename_i l
        simp only [Option.map_eq_some_iff] at e
        obtain ⟨y, e, rfl⟩ := e
        obtain ⟨t, rfl, hl⟩ := r₃
        obtain ⟨v, hv, hr⟩ := dictGet_valueAt hn (atoms_paired hp hxs) e
        have hd2 : s₂.heap.DictOf (PySem.strKind prog w) s.heap.objs.size kvs := hd.keep (keeps_sub k₃)
        refine PyProof.Rows.tail_any hd2.typeIs slot_dict_getitem.lookup (wpAny_getItem_of (knd := PySem.strKind prog w) (strKind_is prog w _ _) hd2.mapOf hv ?_) (subscripted_plain h2 _ _)
        have k₄ := keeps_trans k₂ (keeps_trans k₃ (keeps_tok s₂ (s₂.toks + 1)))
        exact end_atom k₄ hr
      | _ => simp at e
  refine ⟨he, fun c x ρ env s b' h q e => test_plain ?_ (he c x ρ env s _ h q e), not_as (fun _ _ => rfl), not_bs (fun _ _ _ => rfl), not_ps (fun _ _ => rfl)⟩
  obtain ⟨ks, es, dp, i', p, rfl, _⟩ := inv h
  rfl
end
end Mine
end
section
open PySem PySem.Calls
set_option maxRecDepth 100000
namespace Mine
section
variable {prog : Program} {w : World} {mg mb : Str → Option Value} {H₀ : Heap} {n : Nat} {Φ : Nat → List PV → Option PV} {A : Around}

theorem walks_weaken {A : Around} {I : Addr} {fp wr : List Addr} {n m : Nat} {P P' : Nat → Value → Prop} {St : Nat → Heap → Prop} (W : Walks prog w A I fp wr n P St) (hm : n = m) (h : ∀ i v, P i v → P' i v) : Walks prog w A I fp wr m P' St := by
  subst hm
  exact ⟨W.sub, W.frame, fun i s Q E hi st hQ => W.item i s Q E hi st fun v h' tk p => hQ v h' tk (h i v p), W.done, W.self⟩

/-- what an iterator is to be after «iter» -/
def ItAt (prog : Program) (w : World) (s s₂ : Shared) (it : Value) (x : Value) (items : List At) : Prop :=
  ∃ I fp St, it = .ref I ∧ s.heap.get? I = none ∧ Keeps s s₂ ∧ (∀ b ∈ fp, b < s₂.heap.objs.size ∧ (b = I ∨ (x = .ref b ∧ ∃ o its k, s.heap.get? b = some o ∧ o.data = .seq its k))) ∧ items.length ≤ sizeLine ∧ St 0 s₂.heap ∧
    (∀ i h, St i h → ∃ o, h.get? I = some o ∧ ∀ its k, o.data ≠ .seq its k) ∧
    ∀ A : Around, A.handled = none → Walks prog w A I fp [I] items.length (fun i v => ∃ y, items[i]? = some y ∧ RepA v y) St

theorem lt_push {h : Heap} {o : Obj} {a : Addr} {o' : Obj} (e : h.get? a = some o') : a < (h.push o).objs.size := by
  rw [Heap.size_push]; exact Nat.lt_succ_of_lt (Heap.lt_size e)
theorem self_push {h : Heap} {o : Obj} : h.objs.size < (h.push o).objs.size := by
  rw [Heap.size_push]; exact Nat.lt_succ_self _
theorem size_none (h : Heap) : h.get? h.objs.size = none := fresh_size h _ rfl

theorem tup_isTuple {h : Heap} {a : Addr} {its : Array Value} (x : PlainTup h a its) : h.IsTuple a its := by
  obtain ⟨n, e⟩ := x; exact ⟨_, e, rfl, n, rfl⟩
theorem iter_dat {St : Nat → Heap → Prop} {I : Addr} (x : ∀ h i, St i h → ∃ o fs, h.get? I = some o ∧ o.data = .fields fs) : ∀ i h, St i h → ∃ o, h.get? I = some o ∧ ∀ its k, o.data ≠ .seq its k := fun i h st => by
  obtain ⟨o, fs, ho, hd⟩ := x h i st
  exact ⟨o, ho, fun its k e => by rw [hd] at e; cases e⟩
theorem pyIter_sound {s : Shared} {v : Value} {pv : PV} {items : List At} {E : Value → Shared → Prop} (r : Rep s.heap v pv) (q : iterItems .val [pv] = some items) :
    wpAny (model prog w) A (pyIter v) (fun it s₂ => ItAt prog w s s₂ it v items) E s := by
  cases pv with
  | a x =>
    cases x <;> first | (simp [iterItems] at q; done) | skip
    rename_i l
    simp [iterItems] at q
    subst q
    obtain ⟨t, rfl, hl⟩ := r
    have fin : ∀ i v, SignAt ⟨l.toArray⟩ i v → ∃ y, (l.map fun c => At.str [c])[i]? = some y ∧ RepA v y := by
      rintro i v ⟨c, u, hc, rfl⟩
      refine ⟨.str [c], ?_, u, rfl, by rw [sizeLine_eq]; simp⟩
      simp at hc
      simp [hc]
    have one : ∀ b ∈ [s.heap.objs.size], ∀ o : Obj, b < (s.heap.push o).objs.size ∧ (b = s.heap.objs.size ∨ (Value.str ⟨l.toArray⟩ t = .ref b ∧ ∃ o its k, s.heap.get? b = some o ∧ o.data = .seq its k)) := by
      intro b hb o; rw [List.mem_singleton.mp hb]; exact ⟨self_push, .inl rfl⟩
    have dat : ∀ ty i (h : Heap), h.IsStrIter s.heap.objs.size ty ⟨l.toArray⟩ t i → ∃ o, h.get? s.heap.objs.size = some o ∧ ∀ its k, o.data ≠ .seq its k := by
      rintro ty i h ⟨o, ho, _, hd⟩
      exact ⟨o, ho, fun its k e => by rw [hd] at e; cases e⟩
    cases ha : (⟨l.toArray⟩ : Str).cps.all (· < 128)
    · exact wpAny_pyIter_wide ha ⟨_, _, _, rfl, size_none _, keeps_push' _ _, fun b hb => one b hb _, by simpa using hl, ⟨_, Heap.get?_push_size _ rfl, rfl, rfl⟩, fun i h st => dat _ i h st,
        fun A' hA => walks_weaken (Walks.strWide hA _ ⟨l.toArray⟩ t) (by simp) fin⟩
    · exact wpAny_pyIter_ascii ha ⟨_, _, _, rfl, size_none _, keeps_push' _ _, fun b hb => one b hb _, by simpa using hl, ⟨_, Heap.get?_push_size _ rfl, rfl, rfl⟩, fun i h st => dat _ i h st,
        fun A' hA => walks_weaken (Walks.strAscii hA _ ⟨l.toArray⟩ t) (by simp) fin⟩
  | list xs =>
    simp [iterItems] at q
    subst q
    obtain ⟨a, vs, rfl, hp, p, hl⟩ := r
    obtain ⟨k, hg⟩ := id hp
    have hne : a ≠ s.heap.objs.size := Nat.ne_of_lt (Heap.lt_size hg)
    refine wpAny_pyIter_list (plain_isList hp) ⟨_, [s.heap.objs.size, a], _, rfl, size_none _, keeps_push' _ _, ?_, ?_, ?_, iter_dat fun h i st => (let ⟨⟨o, ho, _, hd⟩, _⟩ := st; ⟨o, _, ho, hd⟩), fun A' hA => walks_weaken (Walks.list hA s.heap.objs.size a hne vs.toArray) ?_ ?_⟩
    · intro b hb
      simp at hb
      rcases hb with rfl | rfl
      · exact ⟨self_push, .inl rfl⟩
      · exact ⟨lt_push hg, .inr ⟨rfl, _, _, _, hg, rfl⟩⟩
    · rw [← p.length]; exact hl
    · exact ⟨⟨_, Heap.get?_push_size _ rfl, rfl, rfl⟩, plain_isList ⟨k, Heap.get?_push_of_some _ hg⟩⟩
    · simp [p.length]
    · intro i v e
      obtain ⟨y, hy, hr⟩ := paired_get' p (i := i) (v := v) (by simpa using e)
      exact ⟨y, hy, hr⟩
  | tup xs =>
    simp [iterItems] at q
    subst q
    obtain ⟨a, vs, rfl, hp, p, hl⟩ := r
    obtain ⟨k, hg⟩ := id hp
    have hne : a ≠ s.heap.objs.size := Nat.ne_of_lt (Heap.lt_size hg)
    refine wpAny_pyIter_tuple (tup_isTuple hp) ⟨_, [s.heap.objs.size, a], _, rfl, size_none _, keeps_push' _ _, ?_, ?_, ?_, iter_dat fun h i st => (let ⟨⟨o, ho, _, hd⟩, _⟩ := st; ⟨o, _, ho, hd⟩), fun A' hA => walks_weaken (Walks.tuple hA s.heap.objs.size a hne vs.toArray) ?_ ?_⟩
    · intro b hb
      simp at hb
      rcases hb with rfl | rfl
      · exact ⟨self_push, .inl rfl⟩
      · exact ⟨lt_push hg, .inr ⟨rfl, _, _, _, hg, rfl⟩⟩
    · rw [← p.length]; exact hl
    · exact ⟨⟨_, Heap.get?_push_size _ rfl, rfl, rfl⟩, tup_isTuple ⟨k, Heap.get?_push_of_some _ hg⟩⟩
    · simp [p.length]
    · intro i v e
      obtain ⟨y, hy, hr⟩ := paired_get' p (i := i) (v := v) (by simpa using e)
      exact ⟨y, hy, hr⟩
  | bytes b =>
    simp only [iterItems] at q
    split at q
    · rename_i hl
      cases q
      obtain ⟨t, rfl⟩ := r
      refine W.KBw.pyIter_bytes ⟨_, _, _, rfl, size_none _, keeps_push' _ _, ?_, ?_, ⟨_, Heap.get?_push_size _ rfl, rfl, rfl⟩, iter_dat fun h i st => (let ⟨o, ho, _, hd⟩ := st; ⟨o, _, ho, hd⟩), fun A' hA => walks_weaken (W.KBw.walks hA s.heap.objs.size b.toArray t) ?_ ?_⟩
      · intro b hb; rw [List.mem_singleton.mp hb]; exact ⟨self_push, .inl rfl⟩
      · simpa using hl
      · simp
      · rintro i v ⟨c, u, hc, rfl⟩
        simp at hc
        exact ⟨.int (c.toNat : Int), by simp [hc], u, rfl⟩
    · cases q

/-! ranges -/
theorem rangeL_len (a : Int) : ∀ k, (rangeL a k).length = k
  | 0 => rfl
  | k + 1 => by simp [rangeL, rangeL_len (a + 1) k]
theorem rangeD_len (a : Int) : ∀ k, (rangeD a k).length = k
  | 0 => rfl
  | k + 1 => by simp [rangeD, rangeD_len (a - 1) k]
theorem rangeL_get : ∀ (k : Nat) (a : Int) (i : Nat), i < k → (rangeL a k)[i]? = some (.int (a + i))
  | 0, _, _, h => by omega
  | k + 1, a, 0, _ => by simp [rangeL]
  | k + 1, a, i + 1, h => by
    simp only [rangeL, List.getElem?_cons_succ]
    rw [rangeL_get k (a + 1) i (by omega)]
    congr 2; omega
theorem rangeD_get : ∀ (k : Nat) (a : Int) (i : Nat), i < k → (rangeD a k)[i]? = some (.int (a - i))
  | 0, _, _, h => by omega
  | k + 1, a, 0, _ => by simp [rangeD]
  | k + 1, a, i + 1, h => by
    simp only [rangeD, List.getElem?_cons_succ]
    rw [rangeD_get k (a - 1) i (by omega)]
    congr 2; omega
theorem fits_small {x : Int} (h : -4000000 < x) (k : x < 4000000) : Builtin.Range.rangeFitsLong x = true := by
  unfold Builtin.Range.rangeFitsLong; simp; omega
theorem walk_range {s₁ : Shared} {r : Addr} {a b c : Int} {t u v : Tok} {items : List At} {E : Value → Shared → Prop} (hr : IsRange s₁.heap r a b c t u v) (hs : Builtin.Range.small a b c = true)
    (hl : Builtin.Range.rangeSize a b c = (items.length : Int)) (hm : items.length ≤ sizeLine) (hg : ∀ i, i < items.length → items[i]? = some (.int (a + i * c))) :
    wpAny (model prog w) A (pyIter (.ref r)) (fun it s₂ => ItAt prog w s₁ s₂ it (.ref r) items) E s₁ := by
  refine wpAny_pyIter_range hr hs ?_
  refine ⟨_, [s₁.heap.objs.size], (fun i h => IsRangeIter h s₁.heap.objs.size (a + (i : Nat) * c) ((items.length : Int) - (i : Nat)) c), rfl, size_none _, keeps_push' _ _, ?_, hm, ?_, iter_dat fun h i st => ⟨_, _, st, rfl⟩, fun A' hA => ?_⟩
  rotate_left 2
  · have W := Walks.range (prog := prog) (w := w) hA s₁.heap.objs.size a c items.length
    refine ⟨W.sub, W.frame, fun i s Q E hi st hQ => W.item i s Q E hi st fun v h' tk p => hQ v h' tk ?_, W.done, W.self⟩
    obtain ⟨t, rfl⟩ := p
    exact ⟨_, hg i hi, t, rfl⟩
  · intro b hb; rw [List.mem_singleton.mp hb]; exact ⟨self_push, .inl rfl⟩
  · show (s₁.heap.push _).get? s₁.heap.objs.size = _
    rw [hl]
    refine (Heap.get?_push_size _ rfl).trans ?_
    simp

theorem range_size_up (m : Int) : Builtin.Range.rangeSize 0 m 1 = ((m.toNat : Nat) : Int) := by
  unfold Builtin.Range.rangeSize
  split
  · split <;> omega
  · rename_i h; exact absurd (by decide) h
theorem range_size_down (a b : Int) : Builtin.Range.rangeSize a b (-1) = (((a - b).toNat : Nat) : Int) := by
  unfold Builtin.Range.rangeSize
  split
  · rename_i h; exact absurd h (by decide)
  · split
    · rw [show (-(-1 : Int)) = 1 by rfl, Int.ediv_one]; omega
    · omega
theorem range_small_up {m : Int} (h : -1000000 < m) (k : m < 1000000) : Builtin.Range.small 0 m 1 = true := by
  unfold Builtin.Range.small
  rw [range_size_up, fits_small (by decide) (by decide), fits_small (x := m) (by omega) (by omega), fits_small (x := 1) (by decide) (by decide), fits_small (x := (m.toNat : Int)) (by omega) (by omega), if_pos (by decide), fits_small (x := m + (1 - 1)) (by omega) (by omega)]
  simp
theorem range_small_down {a b : Int} (h1 : -1000000 < a) (h2 : a < 1000000) (h3 : -1000000 < b) (h4 : b < 1000000) : Builtin.Range.small a b (-1) = true := by
  unfold Builtin.Range.small
  rw [range_size_down, fits_small (x := a) (by omega) (by omega), fits_small (x := b) (by omega) (by omega), fits_small (x := -1) (by decide) (by decide), fits_small (x := ((a - b).toNat : Int)) (by omega) (by omega), if_neg (by decide), fits_small (x := b + (-1 + 1)) (by omega) (by omega)]
  simp

def okIt (c : Cx) (k : IK) (args : E) (x : Expr) : Bool :=
  match k, args, x with
  | .val, .cons it .nil, x => okE c it x
  | .range, args, .Call (.Name r _) es [] _ => rangeName == r && c.glob r && okEs c args es
  | _, _, _ => false
def freshIt (k : IK) (args : E) : Bool :=
  match k, args with
  | .val, .cons it _ => fresh it
  | _, _ => true
theorem iter_sound (G : Gd mg mb H₀) (hA : AOk n A) {k : IK} {args : E} (ha : All prog w mg mb H₀ n Φ A args) (hi : ∀ it r, args = .cons it r → All prog w mg mb H₀ n Φ A it) {c : Cx} {x : Expr} {ρ : Store} {env : Env} {s : Shared} {vs : List PV} {items : List At}
    (h : okIt c k args x = true) (q : Cok prog w mg mb H₀ n Φ c env ρ s.heap) (e : evs Φ args ρ = some vs) (e' : iterItems k vs = some items) :
    wpAny (model prog w) A (eval x env) (fun xv s₁ => Keeps s s₁ ∧ (freshIt k args = true → Fresh s.heap xv) ∧ wpAny (model prog w) A (pyIter xv) (fun it s₂ => ItAt prog w s₁ s₂ it xv items) (fun _ _ => False) s₁) (fun _ _ => False) s := by
  cases k with
  | val =>
    cases args <;> first | (simp [okIt] at h; done) | skip
    rename_i it r
    cases r <;> first | (simp [okIt] at h; done) | skip
    simp only [okIt] at h
    simp only [evs, Option.bind_eq_some_iff, Option.map_eq_some_iff] at e
    obtain ⟨v, hv, w', hw, rfl⟩ := e
    cases hw
    exact (((hi it _ rfl).pe c x ρ env s v h q hv).use fun xv s₁ k₁ r₁ f₁ => ⟨k₁, f₁, pyIter_sound r₁ e'⟩)
  | range =>
    have inv : ∃ np es pos, x = .Call (.Name rangeName np) es [] pos ∧ c.glob rangeName = true ∧ okEs c args es = true := by
      cases x <;> first | (simp [okIt] at h; done) | skip
      rename_i fe es ks pos
      cases ks with
      | cons _ _ => simp [okIt] at h
      | nil =>
        cases fe <;> first | (simp [okIt] at h; done) | skip
        simp [okIt] at h
        obtain ⟨⟨rfl, h2⟩, h4⟩ := h
        exact ⟨_, _, _, rfl, h2, h4⟩
    obtain ⟨np, es, pos, rfl, h2, h4⟩ := inv
    have hne : rangeName ≠ "__name__" := by decide
    have hb : (rangeName == ("__debug__" : Str)) = false := by decide
    refine wpAny_Call_NameR (Calls.Name_function_global q.eo.kind (glob_kind q.eo h2) (Calls.loadGlobal_builtin (v := .type "range") (by rw [q.eo.globals]; exact G.g.keeps q.base) (G.nob _ (by simp [usedNames])) (by rw [q.eo.builtins]; exact G.b.keeps q.base)
      (by rw [G.bi _ hne]; exact PyProof.Rows.Boot.«range») ?_) hb)
    refine PySem.callWith_type (trees_plain (env := env) (pos := pos) h4).1 (wpAny_mono (args_eval (f := .type "range") (pos := pos) ha h4 q e) (fun b s₁ k₁ => ?_) fun _ _ e => e)
    obtain ⟨kw, k₁, hp⟩ := k₁
    rw [kw]
    obtain ⟨bp, bk⟩ := b
    simp only at hp kw ⊢
    unfold iterItems at e'
    split at e' <;> try (cases e'; done)
    all_goals try (rename_i hk; cases hk; done)
    · split at e'
      · rename_i hn
        cases e'
        cases hp with
        | cons f t =>
        cases t
        obtain ⟨t, rfl⟩ := f
        refine PySem.call_range_1 ?_
        refine ⟨keeps_trans k₁ (keeps_push s₁ _ _), fun _ => (fresh_size _).sub (keeps_sub k₁), ?_⟩
        rename_i m
        refine walk_range (Heap.get?_push_size _ rfl) ?_ ?_ ?_ ?_
        · rw [range_small_up hn.1 hn.2]
        · rw [rangeL_len, range_size_up]
        · rw [rangeL_len, sizeLine_eq]; omega
        · intro i hi
          rw [rangeL_len] at hi
          rw [rangeL_get _ _ _ hi]; simp
      · cases e'
    · split at e'
      · rename_i hn
        cases e'
        obtain ⟨rfl, h1, h2, h3, h5⟩ := hn
        cases hp with
        | cons f t =>
        cases t with
        | cons f' t =>
        cases t with
        | cons f'' t =>
        cases t
        obtain ⟨t, rfl⟩ := f
        obtain ⟨t', rfl⟩ := f'
        obtain ⟨t'', rfl⟩ := f''
        rename_i a b
        refine call_range_3 (by decide) ?_ (.inl (PyProof.noPylong_small (by omega)))
        refine ⟨keeps_trans k₁ (keeps_push s₁ _ _), fun _ => (fresh_size _).sub (keeps_sub k₁), ?_⟩
        refine walk_range (Heap.get?_push_size _ rfl) ?_ ?_ ?_ ?_
        · exact range_small_down h1 h2 h3 h5
        · rw [rangeD_len, range_size_down]
        · rw [rangeD_len, sizeLine_eq]; omega
        · intro i hi
          rw [rangeD_len] at hi
          rw [rangeD_get _ _ _ hi]; congr 2; omega
      · cases e'
end
end Mine
end
section
open PySem PySem.Calls
set_option maxRecDepth 100000
namespace Mine
section
variable {prog : Program} {w : World} {mg mb : Str → Option Value} {H₀ : Heap} {n : Nat} {Φ : Nat → List PV → Option PV} {A : Around}

/-! the closure of a comprehension -/
theorem closureFor_free {scope : Scope} {env : Env} (h : ∀ p ∈ scope.names, p.2 = .free → ∃ a, env.cells.lookup p.1 = some a) :
    ∃ cl, closureFor scope env = pure cl ∧ ∀ y a, scope.names.lookup y = some .free → env.cells.lookup y = some a → cl.lookup y = some a := by
  have gen : ∀ (names : List (Str × NameKind)) (acc : List (Str × Addr)), (∀ p ∈ names, p.2 = .free → ∃ a, env.cells.lookup p.1 = some a) → (∀ p ∈ acc, env.cells.lookup p.1 = some p.2) →
      ∃ cl, (forIn names acc fun (x : Str × NameKind) (cs : List (Str × Addr)) => if (x.2 == NameKind.free) = true then do let a ← cellOf env x.1; pure (ForInStep.yield ((x.1, a) :: cs)) else pure (ForInStep.yield cs) : Sem (List (Str × Addr))) = pure cl ∧
        (∀ p ∈ cl, env.cells.lookup p.1 = some p.2) ∧ (∀ p ∈ acc, p ∈ cl) ∧ (∀ p ∈ names, p.2 = .free → ∃ a, (p.1, a) ∈ cl) := by
    intro names
    induction names with
    | nil => intro acc _ ha; exact ⟨acc, rfl, ha, fun _ h => h, fun _ h => by cases h⟩
    | cons p r ih =>
      intro acc hn ha
      by_cases hk : p.2 = .free
      · obtain ⟨a, he⟩ := hn p (by simp) hk
        have hcell : cellOf env p.1 = pure a := by unfold cellOf; rw [he]
        obtain ⟨cl, h1, h2, h3, h4⟩ := ih ((p.1, a) :: acc) (fun q hq => hn q (by simp [hq])) (by
          intro q hq
          rcases List.mem_cons.mp hq with rfl | hq
          · exact he
          · exact ha q hq)
        refine ⟨cl, ?_, h2, fun q hq => h3 q (by simp [hq]), fun q hq hf => ?_⟩
        · rw [List.forIn_cons, if_pos (by rw [hk]; rfl), hcell]
          exact h1
        · rcases List.mem_cons.mp hq with rfl | hq
          · exact ⟨a, h3 _ (by simp)⟩
          · exact h4 q hq hf
      · obtain ⟨cl, h1, h2, h3, h4⟩ := ih acc (fun q hq => hn q (by simp [hq])) ha
        refine ⟨cl, ?_, h2, h3, fun q hq hf => ?_⟩
        · rw [List.forIn_cons, if_neg (by intro h; exact hk (by simpa using h))]
          exact h1
        · rcases List.mem_cons.mp hq with rfl | hq
          · exact absurd hf hk
          · exact h4 q hq hf
  obtain ⟨cl, h1, h2, h3, h4⟩ := gen scope.names [] h (by simp)
  refine ⟨cl, ?_, fun y a hy ha => ?_⟩
  · unfold closureFor
    exact (congrArg (fun m : Sem (List (Str × Addr)) => m >>= fun cs => pure cs) h1).trans rfl
  · have mem : ∃ k, (y, k) ∈ scope.names ∧ k = .free := by
      clear h1 h2 h3 h4 h gen
      revert hy
      induction scope.names with
      | nil => intro h; cases h
      | cons p r ih =>
        intro h
        rw [List.lookup_cons] at h
        by_cases e : (y == p.1) = true
        · rw [e] at h
          have h : p.2 = .free := by simpa using h
          have : y = p.1 := by simpa using e
          exact ⟨p.2, by rw [this]; simp, h⟩
        · simp only [Bool.not_eq_true] at e
          rw [e] at h
          obtain ⟨k, h1, h2⟩ := ih h
          exact ⟨k, by simp [h1], h2⟩
    obtain ⟨k, hm, hf⟩ := mem
    obtain ⟨b, hb⟩ := h4 _ hm hf
    have look : ∀ l : List (Str × Addr), (∀ p ∈ l, env.cells.lookup p.1 = some p.2) → (∃ b, (y, b) ∈ l) → l.lookup y = some a := by
      intro l
      induction l with
      | nil => intro _ h; obtain ⟨_, h⟩ := h; cases h
      | cons p r ih =>
        intro hl hx
        rw [List.lookup_cons]
        by_cases e : (y == p.1) = true
        · rw [e]
          have e' : y = p.1 := by simpa using e
          have := hl p (by simp)
          rw [← e', ha] at this
          rw [Option.some.inj this]
        · simp only [Bool.not_eq_true] at e
          rw [e]
          refine ih (fun q hq => hl q (by simp [hq])) ?_
          obtain ⟨b, hb⟩ := hx
          rcases List.mem_cons.mp hb with h | h
          · rw [← h] at e; simp at e
          · exact ⟨b, h⟩
    exact look cl h2 ⟨b, hb⟩
end
end Mine
end
section
open PySem PySem.Calls
set_option maxRecDepth 100000
namespace Mine
section
variable {prog : Program} {w : World} {mg mb : Str → Option Value} {H₀ : Heap} {n : Nat} {Φ : Nat → List PV → Option PV} {A : Around}

structure ScOk (c : Cx) (sc : Scope) (k : Nat) (x : Str) : Prop where
  top : c.top = true
  kind : sc.kind = .function
  nocell : ∀ y ∈ sc.names, y.2 ≠ .cell
  names : ∀ y ∈ sc.names, y.2 = .local → sc.names.lookup y.1 = some .local
  x : sc.names.lookup x = some .local
  free : ∀ y ∈ sc.names, y.2 = .free → c.kinds.lookup y.1 = some .cell
theorem scopeOk_spec {c : Cx} {sc : Scope} {k : Nat} {x : Str} (h : scopeOk c sc k x = true) : ScOk c sc k x := by
  simp only [scopeOk, Bool.and_eq_true, List.all_eq_true] at h
  obtain ⟨⟨⟨⟨⟨⟨⟨⟨h1, h2⟩, h3⟩, h4⟩, h5⟩, h6⟩, _⟩, _⟩, _⟩ := h
  refine ⟨h1, by simpa using h2, fun y hy => by simpa using h3 y hy, fun y hy e => ?_, by simpa using h5, fun y hy e => ?_⟩
  · have := h4 y hy; rw [e] at this; simpa using this
  · have := h6 y hy; rw [e] at this; simpa using this

theorem setAt_get : ∀ {l : List (Option Str)} {k i : Nat} {v u : Option Str}, (setAt l k v)[i]? = some u → (i = k ∧ u = v) ∨ (i ≠ k ∧ l[i]? = some u)
  | [], _, _, _, _, h => by simp [setAt] at h
  | _ :: _, 0, 0, _, _, h => by simp [setAt] at h; exact .inl ⟨rfl, h.symm⟩
  | _ :: _, 0, i + 1, _, _, h => by simp [setAt] at h; exact .inr ⟨by omega, by simpa using h⟩
  | _ :: _, k + 1, 0, _, _, h => by simp [setAt] at h; exact .inr ⟨by omega, by simpa using h⟩
  | _ :: r, k + 1, i + 1, _, _, h => by
    simp only [setAt, List.getElem?_cons_succ] at h
    rcases setAt_get h with ⟨e, f⟩ | ⟨e, f⟩
    · exact .inl ⟨by omega, f⟩
    · exact .inr ⟨by omega, by simpa using f⟩
theorem relab_eq {c : Cx} {sc : Scope} {env : Env} (he : EnvOk c env) : (relabel sc env).names = relab c sc.names := by
  unfold relabel relab
  refine List.map_congr_left fun p _ => ?_
  obtain ⟨nm, k⟩ := p
  show (if (k == .free && env.scope.kind == .function && env.kindOf nm == some .cell) = true then (nm, NameKind.cell) else (nm, k)) = (if (k == NameKind.free && c.kinds.lookup nm == some NameKind.cell) = true then (nm, NameKind.cell) else (nm, k))
  have : env.kindOf nm = c.kinds.lookup nm := by unfold Env.kindOf; rw [he.names]
  rw [this, he.kind]
  simp
theorem relab_free {c : Cx} {y : Str} : ∀ {names : List (Str × NameKind)}, names.lookup y = some .free → c.kinds.lookup y = some .cell → (relab c names).lookup y = some .cell
  | [], h, _ => by simp at h
  | (m, k) :: r, h, hc => by
    show List.lookup y ((if (k == NameKind.free && c.kinds.lookup m == some NameKind.cell) = true then (m, NameKind.cell) else (m, k)) :: relab c r) = _
    rw [List.lookup_cons] at h
    by_cases e : (y == m) = true
    · rw [e] at h
      have hk : k = .free := by simpa using h
      have hm : y = m := by simpa using e
      subst hm hk
      rw [if_pos (by rw [hc]; rfl), List.lookup_cons, e]
    · simp only [Bool.not_eq_true] at e
      rw [e] at h
      have := relab_free (names := r) h hc
      split <;> (rw [List.lookup_cons, e]; exact this)

theorem inner_ok {c : Cx} {sc : Scope} {k : Nat} {x : Str} {env : Env} {ρ : Store} {s s₃ : Shared} {cl : List (Str × Addr)} {C : Addr} {m₃ : Str → Option Value} {v : Value} {a : At} (hs : ScOk c sc k x)
    (q : Cok prog w mg mb H₀ n Φ c env ρ s.heap) (hcl : ∀ y a, sc.names.lookup y = some .free → env.cells.lookup y = some a → cl.lookup y = some a) (k₃ : Sub s.heap s₃.heap)
    (hn : s₃.heap.Ns C m₃) (hm : m₃ x = some v) (hr : RepA v a) : Cok prog w mg mb H₀ n Φ (compCx c sc.names k x) (compEnvC sc cl C env) (set ρ k (.a a)) s₃.heap := by
  have hnm : (compEnvC sc cl C env).scope.names = relab c sc.names := relab_eq (sc := sc) q.eo
  refine ⟨⟨hs.kind, q.eo.globals, q.eo.builtins, hnm, fun h => by cases h⟩, ?_, q.base.trans k₃, q.fns⟩
  intro i y r hi hg
  rcases setAt_get (l := c.sl.map _) hi with ⟨rfl, e⟩ | ⟨hne, e⟩
  · cases e
    have : r = .a a := get_set_eq hg
    subst this
    refine .inl ⟨?_, m₃, v, hn, hm, hr⟩
    exact lookup_relabel_local hs.x
  · rw [get_set_ne (by omega)] at hg
    rw [List.getElem?_map] at e
    simp only [Option.map_eq_some_iff] at e
    obtain ⟨o, ho, e⟩ := e
    cases o with
    | none => cases e
    | some z =>
      simp only at e
      split at e
      · rename_i hc
        cases e
        simp only [Bool.and_eq_true, beq_iff_eq] at hc
        obtain ⟨hf, hcell⟩ := hc
        have hk : env.kindOf y = some .cell := by unfold Env.kindOf; rw [q.eo.names]; exact hcell
        rcases q.inv i y r ho hg with ⟨h1, _⟩ | ⟨h1, a', v', hc', hi', hr'⟩
        · rw [hk] at h1; cases h1
        · refine .inr ⟨?_, a', v', hcl y a' hf hc', hi'.keeps k₃, hr'.mono k₃⟩
          show List.lookup y (compEnvC sc cl C env).scope.names = _
          rw [hnm]
          exact relab_free hf hcell
      · cases e

/-! the atom of a value -/
def atOf : Value → At
  | .bool b => .bool b
  | .int i _ => .int i
  | .str x _ => .str x.cps.toList
  | _ => .none
theorem atOf_eq {v : Value} {a : At} (h : RepA v a) : atOf v = a := by
  cases a with
  | none => cases h; rfl
  | bool b => cases h; rfl
  | int i => obtain ⟨t, rfl⟩ := h; rfl
  | str l => obtain ⟨t, rfl, _⟩ := h; rfl

theorem compGo_all {tst : At → Option Bool} {elt : At → Option At} : ∀ {items out : List At}, compGo tst elt items = some out → ∀ a ∈ items, ∃ b, tst a = some b ∧ (b = true → ∃ y, elt a = some y)
  | [], _, _, _, h => by cases h
  | a :: r, out, e, b, hb => by
    simp only [compGo, Option.bind_eq_some_iff] at e
    obtain ⟨t, ht, e⟩ := e
    rcases List.mem_cons.mp hb with rfl | hb
    · refine ⟨t, ht, fun h => ?_⟩
      subst h
      rw [if_pos rfl, Option.bind_eq_some_iff] at e
      obtain ⟨y, hy, _⟩ := e
      exact ⟨y, hy⟩
    · cases t with
      | true =>
        rw [if_pos rfl, Option.bind_eq_some_iff] at e
        obtain ⟨y, hy, e⟩ := e
        simp only [Option.map_eq_some_iff] at e
        obtain ⟨ys, hys, _⟩ := e
        exact compGo_all hys b hb
      | false =>
        rw [if_neg (by decide)] at e
        exact compGo_all e b hb
theorem compGo_paired {tst : At → Option Bool} {elt : At → Option At} : ∀ {vs : List Value} {items out : List At} {ys : List Value}, Paired RepA vs items → compGo tst elt items = some out →
    Paired (fun v y => ∃ z, elt (atOf v) = some z ∧ RepA y z) (vs.filter fun v => (tst (atOf v)).getD false) ys → Paired RepA ys out
  | [], _, _, _, p, e, q => by cases p; cases e; cases q; exact .nil
  | v :: r, _, out, ys, p, e, q => by
    cases p with
    | cons f t =>
      simp only [compGo, Option.bind_eq_some_iff] at e
      obtain ⟨b, hb, e⟩ := e
      rw [List.filter_cons, atOf_eq f, hb] at q
      cases b with
      | true =>
        rw [if_pos rfl, Option.bind_eq_some_iff] at e
        obtain ⟨y, hy, e⟩ := e
        simp only [Option.map_eq_some_iff] at e
        obtain ⟨zs, hzs, rfl⟩ := e
        rw [if_pos (show (some true).getD false = true from rfl)] at q
        cases q with
        | cons g u =>
          obtain ⟨z, hz, hr⟩ := g
          rw [atOf_eq f, hy] at hz
          cases hz
          exact .cons hr (compGo_paired t hzs u)
      | false =>
        rw [if_neg (by decide)] at e
        rw [if_neg (show ¬ (some false).getD false = true by decide)] at q
        exact compGo_paired t e q
theorem paired_of_items {vs : List Value} {items : List At} (hl : vs.length = items.length) (h : ∀ (j : Nat) v, vs[j]? = some v → ∃ y, items[j]? = some y ∧ RepA v y) : Paired RepA vs items := by
  induction vs generalizing items with
  | nil => cases items with
    | nil => exact .nil
    | cons _ _ => simp at hl
  | cons v r ih =>
    cases items with
    | nil => simp at hl
    | cons a t =>
      obtain ⟨y, hy, hr⟩ := h 0 v rfl
      simp at hy
      subst hy
      exact .cons hr (ih (by simpa using hl) fun j v hj => by simpa using h (j + 1) v (by simpa using hj))

/-- the tests and the element of a comprehension -/
theorem quiet_ok {elt test : E} {c : Cx} {sc : Scope} {k : Nat} {x : Str} {env : Env} {ρ : Store} {s s₁ s₂ : Shared} {cl : List (Str × Addr)} {elt' : Expr} {ifs : List Expr} {items out : List At} {I : Addr}
    (he : All prog w mg mb H₀ n Φ A elt) (ht : All prog w mg mb H₀ n Φ A test) (hs : ScOk c sc k x) (q : Cok prog w mg mb H₀ n Φ c env ρ s.heap)
    (hcl : ∀ y a, sc.names.lookup y = some .free → env.cells.lookup y = some a → cl.lookup y = some a) (k₁ : Sub s.heap s₁.heap) (hI : s₁.heap.get? I = none) (k₂ : Sub s₁.heap s₂.heap)
    (ok : okE (compCx c sc.names k x) elt elt' = true) (okt : okT test.isNil (okE (compCx c sc.names k x) test) ifs = true)
    (e : compGo (fun a => if test.isNil then some true else (ev Φ test (set ρ k (.a a))).bind truth) (fun a => (ev Φ elt (set ρ k (.a a))).bind atom) items = some out) :
    QuietOnC prog w A env sc cl x ifs elt' [I] (fun i v => ∃ y, items[i]? = some y ∧ RepA v y) (fun v => ((fun a => if test.isNil then some true else (ev Φ test (set ρ k (.a a))).bind truth) (atOf v)).getD false)
      (fun v y => ∃ z, (fun a => (ev Φ elt (set ρ k (.a a))).bind atom) (atOf v) = some z ∧ RepA y z) s₂ := by
  have sub : ∀ {s₃ : Shared}, (∀ b o, b ∉ [I] → s₂.heap.get? b = some o → s₃.heap.get? b = some o) → Sub s.heap s₃.heap := by
    intro s₃ hk b o hb
    have h1 := k₁ b o hb
    exact hk b o (by intro h; rw [List.mem_singleton.mp h] at h1; rw [hI] at h1; cases h1) (k₂ b o h1)
  constructor
  · intro C i v s₃ m₃ E' _ hP hn hm hk _
    obtain ⟨a, ha, hr⟩ := hP
    have hin := compGo_all e a (List.mem_of_getElem? ha)
    obtain ⟨b, hb, _⟩ := hin
    have qi := inner_ok hs q hcl (sub hk) hn hm hr
    refine wpAny_mono (Q := fun ok s₄ => ok = b ∧ Keeps s₃ s₄) (E := fun _ _ => False) ?_ (fun ok s₄ h => ⟨h.1.trans (by simp only [atOf_eq hr]; rw [hb]; rfl), h.2⟩) (fun _ _ f => f.elim)
    cases ifs with
    | nil =>
      have hnil : test.isNil = true := okt
      rw [if_pos hnil] at hb
      cases hb
      exact wpAny_pure ⟨rfl, keeps_refl _⟩
    | cons t r =>
      cases r with
      | cons _ _ => simp [okT] at okt
      | nil =>
        have okt : okE (compCx c sc.names k x) test t = true := okt
        have hnil : test.isNil = false := by cases test <;> first | rfl | (simp [okE] at okt; done)
        rw [if_neg (by rw [hnil]; decide)] at hb
        rw [List.forIn_cons, if_pos rfl]
        refine wpAny_bind (wpAny_bind (wpAny_mono (ht.pt _ t _ _ s₃ b okt qi (truth_eq hb)) (fun b' s₄ h => wpAny_pure ?_) fun _ _ f => f.elim))
        exact wpAny_pure h
  · intro C i v s₃ m₃ E' _ hP hpv hn hm hk _
    obtain ⟨a, ha, hr⟩ := hP
    have hin := compGo_all e a (List.mem_of_getElem? ha)
    obtain ⟨b, hb, hy⟩ := hin
    have qi := inner_ok hs q hcl (sub hk) hn hm hr
    simp only [atOf_eq hr] at hpv
    rw [hb] at hpv
    obtain ⟨y, hy⟩ := hy hpv
    simp only [Option.bind_eq_some_iff] at hy
    obtain ⟨z, hz, hzy⟩ := hy
    have hz' : z = .a y := by cases z <;> simp [atom] at hzy; subst hzy; rfl
    subst hz'
    refine wpAny_mono (he.pe _ elt' _ _ s₃ _ ok qi hz) (fun yv s₄ h => ⟨⟨y, ?_, h.2.1⟩, h.1⟩) fun _ _ f => f.elim
    simp only [atOf_eq hr]
    rw [hz]; rfl
end
end Mine
end
section
open PySem PySem.Calls
set_option maxRecDepth 100000
namespace Mine
section
variable {prog : Program} {w : World} {mg mb : Str → Option Value} {H₀ : Heap} {n : Nat} {Φ : Nat → List PV → Option PV} {A : Around}

theorem comp_inv {c : Cx} {elt args test : E} {x : Nat} {k : IK} {e : Expr} (h : okE c (.comp elt x k args test) e = true) :
    ∃ elt' y px it' ifs sc pos, e = .ListComp elt' [⟨.Name y px, it', ifs, 0⟩] sc pos ∧ scopeOk c sc x y = true ∧ okIt c k args it' = true ∧ okE (compCx c sc.names x y) elt elt' = true ∧ okT test.isNil (okE (compCx c sc.names x y) test) ifs = true := by
  cases e <;> first | (simp [okE] at h; done) | skip
  rename_i elt' gs sc pos
  cases gs with
  | nil => simp [okE] at h
  | cons g gs =>
    cases gs with
    | cons _ _ => simp [okE] at h
    | nil =>
      obtain ⟨t, it', ifs, b⟩ := g
      cases t <;> first | (simp [okE] at h; done) | skip
      by_cases hb : b = 0
      case neg =>
        exfalso
        cases k with
        | val =>
          cases args <;> first | (simp [okE] at h; done) | skip
          rename_i h' t'
          cases t' <;> simp [okE, hb] at h
        | range =>
          cases it' <;> first | (simp [okE] at h; done) | skip
          rename_i f es ks p
          cases f <;> first | (simp [okE] at h; done) | skip
          cases ks <;> simp [okE, hb] at h
      case pos =>
        subst hb
        cases k with
        | val =>
          cases args <;> first | (simp [okE] at h; done) | skip
          rename_i h' t'
          cases t' <;> first | (simp [okE] at h; done) | skip
          simp [okE] at h
          obtain ⟨⟨⟨h1, h2⟩, h3⟩, h4⟩ := h
          exact ⟨_, _, _, _, _, _, _, rfl, h1, h2, h3, h4⟩
        | range =>
          cases it' <;> first | (simp [okE] at h; done) | skip
          rename_i f es ks p
          cases f <;> first | (simp [okE] at h; done) | skip
          cases ks with
          | cons _ _ => simp [okE] at h
          | nil =>
            simp [okE] at h
            obtain ⟨⟨⟨⟨⟨h1, h2⟩, h3⟩, h4⟩, h5⟩, h6⟩ := h
            exact ⟨_, _, _, _, _, _, _, rfl, h1, by simp [okIt, h2, h3, h4], h5, h6⟩
theorem okIt_folded {c : Cx} {k : IK} {args : E} {x : Expr} {env : Env} (h : okIt c k args x = true) : ∀ v, foldedSetIterable x env v = pure v := by
  intro v
  cases x <;> first | rfl | skip
  exfalso
  cases k with
  | range => simp [okIt] at h
  | val =>
    cases args <;> first | (simp [okIt] at h; done) | skip
    rename_i it r
    cases r <;> first | (simp [okIt] at h; done) | skip
    simp only [okIt] at h
    cases it <;> simp [okE] at h

theorem closure_ok {c : Cx} {sc : Scope} {k : Nat} {x : Str} {env : Env} (hs : ScOk c sc k x) (he : EnvOk c env) :
    ∃ cl, closureFor sc env = pure cl ∧ ∀ y a, sc.names.lookup y = some .free → env.cells.lookup y = some a → cl.lookup y = some a :=
  closureFor_free fun p hp hf => he.cells hs.top p.1 (hs.free p hp hf)

theorem filter_len {p : Value → Bool} {vs : List Value} : (vs.filter p).length ≤ vs.length := List.length_filter_le _ _

def compP (Φ : Nat → List PV → Option PV) (test : E) (x : Nat) (ρ : Store) (v : Value) : Bool := ((fun a => if test.isNil then some true else (ev Φ test (set ρ x (.a a))).bind truth) (atOf v)).getD false
def compF (Φ : Nat → List PV → Option PV) (elt : E) (x : Nat) (ρ : Store) (v y : Value) : Prop := ∃ z, (fun a => (ev Φ elt (set ρ x (.a a))).bind atom) (atOf v) = some z ∧ RepA y z
/-- what both ways of a comprehension want of its parts -/
theorem comp_core (G : Gd mg mb H₀) (hA : AOk n A) {elt args test : E} (he : All prog w mg mb H₀ n Φ A elt) (ha : All prog w mg mb H₀ n Φ A args) (hi : ∀ it r, args = .cons it r → All prog w mg mb H₀ n Φ A it) (ht : All prog w mg mb H₀ n Φ A test)
    {c : Cx} {k : IK} {x : Nat} {y : Str} {ρ : Store} {env : Env} {s : Shared} {sc : Scope} {cl : List (Str × Addr)} {it' elt' : Expr} {ifs : List Expr} {r : PV} {E : Value → Shared → Prop}
    (hs : ScOk c sc x y) (hcl : ∀ y a, sc.names.lookup y = some .free → env.cells.lookup y = some a → cl.lookup y = some a) (h2 : okIt c k args it' = true) (h3 : okE (compCx c sc.names x y) elt elt' = true)
    (h4 : okT test.isNil (okE (compCx c sc.names x y) test) ifs = true) (q : Cok prog w mg mb H₀ n Φ c env ρ s.heap) (e : ev Φ (.comp elt x k args test) ρ = some r) :
    wpAny (model prog w) A (eval it' env) (fun xv s₁ => wpAny (model prog w) A (pyIter xv) (fun it s₂ => ∃ I fp n P St, it = .ref I ∧ Walks prog w A I fp [I] n P St ∧ n ≤ sizeLine ∧ St 0 s₂.heap ∧ (∀ b ∈ fp, b < s₂.heap.objs.size) ∧
      Keeps s s₂ ∧ s.heap.get? I = none ∧ QuietOnC prog w A env sc cl y ifs elt' [I] P (compP Φ test x ρ) (compF Φ elt x ρ) s₂ ∧
      (∀ D h' ys (vs : List Value), h'.PlainList D ys → vs.length = n → (∀ j v, vs[j]? = some v → P j v) → Paired (compF Φ elt x ρ) (vs.filter (compP Φ test x ρ)) ys.toList → Rep h' (.ref D) r)) E s₁) E s := by
  simp only [ev, Option.bind_eq_some_iff, Option.map_eq_some_iff] at e
  obtain ⟨vs, hvs, items, hit, out, e, rfl⟩ := e
  refine wpAny_mono (iter_sound G hA ha hi h2 q hvs hit) (fun xv s₁ h => ?_) fun _ _ f => f.elim
  obtain ⟨k₁, _, h⟩ := h
  refine wpAny_mono h (fun it s₂ h => ?_) fun _ _ f => f.elim
  obtain ⟨I, fp, St, rfl, hI, k₂, hfp, hl, st, _, W⟩ := h
  have hI0 : s.heap.get? I = none := by
    cases g : s.heap.get? I with
    | none => rfl
    | some o => have := keeps_sub k₁ I o g; rw [hI] at this; cases this
  refine ⟨I, fp, items.length, _, St, rfl, W A hA.handled, hl, st, fun b hb => (hfp b hb).1, keeps_trans k₁ k₂, hI0, quiet_ok he ht hs q hcl (keeps_sub k₁) hI (keeps_sub k₂) h3 h4 e, ?_⟩
  intro D h' ys us hp hlen hP hF
  have pr := compGo_paired (paired_of_items hlen hP) e hF
  refine ⟨D, ys.toList, rfl, by simpa using hp, pr, ?_⟩
  have := hF.length
  have := filter_len (p := compP Φ test x ρ) (vs := us)
  omega

theorem all_comp (G : Gd mg mb H₀) (hA : AOk n A) {elt args test : E} {x : Nat} {k : IK} (he : All prog w mg mb H₀ n Φ A elt) (ha : All prog w mg mb H₀ n Φ A args) (hi : ∀ it r, args = .cons it r → All prog w mg mb H₀ n Φ A it) (ht : All prog w mg mb H₀ n Φ A test) :
    All prog w mg mb H₀ n Φ A (.comp elt x k args test) := by
  refine ⟨?_, ?_, not_as (fun _ _ => rfl), not_bs (fun _ _ _ => rfl), not_ps (fun _ _ => rfl)⟩
  · intro c e' ρ env s r h q e
    obtain ⟨elt', y, px, it', ifs, sc, pos, rfl, h1, h2, h3, h4⟩ := comp_inv h
    have hs := scopeOk_spec h1
    obtain ⟨cl, hclos, hcl⟩ := closure_ok hs q.eo
    refine wpAny_ListComp_free (compP Φ test x ρ) (compF Φ elt x ρ) hclos hs.nocell hs.kind hs.names hs.x (wpAny_mono (comp_core G hA he ha hi ht hs hcl h2 h3 h4 q e) (fun xv s₁ h => wpAny_mono h (fun it s₂ h => ?_) fun _ _ f => f) fun _ _ f => f) (okIt_folded h2)
    obtain ⟨I, fp, m, P, St, rfl, W, hl, st, hfp, k, hI, hq, hR⟩ := h
    refine ⟨I, fp, [I], m, P, St, rfl, W, hl, st, hfp, hq, fun D h' tk ys vs hD _ hp hlen hP hF hk => ?_⟩
    have hs' : Sub s.heap h' := fun b o hb => hk b o (by intro h; rw [List.mem_singleton.mp h] at hb; rw [hI] at hb; cases hb) (keeps_sub k b o hb)
    refine ⟨?_, hR D h' ys vs hp hlen hP hF, fun _ a e => ?_⟩
    · obtain ⟨h₁, t₁, rfl, _⟩ := k
      exact ⟨h', tk, rfl, hs'⟩
    · cases e
      cases g : s.heap.get? D with
      | none => rfl
      | some o => have := keeps_sub k D o g; rw [hD] at this; cases this
  · intro c y ρ env s b h q e
    simp only [ev, Option.bind_eq_some_iff, Option.map_eq_some_iff] at e
    obtain ⟨_, _, _, _, _, _, e⟩ := e
    cases e

theorem all_ok (G : Gd mg mb H₀) (hA : AOk n A) : ∀ e : E, All prog w mg mb H₀ n Φ A e ∧ ∀ h r, e = .cons h r → All prog w mg mb H₀ n Φ A h := by
  intro e
  induction e with
  | none => exact ⟨all_none, fun _ _ h => nomatch h⟩
  | bool b => exact ⟨all_bool, fun _ _ h => nomatch h⟩
  | int i => exact ⟨all_int, fun _ _ h => nomatch h⟩
  | str l => exact ⟨all_str, fun _ _ h => nomatch h⟩
  | var i => exact ⟨all_var, fun _ _ h => nomatch h⟩
  | bin op l r hl hr => exact ⟨all_bin hl.1 hr.1, fun _ _ h => nomatch h⟩
  | notE x hx => exact ⟨all_notE hx.1, fun _ _ h => nomatch h⟩
  | cmp op l r hl hr => exact ⟨all_cmp hA hl.1 hr.1, fun _ _ h => nomatch h⟩
  | cmp2 o1 o2 a b c ha hb hc => exact ⟨all_cmp2 hA ha.1 hb.1 hc.1, fun _ _ h => nomatch h⟩
  | boolE isAnd args ha => exact ⟨all_boolE ha.1, fun _ _ h => nomatch h⟩
  | ite c a b hc ha hb => exact ⟨all_ite hc.1 ha.1 hb.1, fun _ _ h => nomatch h⟩
  | call f args ha => exact ⟨all_call G hA ha.1, fun _ _ h => nomatch h⟩
  | nil => exact ⟨all_nil, fun _ _ h => nomatch h⟩
  | cons h t hh ht => exact ⟨all_cons hh.1 ht.1, fun _ _ e => by cases e; exact hh.1⟩
  | bi f args ha => exact ⟨all_bi G hA ha.1, fun _ _ h => nomatch h⟩
  | me m o args ho ha => exact ⟨all_me ho.1 ha.1, fun _ _ h => nomatch h⟩
  | idx o i ho hi => exact ⟨all_idx ho.1 hi.1, fun _ _ h => nomatch h⟩
  | slice o lo hi ho hl hh => exact ⟨all_slice ho.1 hl.1 hh.1, fun _ _ h => nomatch h⟩
  | list args ha => exact ⟨all_list ha.1, fun _ _ h => nomatch h⟩
  | tup args ha => exact ⟨all_tup ha.1, fun _ _ h => nomatch h⟩
  | comp elt x k it test he hi ht => exact ⟨all_comp G hA he.1 hi.1 hi.2 ht.1, fun _ _ h => nomatch h⟩
  | dictIdx keys vals i hv hi => exact ⟨all_dictIdx hv.1 hi.1, fun _ _ h => nomatch h⟩
end
end Mine
end
section
open PySem PySem.Calls
set_option maxRecDepth 100000
namespace Mine
section
variable {prog : Program} {w : World} {mg mb : Str → Option Value} {H₀ : Heap} {n : Nat} {Φ : Nat → List PV → Option PV} {A : Around}

/-! the frame that a body runs in -/
def NV (env : Env) (m cm : Str → Option Value) (x : Str) (v : Value) : Prop :=
  (env.kindOf x = some .local ∧ m x = some v) ∨ (env.kindOf x = some .cell ∧ ∃ a, env.cells.lookup x = some a ∧ cm x = some v)
structure FI (c : Cx) (ρ : Store) (env : Env) (D : Option Nat) (s₀ : Shared) (d : Option Addr) (s : Shared) : Prop where
  ic : ∃ m cm, InCallC s₀ env.locals m env.cells cm s ∧ ∀ i x r, c.sl[i]? = some (some x) → get ρ i = some r →
    ∃ v, NV env m cm x v ∧ Rep s.heap v r ∧ (D = some i → ∀ a, v = .ref a → d = some a) ∧ (D ≠ some i → ∀ a, d = some a → v ≠ .ref a)
  dd : ∀ a, d = some a → s₀.heap.get? a = none ∧ ∃ o its k, s.heap.get? a = some o ∧ o.data = .seq its k
  dn : D = none → d = none
/-- all is kept but the own locals, cells and the own list -/
structure Kp (env : Env) (d : Option Addr) (s s' : Shared) : Prop where
  keep : ∀ b o, s.heap.get? b = some o → b ≠ env.locals → (∀ x a, env.cells.lookup x = some a → b ≠ a) → d ≠ some b → s'.heap.get? b = some o
  live : ∀ b o, s.heap.get? b = some o → ∃ o', s'.heap.get? b = some o'
def DOk (s : Shared) (d d' : Option Addr) : Prop := d' = d ∨ ∀ a, d' = some a → s.heap.get? a = none
theorem Kp.refl {env : Env} {d : Option Addr} (s : Shared) : Kp env d s s := ⟨fun _ _ e _ _ _ => e, fun _ o e => ⟨o, e⟩⟩
theorem Kp.keeps {env : Env} {d : Option Addr} {s s' : Shared} (k : Keeps s s') : Kp env d s s' := ⟨fun b o e _ _ _ => keeps_sub k b o e, fun b o e => ⟨o, keeps_sub k b o e⟩⟩
theorem Kp.trans {env : Env} {d d' : Option Addr} {s s' s'' : Shared} (x : Kp env d s s') (y : Kp env d' s' s'') (h : DOk s d d') : Kp env d s s'' :=
  ⟨fun b o e h1 h2 h3 => y.keep b o (x.keep b o e h1 h2 h3) h1 h2 (by
    rcases h with rfl | h
    · exact h3
    · intro q; have := h b q; rw [e] at this; cases this),
  fun b o e => let ⟨o', e'⟩ := x.live b o e; y.live b o' e'⟩
theorem DOk.refl (s : Shared) (d : Option Addr) : DOk s d d := .inl rfl
theorem DOk.trans {s s' : Shared} {d d' d'' : Option Addr} (x : DOk s d d') (y : DOk s' d' d'') (k : ∀ b o, s.heap.get? b = some o → ∃ o', s'.heap.get? b = some o') : DOk s d d'' := by
  rcases y with rfl | y
  · exact x
  · refine .inr fun a e => ?_
    cases g : s.heap.get? a with
    | none => rfl
    | some o => obtain ⟨o', h⟩ := k a o g; rw [y a e] at h; cases h

theorem inCallC_keeps {s₀ s s' : Shared} {L : Addr} {m cm : Str → Option Value} {cs : List (Str × Addr)} (x : InCallC s₀ L m cs cm s) (k : Keeps s s') : InCallC s₀ L m cs cm s' := by
  obtain ⟨h, tk, rfl, kk⟩ := k
  obtain ⟨⟨⟨h₁, t₁, rfl⟩, ns, keep, fr⟩, cell, apart, above⟩ := x
  exact ⟨⟨⟨h, tk, rfl⟩, ns.keeps kk, fun b o e => kk b o (keep b o e), fr⟩, fun y a e => (cell y a e).keeps kk, apart, above⟩
theorem FI.keeps {c : Cx} {ρ : Store} {env : Env} {D : Option Nat} {s₀ s s' : Shared} {d : Option Addr} (f : FI c ρ env D s₀ d s) (k : Keeps s s') : FI c ρ env D s₀ d s' := by
  obtain ⟨⟨m, cm, ic, hv⟩, dd, dn⟩ := f
  refine ⟨⟨m, cm, inCallC_keeps ic k, fun i x r h1 h2 => ?_⟩, fun a e => ?_, ?_⟩
  · obtain ⟨v, h3, h4, h5⟩ := hv i x r h1 h2
    exact ⟨v, h3, h4.mono (keeps_sub k), h5⟩
  · obtain ⟨h1, o, its, n, h2, h3⟩ := dd a e
    exact ⟨h1, o, its, n, keeps_sub k a o h2, h3⟩
  · exact dn
theorem FI.free {c : Cx} {ρ : Store} {env : Env} {D : Option Nat} {s₀ s : Shared} {d : Option Addr} (f : FI c ρ env D s₀ d s) : FI c ρ env none s₀ none s := by
  obtain ⟨⟨m, cm, ic, hv⟩, dd, dn⟩ := f
  refine ⟨⟨m, cm, ic, fun i x r h1 h2 => ?_⟩, (fun a e => nomatch e), fun _ => rfl⟩
  obtain ⟨v, h3, h4, _⟩ := hv i x r h1 h2
  exact ⟨v, h3, h4, (fun e => nomatch e), (fun _ _ e => nomatch e)⟩
theorem FI.inv {c : Cx} {ρ : Store} {env : Env} {D : Option Nat} {s₀ s : Shared} {d : Option Addr} (f : FI c ρ env D s₀ d s) : Inv c ρ env s.heap := by
  obtain ⟨⟨m, cm, ic, hv⟩, dd, dn⟩ := f
  intro i x r h1 h2
  obtain ⟨v, h3, h4, _⟩ := hv i x r h1 h2
  rcases h3 with ⟨k, e⟩ | ⟨k, a, ha, e⟩
  · exact .inl ⟨k, m, v, ic.toInCall.ns, e, h4⟩
  · exact .inr ⟨k, a, v, ha, e ▸ ic.cell x a ha, h4⟩
theorem FI.keep₀ {c : Cx} {ρ : Store} {env : Env} {D : Option Nat} {s₀ s : Shared} {d : Option Addr} (f : FI c ρ env D s₀ d s) : Keeps s₀ s := by
  obtain ⟨⟨m, cm, ic, hv⟩, dd, dn⟩ := f
  obtain ⟨h, tk, e, k⟩ := ic.done
  exact ⟨h, tk, e, k⟩

/-! what a frame's plan is to be -/
structure Fix (prog : Program) (w : World) (mg : Str → Option Value) (H₀ : Heap) (n : Nat) (Φ : Nat → List PV → Option PV) (c : Cx) (env : Env) (s₀ : Shared) : Prop where
  eo : EnvOk c env
  base : Sub H₀ s₀.heap
  fns : ∀ f name, c.fn f = some name → FnOk prog w mg H₀ n name (Φ f)
  uniq : ∀ (i j : Nat) (x : Str), c.sl[i]? = some (some x) → c.sl[j]? = some (some x) → i = j
  kinds : ∀ (i : Nat) (x : Str), c.sl[i]? = some (some x) → env.kindOf x = some .local ∨ (env.kindOf x = some .cell ∧ ∃ a, env.cells.lookup x = some a)
theorem FI.cok {c : Cx} {ρ : Store} {env : Env} {D : Option Nat} {s₀ s : Shared} {d : Option Addr} (X : Fix prog w mg H₀ n Φ c env s₀) (f : FI c ρ env D s₀ d s) : Cok prog w mg mb H₀ n Φ c env ρ s.heap :=
  ⟨X.eo, f.inv, X.base.trans (keeps_sub f.keep₀), X.fns⟩

theorem Rep.keepSeq {h h' : Heap} {v : Value} {r : PV} (x : Rep h v r) (k : ∀ a o its n, v = .ref a → h.get? a = some o → o.data = .seq its n → h'.get? a = some o) : Rep h' v r := by
  cases r with
  | a _ => exact x
  | bytes _ => exact x
  | list _ => obtain ⟨a, vs, rfl, ⟨n, hp⟩, hx, hl⟩ := x; exact ⟨a, vs, rfl, ⟨n, k a _ _ _ rfl hp rfl⟩, hx, hl⟩
  | tup _ => obtain ⟨a, vs, rfl, ⟨n, hp⟩, hx, hl⟩ := x; exact ⟨a, vs, rfl, ⟨n, k a _ _ _ rfl hp rfl⟩, hx, hl⟩
theorem Rep.isSeq {h : Heap} {a : Addr} {r : PV} (x : Rep h (.ref a) r) : ∃ o its n, h.get? a = some o ∧ o.data = .seq its n := by
  cases r with
  | a y => cases y <;> simp [Rep, RepA] at x
  | bytes _ => obtain ⟨t, e⟩ := x; cases e
  | list _ => obtain ⟨a, vs, e, ⟨n, hp⟩, hx, hl⟩ := x; cases e; exact ⟨_, _, _, hp, rfl⟩
  | tup _ => obtain ⟨a, vs, e, ⟨n, hp⟩, hx, hl⟩ := x; cases e; exact ⟨_, _, _, hp, rfl⟩

theorem store_any {s₀ s : Shared} {env : Env} {m cm : Str → Option Value} {y : Str} {v : Value} {Q : Unit → Shared → Prop} {E : Value → Shared → Prop} (x : InCallC s₀ env.locals m env.cells cm s) (hk : env.scope.kind = .function)
    (hy : env.kindOf y = some .local ∨ (env.kindOf y = some .cell ∧ ∃ a, env.cells.lookup y = some a))
    (h : ∀ h' tk b, (b = env.locals ∨ env.cells.lookup y = some b) → Heap.SameBut b s.heap h' → (∃ o', h'.get? b = some o') → (∀ o its k, s.heap.get? b = some o → o.data ≠ .seq its k) →
      (∃ m' cm', InCallC s₀ env.locals m' env.cells cm' { s with heap := h', toks := tk } ∧ NV env m' cm' y v ∧ ∀ z u, z ≠ y → NV env m cm z u → NV env m' cm' z u) → Q () { s with heap := h', toks := tk }) :
    wpAny (model prog w) A (storeName env y v) Q E s := by
  have same : ∀ h' t, ∃ h tk, ({ s with heap := h', toks := t } : Shared) = { s₀ with heap := h, toks := tk } := fun h' t => by
    obtain ⟨h₁, tk, rfl⟩ := x.toInCall.same; exact ⟨h', t, rfl⟩
  rcases hy with hl | ⟨hl, a, ha⟩
  · refine wpAny_storeName_local hl x.toInCall.ns (fun h' hn' hs' => h h' _ env.locals (.inl rfl) hs' ?_ ?_ ⟨fun z => if z = y then some v else m z, cm, ⟨⟨same h' _, hn', fun b o e => ?_, x.toInCall.fresh⟩, fun k c hc => ?_, x.apart, x.above⟩, ?_, ?_⟩) (by rw [hk]; rfl)
    · obtain ⟨o, _, _, ho, _⟩ := hn'; exact ⟨o, ho⟩
    · intro o its k ho e
      obtain ⟨o', _, _, ho', hd', _⟩ := x.toInCall.ns
      rw [ho] at ho'; cases ho'; rw [hd'] at e; cases e
    · exact hs'.extBut b o (Nat.ne_of_lt (Nat.lt_of_lt_of_le (Heap.lt_size e) x.toInCall.fresh)) (x.toInCall.keep b o e)
    · exact (x.cell k c hc).sameBut hs' (Nat.ne_of_gt (x.above k c (mem_of_lookup hc)))
    · exact .inl ⟨hl, by simp⟩
    · intro z u hz hu
      rcases hu with ⟨k, e⟩ | ⟨k, e⟩
      · exact .inl ⟨k, by simp only [if_neg hz]; exact e⟩
      · exact .inr ⟨k, e⟩
  · have hLc := x.above y a (mem_of_lookup ha)
    refine wpAny_storeName_cell hk hl ha (x.cell y a ha) fun h' hc' hs' => h h' s.toks a (.inr ha) hs' ?_ ?_ ⟨m, fun z => if z = y then some v else cm z, ⟨⟨same h' _, x.toInCall.ns.sameBut hs' (Nat.ne_of_lt hLc), fun b o e => ?_, x.toInCall.fresh⟩, fun k c' hk' => ?_, x.apart, x.above⟩, ?_, ?_⟩
    · obtain ⟨o, ho, _⟩ := hc'; exact ⟨o, ho⟩
    · intro o its k ho e
      obtain ⟨o', ho', hd'⟩ := x.cell y a ha
      rw [ho] at ho'; cases ho'; rw [hd'] at e; cases e
    · exact hs'.extBut b o (Nat.ne_of_lt (Nat.lt_trans (Nat.lt_of_lt_of_le (Heap.lt_size e) x.toInCall.fresh) hLc)) (x.toInCall.keep b o e)
    · by_cases hkn : k = y
      · subst hkn
        rw [ha] at hk'; cases hk'
        simpa using hc'
      · rw [if_neg hkn]
        exact (x.cell k c' hk').sameBut hs' fun e => hkn (name_of_addr x.apart (mem_of_lookup hk') (e ▸ mem_of_lookup ha))
    · exact .inr ⟨hl, a, ha, by simp⟩
    · intro z u hz hu
      rcases hu with ⟨k, e⟩ | ⟨k, c', e1, e2⟩
      · exact .inl ⟨k, e⟩
      · exact .inr ⟨k, c', e1, by simp only [if_neg hz]; exact e2⟩

def addrOf : Value → Option Addr
  | .ref a => some a
  | _ => none
def newD (D : Option Nat) (i : Nat) (d : Option Addr) (v : Value) : Option Addr := if D = some i then addrOf v else d

theorem seq_apart {s₀ s : Shared} {env : Env} {m cm : Str → Option Value} (x : InCallC s₀ env.locals m env.cells cm s) {a : Addr} {o : Obj} {its : Array Value} {q : Nat} (ho : s.heap.get? a = some o) (hd : o.data = .seq its q) :
    a ≠ env.locals ∧ ∀ z c, env.cells.lookup z = some c → a ≠ c := by
  constructor
  · rintro rfl
    obtain ⟨o', _, _, ho', hd', _⟩ := x.toInCall.ns
    rw [ho] at ho'; cases ho'; rw [hd'] at hd; cases hd
  · rintro z c hc rfl
    obtain ⟨o', ho', hd'⟩ := x.cell z a hc
    rw [ho] at ho'; cases ho'; rw [hd'] at hd; cases hd

theorem FI.put {c : Cx} {ρ : Store} {env : Env} {D : Option Nat} {s₀ s s' : Shared} {d : Option Addr} {i : Nat} {x : Str} {v : Value} {r : PV} {m cm m' cm' : Str → Option Value} (X : Fix prog w mg H₀ n Φ c env s₀) (f : FI c ρ env D s₀ d s)
    (ic : InCallC s₀ env.locals m env.cells cm s)
    (hv : ∀ i x r, c.sl[i]? = some (some x) → get ρ i = some r → ∃ v, NV env m cm x v ∧ Rep s.heap v r ∧ (D = some i → ∀ a, v = .ref a → d = some a) ∧ (D ≠ some i → ∀ a, d = some a → v ≠ .ref a))
    (hi : c.sl[i]? = some (some x)) (ic' : InCallC s₀ env.locals m' env.cells cm' s') (hvx : NV env m' cm' x v) (hvo : ∀ z u, z ≠ x → NV env m cm z u → NV env m' cm' z u)
    (hkeep : ∀ b o, s.heap.get? b = some o → b ≠ env.locals → (∀ z a, env.cells.lookup z = some a → b ≠ a) → s'.heap.get? b = some o) (hlive : ∀ b o, s.heap.get? b = some o → ∃ o', s'.heap.get? b = some o')
    (hr : Rep s'.heap v r) (hf : D ≠ none → Fresh s.heap v) : FI c (set ρ i r) env D s₀ (newD D i d v) s' ∧ Kp env d s s' ∧ DOk s d (newD D i d v) := by
  have keep : ∀ a o its q, s.heap.get? a = some o → o.data = .seq its q → s'.heap.get? a = some o := fun a o its q ho e => let ⟨h1, h2⟩ := seq_apart ic ho e; hkeep a o ho h1 h2
  have hfd : D = some i → Fresh s.heap v := fun e => hf (by rw [e]; exact fun h => by cases h)
  have dok : DOk s d (newD D i d v) := by
    unfold newD
    split
    · rename_i e
      refine .inr fun a ha => hfd e a ?_
      cases v <;> simp [addrOf] at ha
      rw [ha]
    · exact .inl rfl
  refine ⟨⟨⟨m', cm', ic', fun j y q hj hg => ?_⟩, fun a e => ?_, ?_⟩, ⟨fun b' o e h1 h2 h3 => hkeep b' o e h1 h2, hlive⟩, dok⟩
  · by_cases hij : i = j
    · subst hij
      rw [hi] at hj
      cases hj
      have := get_set_eq hg
      subst this
      refine ⟨v, hvx, hr, fun e a ha => ?_, fun e a ha hva => ?_⟩
      · unfold newD; rw [if_pos e, ha]; rfl
      · unfold newD at ha; rw [if_neg e] at ha
        obtain ⟨_, o, _, _, ho, _⟩ := f.dd a ha
        by_cases hD : D = none
        · rw [f.dn hD] at ha; cases ha
        · have := hf hD a hva
          rw [ho] at this; cases this
    · rw [get_set_ne hij] at hg
      have hxy : y ≠ x := fun e => hij (X.uniq i j x hi (e ▸ hj))
      obtain ⟨u, h1, h2, h3, h4⟩ := hv j y q hj hg
      refine ⟨u, hvo y u hxy h1, h2.keepSeq fun a o its n _ => keep a o its n, fun e a ha => ?_, fun e a ha hua => ?_⟩
      · unfold newD; rw [if_neg (by rw [e]; intro h; exact hij (Option.some.inj h).symm)]
        exact h3 e a ha
      · unfold newD at ha
        split at ha
        · rename_i hD
          have hva : v = .ref a := by cases v <;> simp [addrOf] at ha; rw [ha]
          have := hfd hD a hva
          rw [hua] at h2
          obtain ⟨o, its, q', ho, _⟩ := h2.isSeq
          rw [ho] at this; cases this
        · exact h4 e a ha hua
  · unfold newD at e
    split at e
    · rename_i hD
      have hva : v = .ref a := by cases v <;> simp [addrOf] at e; rw [e]
      have := hfd hD a hva
      subst hva
      obtain ⟨o, its, q, ho, hd⟩ := hr.isSeq
      refine ⟨?_, o, its, q, ho, hd⟩
      cases g : s₀.heap.get? a with
      | none => rfl
      | some o' => rw [keeps_sub f.keep₀ a o' g] at this; cases this
    · obtain ⟨h1, o, its, q, ho, hd⟩ := f.dd a e
      exact ⟨h1, o, its, q, keep a o its q ho hd, hd⟩
  · unfold newD; intro e; rw [if_neg (by rw [e]; exact fun h => by cases h)]; exact f.dn e

/-- one store: the value came from a tree that was run in s -/
theorem FI.store {c : Cx} {ρ : Store} {env : Env} {D : Option Nat} {s₀ s s₁ : Shared} {d : Option Addr} {i : Nat} {x : Str} {v : Value} {r : PV} {E : Value → Shared → Prop} (X : Fix prog w mg H₀ n Φ c env s₀) (f : FI c ρ env D s₀ d s) (k : Keeps s s₁)
    (hi : c.sl[i]? = some (some x)) (hr : Rep s₁.heap v r) (hf : D ≠ none → Fresh s.heap v) :
    wpAny (model prog w) A (storeName env x v) (fun _ s' => FI c (set ρ i r) env D s₀ (newD D i d v) s' ∧ Kp env d s s' ∧ DOk s d (newD D i d v)) E s₁ := by
  have f₀ := f
  obtain ⟨⟨m, cm, ic₀, hv⟩, _, _⟩ := f₀
  refine store_any (inCallC_keeps ic₀ k) X.eo.kind (X.kinds i x hi) fun h' tk b hb hs hlive hns hm => ?_
  obtain ⟨m', cm', ic', hvx, hvo⟩ := hm
  refine f.put X ic₀ hv hi ic' hvx hvo (fun b' o e h1 h2 => ?_) (fun b' o e => ?_) (hr.keepSeq fun a o its q _ ho e => hs.extBut a o (by rintro rfl; exact hns o its q ho e) ho) hf
  · refine hs.extBut b' o ?_ (keeps_sub k b' o e)
    rcases hb with rfl | hb
    · exact h1
    · exact h2 x b hb
  · by_cases hbb : b' = b
    · subst hbb; exact hlive
    · exact ⟨o, hs.extBut b' o hbb (keeps_sub k b' o e)⟩

/-- a change of the own list -/
theorem FI.change {c : Cx} {ρ : Store} {env : Env} {s₀ s : Shared} {d : Option Addr} {i : Nat} {x : Str} {xs ys : List At} {a : Addr} {us : List Value} {h' : Heap} {tk : Nat} (X : Fix prog w mg H₀ n Φ c env s₀) (f : FI c ρ env (some i) s₀ d s)
    (hi : c.sl[i]? = some (some x)) (hda : d = some a) (hs : Heap.SameBut a s.heap h') (hp : h'.PlainList a us.toArray) (pr : Paired RepA us ys) (hl : us.length ≤ sizeLine) (hx : get ρ i = some (.list xs)) :
    FI c (set ρ i (.list ys)) env (some i) s₀ d { s with heap := h', toks := tk } ∧ Kp env d s { s with heap := h', toks := tk } := by
  have f₀ := f
  obtain ⟨⟨m, cm, ic, hv⟩, dd, _⟩ := f₀
  obtain ⟨hfr, o, its, q, ho, hd⟩ := dd a hda
  obtain ⟨ha1, ha2⟩ := seq_apart ic ho hd
  have kp : Kp env d s { s with heap := h', toks := tk } := ⟨fun b o' e _ _ h3 => hs.extBut b o' (fun q => h3 (by rw [hda, q])) e, fun b o' e => by
    by_cases hb : b = a
    · subst hb; obtain ⟨k, e⟩ := hp; exact ⟨_, e⟩
    · exact ⟨o', hs.extBut b o' hb e⟩⟩
  refine ⟨⟨⟨m, cm, ⟨⟨?_, ic.toInCall.ns.sameBut hs (Ne.symm ha1), fun b o' e => ?_, ic.toInCall.fresh⟩, fun z c' hc => (ic.cell z c' hc).sameBut hs (Ne.symm (ha2 z c' hc)), ic.apart, ic.above⟩, fun j y r hj hg => ?_⟩, fun a' e => ?_, fun e => nomatch e⟩, kp⟩
  · obtain ⟨h₁, t₁, e⟩ := ic.toInCall.same
    exact ⟨h', tk, by rw [e]⟩
  · refine hs.extBut b o' (fun q => ?_) (ic.toInCall.keep b o' e)
    rw [q, hfr] at e; cases e
  · by_cases hij : i = j
    · subst hij
      have := get_set_eq hg
      subst this
      obtain ⟨v, h1, h2, h3, h4⟩ := hv i y (.list xs) hj hx
      obtain ⟨a', vs, rfl, _⟩ := h2
      have := h3 rfl a' rfl
      rw [hda] at this
      cases this
      exact ⟨.ref a, h1, ⟨a, us, rfl, hp, pr, hl⟩, h3, h4⟩
    · rw [get_set_ne hij] at hg
      obtain ⟨u, h1, h2, h3, h4⟩ := hv j y r hj hg
      refine ⟨u, h1, h2.keepSeq fun b o' its' n' hb ho' _ => ?_, h3, h4⟩
      exact hs.extBut b o' (fun q => h4 (fun e => hij (Option.some.inj e)) a hda (by rw [hb, q])) ho'
  · rw [hda] at e
    cases e
    obtain ⟨k, e⟩ := hp
    exact ⟨hfr, _, _, _, e, rfl⟩
end
end Mine
end
section
open PySem PySem.Calls
set_option maxRecDepth 100000
namespace Mine

/-! Does a statement of the own syntax stand for one of the model's? -/
def isName (c : Cx) (i : Nat) (x : Str) : Bool := c.sl[i]? == some (some x)
/-- an assignment of a comprehension to a local name goes another way -/
def compLocal (c : Cx) (v : Expr) (x : Str) (p : Pos) : Bool :=
  match v with
  | .ListComp _ _ sc q => c.kinds.lookup x == some .local && p.line == q.line && !(sc.names.any fun (n, k) => n == x && (k == .local || k == .cell))
  | _ => false
def compCell (c : Cx) (v : Expr) (x : Str) : Bool :=
  match v with
  | .ListComp _ _ _ _ => c.kinds.lookup x == some .cell
  | _ => true
def folded2 : Expr → Bool
  | .Tuple [a, b] _ _ => foldedForSure 8 a && foldedForSure 8 b
  | .Tuple _ _ _ => false
  | .ListComp _ _ _ _ => false
  | _ => true
def swap2 (c : Cx) (x y : Str) (p1 p2 : Pos) : Expr → Bool
  | .Tuple [a, b] _ _ => c.kinds.lookup x == some .local && c.kinds.lookup y == some .local && p1.line == p2.line && !(x == y) && !(foldedForSure 8 a && foldedForSure 8 b) && !(constantsAlone 8 a && constantsAlone 8 b)
  | _ => false
def enumName : Str := Str.ofString "enumerate"
def itD (D : Option Nat) (k : IK) (args : E) (iter : Expr) : Bool :=
  D == none || freshIt k args || (match k, args, iter with
    | .val, .cons (.var j) .nil, .Name _ _ => D != some j
    | _, _, _ => false)
mutual
def okS1 (c : Cx) (D : Option Nat) : S → Stmt → Bool
  | .assign i e, .Assign [.Name x p] v _ => isName c i x && okE c e v && (D == none || fresh e) && (compLocal c v x p || compCell c v x)
  | .assign2 i j e, .Assign [.Tuple [.Name x p1, .Name y p2] _ _] v _ => D == none && !(i == j) && isName c i x && isName c j y && okE c e v && (folded2 v || swap2 c x y p1 p2 v)
  | .ret e, .Return (some v) _ => okE c e v
  | .retD i, .Return (some (.Name x _)) _ => D == some i && isName c i x && !(x == debugName)
  | .ite e t f, .If test body orelse _ => okE c e test && okSs c D t body && okSs c D f orelse
  | .forS x k it body, .For (.Name y _) iter body' [] _ => isName c x y && !(D == some x) && okIt c k it iter && itD D k it iter && okSs c D body body'
  | .forEnum i x (.var j) body, .For (.Tuple [.Name y1 _, .Name y2 _] _ _) (.Call (.Name en _) [.Name z _] [] _) body' [] _ =>
      isName c i y1 && isName c x y2 && isName c j z && !(i == x) && !(D == some i) && !(D == some x) && !(D == some j) && en == enumName && c.glob enumName && !(z == debugName) && okSs c D body body'
  | .whileS _ e body, .While test body' [] _ => okE c e test && okSs c D body body'
  | .append x e, .Expr (.Call (.Attribute (.Name y _) name ap) [v] [] pos) _ => D == some x && isName c x y && name == Str.ofString "append" && okE c e v && (ap.endLine == pos.line) && !(y == debugName)
  | .setItem x i e, .Assign [.Subscript (.Name y _) iv _] v _ => D == some x && isName c x y && okE c i iv && okE c e v && !(y == debugName) && !(match v with | .ListComp .. => true | _ => false)
  | .raiseS, _ => true
  | _, _ => false
termination_by structural s => s
def okSs (c : Cx) (D : Option Nat) : S → List Stmt → Bool
  | .nil, [] => true
  | .seq h t, x :: r => okS1 c D h x && okSs c D t r
  | .freeze t, xs => okSs c none t xs
  | _, _ => false
termination_by structural s => s
end

section
variable {prog : Program} {w : World} {mg mb : Str → Option Value} {H₀ : Heap} {n : Nat} {Φ : Nat → List PV → Option PV} {A : Around}

/-- the end of a statement -/
def Post (c : Cx) (env : Env) (D : Option Nat) (s₀ : Shared) (d : Option Addr) (s : Shared) (p : Fl × Store) (f : Flow) (s' : Shared) : Prop :=
  match p.1 with
  | .next => f = .next ∧ ∃ d', FI c p.2 env D s₀ d' s' ∧ Kp env d s s' ∧ DOk s d d'
  | .ret r => ∃ v, f = .ret v ∧ Keeps s₀ s' ∧ Rep s'.heap v r ∧ Fresh s₀.heap v
variable (prog w mg mb H₀ n Φ A) in
def S1Ok (st : S) : Prop := ∀ c D x ρ env s₀ d s p, okS1 c D st x = true → Fix prog w mg H₀ n Φ c env s₀ → FI c ρ env D s₀ d s → ex Φ st ρ = some p →
  wpAny (model prog w) A (exec x env) (Post c env D s₀ d s p) (fun _ _ => False) s
variable (prog w mg mb H₀ n Φ A) in
def SsOk (st : S) : Prop := ∀ c D xs ρ env s₀ d s p, okSs c D st xs = true → Fix prog w mg H₀ n Φ c env s₀ → FI c ρ env D s₀ d s → ex Φ st ρ = some p →
  wpAny (model prog w) A (execs xs env) (Post c env D s₀ d s p) (fun _ _ => False) s
structure AllS (prog : Program) (w : World) (mg : Str → Option Value) (H₀ : Heap) (n : Nat) (Φ : Nat → List PV → Option PV) (A : Around) (st : S) : Prop where
  one : S1Ok prog w mg H₀ n Φ A st
  many : SsOk prog w mg H₀ n Φ A st

theorem not_many {st : S} (h : ∀ c D xs, okSs c D st xs = false) : SsOk prog w mg H₀ n Φ A st := fun c D xs _ _ _ _ _ _ e => by rw [h] at e; cases e
theorem not_one {st : S} (h : ∀ c D x, okS1 c D st x = false) : S1Ok prog w mg H₀ n Φ A st := fun c D x _ _ _ _ _ _ e => by rw [h] at e; cases e

theorem swaps_not {v : Expr} {t : Expr} {l : Nat} {env : Env} {c : Cx} {e : E} (h : okE c e v = true) (hv : ∀ a b d f, v ≠ .ListComp a b d f) : swapsWith v (some t) l env = pure false := by
  cases v <;> first | rfl | (exfalso; exact hv _ _ _ _ rfl) | skip
  all_goals (exfalso; cases e <;> simp [okE] at h)

theorem isName_spec {c : Cx} {i : Nat} {x : Str} (h : isName c i x = true) : c.sl[i]? = some (some x) := by simpa [isName] using h

theorem sto {c : Cx} {ρ : Store} {env : Env} {D : Option Nat} {s₀ s s₁ : Shared} {d : Option Addr} {i : Nat} {x : Str} {v : Value} {r : PV} {e : E} (X : Fix prog w mg H₀ n Φ c env s₀) (f : FI c ρ env D s₀ d s) (k : Keeps s s₁)
    (hi : isName c i x = true) (hr : Rep s₁.heap v r) (hf : (fresh e = true → Fresh s.heap v)) (hD : (D == none || fresh e) = true) :
    wpAny (model prog w) A (storeName env x v) (fun _ s' => Post c env D s₀ d s (.next, set ρ i r) .next s') (fun _ _ => False) s₁ := by
  refine wpAny_mono (f.store X k (isName_spec hi) hr (fun h => hf ?_)) (fun _ s' h => ⟨rfl, _, h⟩) fun _ _ f => f
  simp only [Bool.or_eq_true, beq_iff_eq] at hD
  rcases hD with h' | h'
  · exact absurd h' h
  · exact h'
theorem all_assign (G : Gd mg mb H₀) (hA : AOk n A) {i : Nat} {e : E} : AllS prog w mg H₀ n Φ A (.assign i e) := by
  refine ⟨?_, not_many fun c D xs => by cases xs <;> rfl⟩
  intro c D st ρ env s₀ d s p h X f hp
  have inv : ∃ x px v pos, st = .Assign [.Name x px] v pos ∧ isName c i x = true ∧ okE c e v = true ∧ (D == none || fresh e) = true ∧ (compLocal c v x px || compCell c v x) = true := by
    cases st <;> first | (simp [okS1] at h; done) | skip
    rename_i ts v pos
    cases ts with
    | nil => simp [okS1] at h
    | cons t ts =>
      cases ts with
      | cons _ _ => cases t <;> simp [okS1] at h
      | nil =>
        cases t <;> first | (simp [okS1] at h; done) | skip
        simp only [okS1, Bool.and_eq_true] at h
        obtain ⟨⟨⟨h1, h2⟩, h3⟩, h4⟩ := h
        exact ⟨_, _, _, _, rfl, h1, h2, h3, h4⟩
  obtain ⟨x, px, v, pos, rfl, h1, h2, h3, h4⟩ := inv
  simp only [ex, Option.map_eq_some_iff] at hp
  obtain ⟨r, hr, rfl⟩ := hp
  have AE := (all_ok (Φ := Φ) (prog := prog) (w := w) G hA e).1
  have plain : swapsWith v (some (.Name x px)) pos.line env = pure false → wpAny (model prog w) A (exec (.Assign [.Name x px] v pos) env) (Post c env D s₀ d s (.next, set ρ i r)) (fun _ _ => False) s := fun hs =>
    wpAny_Assign_Name ((AE.pe c v ρ env s r h2 (f.cok X) hr).use fun u s₁ k₁ r₁ f₁ => sto X f k₁ h1 r₁ f₁ h3) hs
  by_cases hc : ∃ a b sc q, v = .ListComp a b sc q
  · obtain ⟨a, b, sc, q, rfl⟩ := hc
    have hkind : env.kindOf x = c.kinds.lookup x := by unfold Env.kindOf; rw [X.eo.names]
    have hb : env.blockKind = .function := by unfold Env.blockKind; rw [X.eo.kind]; rfl
    simp only [Bool.or_eq_true] at h4
    rcases h4 with h4 | h4
    · simp only [compLocal, Bool.and_eq_true, beq_iff_eq] at h4
      obtain ⟨⟨h5, h6⟩, h7⟩ := h4
      have hkl : env.kindOf x = some .local := by rw [hkind]; exact h5
      cases e <;> first | (simp [okE] at h2; done) | skip
      rename_i elt k' kk args test
      obtain ⟨elt', y, py, it', ifs, sc', pos', e1, o1, o2, o3, o4⟩ := comp_inv h2
      cases e1
      have hs := scopeOk_spec o1
      obtain ⟨cl, hclos, hcl⟩ := closure_ok hs X.eo
      have f₀ := f
      obtain ⟨⟨m, cm, ic, hv⟩, _, _⟩ := f₀
      refine wpAny_Assign_ListComp_free (compP Φ test k' ρ) (compF Φ elt k' ρ) ?_ hclos hs.nocell hs.kind hs.names hs.x hkl (by rw [X.eo.kind]; rfl)
        (wpAny_mono (comp_core G hA (all_ok G hA elt).1 (all_ok G hA args).1 (fun it r e => ((all_ok G hA args).2 it r e)) (all_ok G hA test).1 hs hcl o2 o3 o4 (f.cok X) hr) (fun xv s₁ h => wpAny_mono h (fun it s₂ h => ?_) fun _ _ f => f) fun _ _ f => f) (okIt_folded o2)
      · show (pure _ : Sem Bool) = _
        rw [hb, hkl]
        refine congrArg pure ?_
        rw [h7]
        have : (px.line == q.line) = true := by rw [h6]; simp
        show (ScopeKind.function == ScopeKind.function && (some NameKind.local == some NameKind.local) && (px.line == q.line) && true) = true
        rw [this]; rfl
      · obtain ⟨I, fp, q, P, St, rfl, W, hl, st, hfp, k, hI, hq, hR⟩ := h
        have ic₂ := inCallC_keeps ic k
        have live : ∀ b o, s.heap.get? b = some o → b ≠ I := fun b o e h => by rw [h, hI] at e; cases e
        have hLI : env.locals ≠ I := by obtain ⟨o, _, _, ho, _⟩ := ic.toInCall.ns; exact live _ o ho
        refine ⟨I, fp, [I], q, P, St, m, rfl, W, hl, st, hfp, by simpa using hLI, ic₂.toInCall.ns, hq, fun D' h' tk ys vs hD _ hp hlen hP hF hns hk => ?_⟩
        have hk' : ∀ b o, b ≠ env.locals → s.heap.get? b = some o → h'.get? b = some o := fun b o hb e => hk b o hb (by simpa using live b o e) (keeps_sub k b o e)
        have key := f.put X ic hv (isName_spec h1) (s' := { s₂ with heap := h', toks := tk }) (v := .ref D') (r := r) (m' := fun z => if z = x then some (.ref D') else m z) (cm' := cm)
          ⟨⟨?_, hns, fun b o e => ?_, ic.toInCall.fresh⟩, fun z c' hc => ?_, ic.apart, ic.above⟩ (.inl ⟨hkl, by simp⟩) ?_ (fun b o e hb _ => hk' b o hb e) (fun b o e => ?_) (hR D' h' ys vs hp hlen hP hF) (fun _ a e => ?_)
        · exact ⟨rfl, _, key⟩
        · obtain ⟨h₁, t₁, e⟩ := ic₂.toInCall.same
          exact ⟨h', tk, by rw [e]⟩
        · exact hk' b o (Nat.ne_of_lt (Nat.lt_of_lt_of_le (Heap.lt_size e) ic.toInCall.fresh)) (ic.toInCall.keep b o e)
        · obtain ⟨o, ho, hd⟩ := ic.cell z c' hc
          exact ⟨o, hk' c' o (Nat.ne_of_gt (ic.above z c' (mem_of_lookup hc))) ho, hd⟩
        · intro z u hz hu
          rcases hu with ⟨k, e⟩ | ⟨k, e⟩
          · exact .inl ⟨k, by simp only [if_neg hz]; exact e⟩
          · exact .inr ⟨k, e⟩
        · by_cases hb : b = env.locals
          · subst hb; obtain ⟨o', _, _, ho', _⟩ := hns; exact ⟨o', ho'⟩
          · exact ⟨o, hk' b o hb e⟩
        · cases e
          cases g : s.heap.get? D' with
          | none => rfl
          | some o => have := keeps_sub k D' o g; rw [hD] at this; cases this
    · refine plain ?_
      simp only [compCell, beq_iff_eq] at h4
      show (pure _ : Sem Bool) = _
      rw [hkind, h4]
      simp [show (NameKind.cell == NameKind.local) = false from rfl]
  · exact plain (swaps_not h2 fun a b d f e => hc ⟨a, b, d, f, e⟩)
end
end Mine
end
section
open PySem PySem.Calls
set_option maxRecDepth 100000
namespace Mine
section
variable {prog : Program} {w : World} {mg mb : Str → Option Value} {H₀ : Heap} {n : Nat} {Φ : Nat → List PV → Option PV} {A : Around}

theorem FI.name {c : Cx} {ρ : Store} {env : Env} {D : Option Nat} {s₀ s : Shared} {d : Option Addr} {i : Nat} {x : Str} {r : PV} {p : Pos} (X : Fix prog w mg H₀ n Φ c env s₀) (f : FI c ρ env D s₀ d s) (hi : isName c i x = true) (hd : (x == debugName) = false) (hg : get ρ i = some r) :
    ∃ v, (∀ (Q E : Value → Shared → Prop), Q v s → wpAny (model prog w) A (eval (.Name x p) env) Q E s) ∧ Rep s.heap v r ∧ (D = some i → ∀ a, v = .ref a → d = some a) ∧ (D ≠ some i → ∀ a, d = some a → v ≠ .ref a) := by
  obtain ⟨⟨m, cm, ic, hv⟩, _, _⟩ := f
  obtain ⟨v, h1, h2, h3⟩ := hv i x r (isName_spec hi) hg
  refine ⟨v, fun Q E q => wpAny_Name ?_ hd, h2, h3⟩
  rcases h1 with ⟨hk, e⟩ | ⟨hk, a, ha, e⟩
  · exact wpAny_loadName_local X.eo.kind hk ic.toInCall.ns e q
  · exact wpAny_loadName_cell X.eo.kind hk ha (e ▸ ic.cell x a ha) q

theorem all_ret (G : Gd mg mb H₀) (hA : AOk n A) {e : E} : AllS prog w mg H₀ n Φ A (.ret e) := by
  refine ⟨?_, not_many fun c D xs => by cases xs <;> rfl⟩
  intro c D st ρ env s₀ d s p h X f hp
  have inv : ∃ v pos, st = .Return (some v) pos ∧ okE c e v = true := by
    cases st <;> first | (simp [okS1] at h; done) | skip
    rename_i v pos
    cases v <;> simp [okS1] at h
    exact ⟨_, _, rfl, h⟩
  obtain ⟨v, pos, rfl, h1⟩ := inv
  simp only [ex, Option.bind_eq_some_iff] at hp
  obtain ⟨r, hr, hp⟩ := hp
  split at hp
  · rename_i hc
    cases hp
    refine wpAny_Return_some (((all_ok (Φ := Φ) (prog := prog) (w := w) G hA e).1.pe c v ρ env s r h1 (f.cok X) hr).use fun u s₁ k₁ r₁ f₁ => ⟨u, rfl, keeps_trans f.keep₀ k₁, r₁, ?_⟩)
    simp only [Bool.or_eq_true] at hc
    rcases hc with hc | hc
    · exact (f₁ hc).sub (keeps_sub f.keep₀)
    · cases r <;> simp [isAt] at hc
      exact fresh_atom r₁
  · cases hp
theorem all_retD {i : Nat} : AllS prog w mg H₀ n Φ A (.retD i) := by
  refine ⟨?_, not_many fun c D xs => by cases xs <;> rfl⟩
  intro c D st ρ env s₀ d s p h X f hp
  have inv : ∃ x q pos, st = .Return (some (.Name x q)) pos ∧ D = some i ∧ isName c i x = true ∧ (x == debugName) = false := by
    cases st <;> first | (simp [okS1] at h; done) | skip
    rename_i v pos
    cases v with
    | none => simp [okS1] at h
    | some v =>
      cases v <;> first | (simp [okS1] at h; done) | skip
      simp [okS1] at h
      exact ⟨_, _, _, rfl, h.1.1, h.1.2, by rw [beq_eq_false_iff_ne]; exact h.2⟩
  obtain ⟨x, q, pos, rfl, rfl, h1, h2⟩ := inv
  simp only [ex, Option.map_eq_some_iff] at hp
  obtain ⟨r, hr, rfl⟩ := hp
  obtain ⟨v, h3, h4, h5, _⟩ := f.name (A := A) (p := q) X h1 h2 hr
  refine wpAny_Return_some (h3 _ _ ⟨v, rfl, f.keep₀, h4, fun a e => ?_⟩)
  exact (f.dd a (h5 rfl a e)).1
theorem all_raise : AllS prog w mg H₀ n Φ A .raiseS := by
  refine ⟨?_, not_many fun c D xs => by cases xs <;> rfl⟩
  intro c D st ρ env s₀ d s p h X f hp
  cases hp
theorem all_nilS : AllS prog w mg H₀ n Φ A .nil := by
  refine ⟨not_one fun c D x => by cases x <;> rfl, ?_⟩
  intro c D xs ρ env s₀ d s p h X f hp
  cases xs with
  | cons _ _ => simp [okSs] at h
  | nil => cases hp; exact wpAny_execs_nil ⟨rfl, d, f, Kp.refl s, DOk.refl s d⟩
theorem all_seq {a b : S} (ha : AllS prog w mg H₀ n Φ A a) (hb : AllS prog w mg H₀ n Φ A b) : AllS prog w mg H₀ n Φ A (.seq a b) := by
  refine ⟨not_one fun c D x => by cases x <;> rfl, ?_⟩
  intro c D xs ρ env s₀ d s p h X f hp
  cases xs with
  | nil => simp [okSs] at h
  | cons x xs =>
    simp only [okSs, Bool.and_eq_true] at h
    simp only [ex, Option.bind_eq_some_iff] at hp
    obtain ⟨⟨fl, ρ'⟩, h1, hp⟩ := hp
    refine wpAny_execs_cons (wpAny_mono (ha.one c D x ρ env s₀ d s _ h.1 X f h1) (fun fw s₁ h2 => ?_) fun _ _ f => f)
    cases fl with
    | next =>
      obtain ⟨rfl, d', f', kp, dk⟩ := h2
      refine wpAny_mono (hb.many c D xs ρ' env s₀ d' s₁ _ h.2 X f' hp) (fun fw s₂ h3 => ?_) fun _ _ f => f
      obtain ⟨fl, ρ''⟩ := p
      cases fl with
      | next =>
        obtain ⟨rfl, d'', f'', kp', dk'⟩ := h3
        exact ⟨rfl, d'', f'', kp.trans kp' dk, dk.trans dk' kp.live⟩
      | ret r => exact h3
    | ret r =>
      cases hp
      obtain ⟨v, rfl, h3⟩ := h2
      exact ⟨v, rfl, h3⟩
theorem all_freeze {t : S} (ht : AllS prog w mg H₀ n Φ A t) : AllS prog w mg H₀ n Φ A (.freeze t) := by
  refine ⟨not_one fun c D x => by cases x <;> rfl, ?_⟩
  intro c D xs ρ env s₀ d s p h X f hp
  simp only [okSs] at h
  simp only [ex, Option.bind_eq_some_iff] at hp
  obtain ⟨⟨fl, ρ'⟩, h1, hp⟩ := hp
  refine wpAny_mono (ht.many c none xs ρ env s₀ none s _ h X f.free h1) (fun fw s₁ h2 => ?_) fun _ _ f => f
  cases fl with
  | next => cases hp
  | ret r => cases hp; exact h2
theorem all_iteS (G : Gd mg mb H₀) (hA : AOk n A) {e : E} {a b : S} (ha : AllS prog w mg H₀ n Φ A a) (hb : AllS prog w mg H₀ n Φ A b) : AllS prog w mg H₀ n Φ A (.ite e a b) := by
  refine ⟨?_, not_many fun c D xs => by cases xs <;> rfl⟩
  intro c D st ρ env s₀ d s p h X f hp
  cases st <;> first | (simp [okS1] at h; done) | skip
  rename_i test body orelse pos
  simp only [okS1, Bool.and_eq_true] at h
  obtain ⟨⟨h1, h2⟩, h3⟩ := h
  simp only [ex, Option.bind_eq_some_iff] at hp
  obtain ⟨t, ht, hp⟩ := hp
  obtain ⟨v, hv, ht⟩ := ht
  have hb' := truth_eq (o := ev Φ e ρ) (b := t) (by rw [hv]; exact ht)
  refine wpAny_If (wpAny_mono ((all_ok (Φ := Φ) (prog := prog) (w := w) G hA e).1.pt c test ρ env s t h1 (f.cok X) hb') (fun b' s₁ h4 => ?_) fun _ _ f => f)
  obtain ⟨rfl, k₁⟩ := h4
  have fin : ∀ xs (st : S), SsOk prog w mg H₀ n Φ A st → okSs c D st xs = true → ex Φ st ρ = some p → wpAny (model prog w) A (execs xs env) (Post c env D s₀ d s p) (fun _ _ => False) s₁ := fun xs st hst hok he =>
    wpAny_mono (hst c D xs ρ env s₀ d s₁ p hok X (f.keeps k₁) he) (fun fw s₂ h5 => by
      obtain ⟨fl, ρ'⟩ := p
      cases fl with
      | next =>
        obtain ⟨rfl, d', f', kp, dk⟩ := h5
        exact ⟨rfl, d', f', (Kp.keeps k₁).trans kp (DOk.refl s d), (DOk.refl s d).trans dk (Kp.keeps (env := env) (d := d) k₁).live⟩
      | ret r => exact h5) fun _ _ f => f
  cases b' with
  | true => exact fin body a ha.many h2 hp
  | false => exact fin orelse b hb.many h3 hp
end
end Mine
end
section
open PySem PySem.Calls
set_option maxRecDepth 100000
namespace Mine
section
variable {prog : Program} {w : World} {mg mb : Str → Option Value} {H₀ : Heap} {n : Nat} {Φ : Nat → List PV → Option PV} {A : Around}

theorem mapSeq_set_plain (its : Array Value) (k j : Nat) (x : Value) : ∃ k', Obj.mapSeq (·.setIfInBounds j x) { cls := .type "list", data := .seq its k } = { cls := .type "list", data := .seq (its.setIfInBounds j x) k' } := by
  exact ⟨_, rfl⟩
theorem setItem_plain {s : Shared} {E : Value → Shared → Prop} {l : Addr} {items : Array Value} {k : Int} {t : Tok} {v : Value} {Q : Unit → Shared → Prop} (hl : s.heap.PlainList l items)
    (h0 : 0 ≤ k) (hfit : k < 2 ^ 63) (hn : k < items.size)
    (hQ : ∀ h', h'.PlainList l (items.setIfInBounds k.toNat v) → Heap.SameBut l s.heap h' → Q () { s with heap := h' }) :
    wpAny (model prog w) A (setItem (.ref l) (.int k t) v) Q E s := by
  obtain ⟨q, ho⟩ := id hl
  have hT := list_type hl
  unfold setItem
  try with_reducible refine wpAny_holding ?_
  first | refine wpAny_bind (wpAny_pure ?_) | skip
  refine wpAny_bind (wpAny_sequenceKey hT (by decide) ?_)
  refine wpAny_bind (wpAny_callSpecial?_slot (name := Str.ofString "__setitem__") hT slot_list_setitem
    (wpAny_call_entry slot_list_setitem hT entry_list_setitem ?_ (args_list_setitem _ _ _)))
  show wpAny _ _ (Builtin.List.listSubscript? (.int k t) >>= _) _ _ s
  refine wpAny_bind (wpAny_listSubscript_int (fitsIndex_of h0 hfit) ?_)
  clear hfit
  obtain ⟨j, rfl⟩ := Int.eq_ofNat_of_zero_le h0
  have hj : j < items.size := by omega
  have hx' : items[j]? = some items[j] := Array.getElem?_eq_getElem hj
  show wpAny _ _ ((seqItemAt l j >>= fun r => pure (r.map (j, ·))) >>= _) _ _ s
  refine wpAny_bind (wpAny_bind (wpAny_seqItemAt ho rfl (wpAny_pure ?_)))
  rw [hx']
  show wpAny _ _ (setSeqItemAt l j v >>= _) _ _ s
  obtain ⟨q', e⟩ := mapSeq_set_plain items q j v
  have hfin : (s.heap.update l (Obj.mapSeq (·.setIfInBounds j v))).PlainList l (items.setIfInBounds j v) :=
    ⟨q', by rw [Heap.get?_update_self _ ho (by rw [e]; rfl), e]⟩
  refine wpAny_bind (wpAny_setSeqItemAt ho rfl ?_)
  first
    | exact wpAny_bind (wpAny_pure (wpAny_pure ⟨.none, rfl, wpAny_pure (hQ _ hfin (Heap.SameBut.update ..))⟩))
    | exact wpAny_pure ⟨.none, rfl, wpAny_pure (hQ _ hfin (Heap.SameBut.update ..))⟩

theorem all_append (G : Gd mg mb H₀) (hA : AOk n A) {i : Nat} {e : E} : AllS prog w mg H₀ n Φ A (.append i e) := by
  refine ⟨?_, not_many fun c D xs => by cases xs <;> rfl⟩
  intro c D st ρ env s₀ d s p h X f hp
  have inv : ∃ y py ap v pos q, st = .Expr (.Call (.Attribute (.Name y py) (Str.ofString "append") ap) [v] [] pos) q ∧ D = some i ∧ isName c i y = true ∧ okE c e v = true ∧ (ap.endLine == pos.line) = true ∧ (y == debugName) = false := by
    cases st <;> first | (simp [okS1] at h; done) | skip
    rename_i x q
    cases x <;> first | (simp [okS1] at h; done) | skip
    rename_i fe es ks pos
    cases fe <;> first | (simp [okS1] at h; done) | skip
    rename_i o name ap
    cases o <;> first | (simp [okS1] at h; done) | skip
    rename_i y py
    cases es with
    | nil => simp [okS1] at h
    | cons v es =>
      cases es with
      | cons _ _ => simp [okS1] at h
      | nil =>
        cases ks with
        | cons _ _ => simp [okS1] at h
        | nil =>
          simp only [okS1, Bool.and_eq_true, Bool.not_eq_true'] at h
          obtain ⟨⟨⟨⟨⟨h1, h2⟩, h3⟩, h4⟩, h5⟩, h6⟩ := h
          have h3 : name = Str.ofString "append" := by simpa using h3
          subst h3
          exact ⟨_, _, _, _, _, _, rfl, by simpa using h1, h2, h4, h5, h6⟩
  obtain ⟨y, py, ap, v, pos, q, rfl, rfl, h2, h3, h4, h5⟩ := inv
  simp only [ex, Option.bind_eq_some_iff] at hp
  obtain ⟨r, hr, hp⟩ := hp
  split at hp
  · rename_i xs x hg
    split at hp
    · rename_i hsz
      cases hp
      obtain ⟨ov, n1, n2, n3, _⟩ := f.name (A := A) (p := py) X h2 h5 hg
      obtain ⟨a, vs, rfl, hpl, pr, hl⟩ := n2
      have hda := n3 rfl a rfl
      have hns := okE_noStar h3
      refine wpAny_Expr_any (wpAny_Call_append rfl ?_ h4 ?_ (n1 _ _ ⟨a, vs.toArray, rfl, ?_, ?_⟩)) ?_ rfl
      · rw [starEach_cons hns]; rfl
      · rw [starEach_cons hns]; rfl
      · obtain ⟨k, e⟩ := hpl; exact ⟨_, k, e, rfl, rfl, rfl⟩
      · refine ((all_ok (Φ := Φ) (prog := prog) (w := w) G hA e).1.pe c v ρ env s _ h3 (f.cok X) hr).use fun u s₁ k₁ r₁ _ => ?_
        have hpl₁ : s₁.heap.PlainList a vs.toArray := by obtain ⟨k, e⟩ := hpl; exact ⟨k, keeps_sub k₁ _ _ e⟩
        refine wpAny_list_append_plain hpl₁ (fun h' hp' hs => ?_) (by simpa using hl)
        have f₁ := f.keeps k₁
        have hlen := pr.length
        have key := f₁.change X (isName_spec h2) (ys := xs ++ [x]) (us := vs ++ [u]) (tk := s₁.toks) hda hs (by simpa using hp') (paired_app pr (.cons r₁ .nil)) (by simp; omega) hg
        exact ⟨rfl, d, key.1, (Kp.keeps k₁).trans key.2 (DOk.refl s d), DOk.refl s d⟩
      · show (env.scope.kind == .module && _) = false
        rw [X.eo.kind]; rfl
    · cases hp
  · cases hp

theorem all_setItem (G : Gd mg mb H₀) (hA : AOk n A) {i : Nat} {k e : E} : AllS prog w mg H₀ n Φ A (.setItem i k e) := by
  refine ⟨?_, not_many fun c D xs => by cases xs <;> rfl⟩
  intro c D st ρ env s₀ d s p h X f hp
  have inv : ∃ y py iv q v pos, st = .Assign [.Subscript (.Name y py) iv q] v pos ∧ D = some i ∧ isName c i y = true ∧ okE c k iv = true ∧ okE c e v = true ∧ (y == debugName) = false ∧ (∀ a b d f, v ≠ .ListComp a b d f) := by
    cases st <;> first | (simp [okS1] at h; done) | skip
    rename_i ts v pos
    cases ts with
    | nil => simp [okS1] at h
    | cons t ts =>
      cases ts with
      | cons _ _ =>
        exfalso
        cases t with
        | Subscript o _ _ => cases o <;> exact absurd h (by simp [okS1])
        | _ => exact absurd h (by simp [okS1])
      | nil =>
        cases t <;> first | (simp [okS1] at h; done) | skip
        rename_i o _ _
        cases o <;> first | (simp [okS1] at h; done) | skip
        simp only [okS1, Bool.and_eq_true, Bool.not_eq_true'] at h
        obtain ⟨⟨⟨⟨⟨h1, h2⟩, h3⟩, h4⟩, h5⟩, h6⟩ := h
        exact ⟨_, _, _, _, _, _, rfl, by simpa using h1, h2, h3, h4, h5, fun a b d f e => by subst e; cases h6⟩
  obtain ⟨y, py, iv, q, v, pos, rfl, rfl, h2, h3, h4, h5, h6⟩ := inv
  simp only [ex, Option.bind_eq_some_iff] at hp
  obtain ⟨r, hr, kr, hkr, hp⟩ := hp
  split at hp
  · rename_i xs ki x hg
    split at hp
    · rename_i hsz
      cases hp
      refine wpAny_Assign_Subscript (((all_ok (Φ := Φ) (prog := prog) (w := w) G hA e).1.pe c v ρ env s _ h4 (f.cok X) hr).use fun u s₁ k₁ r₁ _ => ?_) (swaps_not h4 h6)
      have f₁ := f.keeps k₁
      obtain ⟨ov, n1, n2, n3, _⟩ := f₁.name (A := A) (p := py) X h2 h5 hg
      obtain ⟨a, vs, rfl, hpl, pr, hl⟩ := n2
      have hda := n3 rfl a rfl
      refine n1 _ _ (((all_ok (Φ := Φ) (prog := prog) (w := w) G hA k).1.pe c iv ρ env s₁ _ h3 (f₁.cok X) hkr).use fun kv s₂ k₂ r₂ _ => ?_)
      obtain ⟨t, rfl⟩ := r₂
      have hpl₂ : s₂.heap.PlainList a vs.toArray := by obtain ⟨k, e⟩ := hpl; exact ⟨k, keeps_sub k₂ _ _ e⟩
      have hlen := pr.length
      rw [sizeLine_eq] at hl
      refine setItem_plain hpl₂ hsz.1 (by omega) (by simp; omega) fun h' hp' hs => ?_
      have f₂ := f₁.keeps k₂
      have key := f₂.change X (isName_spec h2) (ys := xs.set ki.toNat x) (us := vs.set ki.toNat u) (tk := s₂.toks) hda hs (by simpa using hp') (paired_set pr r₁ _) (by rw [sizeLine_eq]; simpa using hl) hg
      exact ⟨rfl, d, key.1, (Kp.keeps (keeps_trans k₁ k₂)).trans key.2 (DOk.refl s d), DOk.refl s d⟩
    · cases hp
  · cases hp
end
end Mine
end
section
open PySem PySem.Calls
set_option maxRecDepth 100000
namespace Mine
section
variable {prog : Program} {w : World} {mg mb : Str → Option Value} {H₀ : Heap} {n : Nat} {Φ : Nat → List PV → Option PV} {A : Around}

theorem wpAny_bindName' {M : Model} {A : Around} {E : Value → Shared → Prop} {s : Shared} {env : Env} {x : Str} {v : Value} {Q : Unit → Shared → Prop} (h : wpAny M A (storeName env x v) Q E s) : wpAny M A (bindName env x v) Q E s := wpAny_bindName h

/-- two stores of atoms, one after the other -/
theorem sto2 {c : Cx} {ρ : Store} {env : Env} {s₀ s s₁ : Shared} {i j : Nat} {x y : Str} {u v : Value} {a b : At} {Q : Unit → Shared → Prop} {E : Value → Shared → Prop} (X : Fix prog w mg H₀ n Φ c env s₀) (f : FI c ρ env none s₀ none s) (k : Keeps s s₁)
    (hi : isName c i x = true) (hj : isName c j y = true) (hu : RepA u a) (hv : RepA v b)
    (hQ : ∀ s', FI c (set (set ρ i (.a a)) j (.a b)) env none s₀ none s' → Kp env none s s' → Q () s') :
    wpAny (model prog w) A (storeName env x u) (fun _ s₂ => wpAny (model prog w) A (storeName env y v) Q E s₂) E s₁ := by
  have nd : ∀ (d : Option Addr) (i : Nat) (v : Value), newD none i d v = d := fun d i v => by unfold newD; rw [if_neg (fun h => nomatch h)]
  refine wpAny_mono (f.store X k (isName_spec hi) (r := .a a) hu fun h => absurd rfl h) (fun _ s₂ h => ?_) fun _ _ f => f
  obtain ⟨f₂, k₂, _⟩ := h
  rw [nd] at f₂
  refine wpAny_mono (f₂.store X (keeps_refl s₂) (isName_spec hj) (r := .a b) hv fun h => absurd rfl h) (fun _ s₃ h => ?_) fun _ _ f => f
  obtain ⟨f₃, k₃, _⟩ := h
  rw [nd] at f₃
  exact hQ s₃ f₃ (k₂.trans k₃ (DOk.refl _ _))
theorem set_comm : ∀ {ρ : Store} {i j : Nat} {u v : PV}, i ≠ j → set (set ρ i u) j v = set (set ρ j v) i u
  | [], _, _, _, _, _ => rfl
  | _ :: _, 0, 0, _, _, h => absurd rfl h
  | _ :: _, 0, _ + 1, _, _, _ => rfl
  | _ :: _, _ + 1, 0, _, _, _ => rfl
  | _ :: r, i + 1, j + 1, _, _, h => by simp only [set]; rw [set_comm (by omega)]

theorem Assign_swapped {targets : List Expr} {value : Expr} {pos : Pos} {env : Env} {names : List Str} {s : Shared} {Q : Flow → Shared → Prop} {E : Value → Shared → Prop}
    (h : wpAny (model prog w) A (eval value env) (fun v s₁ => wpAny (model prog w) A (unpackItems v names.length none) (fun items s₂ => wpAny (model prog w) A (assignInOrder (names.reverse.map fun n => bindName env n) items.reverse) (fun _ => Q .next) E s₂) E s₁) E s)
    (hs : swapsWithSole targets value pos.line env = pure false) (hw : swappedStores targets value env = pure (some names)) :
    wpAny (model prog w) A (exec (.Assign targets value pos) env) Q E s := by
  rw [exec_Assign_arm]
  refine wpAny_bind (wpAny_standAt ?_)
  rw [hs]
  refine wpAny_bind (wpAny_pure ?_)
  rw [if_neg (by decide)]
  refine wpAny_bind (wpAny_mono h (fun v s₁ h₁ => ?_) fun _ _ x => x)
  rw [hw]
  refine wpAny_bind (wpAny_pure ?_)
  show wpAny _ A (rule "assign.swapped-stores" >>= fun _ => unpackItems v names.length none >>= fun items => assignInOrder (names.reverse.map fun n => bindName env n) items.reverse >>= fun _ => pure .next) Q E s₁
  exact wpAny_bind (wpAny_rule (wpAny_bind (wpAny_mono h₁ (fun items s₂ h₂ => wpAny_bind (wpAny_mono h₂ (fun _ s₃ h₃ => wpAny_pure h₃) fun _ _ x => x)) fun _ _ x => x)))

theorem swapped_none {c : Cx} {e : E} {v : Expr} {x y : Str} {p1 p2 : Pos} {q1 q2} {env : Env} (h : folded2 v = true) (ok : okE c e v = true) (hb : env.blockKind = .function) :
    swappedStores [.Tuple [.Name x p1, .Name y p2] q1 q2] v env = pure none := by
  cases v <;> first | rfl | skip
  rename_i es _ _
  cases es with
  | nil => simp [folded2] at h
  | cons a es =>
    cases es with
    | nil => simp [folded2] at h
    | cons b es =>
      cases es with
      | cons _ _ => simp [folded2] at h
      | nil =>
        cases e <;> first | (simp [okE] at ok; done) | skip
        rename_i args
        simp only [okE] at ok
        cases args <;> first | (simp [okEs] at ok; done) | skip
        rename_i e1 r1
        simp only [okEs, Bool.and_eq_true] at ok
        obtain ⟨o1, ok⟩ := ok
        cases r1 <;> first | (simp [okEs] at ok; done) | skip
        rename_i e2 r2
        simp only [okEs, Bool.and_eq_true] at ok
        obtain ⟨o2, _⟩ := ok
        simp only [folded2, Bool.and_eq_true] at h
        simp [swappedStores, hb, h.1, h.2]
theorem swapped_some {c : Cx} {e : E} {v : Expr} {x y : Str} {p1 p2 : Pos} {q1 q2} {env : Env} (h : swap2 c x y p1 p2 v = true) (ok : okE c e v = true) (hb : env.blockKind = .function) (hk : ∀ z, env.kindOf z = c.kinds.lookup z) :
    swappedStores [.Tuple [.Name x p1, .Name y p2] q1 q2] v env = pure (some [x, y]) := by
  cases v <;> first | (simp [swap2] at h; done) | skip
  rename_i es _ _
  cases es with
  | nil => simp [swap2] at h
  | cons a es =>
    cases es with
    | nil => simp [swap2] at h
    | cons b es =>
      cases es with
      | cons _ _ => simp [swap2] at h
      | nil =>
        cases e <;> first | (simp [okE] at ok; done) | skip
        rename_i args
        simp only [okE] at ok
        cases args <;> first | (simp [okEs] at ok; done) | skip
        rename_i e1 r1
        simp only [okEs, Bool.and_eq_true] at ok
        obtain ⟨o1, ok⟩ := ok
        cases r1 <;> first | (simp [okEs] at ok; done) | skip
        rename_i e2 r2
        simp only [okEs, Bool.and_eq_true] at ok
        obtain ⟨o2, _⟩ := ok
        have n1 := okE_noStar o1
        have n2 := okE_noStar o2
        simp only [swap2, Bool.and_eq_true, Bool.not_eq_true', beq_iff_eq, beq_eq_false_iff_ne] at h
        obtain ⟨⟨⟨⟨⟨h1, h2⟩, h3⟩, h4⟩, h5⟩, h6⟩ := h
        have hx := (hk x).trans h1
        have hy := (hk y).trans h2
        unfold swappedStores
        have hl : (Expr.Name x p1).pos.line = p2.line := h3
        have hl1 : p1.line = (Expr.Name x p1).pos.line := rfl
        have hd : [x, y].eraseDups.length = 2 := by simp [List.eraseDups_cons, Ne.symm h4]
        have h5' : ¬ (foldedForSure 8 a = true ∧ foldedForSure 8 b = true) := by simpa using h5
        have h6' : ¬ (constantsAlone 8 a = true ∧ constantsAlone 8 b = true) := by simpa using h6
        simp [hb, h5', h6']
        simp only [List.filterMap_cons, hx, hy, List.filterMap_nil, hl, h3, and_self, if_true, hd]
        simp

theorem all_assign2 (G : Gd mg mb H₀) (hA : AOk n A) {i j : Nat} {e : E} : AllS prog w mg H₀ n Φ A (.assign2 i j e) := by
  refine ⟨?_, not_many fun c D xs => by cases xs <;> rfl⟩
  intro c D st ρ env s₀ d s p h X f hp
  have inv : ∃ x p1 y p2 q1 q2 v pos, st = .Assign [.Tuple [.Name x p1, .Name y p2] q1 q2] v pos ∧ D = none ∧ i ≠ j ∧ isName c i x = true ∧ isName c j y = true ∧ okE c e v = true ∧ (folded2 v || swap2 c x y p1 p2 v) = true := by
    unfold okS1 at h
    split at h <;> first | (cases h; done) | skip
    all_goals first | (rename_i hs; cases hs; done) | skip
    rename_i hs
    cases hs
    simp only [Bool.and_eq_true, Bool.not_eq_true', beq_iff_eq, beq_eq_false_iff_ne] at h
    obtain ⟨⟨⟨⟨⟨h1, h2⟩, h3⟩, h4⟩, h5⟩, h6⟩ := h
    exact ⟨_, _, _, _, _, _, _, _, rfl, h1, h2, h3, h4, h5, h6⟩
  obtain ⟨x, p1, y, p2, q1, q2, v, pos, rfl, rfl, hij, h1, h2, h3, h4⟩ := inv
  have hd := f.dn rfl
  subst hd
  simp only [ex, Option.bind_eq_some_iff] at hp
  obtain ⟨r, hr, hp⟩ := hp
  split at hp
  · rename_i a b
    cases hp
    have hb : env.blockKind = .function := by unfold Env.blockKind; rw [X.eo.kind]; rfl
    have hk : ∀ z, env.kindOf z = c.kinds.lookup z := fun z => by unfold Env.kindOf; rw [X.eo.names]
    have hsw : swapsWithSole [.Tuple [.Name x p1, .Name y p2] q1 q2] v pos.line env = pure false := by
      cases v <;> rfl
    have post : ∀ s', FI c (set (set ρ i (.a a)) j (.a b)) env none s₀ none s' → Kp env none s s' → Post c env none s₀ none s (.next, set (set ρ i (.a a)) j (.a b)) .next s' := fun s' f' k' => ⟨rfl, none, f', k', DOk.refl _ _⟩
    have val : ∀ {u : Value} {s₁ : Shared}, Rep s₁.heap u (.tup [a, b]) → ∃ t va vb, u = .ref t ∧ s₁.heap.IsTuple t #[va, vb] ∧ RepA va a ∧ RepA vb b := by
      rintro u s₁ ⟨t, vs, rfl, hp, pr, _⟩
      cases pr with
      | cons f1 r1 =>
        cases r1 with
        | cons f2 r2 =>
          cases r2
          exact ⟨t, _, _, rfl, tup_isTuple hp, f1, f2⟩
    have kext : ∀ {s₁ : Shared} {h' : Heap}, Heap.ExtBut s₁.heap.objs.size s₁.heap h' → Keeps s₁ { s₁ with heap := h' } := fun {s₁ h'} he => ⟨h', s₁.toks, rfl, fun b o e => he b o (Nat.ne_of_lt (Heap.lt_size e)) e⟩
    simp only [Bool.or_eq_true] at h4
    rcases h4 with h4 | h4
    · refine wpAny_Assign_stores (((all_ok (Φ := Φ) (prog := prog) (w := w) G hA e).1.pe c v ρ env s _ h3 (f.cok X) hr).use fun u s₁ k₁ r₁ _ => ?_) hsw (swapped_none h4 h3 hb)
      obtain ⟨t, va, vb, rfl, ht, ra, rb⟩ := val r₁
      show wpAny _ A (assign (.Tuple [.Name x p1, .Name y p2] q1 q2) env (.ref t)) _ _ _
      refine wpAny_assign_Tuple hA.handled ht rfl rfl fun h' he => ?_
      show wpAny _ A (do holding [vb] (assign (.Name x p1) env va); do holding [] (assign (.Name y p2) env vb); pure ()) _ _ _
      refine wpAny_bind (wpAny_holding (wpAny_assign_Name (wpAny_mono (sto2 (Q := fun _ => Post c env none s₀ none s (.next, set (set ρ i (.a a)) j (.a b)) .next) X f (keeps_trans k₁ (kext he)) h1 h2 ra rb post) (fun _ s₂ h => ?_) fun _ _ f => f)))
      exact wpAny_bind (wpAny_holding (wpAny_assign_Name (wpAny_mono h (fun _ s₃ h => wpAny_pure h) fun _ _ f => f)))
    · refine Assign_swapped (names := [x, y]) (((all_ok (Φ := Φ) (prog := prog) (w := w) G hA e).1.pe c v ρ env s _ h3 (f.cok X) hr).use fun u s₁ k₁ r₁ _ => ?_) hsw (swapped_some h4 h3 hb hk)
      obtain ⟨t, va, vb, rfl, ht, ra, rb⟩ := val r₁
      rw [show ([x, y] : List Str).length = (#[va, vb] : Array Value).size from rfl]
      refine wpAny_unpackItems_tuple hA.handled ht fun h' he => ?_
      have e1 : ([x, y] : List Str).reverse.map (fun n => bindName env n) = [bindName env y, bindName env x] := rfl
      have e2 : (#[va, vb] : Array Value).toList.reverse = [vb, va] := rfl
      rw [e1, e2]
      simp only [assignInOrder]
      rw [set_comm hij]
      rw [set_comm hij] at post
      refine wpAny_bind (wpAny_holding (wpAny_bindName' (wpAny_mono (sto2 (Q := fun _ => Post c env none s₀ none s (.next, set (set ρ j (.a b)) i (.a a)) .next) X f (keeps_trans k₁ (kext he)) h2 h1 rb ra post) (fun _ s₂ h => ?_) fun _ _ f => f)))
      exact wpAny_bind (wpAny_holding (wpAny_bindName' (wpAny_mono h (fun _ s₃ h => wpAny_pure h) fun _ _ f => f)))
  · cases hp
end
end Mine
end
section
open PySem PySem.Calls
set_option maxRecDepth 100000
namespace Mine
section
variable {prog : Program} {w : World} {mg mb : Str → Option Value} {H₀ : Heap} {n : Nat} {Φ : Nat → List PV → Option PV} {A : Around}

structure Apart (env : Env) (d : Option Addr) (b : Addr) : Prop where
  loc : b ≠ env.locals
  cel : ∀ x a, env.cells.lookup x = some a → b ≠ a
  lst : d ≠ some b
theorem Apart.next {env : Env} {d d' : Option Addr} {b : Addr} {s : Shared} {o : Obj} (x : Apart env d b) (h : DOk s d d') (hb : s.heap.get? b = some o) : Apart env d' b :=
  ⟨x.loc, x.cel, by
    rcases h with rfl | h
    · exact x.lst
    · intro q; have := h b q; rw [hb] at this; cases this⟩
theorem FI.live {c : Cx} {ρ : Store} {env : Env} {D : Option Nat} {s₀ s : Shared} {d : Option Addr} (f : FI c ρ env D s₀ d s) : (∃ o, s.heap.get? env.locals = some o) ∧ (∀ x a, env.cells.lookup x = some a → ∃ o, s.heap.get? a = some o) ∧ ∀ a, d = some a → ∃ o, s.heap.get? a = some o := by
  obtain ⟨⟨m, cm, ic, hv⟩, dd, _⟩ := f
  refine ⟨?_, fun x a h => ?_, fun a h => ?_⟩
  · obtain ⟨o, _, _, ho, _⟩ := ic.toInCall.ns; exact ⟨o, ho⟩
  · obtain ⟨o, ho, _⟩ := ic.cell x a h; exact ⟨o, ho⟩
  · obtain ⟨_, o, _, _, ho, _⟩ := dd a h; exact ⟨o, ho⟩
theorem FI.apart_new {c : Cx} {ρ : Store} {env : Env} {D : Option Nat} {s₀ s : Shared} {d : Option Addr} {b : Addr} (f : FI c ρ env D s₀ d s) (h : s.heap.get? b = none) : Apart env d b := by
  obtain ⟨⟨o, ho⟩, h2, h3⟩ := f.live
  refine ⟨?_, ?_, ?_⟩
  · rintro rfl; rw [ho] at h; cases h
  · rintro x a hx rfl; obtain ⟨o, ho⟩ := h2 x b hx; rw [ho] at h; cases h
  · intro e; obtain ⟨o, ho⟩ := h3 b e; rw [ho] at h; cases h
theorem FI.apart_seq {c : Cx} {ρ : Store} {env : Env} {D : Option Nat} {s₀ s : Shared} {d : Option Addr} {b : Addr} {o : Obj} {its : Array Value} {k : Nat} (f : FI c ρ env D s₀ d s) (h : s.heap.get? b = some o) (hd : o.data = .seq its k) (hl : d ≠ some b) : Apart env d b := by
  obtain ⟨⟨m, cm, ic, hv⟩, dd, _⟩ := f
  obtain ⟨h1, h2⟩ := seq_apart ic h hd
  exact ⟨h1, h2, hl⟩

/-- a change of objects that are no one's -/
theorem FI.shift {c : Cx} {ρ : Store} {env : Env} {D : Option Nat} {s₀ s : Shared} {d : Option Addr} {ws : List Addr} {h' : Heap} {tk : Nat} (f : FI c ρ env D s₀ d s) (ha : ∀ b ∈ ws, Apart env d b ∧ s₀.heap.get? b = none ∧ ∀ o its k, s.heap.get? b = some o → o.data ≠ .seq its k)
    (hk : ∀ b o, b ∉ ws → s.heap.get? b = some o → h'.get? b = some o) : FI c ρ env D s₀ d { s with heap := h', toks := tk } := by
  obtain ⟨⟨m, cm, ic, hv⟩, dd, dn⟩ := f
  have seq : ∀ a o its k, s.heap.get? a = some o → o.data = .seq its k → h'.get? a = some o := fun a o its k ho hd => hk a o (fun hm => (ha a hm).2.2 o its k ho hd) ho
  refine ⟨⟨m, cm, ⟨⟨?_, ic.toInCall.ns.at fun o e => hk _ o (fun hm => (ha _ hm).1.loc rfl) e, fun b o e => hk b o (fun hm => ?_) (ic.toInCall.keep b o e), ic.toInCall.fresh⟩, fun z a hc => ?_, ic.apart, ic.above⟩, fun j y r hj hg => ?_⟩, fun a e => ?_, dn⟩
  · obtain ⟨h₁, t₁, e⟩ := ic.toInCall.same
    exact ⟨h', tk, by rw [e]⟩
  · have := (ha b hm).2.1; rw [e] at this; cases this
  · obtain ⟨o, ho, hd⟩ := ic.cell z a hc
    exact ⟨o, hk a o (fun hm => (ha a hm).1.cel z a hc rfl) ho, hd⟩
  · obtain ⟨u, h1, h2, h3⟩ := hv j y r hj hg
    exact ⟨u, h1, h2.keepSeq fun a o its k _ => seq a o its k, h3⟩
  · obtain ⟨h1, o, its, k, ho, hd⟩ := dd a e
    exact ⟨h1, o, its, k, seq a o its k ho hd, hd⟩

/-- the source of a loop -/
theorem src_ok (G : Gd mg mb H₀) (hA : AOk n A) {k : IK} {args : E} {c : Cx} {x : Expr} {ρ : Store} {env : Env} {D : Option Nat} {s₀ s : Shared} {d : Option Addr} {vs : List PV} {items : List At}
    (h : okIt c k args x = true) (hD : itD D k args x = true) (X : Fix prog w mg H₀ n Φ c env s₀) (f : FI c ρ env D s₀ d s) (e : evs Φ args ρ = some vs) (e' : iterItems k vs = some items) :
    wpAny (model prog w) A (eval x env) (fun xv s₁ => wpAny (model prog w) A (pyIter xv) (fun it s₂ => Keeps s s₁ ∧ ItAt prog w s₁ s₂ it xv items ∧ ∀ a, d = some a → xv ≠ .ref a) (fun _ _ => False) s₁) (fun _ _ => False) s := by
  simp only [itD, Bool.or_eq_true, beq_iff_eq] at hD
  have main : (∀ xv, (freshIt k args = true → Fresh s.heap xv) → ∀ a, d = some a → xv ≠ .ref a) → _ := fun hx =>
    wpAny_mono (iter_sound G hA (all_ok (Φ := Φ) (prog := prog) (w := w) G hA args).1 (all_ok (Φ := Φ) (prog := prog) (w := w) G hA args).2 h (f.cok X) e e') (fun xv s₁ h1 =>
      wpAny_mono h1.2.2 (fun it s₂ h2 => (⟨h1.1, h2, hx xv h1.2.1⟩ : Keeps s s₁ ∧ ItAt prog w s₁ s₂ it xv items ∧ ∀ a, d = some a → xv ≠ .ref a)) fun _ _ f => f) fun _ _ (f : False) => (f : False)
  rcases hD with (hD | hD) | hD
  · exact main fun xv _ a ha => by rw [f.dn hD] at ha; cases ha
  · refine main fun xv hf a ha e => ?_
    obtain ⟨_, _, h3⟩ := f.live
    obtain ⟨o, ho⟩ := h3 a ha
    have := hf hD a e
    rw [ho] at this; cases this
  · split at hD
    · rename_i j y p
      simp only [okIt, okE, Bool.and_eq_true, Bool.not_eq_true', beq_iff_eq] at h
      simp only [evs, Option.bind_eq_some_iff, Option.map_eq_some_iff, ev] at e
      obtain ⟨v, hv, w', hw, rfl⟩ := e
      cases hw
      obtain ⟨u, n1, n2, _, n4⟩ := f.name (A := A) (p := p) X (by simpa [isName] using h.1) h.2 hv
      exact n1 _ _ (wpAny_mono (pyIter_sound n2 e') (fun it s₂ h2 => ⟨keeps_refl s, h2, n4 (by simpa using hD)⟩) fun _ _ f => f)
    · cases hD
end
end Mine
end
section
open PySem PySem.Calls
set_option maxRecDepth 100000
namespace Mine
section
variable {prog : Program} {w : World} {mg mb : Str → Option Value} {H₀ : Heap} {n : Nat} {Φ : Nat → List PV → Option PV} {A : Around}

theorem drop_cons {α : Type} {l : List α} {j : Nat} {a : α} (h : l[j]? = some a) : l.drop j = a :: l.drop (j + 1) := by
  obtain ⟨hl, e⟩ := List.getElem?_eq_some_iff.mp h
  rw [List.drop_eq_getElem_cons hl, e]

theorem all_forS (G : Gd mg mb H₀) (hA : AOk n A) {x : Nat} {k : IK} {it : E} {body : S} (hb : AllS prog w mg H₀ n Φ A body) : AllS prog w mg H₀ n Φ A (.forS x k it body) := by
  refine ⟨?_, not_many fun c D xs => by cases xs <;> rfl⟩
  intro c D st ρ env s₀ d s p h X f hp
  have inv : ∃ y py iter body' pos, st = .For (.Name y py) iter body' [] pos ∧ isName c x y = true ∧ D ≠ some x ∧ okIt c k it iter = true ∧ itD D k it iter = true ∧ okSs c D body body' = true := by
    cases st <;> first | (simp [okS1] at h; done) | skip
    rename_i t iter body' orelse pos
    cases t <;> first | (simp [okS1] at h; done) | skip
    cases orelse with
    | cons _ _ => simp [okS1] at h
    | nil =>
      simp only [okS1, Bool.and_eq_true, Bool.not_eq_true', beq_eq_false_iff_ne] at h
      obtain ⟨⟨⟨⟨h1, h2⟩, h3⟩, h4⟩, h5⟩ := h
      exact ⟨_, _, _, _, _, rfl, h1, h2, h3, h4, h5⟩
  obtain ⟨y, py, iter, body', pos, rfl, h1, h2, h3, h4, h5⟩ := inv
  simp only [ex, Option.bind_eq_some_iff] at hp
  obtain ⟨vs, hvs, items, hit, hp⟩ := hp
  refine wpAny_For (wpAny_mono (src_ok G hA h3 h4 X f hvs hit) (fun xv s₁ h => wpAny_mono h (fun it s₂ h => ?_) fun _ _ f => f.elim) fun _ _ f => f.elim) (okIt_folded h3)
  obtain ⟨k₁, ⟨I, fp, St, rfl, hI, k₂, hfp, hl, st0, hdat, W⟩, hxd⟩ := h
  have W := W A hA.handled
  have f₁ := f.keeps k₁
  have f₂ := f₁.keeps k₂
  have aI : Apart env d I := f₁.apart_new hI
  have apart : ∀ b ∈ fp, Apart env d b ∧ ∃ o, s₂.heap.get? b = some o := by
    intro b hbm
    rcases (hfp b hbm).2 with rfl | ⟨rfl, o, its, q, ho, hd⟩
    · obtain ⟨o, ho, _⟩ := hdat 0 _ st0
      exact ⟨aI, o, ho⟩
    · exact ⟨f₁.apart_seq ho hd (fun e => hxd b e rfl), o, keeps_sub k₂ b o ho⟩
  have hI0 : s₀.heap.get? I = none := by
    cases g : s₀.heap.get? I with
    | none => rfl
    | some o => rw [keeps_sub f₁.keep₀ I o g] at hI; cases hI
  have hIs : s.heap.get? I = none := by
    cases g : s.heap.get? I with
    | none => rfl
    | some o => rw [keeps_sub k₁ I o g] at hI; cases hI
  refine codeAny_forLoop_any (fun m s' => ∃ j ρ' d', m + j = items.length + 1 ∧ j ≤ items.length ∧ FI c ρ' env D s₀ d' s' ∧ St j s'.heap ∧ Kp env d s s' ∧ DOk s d d' ∧ (∀ b ∈ fp, Apart env d' b ∧ ∃ o, s'.heap.get? b = some o) ∧ Apart env d' I ∧
    forGo (fun a ρ => ex Φ body (set ρ x (.a a))) (items.drop j) ρ' = some p) ?_ (items.length + 1) ⟨0, ρ, d, by omega, by omega, f₂, st0, Kp.keeps (keeps_trans k₁ k₂), DOk.refl s d, apart, aI, by simpa using hp⟩
  rintro m s' ⟨j, ρ', d', hm, hj, f', st', kp', dk', ap', aI', hgo⟩
  obtain ⟨oI, hoI, hIn⟩ := hdat j _ st'
  have ws : ∀ b ∈ [I], Apart env d' b ∧ s₀.heap.get? b = none ∧ ∀ o its k, s'.heap.get? b = some o → o.data ≠ .seq its k := by
    intro b hbm
    rw [List.mem_singleton.mp hbm]
    exact ⟨aI', hI0, fun o its k ho => by rw [hoI] at ho; cases ho; exact hIn its k⟩
  by_cases hlt : j < items.length
  · refine W.item j s' _ _ hlt st' fun v h' tk hP st₁ hk => ?_
    obtain ⟨a, ha, hr⟩ := hP
    have hd := drop_cons ha
    rw [hd] at hgo
    simp only [forGo, Option.bind_eq_some_iff] at hgo
    obtain ⟨⟨fl, ρ₂⟩, hex, hgo⟩ := hgo
    have f₃ : FI c ρ' env D s₀ d' { s' with heap := h', toks := tk } := f'.shift ws hk
    have k₃ : Kp env d s { s' with heap := h', toks := tk } := ⟨fun b o e a1 a2 a3 => hk b o (by intro q; rw [List.mem_singleton.mp q, hIs] at e; cases e) (kp'.keep b o e a1 a2 a3), fun b o e => by
      obtain ⟨o', e'⟩ := kp'.live b o e
      exact ⟨o', hk b o' (by intro q; rw [List.mem_singleton.mp q, hIs] at e; cases e) e'⟩⟩
    show wpAny _ A (letOwnedTupleGo (.Name y py) (.ref I) v) _ _ _
    refine wpAny_pure (wpAny_assign_Name (wpAny_mono (f₃.store (E := fun _ _ => False) X (keeps_refl _) (isName_spec h1) (r := .a a) hr fun _ => fresh_atom hr) (fun _ s₄ h => ?_) fun _ _ f => f.elim))
    obtain ⟨f₄, k₄, dk₄⟩ := h
    have nd : newD D x d' v = d' := by unfold newD; rw [if_neg h2]
    rw [nd] at f₄
    refine wpAny_mono (hb.many c D body' (set ρ' x (.a a)) env s₀ d' s₄ _ h5 X f₄ hex) (fun fw s₅ h => ?_) fun _ _ f => f.elim
    cases fl with
    | ret r =>
      cases hgo
      obtain ⟨u, rfl, h⟩ := h
      exact ⟨u, rfl, h⟩
    | next =>
      obtain ⟨rfl, d₅, f₅, k₅, dk₅⟩ := h
      have k₆ := k₄.trans k₅ (DOk.refl _ _)
      have live : ∀ b ∈ fp, ∃ o, h'.get? b = some o := fun b hbm => by
        by_cases hbI : b = I
        · subst hbI; obtain ⟨o, ho, _⟩ := hdat _ _ st₁; exact ⟨o, ho⟩
        · obtain ⟨_, o, ho⟩ := ap' b hbm
          exact ⟨o, hk b o (by simpa using hbI) ho⟩
      have dk₆ : DOk { s' with heap := h', toks := tk } d' d₅ := (DOk.refl _ d').trans dk₅ k₄.live
      obtain ⟨oI', hoI', _⟩ := hdat _ _ st₁
      refine ⟨m - 1, by omega, j + 1, ρ₂, d₅, by omega, by omega, f₅, W.frame _ _ _ st₁ fun b hbm o ho => ?_, k₃.trans k₆ dk', dk'.trans dk₅ fun b o e => ?_, fun b hbm => ?_, aI'.next dk₆ (s := { s' with heap := h', toks := tk }) hoI', hgo⟩
      · obtain ⟨a1, _⟩ := ap' b hbm
        exact k₆.keep b o ho a1.loc a1.cel a1.lst
      · obtain ⟨o', e'⟩ := k₃.live b o e
        exact k₄.live b o' e'
      · obtain ⟨o, ho⟩ := live b hbm
        exact ⟨(ap' b hbm).1.next dk₆ (s := { s' with heap := h', toks := tk }) ho, k₆.live b o ho⟩
  · have hj' : j = items.length := by omega
    subst hj'
    refine W.done s' _ _ st' fun h' tk hk => wpAny_execs_nil ?_
    rw [List.drop_length] at hgo
    cases hgo
    refine ⟨rfl, d', f'.shift ws hk, ⟨fun b o e a1 a2 a3 => hk b o (by intro q; rw [List.mem_singleton.mp q, hIs] at e; cases e) (kp'.keep b o e a1 a2 a3), fun b o e => ?_⟩, dk'⟩
    obtain ⟨o', e'⟩ := kp'.live b o e
    exact ⟨o', hk b o' (by intro q; rw [List.mem_singleton.mp q, hIs] at e; cases e) e'⟩

theorem all_whileS (G : Gd mg mb H₀) (hA : AOk n A) {q : Nat} {e : E} {body : S} (hb : AllS prog w mg H₀ n Φ A body) : AllS prog w mg H₀ n Φ A (.whileS q e body) := by
  refine ⟨?_, not_many fun c D xs => by cases xs <;> rfl⟩
  intro c D st ρ env s₀ d s p h X f hp
  have inv : ∃ test body' pos, st = .While test body' [] pos ∧ okE c e test = true ∧ okSs c D body body' = true := by
    cases st <;> first | (simp [okS1] at h; done) | skip
    rename_i test body' orelse pos
    cases orelse with
    | cons _ _ => simp [okS1] at h
    | nil =>
      simp only [okS1, Bool.and_eq_true] at h
      exact ⟨_, _, _, rfl, h.1, h.2⟩
  obtain ⟨test, body', pos, rfl, h1, h2⟩ := inv
  simp only [ex] at hp
  refine wpAny_While (codeAny_whileLoop (fun m s' => ∃ ρ' d', FI c ρ' env D s₀ d' s' ∧ Kp env d s s' ∧ DOk s d d' ∧ whileGo (fun ρ => (ev Φ e ρ).bind truth) (fun ρ => ex Φ body ρ) m ρ' = some p) ?_ q ⟨ρ, d, f, Kp.refl s, DOk.refl s d, hp⟩)
  rintro m s' ⟨ρ', d', f', kp', dk', hgo⟩
  cases m with
  | zero => cases hgo
  | succ m =>
    simp only [whileGo] at hgo
    rw [Option.bind_eq_some_iff] at hgo
    obtain ⟨b, hbv, hgo⟩ := hgo
    refine wpAny_mono ((all_ok (Φ := Φ) (prog := prog) (w := w) G hA e).1.pt c test ρ' env s' b h1 (f'.cok X) (truth_eq hbv)) (fun b' s₁ h => ?_) fun _ _ f => f.elim
    obtain ⟨rfl, k₁⟩ := h
    have f₁ := f'.keeps k₁
    have kp₁ := kp'.trans (Kp.keeps (env := env) (d := d') k₁) dk'
    cases b' with
    | false =>
      rw [if_neg (by decide)] at hgo ⊢
      cases hgo
      exact wpAny_execs_nil ⟨rfl, d', f₁, kp₁, dk'⟩
    | true =>
      rw [if_pos rfl] at hgo ⊢
      rw [Option.bind_eq_some_iff] at hgo
      obtain ⟨⟨fl, ρ₂⟩, hex, hgo⟩ := hgo
      refine wpAny_mono (hb.many c D body' ρ' env s₀ d' s₁ _ h2 X f₁ hex) (fun fw s₂ h => ?_) fun _ _ f => f.elim
      cases fl with
      | ret r =>
        cases hgo
        obtain ⟨u, rfl, h⟩ := h
        exact ⟨u, rfl, h⟩
      | next =>
        obtain ⟨rfl, d₂, f₂, k₂, dk₂⟩ := h
        exact ⟨m, Nat.lt_succ_self m, ρ₂, d₂, f₂, kp₁.trans k₂ dk', dk'.trans dk₂ kp₁.live, hgo⟩
end
end Mine
end
section
open PySem PySem.Calls
set_option maxRecDepth 100000
namespace Mine
section
variable {prog : Program} {w : World} {mg mb : Str → Option Value} {H₀ : Heap} {n : Nat} {Φ : Nat → List PV → Option PV} {A : Around}

theorem all_forEnum (G : Gd mg mb H₀) (hA : AOk n A) {i x : Nat} {it : E} {body : S} (hb : AllS prog w mg H₀ n Φ A body) : AllS prog w mg H₀ n Φ A (.forEnum i x it body) := by
  refine ⟨?_, not_many fun c D xs => by cases xs <;> rfl⟩
  intro c D st ρ env s₀ d s p h X f hp
  have inv : ∃ j y1 p1 y2 p2 q1 q2 p3 z p4 p5 body' pos, it = .var j ∧ st = .For (.Tuple [.Name y1 p1, .Name y2 p2] q1 q2) (.Call (.Name enumName p3) [.Name z p4] [] p5) body' [] pos ∧
      isName c i y1 = true ∧ isName c x y2 = true ∧ isName c j z = true ∧ i ≠ x ∧ D ≠ some i ∧ D ≠ some x ∧ D ≠ some j ∧ c.glob enumName = true ∧ (z == debugName) = false ∧ okSs c D body body' = true := by
    unfold okS1 at h
    split at h <;> first | (cases h; done) | skip
    all_goals first | (rename_i hs; cases hs; done) | skip
    rename_i hs
    cases hs
    simp only [Bool.and_eq_true, Bool.not_eq_true', beq_iff_eq, beq_eq_false_iff_ne] at h
    obtain ⟨⟨⟨⟨⟨⟨⟨⟨⟨⟨h1, h2⟩, h3⟩, h4⟩, h5⟩, h6⟩, h7⟩, h8⟩, h9⟩, h10⟩, h11⟩ := h
    subst h8
    exact ⟨_, _, _, _, _, _, _, _, _, _, _, _, _, rfl, rfl, h1, h2, h3, h4, h5, h6, h7, h9, by rw [beq_eq_false_iff_ne]; exact h10, h11⟩
  obtain ⟨j, y1, p1, y2, p2, q1, q2, p3, z, p4, p5, body', pos, rfl, rfl, h1, h2, h3, hix, hDi, hDx, hDj, hg, hz, hbody⟩ := inv
  simp only [ex, Option.bind_eq_some_iff, ev] at hp
  obtain ⟨lv, hlv, hp⟩ := hp
  split at hp
  · rename_i xs
    obtain ⟨lval, n1, n2, _, n4⟩ := f.name (A := A) (p := p4) X h3 hz hlv
    obtain ⟨l, vs, rfl, hpl, pr, hl⟩ := n2
    have hld := n4 hDj
    have hne : enumName ≠ "__name__" := by decide
    have hdb : (enumName == ("__debug__" : Str)) = false := by decide
    have base := X.base.trans (keeps_sub f.keep₀)
    refine wpAny_For (wpAny_Call_NameR (Calls.Name_function_global X.eo.kind (glob_kind X.eo hg) (Calls.loadGlobal_builtin (v := .type "enumerate") (by rw [X.eo.globals]; exact G.g.keeps base) (G.nob _ (by simp [usedNames, enumName])) (by rw [X.eo.builtins]; exact G.b.keeps base)
      (by rw [G.bi _ hne]; exact PyProof.Rows.boot_enumerate) ?_) hdb))
    refine PySem.callWith_type rfl (Calls.evalArgs_plain (Calls.spliced_cons (n1 _ _ (Calls.spliced_nil ?_))))
    refine call_enumerate_list (plain_isList hpl) fun h' he hit hsz hk => ?_
    refine wpAny_pyIter_enum he ?_
    generalize hie : s.heap.objs.size = I at he hit hsz ⊢
    have hIs : s.heap.get? I = none := by rw [← hie]; exact size_none _
    have hEs : s.heap.get? (I + 1) = none := by rw [← hie]; exact Heap.get?_none_of_le (Nat.le_succ _)
    obtain ⟨kl, hlo⟩ := id hpl
    have hlI : l ≠ I := by rintro rfl; rw [hlo] at hIs; cases hIs
    have hlE : l ≠ I + 1 := by rintro rfl; rw [hlo] at hEs; cases hEs
    have hEI : I + 1 ≠ I := Nat.succ_ne_self _
    have k₀ : Keeps s { s with heap := h' } := ⟨h', s.toks, rfl, hk⟩
    have s0 : ∀ b, s.heap.get? b = none → s₀.heap.get? b = none := fun b hb => by
      cases g : s₀.heap.get? b with
      | none => rfl
      | some o => rw [keeps_sub f.keep₀ b o g] at hb; cases hb
    refine codeAny_forLoop_any (fun m s' => ∃ j ρ' d' old, m + j = xs.length + 1 ∧ j ≤ xs.length ∧ FI c ρ' env D s₀ d' s' ∧ IsEnum s'.heap (I + 1) I ((j : Nat) : Int) old ∧ s'.heap.IsListIter I l j ∧ s'.heap.IsList l vs.toArray ∧ Kp env d s s' ∧ DOk s d d' ∧
      Apart env d' (I + 1) ∧ Apart env d' I ∧ Apart env d' l ∧ enumGo (fun k a ρ => ex Φ body (set (set ρ i (.a (.int k))) x (.a a))) (j : Int) (xs.drop j) ρ' = some p) ?_ (xs.length + 1)
      ⟨0, ρ, d, .none, by omega, by omega, f.keeps k₀, he, hit, (plain_isList hpl).at fun o e => hk _ o e, Kp.keeps k₀, DOk.refl s d, f.apart_new hEs, f.apart_new hIs, f.apart_seq hlo rfl (fun e => hld l e rfl), by simpa using hp⟩
    rintro m s' ⟨j', ρ', d', old, hm, hj, f', he', hit', hl', kp', dk', aE, aI, aL, hgo⟩
    obtain ⟨oI, hoI, _, hoId⟩ := id hit'
    have ws : ∀ b ∈ [I + 1, I], Apart env d' b ∧ s₀.heap.get? b = none ∧ ∀ o its k, s'.heap.get? b = some o → o.data ≠ .seq its k := by
      intro b hbm
      simp only [List.mem_cons, List.not_mem_nil, or_false] at hbm
      rcases hbm with rfl | rfl
      · exact ⟨aE, s0 _ hEs, fun o its k ho e => by rw [he'] at ho; cases ho; cases e⟩
      · exact ⟨aI, s0 _ hIs, fun o its k ho e => by rw [hoI] at ho; cases ho; rw [hoId] at e; cases e⟩
    have old₀ : ∀ b o, s.heap.get? b = some o → b ≠ I + 1 ∧ b ≠ I := fun b o e => ⟨(by rintro rfl; rw [hEs] at e; cases e), (by rintro rfl; rw [hIs] at e; cases e)⟩
    by_cases hlt : j' < xs.length
    · obtain ⟨a, ha⟩ : ∃ a, xs[j']? = some a := ⟨xs[j'], List.getElem?_eq_getElem hlt⟩
      obtain ⟨v, hv, hr⟩ := paired_get pr ha
      have hd := drop_cons ha
      rw [hd] at hgo
      simp only [enumGo, Option.bind_eq_some_iff] at hgo
      obtain ⟨⟨fl, ρ₂⟩, hex, hgo⟩ := hgo
      refine wpAny_pyNext_enum_item he' hit' hl' (x := v) (by simpa using hv) hEI fun h₁ heo hit₁ ht₁ hz₁ hk₁ => ?_
      refine wpAny_letOwnedTupleGo_enum heo fun h₂ he₂ hs₂ => ?_
      replace hs₂ : Heap.SameBut (I + 1) h₁ h₂ := hs₂
      have hES : I + 1 < s'.heap.objs.size := Heap.lt_size he'
      have ht₂ : h₂.IsTuple s'.heap.objs.size #[.int j' s'.toks, v] := ⟨_, (hs₂.2 _ (Nat.ne_of_gt hES)).trans ht₁, rfl, _, rfl⟩
      have hz₂ : h₂.objs.size = s'.heap.objs.size + 1 := hs₂.1.trans hz₁
      refine wpAny_assign_Tuple hA.handled ht₂ rfl rfl fun h₃ hx₃ => ?_
      replace hx₃ : Heap.ExtBut h₂.objs.size h₂ h₃ := hx₃
      have up₃ : ∀ b o, b < s'.heap.objs.size → h₂.get? b = some o → h₃.get? b = some o := fun b o hb e => hx₃ b o (by rw [hz₂]; exact Nat.ne_of_lt (Nat.lt_succ_of_lt hb)) e
      have hk₃ : ∀ b o, b ∉ [I + 1, I] → s'.heap.get? b = some o → h₃.get? b = some o := fun b o hb e => by
        simp only [List.mem_cons, List.not_mem_nil, or_false, not_or] at hb
        exact up₃ b o (Heap.lt_size e) (hs₂.extBut b o hb.1 (hk₁ b o hb.1 hb.2 e))
      have f₃ : FI c ρ' env D s₀ d' { s' with heap := h₃, toks := s'.toks + 1 } := f'.shift ws hk₃
      have k₃ : Kp env d s { s' with heap := h₃, toks := s'.toks + 1 } := ⟨fun b o e a1 a2 a3 => hk₃ b o (by simpa using old₀ b o e) (kp'.keep b o e a1 a2 a3), fun b o e => by
        obtain ⟨o', e'⟩ := kp'.live b o e
        exact ⟨o', hk₃ b o' (by simpa using old₀ b o e) e'⟩⟩
      show wpAny _ A (do holding [v] (assign (.Name y1 p1) env (.int j' s'.toks)); do holding [] (assign (.Name y2 p2) env v); pure ()) _ _ _
      have nd1 : ∀ v, newD D i d' v = d' := fun v => by unfold newD; rw [if_neg hDi]
      have nd2 : ∀ v, newD D x d' v = d' := fun v => by unfold newD; rw [if_neg hDx]
      refine wpAny_bind (wpAny_holding (wpAny_assign_Name (wpAny_mono (f₃.store (E := fun _ _ => False) X (keeps_refl _) (isName_spec h1) (v := .int j' s'.toks) (r := .a (.int j')) ⟨_, rfl⟩ fun _ => fresh_atom (x := .int j') ⟨_, rfl⟩) (fun _ s₄ h => ?_) fun _ _ f => f.elim)))
      obtain ⟨f₄, k₄, _⟩ := h
      rw [nd1] at f₄
      refine wpAny_bind (wpAny_holding (wpAny_assign_Name (wpAny_mono (f₄.store (E := fun _ _ => False) X (keeps_refl _) (isName_spec h2) (v := v) (r := .a a) hr fun _ => fresh_atom hr) (fun _ s₅ h => wpAny_pure ?_) fun _ _ f => f.elim)))
      obtain ⟨f₅, k₅, _⟩ := h
      rw [nd2] at f₅
      have k₄₅ := k₄.trans k₅ (DOk.refl _ _)
      refine wpAny_mono (hb.many c D body' _ env s₀ d' s₅ _ hbody X f₅ hex) (fun fw s₆ h => ?_) fun _ _ f => f.elim
      cases fl with
      | ret r =>
        cases hgo
        obtain ⟨u, rfl, h⟩ := h
        exact ⟨u, rfl, h⟩
      | next =>
        obtain ⟨rfl, d₆, f₆, k₆, dk₆⟩ := h
        have k₇ := k₄₅.trans k₆ (DOk.refl _ _)
        have dk₇ : DOk { s' with heap := h₃, toks := s'.toks + 1 } d' d₆ := (DOk.refl _ d').trans dk₆ k₄₅.live
        have heF : h₃.get? (I + 1) = _ := up₃ _ _ hES he₂
        have hIF : ∃ o, h₃.get? I = some o ∧ o.cls = .type "list_iterator" ∧ o.data = .fields #[.ref l, .int ((j' + 1 : Nat) : Int) 0] := by
          obtain ⟨o, ho, hc⟩ := hit₁
          exact ⟨o, up₃ _ o (Heap.lt_size hoI) (hs₂.extBut I o (Ne.symm hEI) ho), hc⟩
        have hLF : ∃ o, h₃.get? l = some o ∧ o.cls = .type "list" ∧ ∃ k, o.data = .seq vs.toArray k := by
          obtain ⟨o, ho, hc⟩ := hl'
          exact ⟨o, hk₃ l o (by simp [hlE, hlI]) ho, hc⟩
        obtain ⟨oI', hI1, hI2⟩ := hIF
        obtain ⟨oL', hL1, hL2⟩ := hLF
        have e1 : ((j' : Int) + 1) = ((j' + 1 : Nat) : Int) := by push_cast; rfl
        refine ⟨m - 1, by omega, j' + 1, ρ₂, d₆, v, by omega, by omega, f₆, ?_, ⟨oI', k₇.keep _ _ hI1 aI.loc aI.cel aI.lst, hI2⟩, ⟨oL', k₇.keep _ _ hL1 aL.loc aL.cel aL.lst, hL2⟩, k₃.trans k₇ dk', dk'.trans dk₇ k₃.live,
          aE.next dk₇ (s := { s' with heap := h₃, toks := s'.toks + 1 }) heF, aI.next dk₇ (s := { s' with heap := h₃, toks := s'.toks + 1 }) hI1, aL.next dk₇ (s := { s' with heap := h₃, toks := s'.toks + 1 }) hL1, ?_⟩
        · rw [← e1]; exact k₇.keep _ _ heF aE.loc aE.cel aE.lst
        · rw [← e1]; exact hgo
    · have hj' : j' = xs.length := by omega
      subst hj'
      have hlen := pr.length
      refine wpAny_pyNext_enum_end hA.handled he' hit' hl' (by simp [hlen]) fun h₁ hx => wpAny_execs_nil ?_
      rw [List.drop_length] at hgo
      cases hgo
      have hk₁ : ∀ b o, b ∉ [I + 1, I] → s'.heap.get? b = some o → h₁.get? b = some o := fun b o hb e => by
        simp only [List.mem_cons, List.not_mem_nil, or_false, not_or] at hb
        exact hx b o hb.2 e
      refine ⟨rfl, d', f'.shift ws hk₁, ⟨fun b o e a1 a2 a3 => hk₁ b o (by simpa using old₀ b o e) (kp'.keep b o e a1 a2 a3), fun b o e => ?_⟩, dk'⟩
      obtain ⟨o', e'⟩ := kp'.live b o e
      exact ⟨o', hk₁ b o' (by simpa using old₀ b o e) e'⟩
  · cases hp
end
end Mine
end
section
open PySem PySem.Calls
set_option maxRecDepth 100000
namespace Mine
section
variable {prog : Program} {w : World} {mg mb : Str → Option Value} {H₀ : Heap} {n : Nat} {Φ : Nat → List PV → Option PV} {A : Around}

theorem alls_ok (G : Gd mg mb H₀) (hA : AOk n A) : ∀ st : S, AllS prog w mg H₀ n Φ A st := by
  intro st
  induction st with
  | nil => exact all_nilS
  | seq h t hh ht => exact all_seq hh ht
  | assign i e => exact all_assign G hA
  | assign2 i j e => exact all_assign2 G hA
  | ret e => exact all_ret G hA
  | retD i => exact all_retD
  | freeze t ht => exact all_freeze ht
  | ite c t f ht hf => exact all_iteS G hA ht hf
  | forS x k it body hb => exact all_forS G hA hb
  | forEnum i x it body hb => exact all_forEnum G hA hb
  | whileS n c body hb => exact all_whileS G hA hb
  | append x e => exact all_append G hA
  | setItem x i e => exact all_setItem G hA
  | raiseS => exact all_raise

theorem FnOk.mono {n m : Nat} {name : Str} {F : List PV → Option PV} (x : FnOk prog w mg H₀ n name F) (h : n ≤ m) : FnOk prog w mg H₀ m name F := by
  obtain ⟨a, o, fd, h1, h2, h3, h4⟩ := x
  exact ⟨a, o, fd, h1, h2, h3, fun A s vals args r hA => h4 A s vals args r (hA.mono h)⟩

theorem call_cells {s : Shared} {R : Result → Shared → Prop} {a : Addr} {o : Obj} {fd : FuncData} {body : List Stmt} {vals : List Value} {binds : List (Str × Value)}
    (hroom : A.depth < recursionLimit) (ho : s.heap.get? a = some o) (hdata : o.data = .func fd) (hlim : s.heap.NoLimit) (hcd : s.heap.CodeRec fd.code fd.qualname)
    (hbody : fd.body = .stmts body) (hbind : BindsTo s fd ⟨vals, []⟩ binds) (hclo : fd.closure = [])
    (hkind : ∀ x ∈ binds, fd.scope.names.lookup x.1 = some .local ∨ (fd.scope.names.lookup x.1 = some .cell ∧ ((cellsFrom (s.heap.objs.size + 1) fd.scope.names []).lookup x.1).isSome = true))
    (h : ∀ s₁, InCallC s (callEnvC fd s.heap.objs.size a).locals (bindL (callEnvC fd s.heap.objs.size a).kindOf binds fun _ => none) (callEnvC fd s.heap.objs.size a).cells
        (bindC (callEnvC fd s.heap.objs.size a).kindOf binds fun _ => none) s₁ →
      wpAny (model prog w) (A.deeper (callEnvC fd s.heap.objs.size a)) (execs body (callEnvC fd s.heap.objs.size a)) (fun f s' => R (.ok (.ret (match f with | .ret v => v | _ => .none))) s')
        (fun e s' => wpAny (model prog w) (A.deeper (callEnvC fd s.heap.objs.size a)) (leaving (callEnvC fd s.heap.objs.size a) e) (fun _ s'' => R (.error e) s'') (fun e' s'' => R (.error e') s'') s') s₁)
    (hco : fd.scope.isCoroutine = false) (hgen : fd.scope.isGenerator = false) (hk : fd.scope.kind = .function) :
    codeAny (model prog w) A (.call (.ref a) ⟨vals, []⟩) R s := by
  refine codeAny_call_function hroom ho hdata hco hgen hbody hcd (hbind _ _ _ _ ?_)
  rw [hclo]
  refine wpAny_newFunctionEnv_cells hk hkind fun env he s' x => ?_
  subst he
  exact ⟨hlim.keeps x.toInCall.keep, codeAny_func (h s' x)⟩

/-! the bound parameters -/
theorem bindL_not {K : Str → Option NameKind} {x : Str} : ∀ {binds : List (Str × Value)} {m : Str → Option Value}, x ∉ binds.map (·.1) → bindL K binds m x = m x
  | [], _, _ => rfl
  | (y, v) :: r, m, h => by
    simp only [List.map_cons, List.mem_cons, not_or] at h
    rw [bindL, bindL_not h.2]
    split
    · simp only [if_neg h.1]
    · rfl
theorem bindC_not {K : Str → Option NameKind} {x : Str} : ∀ {binds : List (Str × Value)} {m : Str → Option Value}, x ∉ binds.map (·.1) → bindC K binds m x = m x
  | [], _, _ => rfl
  | (y, v) :: r, m, h => by
    simp only [List.map_cons, List.mem_cons, not_or] at h
    rw [bindC, bindC_not h.2]
    split
    · rfl
    · simp only [if_neg h.1]
theorem bindL_at {K : Str → Option NameKind} {x : Str} {v : Value} (hk : K x = some .local) : ∀ {binds : List (Str × Value)} {m : Str → Option Value}, (binds.map (·.1)).Nodup → (x, v) ∈ binds → bindL K binds m x = some v
  | (y, u) :: r, m, hn, h => by
    simp only [List.map_cons, List.nodup_cons] at hn
    rw [bindL]
    rcases List.mem_cons.mp h with e | h
    · cases e
      rw [bindL_not hn.1, if_pos hk]; simp
    · exact bindL_at hk hn.2 h
theorem bindC_at {K : Str → Option NameKind} {x : Str} {v : Value} (hk : K x ≠ some .local) : ∀ {binds : List (Str × Value)} {m : Str → Option Value}, (binds.map (·.1)).Nodup → (x, v) ∈ binds → bindC K binds m x = some v
  | (y, u) :: r, m, hn, h => by
    simp only [List.map_cons, List.nodup_cons] at hn
    rw [bindC]
    rcases List.mem_cons.mp h with e | h
    · cases e
      rw [bindC_not hn.1, if_neg hk]; simp
    · exact bindC_at hk hn.2 h

/-- the plan of a def is in order -/
structure PlanOk (c : Cx) (ps : List Str) (D : Option Nat) : Prop where
  top : c.top = true
  par : ∀ (i : Nat) (x : Str), ps[i]? = some x → c.sl[i]? = some (some x)
  nd : ps.Nodup
  uniq : (c.sl.filterMap id).Nodup
  kinds : ∀ x ∈ c.sl.filterMap id, c.kinds.lookup x = some .local ∨ c.kinds.lookup x = some .cell
  D : ∀ i, D = some i → ps.length ≤ i
def planB (c : Cx) (ps : List Str) (D : Option Nat) : Bool :=
  c.top && (c.sl.take ps.length == ps.map some) && decide ((c.sl.filterMap id).Nodup) && decide ps.Nodup && (c.sl.filterMap id).all (fun x => c.kinds.lookup x == some .local || c.kinds.lookup x == some .cell) &&
    (match D with | some i => decide (ps.length ≤ i) | none => true)
theorem planB_spec {c : Cx} {ps : List Str} {D : Option Nat} (h : planB c ps D = true) : PlanOk c ps D := by
  simp only [planB, Bool.and_eq_true, decide_eq_true_eq, List.all_eq_true, Bool.or_eq_true, beq_iff_eq] at h
  obtain ⟨⟨⟨⟨⟨h1, h2⟩, h3⟩, hnd⟩, h4⟩, h5⟩ := h
  refine ⟨h1, fun i x hx => ?_, hnd, h3, h4, fun i e => ?_⟩
  · have hl : i < ps.length := (List.getElem?_eq_some_iff.mp hx).1
    have : (c.sl.take ps.length)[i]? = some (some x) := by rw [h2]; simp [hx]
    rw [List.getElem?_take_of_lt hl] at this
    exact this
  · subst e; simpa using h5
theorem uniq_of {sl : List (Option Str)} (h : (sl.filterMap id).Nodup) : ∀ (i j : Nat) (x : Str), sl[i]? = some (some x) → sl[j]? = some (some x) → i = j := by
  induction sl with
  | nil => intro i j x h; simp at h
  | cons o r ih =>
    intro i j x hi hj
    have mem : ∀ {k : Nat}, r[k]? = some (some x) → x ∈ r.filterMap id := fun {k} hk => List.mem_filterMap.mpr ⟨some x, List.mem_of_getElem? hk, rfl⟩
    cases o with
    | none =>
      simp only [List.filterMap_cons, id] at h
      cases i with
      | zero => simp at hi
      | succ i => cases j with
        | zero => simp at hj
        | succ j => rw [ih h i j x (by simpa using hi) (by simpa using hj)]
    | some y =>
      simp only [List.filterMap_cons, id, List.nodup_cons] at h
      cases i with
      | zero => cases j with
        | zero => rfl
        | succ j =>
          simp at hi hj
          subst hi
          exact absurd (mem hj) h.1
      | succ i => cases j with
        | zero =>
          simp at hi hj
          subst hj
          exact absurd (mem hi) h.1
        | succ j => rw [ih h.2 i j x (by simpa using hi) (by simpa using hj)]

def initS (k : Nat) (args : List PV) : Store := args.map some ++ List.replicate (k - args.length) none
theorem get_init {k : Nat} : ∀ {args : List PV} {i : Nat} {r : PV}, get (initS k args) i = some r → args[i]? = some r := by
  have rep : ∀ (m i : Nat) (r : PV), get (List.replicate m none) i ≠ some r := by
    intro m
    induction m with
    | zero => intro i r h; cases i <;> cases h
    | succ m ih => intro i r h; cases i with
      | zero => cases h
      | succ i => exact ih i r h
  have gen : ∀ (args : List PV) (m i : Nat) (r : PV), get (args.map some ++ List.replicate m none) i = some r → args[i]? = some r := by
    intro args
    induction args with
    | nil => intro m i r h; exact absurd h (rep m i r)
    | cons a t ih => intro m i r h; cases i with
      | zero => simpa [get] using h
      | succ i => simpa using ih m i r h
  intro args i r h
  exact gen _ _ _ _ h

theorem paired_getR {α β : Type} {R : α → β → Prop} {us : List α} {xs : List β} (h : Paired R us xs) : ∀ {i : Nat} {x : β}, xs[i]? = some x → ∃ v, us[i]? = some v ∧ R v x := by
  induction h with
  | nil => intro i x e; simp at e
  | cons f _ ih =>
    intro i x e
    cases i with
    | zero => simp at e; subst e; exact ⟨_, by simp, f⟩
    | succ i => simpa using ih (by simpa using e)

theorem fnOk_of (G : Gd mg mb H₀) {name : Str} {F : List PV → Option PV} {a : Addr} {o : Obj} {fd : FuncData} {body : List Stmt} {c : Cx} {ps : List Str} {D : Option Nat} {st : S}
    (h1 : mg name = some (.ref a)) (h2 : H₀.get? a = some o) (h3 : o.data = .func fd) (h4 : H₀.CodeRec fd.code fd.qualname) (h5 : fd.body = .stmts body) (h6 : fd.closure = [])
    (h7 : fd.globals = mainGlobals) (h8 : fd.builtins = builtinsNs) (h9 : fd.scope.kind = .function) (h10 : fd.scope.names = c.kinds) (h11 : fd.scope.isCoroutine = false) (h12 : fd.scope.isGenerator = false)
    (hp : PlanOk c ps D) (ok : okSs c D st body = true) (fns : ∀ f nm, c.fn f = some nm → FnOk prog w mg H₀ n nm (Φ f))
    (hb : ∀ s vals args r, Sub H₀ s.heap → Paired (fun v x => Rep s.heap v x) vals args → F args = some r →
      ∃ vals' args' ρ', BindsTo s fd ⟨vals, []⟩ (ps.zip vals') ∧ Paired (fun v x => Rep s.heap v x) vals' args' ∧ vals'.length = ps.length ∧ ex Φ st (initS c.sl.length args') = some (.ret r, ρ')) :
    FnOk prog w mg H₀ (n + 1) name F := by
  refine ⟨a, o, fd, h1, h2, h3, fun A s vals args r hA hs hv hr => ?_⟩
  obtain ⟨vals', args', ρ', hbind, hv', hlen, hex⟩ := hb s vals args r hs hv hr
  have hlen' := hv'.length
  have hnames : ((ps.zip vals').map (·.1)) = ps := by
    rw [List.map_fst_zip]; omega
  have slmem : ∀ i x, c.sl[i]? = some (some x) → x ∈ c.sl.filterMap id := fun i x h => List.mem_filterMap.mpr ⟨some x, List.mem_of_getElem? h, rfl⟩
  have psnd : ps.Nodup := hp.nd
  have hkinds : ∀ x, x ∈ c.sl.filterMap id → fd.scope.names.lookup x = some .local ∨ (fd.scope.names.lookup x = some .cell ∧ ((cellsFrom (s.heap.objs.size + 1) fd.scope.names []).lookup x).isSome = true) := fun x hx => by
    rw [h10]
    rcases hp.kinds x hx with h | h
    · exact .inl h
    · exact .inr ⟨h, W.cellsFrom_some _ _ _ (.inl h)⟩
  refine call_cells (A := A) (by have := hA.depth; omega) (hs _ _ h2) h3 (G.nolimit.keeps hs) (h4.keeps hs) h5 hbind h6 (fun x hx => ?_) (fun s₁ ic => ?_) h11 h12 h9
  · have : x.1 ∈ ps := by rw [← hnames]; exact List.mem_map.mpr ⟨x, hx, rfl⟩
    obtain ⟨i, hi⟩ := List.getElem?_of_mem this
    exact hkinds x.1 (slmem i x.1 (hp.par i _ hi))
  · generalize hE : callEnvC fd s.heap.objs.size a = env at ic ⊢
    have eK : ∀ x, env.kindOf x = c.kinds.lookup x := fun x => by rw [← hE, ← h10]; rfl
    have X : Fix prog w mg H₀ n Φ c env s := by
      refine ⟨⟨by rw [← hE]; exact h9, by rw [← hE]; exact h7, by rw [← hE]; exact h8, by rw [← hE]; exact h10, fun _ y hy => ?_⟩, hs, fns, uniq_of hp.uniq, fun i x hx => ?_⟩
      · have := W.cellsFrom_some (x := y) fd.scope.names (s.heap.objs.size + 1) [] (.inl (by rw [h10]; exact hy))
        rw [← hE]
        exact Option.isSome_iff_exists.mp this
      · rcases hkinds x (slmem i x hx) with h | ⟨h, h'⟩
        · exact .inl (by rw [eK, ← h10]; exact h)
        · refine .inr ⟨by rw [eK, ← h10]; exact h, ?_⟩
          rw [← hE]
          exact Option.isSome_iff_exists.mp h'
    have keep₁ : Keeps s s₁ := by
      obtain ⟨h, tk, e, k⟩ := ic.done
      exact ⟨h, tk, e, k⟩
    have f : FI c (initS c.sl.length args') env D s none s₁ := by
      refine ⟨⟨_, _, ic, fun i x r hi hg => ?_⟩, (fun a e => nomatch e), fun _ => rfl⟩
      have hai := get_init hg
      have hil : i < args'.length := (List.getElem?_eq_some_iff.mp hai).1
      have hip : i < ps.length := by omega
      obtain ⟨y, hy⟩ : ∃ y, ps[i]? = some y := ⟨ps[i], List.getElem?_eq_getElem hip⟩
      have hxy : x = y := by
        have := hp.par i y hy
        rw [hi] at this; cases this; rfl
      subst hxy
      obtain ⟨v, hvi, hr⟩ : ∃ v, vals'[i]? = some v ∧ Rep s.heap v r := paired_getR hv' hai
      have hmem : (x, v) ∈ ps.zip vals' := by
        refine List.mem_of_getElem? (i := i) ?_
        rw [List.getElem?_zip_eq_some]
        exact ⟨hy, hvi⟩
      refine ⟨v, ?_, hr.mono (keeps_sub keep₁), fun e => ?_, fun _ _ e => nomatch e⟩
      · rcases X.kinds i x hi with h | ⟨h, ad, had⟩
        · exact .inl ⟨h, bindL_at h (by rw [hnames]; exact psnd) hmem⟩
        · exact .inr ⟨h, ad, had, bindC_at (by rw [h]; decide) (by rw [hnames]; exact psnd) hmem⟩
      · have := hp.D i e
        omega
    refine wpAny_mono ((alls_ok (Φ := Φ) (prog := prog) (w := w) G (hA.deeper (env := env)) st).many c D body _ env s none s₁ _ ok X f hex) (fun fw s₂ h => ?_) fun _ _ f => f.elim
    obtain ⟨v, rfl, k, r, fr⟩ := h
    exact ⟨v, rfl, k, r, fr⟩
end
end Mine
end
section
open PySem PySem.Calls
set_option maxRecDepth 100000
namespace Mine
/-- the names of the defs -/
def fnName : Nat → Option Str
  | 0 => some (Str.ofString "octets_of")
  | 1 => some (Str.ofString "decimal_of")
  | 2 => some (Str.ofString "hex_of")
  | 3 => some (Str.ofString "hex_text")
  | 4 => some (Str.ofString "ip4_of")
  | 5 => some (Str.ofString "ip4_text")
  | 6 => some (Str.ofString "groups_of")
  | 7 => some (Str.ofString "ip6_of")
  | 8 => some (Str.ofString "nought_run")
  | 9 => some (Str.ofString "ip6_text")
  | 10 => some (Str.ofString "mac_of")
  | 11 => some (Str.ofString "mac_text")
  | 12 => some (Str.ofString "mask_of")
  | 13 => some (Str.ofString "prefix_of")
  | 14 => some (Str.ofString "_law_digit")
  | 15 => some (Str.ofString "_law_hex")
  | 16 => some (Str.ofString "_law_text4")
  | 17 => some (Str.ofString "_law_text6")
  | 18 => some (Str.ofString "_law_textmac")
  | 19 => some (Str.ofString "_law_read4")
  | 20 => some (Str.ofString "_law_group")
  | 21 => some (Str.ofString "_law_read6")
  | 22 => some (Str.ofString "_law_readmac")
  | 23 => some (Str.ofString "_law_prefix")
  | 24 => some (Str.ofString "_law_groups")
  | 25 => some (Str.ofString "_law_built")
  | 26 => some (Str.ofString "_law_changed")
  | 27 => some (Str.ofString "_law_edges6")
  | 28 => some (Str.ofString "_law_edges4")
  | 29 => some (Str.ofString "_law_lengths")
  | 30 => some (Str.ofString "_law_edgesmac")
  | 31 => some (Str.ofString "_law_is_written")
  | 32 => some (Str.ofString "_law_is_read6")
  | 33 => some (Str.ofString "_law_is_read4")
  | 34 => some (Str.ofString "law")
  | _ => none
/-- octets_of: 0 number, 1 size, 2 (place) -/
def cOctetsOf1 : E := (.comp (.bin .BitAnd (.bin .RShift (.var 0) (.bin .Mult (.int 8) (.bin .Sub (.bin .Sub (.var 1) (.int 1)) (.var 2)))) (.int 255)) 2 .range (.cons (.var 1) .nil) .nil)
def bOctetsOf : S :=
    (.seq (.ite (.boolE false (.cons (.cmp .Lt (.var 0) (.int 0)) (.cons (.cmp .NotEq (.bin .RShift (.var 0) (.bin .Mult (.int 8) (.var 1))) (.int 0)) .nil))) (.seq .raiseS
      .nil) .nil)
      (.seq (.ret (.bi .bytes (.cons cOctetsOf1 .nil)))
      .nil))
def slOctetsOf : List (Option Str) := [some (Str.ofString "number"), some (Str.ofString "size"), none]
def psOctetsOf : List Str := [Str.ofString "number", Str.ofString "size"]
def dOctetsOf : Option Nat := none
/-- decimal_of: 0 text, 1 most, 2 number, 3 sign -/
def lDecimalOf1 : S :=
    (.seq (.ite (.notE (.cmp2 .LtE .LtE (.str [48]) (.var 3) (.str [57]))) (.seq (.ret .none)
      .nil) .nil)
      (.seq (.assign 2 (.bin .Sub (.bin .Add (.bin .Mult (.var 2) (.int 10)) (.bi .ord (.cons (.var 3) .nil))) (.bi .ord (.cons (.str [48]) .nil))))
      .nil))
def bDecimalOf : S :=
    (.seq (.ite (.boolE false (.cons (.cmp .Eq (.var 0) (.str [])) (.cons (.cmp .Gt (.bi .len (.cons (.var 0) .nil)) (.int 3)) (.cons (.boolE true (.cons (.cmp .Eq (.idx (.var 0) (.int 0)) (.str [48])) (.cons (.cmp .NotEq (.var 0) (.str [48])) .nil))) .nil)))) (.seq (.ret .none)
      .nil) .nil)
      (.seq (.assign 2 (.int 0))
      (.seq (.forS 3 .val (.cons (.var 0) .nil) lDecimalOf1)
      (.seq (.ret (.ite (.cmp .LtE (.var 2) (.var 1)) (.var 2) .none))
      .nil))))
def slDecimalOf : List (Option Str) := [some (Str.ofString "text"), some (Str.ofString "most"), some (Str.ofString "number"), some (Str.ofString "sign")]
def psDecimalOf : List Str := [Str.ofString "text", Str.ofString "most"]
def dDecimalOf : Option Nat := none
/-- hex_of: 0 text, 1 most, 2 number, 3 sign, 4 place -/
def lHexOf1 : S :=
    (.seq (.assign 4 (.me .find (.str [48, 49, 50, 51, 52, 53, 54, 55, 56, 57, 97, 98, 99, 100, 101, 102, 65, 66, 67, 68, 69, 70]) (.cons (.var 3) .nil)))
      (.seq (.ite (.cmp .Lt (.var 4) (.int 0)) (.seq (.ret .none)
      .nil) .nil)
      (.seq (.assign 2 (.bin .Add (.bin .Mult (.var 2) (.int 16)) (.ite (.cmp .Lt (.var 4) (.int 16)) (.var 4) (.bin .Sub (.var 4) (.int 6)))))
      .nil)))
def bHexOf : S :=
    (.seq (.ite (.notE (.cmp2 .LtE .LtE (.int 1) (.bi .len (.cons (.var 0) .nil)) (.var 1))) (.seq (.ret .none)
      .nil) .nil)
      (.seq (.assign 2 (.int 0))
      (.seq (.forS 3 .val (.cons (.var 0) .nil) lHexOf1)
      (.seq (.ret (.var 2))
      .nil))))
def slHexOf : List (Option Str) := [some (Str.ofString "text"), some (Str.ofString "most"), some (Str.ofString "number"), some (Str.ofString "sign"), some (Str.ofString "place")]
def psHexOf : List Str := [Str.ofString "text", Str.ofString "most"]
def dHexOf : Option Nat := none
/-- hex_text: 0 number, 1 least, 2 digits -/
def wHexText1 : E := (.boolE false (.cons (.cmp .Gt (.var 0) (.int 0)) (.cons (.cmp .Lt (.bi .len (.cons (.var 2) .nil)) (.var 1)) .nil)))
def lHexText1 : S :=
    (.seq (.assign 2 (.bin .Add (.idx (.str [48, 49, 50, 51, 52, 53, 54, 55, 56, 57, 97, 98, 99, 100, 101, 102]) (.bin .BitAnd (.var 0) (.int 15))) (.var 2)))
      (.seq (.assign 0 (.bin .RShift (.var 0) (.int 4)))
      .nil))
def bHexText : S :=
    (.seq (.assign 2 (.str []))
      (.seq (.whileS 100 wHexText1 lHexText1)
      (.seq (.ret (.var 2))
      .nil)))
def slHexText : List (Option Str) := [some (Str.ofString "number"), some (Str.ofString "least"), some (Str.ofString "digits")]
def psHexText : List Str := [Str.ofString "number", Str.ofString "least"]
def dHexText : Option Nat := none
/-- ip4_of: 0 text, 1 parts, 2 number, 3 part, 4 octet -/
def lIp4Of1 : S :=
    (.seq (.assign 4 (.call 1 (.cons (.var 3) (.cons (.int 255) .nil))))
      (.seq (.ite (.cmp .Is (.var 4) .none) (.seq (.ret .none)
      .nil) .nil)
      (.seq (.assign 2 (.bin .Add (.bin .Mult (.var 2) (.int 256)) (.var 4)))
      .nil)))
def bIp4Of : S :=
    (.seq (.assign 1 (.me .split (.var 0) (.cons (.str [46]) .nil)))
      (.seq (.ite (.cmp .NotEq (.bi .len (.cons (.var 1) .nil)) (.int 4)) (.seq (.ret .none)
      .nil) .nil)
      (.seq (.assign 2 (.int 0))
      (.seq (.forS 3 .val (.cons (.var 1) .nil) lIp4Of1)
      (.seq (.ret (.var 2))
      .nil)))))
def slIp4Of : List (Option Str) := [some (Str.ofString "text"), some (Str.ofString "parts"), some (Str.ofString "number"), some (Str.ofString "part"), some (Str.ofString "octet")]
def psIp4Of : List Str := [Str.ofString "text"]
def dIp4Of : Option Nat := none
/-- ip4_text: 0 number, 1 (shift) -/
def cIp4Text1 : E := (.comp (.bi .str (.cons (.bin .BitAnd (.bin .RShift (.var 0) (.var 1)) (.int 255)) .nil)) 1 .val (.cons (.tup (.cons (.int 24) (.cons (.int 16) (.cons (.int 8) (.cons (.int 0) .nil))))) .nil) .nil)
def bIp4Text : S :=
    (.seq (.ret (.me .join (.str [46]) (.cons cIp4Text1 .nil)))
      .nil)
def slIp4Text : List (Option Str) := [some (Str.ofString "number"), none]
def psIp4Text : List Str := [Str.ofString "number"]
def dIp4Text : Option Nat := none
/-- groups_of: 0 text, 1 is_end, 2 groups, 3 parts, 4 place, 5 part, 6 tail, 7 group -/
def lGroupsOf1 : S :=
    (.seq (.ite (.boolE true (.cons (.var 1) (.cons (.cmp .Eq (.var 4) (.bin .Sub (.bi .len (.cons (.var 3) .nil)) (.int 1))) (.cons (.cmp .In (.str [46]) (.var 5)) .nil)))) (.seq (.assign 6 (.call 4 (.cons (.var 5) .nil)))
      (.seq (.ite (.cmp .Is (.var 6) .none) (.seq (.ret .none)
      .nil) .nil)
      (.seq (.append 2 (.bin .RShift (.var 6) (.int 16)))
      (.seq (.append 2 (.bin .BitAnd (.var 6) (.int 65535)))
      .nil)))) (.seq (.assign 7 (.call 2 (.cons (.var 5) (.cons (.int 4) .nil))))
      (.seq (.ite (.cmp .Is (.var 7) .none) (.seq (.ret .none)
      .nil) .nil)
      (.seq (.append 2 (.var 7))
      .nil))))
      .nil)
def bGroupsOf : S :=
    (.seq (.assign 2 (.list .nil))
      (.seq (.ite (.cmp .Eq (.var 0) (.str [])) (.seq (.retD 2)
      .nil) .nil)
      (.seq (.assign 3 (.me .split (.var 0) (.cons (.str [58]) .nil)))
      (.seq (.forEnum 4 5 (.var 3) lGroupsOf1)
      (.seq (.retD 2)
      .nil)))))
def slGroupsOf : List (Option Str) := [some (Str.ofString "text"), some (Str.ofString "is_end"), some (Str.ofString "groups"), some (Str.ofString "parts"), some (Str.ofString "place"), some (Str.ofString "part"), some (Str.ofString "tail"), some (Str.ofString "group")]
def psGroupsOf : List Str := [Str.ofString "text", Str.ofString "is_end"]
def dGroupsOf : Option Nat := some 2
/-- ip6_of: 0 text, 1 halves, 2 groups, 3 behind, 4 number, 5 group -/
def lIp6Of1 : S :=
    (.seq (.assign 4 (.bin .BitOr (.bin .LShift (.var 4) (.int 16)) (.var 5)))
      .nil)
def bIp6Of : S :=
    (.seq (.assign 1 (.me .split (.var 0) (.cons (.str [58, 58]) .nil)))
      (.seq (.ite (.cmp .Gt (.bi .len (.cons (.var 1) .nil)) (.int 2)) (.seq (.ret .none)
      .nil) .nil)
      (.seq (.assign 2 (.call 6 (.cons (.idx (.var 1) (.int 0)) (.cons (.cmp .Eq (.bi .len (.cons (.var 1) .nil)) (.int 1)) .nil))))
      (.seq (.ite (.cmp .Is (.var 2) .none) (.seq (.ret .none)
      .nil) .nil)
      (.seq (.ite (.cmp .Eq (.bi .len (.cons (.var 1) .nil)) (.int 2)) (.seq (.assign 3 (.call 6 (.cons (.idx (.var 1) (.int 1)) (.cons (.bool true) .nil))))
      (.seq (.ite (.boolE false (.cons (.cmp .Is (.var 3) .none) (.cons (.cmp .Gt (.bin .Add (.bi .len (.cons (.var 2) .nil)) (.bi .len (.cons (.var 3) .nil))) (.int 7)) .nil))) (.seq (.ret .none)
      .nil) .nil)
      (.seq (.assign 2 (.bin .Add (.bin .Add (.var 2) (.bin .Mult (.list (.cons (.int 0) .nil)) (.bin .Sub (.bin .Sub (.int 8) (.bi .len (.cons (.var 2) .nil))) (.bi .len (.cons (.var 3) .nil))))) (.var 3)))
      .nil))) .nil)
      (.seq (.ite (.cmp .NotEq (.bi .len (.cons (.var 2) .nil)) (.int 8)) (.seq (.ret .none)
      .nil) .nil)
      (.seq (.assign 4 (.int 0))
      (.seq (.forS 5 .val (.cons (.var 2) .nil) lIp6Of1)
      (.seq (.ret (.var 4))
      .nil)))))))))
def slIp6Of : List (Option Str) := [some (Str.ofString "text"), some (Str.ofString "halves"), some (Str.ofString "groups"), some (Str.ofString "behind"), some (Str.ofString "number"), some (Str.ofString "group")]
def psIp6Of : List Str := [Str.ofString "text"]
def dIp6Of : Option Nat := none
/-- nought_run: 0 groups, 1 begin, 2 many, 3 run, 4 place, 5 group -/
def lNoughtRun1 : S :=
    (.seq (.assign 3 (.ite (.cmp .Eq (.var 5) (.int 0)) (.bin .Add (.var 3) (.int 1)) (.int 0)))
      (.seq (.ite (.cmp .Gt (.var 3) (.var 2)) (.seq (.assign2 1 2 (.tup (.cons (.bin .Sub (.bin .Add (.var 4) (.int 1)) (.var 3)) (.cons (.var 3) .nil))))
      .nil) .nil)
      .nil))
def bNoughtRun : S :=
    (.seq (.assign2 1 2 (.tup (.cons (.int 0) (.cons (.int 0) .nil))))
      (.seq (.assign 3 (.int 0))
      (.seq (.forEnum 4 5 (.var 0) lNoughtRun1)
      (.seq (.ret (.tup (.cons (.var 1) (.cons (.var 2) .nil))))
      .nil))))
def slNoughtRun : List (Option Str) := [some (Str.ofString "groups"), some (Str.ofString "begin"), some (Str.ofString "many"), some (Str.ofString "run"), some (Str.ofString "place"), some (Str.ofString "group")]
def psNoughtRun : List Str := [Str.ofString "groups"]
def dNoughtRun : Option Nat := none
/-- ip6_text: 0 number, 1 groups, 2 begin, 3 many, 4 parts, 5 (group), 6 (shift) -/
def cIp6Text1 : E := (.comp (.call 3 (.cons (.var 5) .nil)) 5 .val (.cons (.var 1) .nil) .nil)
def cIp6Text2 : E := (.comp (.bin .BitAnd (.bin .RShift (.var 0) (.var 6)) (.int 65535)) 6 .val (.cons (.tup (.cons (.int 112) (.cons (.int 96) (.cons (.int 80) (.cons (.int 64) (.cons (.int 48) (.cons (.int 32) (.cons (.int 16) (.cons (.int 0) .nil))))))))) .nil) .nil)
def bIp6Text : S :=
    (.seq (.assign 1 cIp6Text2)
      (.seq (.assign2 2 3 (.call 8 (.cons (.var 1) .nil)))
      (.seq (.assign 4 cIp6Text1)
      (.seq (.ite (.cmp .Lt (.var 3) (.int 2)) (.seq (.ret (.me .join (.str [58]) (.cons (.var 4) .nil)))
      .nil) .nil)
      (.seq (.ite (.boolE true (.cons (.cmp .Eq (.var 2) (.int 0)) (.cons (.boolE false (.cons (.cmp .Eq (.var 3) (.int 6)) (.cons (.boolE true (.cons (.cmp .Eq (.var 3) (.int 5)) (.cons (.cmp .Eq (.idx (.var 1) (.int 5)) (.int 65535)) .nil))) .nil))) .nil))) (.seq (.assign 4 (.bin .Add (.slice (.var 4) .none (.int 6)) (.list (.cons (.call 5 (.cons (.bin .BitAnd (.var 0) (.int 4294967295)) .nil)) .nil))))
      .nil) .nil)
      (.seq (.ret (.bin .Add (.bin .Add (.me .join (.str [58]) (.cons (.slice (.var 4) .none (.var 2)) .nil)) (.str [58, 58])) (.me .join (.str [58]) (.cons (.slice (.var 4) (.bin .Add (.var 2) (.var 3)) .none) .nil))))
      .nil))))))
def slIp6Text : List (Option Str) := [some (Str.ofString "number"), some (Str.ofString "groups"), some (Str.ofString "begin"), some (Str.ofString "many"), some (Str.ofString "parts"), none, none]
def psIp6Text : List Str := [Str.ofString "number"]
def dIp6Text : Option Nat := none
/-- mac_of: 0 text, 1 parts, 2 number, 3 part, 4 octet -/
def lMacOf1 : S :=
    (.seq (.assign 4 (.call 2 (.cons (.var 3) (.cons (.int 2) .nil))))
      (.seq (.ite (.cmp .Is (.var 4) .none) (.seq (.ret .none)
      .nil) .nil)
      (.seq (.assign 2 (.bin .Add (.bin .Mult (.var 2) (.int 256)) (.var 4)))
      .nil)))
def bMacOf : S :=
    (.seq (.assign 1 (.me .split (.var 0) (.cons (.str [58]) .nil)))
      (.seq (.ite (.cmp .NotEq (.bi .len (.cons (.var 1) .nil)) (.int 6)) (.seq (.ret .none)
      .nil) .nil)
      (.seq (.assign 2 (.int 0))
      (.seq (.forS 3 .val (.cons (.var 1) .nil) lMacOf1)
      (.seq (.ret (.var 2))
      .nil)))))
def slMacOf : List (Option Str) := [some (Str.ofString "text"), some (Str.ofString "parts"), some (Str.ofString "number"), some (Str.ofString "part"), some (Str.ofString "octet")]
def psMacOf : List Str := [Str.ofString "text"]
def dMacOf : Option Nat := none
/-- mac_text: 0 number, 1 (octet) -/
def cMacText1 : E := (.comp (.call 3 (.cons (.var 1) (.cons (.int 2) .nil))) 1 .val (.cons (.call 0 (.cons (.var 0) (.cons (.int 6) .nil))) .nil) .nil)
def bMacText : S :=
    (.seq (.ret (.me .join (.str [58]) (.cons cMacText1 .nil)))
      .nil)
def slMacText : List (Option Str) := [some (Str.ofString "number"), none]
def psMacText : List Str := [Str.ofString "number"]
def dMacText : Option Nat := none
/-- mask_of: 0 length, 1 bits -/
def bMaskOf : S :=
    (.seq (.ret (.bin .Sub (.bin .LShift (.int 1) (.var 1)) (.bin .LShift (.int 1) (.bin .Sub (.var 1) (.var 0)))))
      .nil)
def slMaskOf : List (Option Str) := [some (Str.ofString "length"), some (Str.ofString "bits")]
def psMaskOf : List Str := [Str.ofString "length", Str.ofString "bits"]
def dMaskOf : Option Nat := none
/-- prefix_of: 0 text, 1 parts, 2 nfproto, 3 bits, 4 base, 5 length -/
def bPrefixOf : S :=
    (.seq (.assign 1 (.me .split (.var 0) (.cons (.str [47]) .nil)))
      (.seq (.ite (.cmp .Gt (.bi .len (.cons (.var 1) .nil)) (.int 2)) (.seq (.ret .none)
      .nil) .nil)
      (.seq (.assign2 2 3 (.tup (.cons (.int 2) (.cons (.int 32) .nil))))
      (.seq (.assign 4 (.call 4 (.cons (.idx (.var 1) (.int 0)) .nil)))
      (.seq (.ite (.cmp .Is (.var 4) .none) (.seq (.assign2 2 3 (.tup (.cons (.int 10) (.cons (.int 128) .nil))))
      (.seq (.assign 4 (.call 7 (.cons (.idx (.var 1) (.int 0)) .nil)))
      .nil)) .nil)
      (.seq (.ite (.cmp .Is (.var 4) .none) (.seq (.ret .none)
      .nil) .nil)
      (.seq (.assign 5 (.ite (.cmp .Eq (.bi .len (.cons (.var 1) .nil)) (.int 1)) (.var 3) (.call 1 (.cons (.idx (.var 1) (.int 1)) (.cons (.var 3) .nil)))))
      (.seq (.ite (.cmp .Is (.var 5) .none) (.seq (.ret .none)
      .nil) .nil)
      (.seq (.ret (.tup (.cons (.var 2) (.cons (.bin .BitAnd (.var 4) (.call 12 (.cons (.var 5) (.cons (.var 3) .nil)))) (.cons (.var 5) .nil)))))
      .nil)))))))))
def slPrefixOf : List (Option Str) := [some (Str.ofString "text"), some (Str.ofString "parts"), some (Str.ofString "nfproto"), some (Str.ofString "bits"), some (Str.ofString "base"), some (Str.ofString "length")]
def psPrefixOf : List Str := [Str.ofString "text"]
def dPrefixOf : Option Nat := none
/-- _law_digit: 0 script, 1 place -/
def bLawDigit : S :=
    (.seq (.ret (.ite (.cmp .Lt (.var 1) (.bi .len (.cons (.var 0) .nil))) (.idx (.var 0) (.var 1)) (.int 0)))
      .nil)
def slLawDigit : List (Option Str) := [some (Str.ofString "script"), some (Str.ofString "place")]
def psLawDigit : List Str := [Str.ofString "script", Str.ofString "place"]
def dLawDigit : Option Nat := none
/-- _law_hex: 0 number, 1 digits, 2 (digit) -/
def cLawHex1 : E := (.comp (.idx (.str [48, 49, 50, 51, 52, 53, 54, 55, 56, 57, 97, 98, 99, 100, 101, 102]) (.var 2)) 2 .val (.cons (.var 1) .nil) .nil)
def wLawHex1 : E := (.boolE true (.cons (.cmp .Gt (.bi .len (.cons (.var 1) .nil)) (.int 1)) (.cons (.cmp .Eq (.idx (.var 1) (.int 0)) (.int 0)) .nil)))
def lLawHex1 : S :=
    (.seq (.assign 1 (.slice (.var 1) (.int 1) .none))
      .nil)
def bLawHex : S :=
    (.seq (.assign 1 (.list (.cons (.bin .FloorDiv (.var 0) (.int 4096)) (.cons (.bin .Mod (.bin .FloorDiv (.var 0) (.int 256)) (.int 16)) (.cons (.bin .Mod (.bin .FloorDiv (.var 0) (.int 16)) (.int 16)) (.cons (.bin .Mod (.var 0) (.int 16)) .nil))))))
      (.seq (.whileS 100 wLawHex1 lLawHex1)
      (.seq (.ret (.me .join (.str []) (.cons cLawHex1 .nil)))
      .nil)))
def slLawHex : List (Option Str) := [some (Str.ofString "number"), some (Str.ofString "digits"), none]
def psLawHex : List Str := [Str.ofString "number"]
def dLawHex : Option Nat := none
/-- _law_text4: 0 number, 1 (k) -/
def cLawText41 : E := (.comp (.bi .str (.cons (.bin .Mod (.bin .FloorDiv (.var 0) (.bin .Pow (.int 256) (.bin .Sub (.int 3) (.var 1)))) (.int 256)) .nil)) 1 .range (.cons (.int 4) .nil) .nil)
def bLawText4 : S :=
    (.seq (.ret (.me .join (.str [46]) (.cons cLawText41 .nil)))
      .nil)
def slLawText4 : List (Option Str) := [some (Str.ofString "number"), none]
def psLawText4 : List Str := [Str.ofString "number"]
def dLawText4 : Option Nat := none
/-- _law_text6: 0 groups, 1 words, 2 many, 3 begin, 4 (group) -/
def cLawText61 : E := (.comp (.call 15 (.cons (.var 4) .nil)) 4 .val (.cons (.var 0) .nil) .nil)
def lLawText61 : S :=
    (.seq (.ite (.cmp .Eq (.slice (.var 0) (.var 3) (.bin .Add (.var 3) (.var 2))) (.bin .Mult (.list (.cons (.int 0) .nil)) (.var 2))) (.seq (.ret (.bin .Add (.bin .Add (.me .join (.str [58]) (.cons (.slice (.var 1) .none (.var 3)) .nil)) (.str [58, 58])) (.me .join (.str [58]) (.cons (.slice (.var 1) (.bin .Add (.var 3) (.var 2)) .none) .nil))))
      .nil) .nil)
      .nil)
def lLawText62 : S :=
    (.seq (.forS 3 .range (.cons (.bin .Sub (.int 9) (.var 2)) .nil) lLawText61)
      .nil)
def bLawText6 : S :=
    (.seq (.assign 1 cLawText61)
      (.seq (.ite (.boolE false (.cons (.cmp .Eq (.slice (.var 0) .none (.int 6)) (.list (.cons (.int 0) (.cons (.int 0) (.cons (.int 0) (.cons (.int 0) (.cons (.int 0) (.cons (.int 65535) .nil)))))))) (.cons (.boolE true (.cons (.cmp .Eq (.slice (.var 0) .none (.int 6)) (.bin .Mult (.list (.cons (.int 0) .nil)) (.int 6))) (.cons (.cmp .NotEq (.idx (.var 0) (.int 6)) (.int 0)) .nil))) .nil))) (.seq (.assign 1 (.bin .Add (.slice (.var 1) .none (.int 6)) (.list (.cons (.call 16 (.cons (.bin .Add (.bin .Mult (.idx (.var 0) (.int 6)) (.int 65536)) (.idx (.var 0) (.int 7))) .nil)) .nil))))
      .nil) .nil)
      (.seq (.forS 2 .range (.cons (.int 8) (.cons (.int 1) (.cons (.int (-1)) .nil))) lLawText62)
      (.seq (.ret (.me .join (.str [58]) (.cons (.var 1) .nil)))
      .nil))))
def slLawText6 : List (Option Str) := [some (Str.ofString "groups"), some (Str.ofString "words"), some (Str.ofString "many"), some (Str.ofString "begin"), none]
def psLawText6 : List Str := [Str.ofString "groups"]
def dLawText6 : Option Nat := none
/-- _law_textmac: 0 number, 1 octets, 2 (octet), 3 (k) -/
def cLawTextmac1 : E := (.comp (.bin .Add (.idx (.str [48, 49, 50, 51, 52, 53, 54, 55, 56, 57, 97, 98, 99, 100, 101, 102]) (.bin .FloorDiv (.var 2) (.int 16))) (.idx (.str [48, 49, 50, 51, 52, 53, 54, 55, 56, 57, 97, 98, 99, 100, 101, 102]) (.bin .Mod (.var 2) (.int 16)))) 2 .val (.cons (.var 1) .nil) .nil)
def cLawTextmac2 : E := (.comp (.bin .Mod (.bin .FloorDiv (.var 0) (.bin .Pow (.int 256) (.bin .Sub (.int 5) (.var 3)))) (.int 256)) 3 .range (.cons (.int 6) .nil) .nil)
def bLawTextmac : S :=
    (.seq (.assign 1 cLawTextmac2)
      (.seq (.ret (.me .join (.str [58]) (.cons cLawTextmac1 .nil)))
      .nil))
def slLawTextmac : List (Option Str) := [some (Str.ofString "number"), some (Str.ofString "octets"), none, none]
def psLawTextmac : List Str := [Str.ofString "number"]
def dLawTextmac : Option Nat := none
/-- _law_read4: 0 text, 1 octets, 2 at, 3 sign, 4 number -/
def lLawRead41 : S :=
    (.seq (.ite (.boolE true (.cons (.cmp .Eq (.var 3) (.str [46])) (.cons (.cmp .Lt (.var 2) (.int 3)) .nil))) (.seq (.assign 2 (.bin .Add (.var 2) (.int 1)))
      .nil) (.seq (.setItem 1 (.var 2) (.bin .Mod (.bin .Add (.bin .Mult (.idx (.var 1) (.var 2)) (.int 10)) (.me .find (.str [48, 49, 50, 51, 52, 53, 54, 55, 56, 57]) (.cons (.var 3) .nil))) (.int 256)))
      .nil))
      .nil)
def bLawRead4 : S :=
    (.seq (.assign 1 (.list (.cons (.int 0) (.cons (.int 0) (.cons (.int 0) (.cons (.int 0) .nil))))))
      (.seq (.assign 2 (.int 0))
      (.seq (.forS 3 .val (.cons (.var 0) .nil) lLawRead41)
      (.seq (.assign 4 (.bin .Add (.bin .Add (.bin .Add (.bin .Mult (.idx (.var 1) (.int 0)) (.int 16777216)) (.bin .Mult (.idx (.var 1) (.int 1)) (.int 65536))) (.bin .Mult (.idx (.var 1) (.int 2)) (.int 256))) (.idx (.var 1) (.int 3))))
      (.seq (.ret (.ite (.cmp .Eq (.call 16 (.cons (.var 4) .nil)) (.var 0)) (.var 4) .none))
      .nil)))))
def slLawRead4 : List (Option Str) := [some (Str.ofString "text"), some (Str.ofString "octets"), some (Str.ofString "at"), some (Str.ofString "sign"), some (Str.ofString "number")]
def psLawRead4 : List Str := [Str.ofString "text"]
def dLawRead4 : Option Nat := some 1
/-- _law_group: 0 word, 1 total, 2 sign, 3 digit -/
def lLawGroup1 : S :=
    (.seq (.assign 3 (.me .find (.str [48, 49, 50, 51, 52, 53, 54, 55, 56, 57, 97, 98, 99, 100, 101, 102]) (.cons (.me .lower (.var 2) .nil) .nil)))
      (.seq (.ite (.cmp .Lt (.var 3) (.int 0)) (.seq (.ret (.int (-1)))
      .nil) .nil)
      (.seq (.assign 1 (.bin .Add (.bin .Mult (.int 16) (.var 1)) (.var 3)))
      .nil)))
def bLawGroup : S :=
    (.seq (.assign 1 (.int 0))
      (.seq (.forS 2 .val (.cons (.var 0) .nil) lLawGroup1)
      (.seq (.ret (.ite (.cmp2 .LtE .LtE (.int 1) (.bi .len (.cons (.var 0) .nil)) (.int 4)) (.var 1) (.int (-1))))
      .nil)))
def slLawGroup : List (Option Str) := [some (Str.ofString "word"), some (Str.ofString "total"), some (Str.ofString "sign"), some (Str.ofString "digit")]
def psLawGroup : List Str := [Str.ofString "word"]
def dLawGroup : Option Nat := none
/-- _law_read6: 0 text, 1 words, 2 doubles, 3 empties, 4 groups, 5 gap, 6 place, 7 word, 8 tail, 9 number, 10 power, 11 (at) -/
def cLawRead61 : E := (.comp (.var 11) 11 .range (.cons (.bi .len (.cons (.var 0) .nil)) .nil) (.cmp .Eq (.slice (.var 0) (.var 11) (.bin .Add (.var 11) (.int 2))) (.str [58, 58])))
def lLawRead61 : S :=
    (.seq (.assign 10 (.ite (.cmp .Lt (.var 6) (.var 5)) (.bin .Sub (.int 7) (.var 6)) (.bin .Sub (.bin .Sub (.bi .len (.cons (.var 4) .nil)) (.int 1)) (.var 6))))
      (.seq (.assign 9 (.bin .Add (.var 9) (.bin .Mult (.idx (.var 4) (.var 6)) (.bin .Pow (.int 65536) (.var 10)))))
      .nil))
def lLawRead62 : S :=
    (.seq (.ite (.cmp .Eq (.var 7) (.str [])) (.seq (.assign 5 (.bi .len (.cons (.var 4) .nil)))
      .nil) (.seq (.ite (.cmp .In (.str [46]) (.var 7)) (.seq (.assign 8 (.call 19 (.cons (.var 7) .nil)))
      (.seq (.ite (.boolE false (.cons (.cmp .Is (.var 8) .none) (.cons (.cmp .NotEq (.var 6) (.bin .Sub (.bi .len (.cons (.var 1) .nil)) (.int 1))) .nil))) (.seq (.ret .none)
      .nil) .nil)
      (.seq (.assign 4 (.bin .Add (.var 4) (.list (.cons (.bin .FloorDiv (.var 8) (.int 65536)) (.cons (.bin .Mod (.var 8) (.int 65536)) .nil)))))
      .nil))) (.seq (.append 4 (.call 20 (.cons (.var 7) .nil)))
      .nil))
      .nil))
      .nil)
def bLawRead6 : S :=
    (.seq (.assign 1 (.me .split (.var 0) (.cons (.str [58]) .nil)))
      (.seq (.assign 2 cLawRead61)
      (.seq (.assign 3 (.int 0))
      (.seq (.ite (.cmp .Eq (.bi .len (.cons (.var 2) .nil)) (.int 1)) (.seq (.assign 3 (.bin .Add (.int 1) (.me .count (.list (.cons (.cmp .Eq (.idx (.var 2) (.int 0)) (.int 0)) (.cons (.cmp .Eq (.idx (.var 2) (.int 0)) (.bin .Sub (.bi .len (.cons (.var 0) .nil)) (.int 2))) .nil))) (.cons (.bool true) .nil))))
      .nil) .nil)
      (.seq (.ite (.boolE false (.cons (.cmp .Gt (.bi .len (.cons (.var 2) .nil)) (.int 1)) (.cons (.cmp .NotEq (.me .count (.var 1) (.cons (.str []) .nil)) (.var 3)) .nil))) (.seq (.ret .none)
      .nil) .nil)
      (.seq (.assign 4 (.list .nil))
      (.seq (.assign 5 (.int 9))
      (.seq (.forEnum 6 7 (.var 1) lLawRead62)
      (.seq (.ite (.boolE false (.cons (.cmp .In (.int (-1)) (.var 4)) (.cons (.cmp .Gt (.bi .len (.cons (.var 4) .nil)) (.bin .Sub (.int 8) (.bi .len (.cons (.var 2) .nil)))) (.cons (.boolE true (.cons (.cmp .Lt (.bi .len (.cons (.var 4) .nil)) (.int 8)) (.cons (.cmp .Eq (.var 5) (.int 9)) .nil))) .nil)))) (.seq (.ret .none)
      .nil) .nil)
      (.seq (.assign 9 (.int 0))
      (.seq (.forS 6 .range (.cons (.bi .len (.cons (.var 4) .nil)) .nil) lLawRead61)
      (.seq (.ret (.var 9))
      .nil))))))))))))
def slLawRead6 : List (Option Str) := [some (Str.ofString "text"), some (Str.ofString "words"), some (Str.ofString "doubles"), some (Str.ofString "empties"), some (Str.ofString "groups"), some (Str.ofString "gap"), some (Str.ofString "place"), some (Str.ofString "word"), some (Str.ofString "tail"), some (Str.ofString "number"), some (Str.ofString "power"), none]
def psLawRead6 : List Str := [Str.ofString "text"]
def dLawRead6 : Option Nat := some 4
/-- _law_readmac: 0 text, 1 words, 2 values, 3 (k), 4 (word), 5 (word) -/
def cLawReadmac1 : E := (.comp (.bin .Mult (.idx (.var 2) (.var 3)) (.bin .Pow (.int 256) (.bin .Sub (.int 5) (.var 3)))) 3 .range (.cons (.int 6) .nil) .nil)
def cLawReadmac2 : E := (.comp (.bi .len (.cons (.var 4) .nil)) 4 .val (.cons (.var 1) .nil) .nil)
def cLawReadmac3 : E := (.comp (.call 20 (.cons (.var 5) .nil)) 5 .val (.cons (.var 1) .nil) .nil)
def bLawReadmac : S :=
    (.seq (.assign 1 (.me .split (.var 0) (.cons (.str [58]) .nil)))
      (.seq (.assign 2 cLawReadmac3)
      (.seq (.ite (.boolE false (.cons (.cmp .NotEq (.bi .len (.cons (.var 1) .nil)) (.int 6)) (.cons (.cmp .Lt (.bi .min (.cons (.var 2) .nil)) (.int 0)) (.cons (.cmp .Gt (.bi .max (.cons cLawReadmac2 .nil)) (.int 2)) .nil)))) (.seq (.ret .none)
      .nil) .nil)
      (.seq (.ret (.bi .sum (.cons cLawReadmac1 .nil)))
      .nil))))
def slLawReadmac : List (Option Str) := [some (Str.ofString "text"), some (Str.ofString "words"), some (Str.ofString "values"), none, none, none]
def psLawReadmac : List Str := [Str.ofString "text"]
def dLawReadmac : Option Nat := none
/-- _law_prefix: 0 text, 1 words, 2 nfproto, 3 bits, 4 base, 5 lengths, 6 length, 7 size, 8 (length) -/
def cLawPrefix1 : E := (.comp (.bi .str (.cons (.var 8) .nil)) 8 .range (.cons (.bin .Add (.var 3) (.int 1)) .nil) .nil)
def bLawPrefix : S :=
    (.seq (.assign 1 (.me .split (.var 0) (.cons (.str [47]) .nil)))
      (.seq (.assign 2 (.int 2))
      (.seq (.assign 3 (.int 32))
      (.seq (.assign 4 (.call 19 (.cons (.idx (.var 1) (.int 0)) .nil)))
      (.seq (.ite (.cmp .Is (.var 4) .none) (.seq (.assign 2 (.int 10))
      (.seq (.assign 3 (.int 128))
      (.seq (.assign 4 (.call 21 (.cons (.idx (.var 1) (.int 0)) .nil)))
      .nil))) .nil)
      (.seq (.ite (.boolE false (.cons (.cmp .Is (.var 4) .none) (.cons (.cmp .Gt (.bi .len (.cons (.var 1) .nil)) (.int 2)) .nil))) (.seq (.ret .none)
      .nil) .nil)
      (.seq (.assign 5 cLawPrefix1)
      (.seq (.assign 6 (.ite (.cmp .Eq (.bi .len (.cons (.var 1) .nil)) (.int 1)) (.idx (.var 5) (.var 3)) (.idx (.var 1) (.int 1))))
      (.seq (.ite (.cmp .NotIn (.var 6) (.var 5)) (.seq (.ret .none)
      .nil) .nil)
      (.seq (.assign 7 (.bin .Pow (.int 2) (.bin .Sub (.var 3) (.me .index (.var 5) (.cons (.var 6) .nil)))))
      (.seq (.ret (.tup (.cons (.var 2) (.cons (.bin .Mult (.bin .FloorDiv (.var 4) (.var 7)) (.var 7)) (.cons (.me .index (.var 5) (.cons (.var 6) .nil)) .nil)))))
      .nil)))))))))))
def slLawPrefix : List (Option Str) := [some (Str.ofString "text"), some (Str.ofString "words"), some (Str.ofString "nfproto"), some (Str.ofString "bits"), some (Str.ofString "base"), some (Str.ofString "lengths"), some (Str.ofString "length"), some (Str.ofString "size"), none]
def psLawPrefix : List Str := [Str.ofString "text"]
def dLawPrefix : Option Nat := none
/-- _law_groups: 0 number, 1 k, 2 shapes, 3 shape, 4 rest, 5 marks, 6 groups, 7 j, 8 value, 9 drawn -/
def lLawGroups1 : S :=
    (.seq (.assign 8 (.bin .Add (.bin .FloorDiv (.var 4) (.bin .Pow (.int 7) (.var 7))) (.var 7)))
      (.seq (.assign 9 (.ite (.cmp .Lt (.bin .Mod (.var 8) (.int 16)) (.int 8)) (.idx (.var 5) (.bin .Mod (.var 8) (.int 8))) (.bin .Add (.int 1) (.bin .Mod (.bin .FloorDiv (.var 4) (.bin .Pow (.int 65536) (.var 7))) (.int 65535)))))
      (.seq (.append 6 (.dictIdx [[48], [102], [120]] (.cons (.int 0) (.cons (.int 65535) (.cons (.var 9) .nil))) (.idx (.var 3) (.var 7))))
      .nil)))
def bLawGroups : S :=
    (.seq (.assign 2 (.str [120, 48, 48, 120, 120, 48, 48, 120, 32, 48, 48, 48, 48, 48, 48, 120, 120, 32, 48, 48, 48, 48, 48, 102, 120, 120, 32, 120, 48, 120, 120, 120, 120, 120, 120, 32, 120, 120, 120, 120, 120, 120, 120, 120, 32, 48, 48, 48, 48, 48, 120, 120, 120, 32, 48, 48, 48, 48, 48, 48, 48, 120, 32, 48, 48, 48, 48, 48, 48, 48, 48, 32, 120, 48, 48, 48, 48, 48, 48, 120, 32, 120, 120, 48, 48, 48, 48, 48, 48, 32, 48, 48, 48, 120, 120, 48, 48, 48]))
      (.seq (.assign 3 (.idx (.me .split (.bin .Add (.var 2) (.str [32, 48, 120, 120, 120, 120, 120, 120, 48, 32, 48, 48, 120, 48, 48, 48, 120, 48, 32, 120, 48, 120, 48, 120, 48, 120, 48, 32, 48, 48, 48, 48, 48, 102, 48, 48, 32, 48, 48, 48, 48, 48, 48, 120, 48, 32, 120, 120, 120, 120, 120, 120, 48, 48, 32, 48, 48, 120, 120, 120, 120, 48, 48])) (.cons (.str [32]) .nil)) (.bin .Mod (.bin .Add (.var 0) (.var 1)) (.int 18))))
      (.seq (.assign 4 (.bin .FloorDiv (.var 0) (.int 18)))
      (.seq (.assign 5 (.list (.cons (.int 8193) (.cons (.int 3512) (.cons (.int 1) (.cons (.int 65535) (.cons (.int 160) (.cons (.int 4096) (.cons (.int 15) (.cons (.int 16) .nil))))))))))
      (.seq (.assign 6 (.list .nil))
      (.seq (.forS 7 .range (.cons (.int 8) .nil) lLawGroups1)
      (.seq (.retD 6)
      .nil)))))))
def slLawGroups : List (Option Str) := [some (Str.ofString "number"), some (Str.ofString "k"), some (Str.ofString "shapes"), some (Str.ofString "shape"), some (Str.ofString "rest"), some (Str.ofString "marks"), some (Str.ofString "groups"), some (Str.ofString "j"), some (Str.ofString "value"), some (Str.ofString "drawn")]
def psLawGroups : List Str := [Str.ofString "number", Str.ofString "k"]
def dLawGroups : Option Nat := some 6
/-- _law_built: 0 number, 1 words, 2 tail, 3 gap, 4 many, 5 rest, 6 text, 7 place -/
def lLawBuilt1 : S :=
    (.seq (.ite (.cmp .Eq (.var 7) (.var 3)) (.seq (.assign 6 (.bin .Add (.var 6) (.str [58, 58])))
      .nil) (.seq (.ite (.cmp .Gt (.var 7) (.int 0)) (.seq (.assign 6 (.bin .Add (.var 6) (.str [58])))
      .nil) .nil)
      .nil))
      (.seq (.assign 6 (.bin .Add (.var 6) (.idx (.var 1) (.bin .Mod (.bin .Add (.bin .FloorDiv (.var 5) (.bin .Pow (.int 8) (.var 7))) (.var 7)) (.int 8)))))
      .nil))
def bLawBuilt : S :=
    (.seq (.assign 1 (.list (.cons (.str [48]) (.cons (.str [49]) (.cons (.str [97, 48]) (.cons (.str [70, 70, 70, 70]) (.cons (.str [100, 66, 56]) (.cons (.str [48, 48, 48, 48]) (.cons (.str [69, 102, 49]) (.cons (.str [57]) .nil))))))))))
      (.seq (.assign 2 (.idx (.list (.cons (.str []) (.cons (.str []) (.cons (.str [49, 46, 50, 46, 51, 46, 52]) (.cons (.str [49, 57, 57, 46, 50, 53, 53, 46, 48, 46, 50, 53, 48]) (.cons (.str [49, 50, 51, 52, 53]) (.cons (.str [49, 46, 50, 46, 51, 46, 50, 53, 54]) (.cons (.str [103]) (.cons (.str []) .nil))))))))) (.bin .Mod (.bin .FloorDiv (.var 0) (.int 90)) (.int 8))))
      (.seq (.assign 3 (.bin .Mod (.var 0) (.int 10)))
      (.seq (.assign 4 (.bin .Mod (.bin .FloorDiv (.var 0) (.int 10)) (.int 9)))
      (.seq (.assign 5 (.bin .FloorDiv (.var 0) (.int 720)))
      (.seq (.assign 6 (.str []))
      (.seq (.forS 7 .range (.cons (.var 4) .nil) lLawBuilt1)
      (.seq (.ite (.cmp .Eq (.var 3) (.var 4)) (.seq (.assign 6 (.bin .Add (.var 6) (.str [58, 58])))
      .nil) .nil)
      (.seq (.ite (.boolE true (.cons (.cmp .NotEq (.var 2) (.str [])) (.cons (.cmp .NotEq (.var 6) (.str [])) (.cons (.cmp .NotEq (.slice (.var 6) (.int (-1)) .none) (.str [58])) .nil)))) (.seq (.assign 6 (.bin .Add (.var 6) (.str [58])))
      .nil) .nil)
      (.seq (.ret (.bin .Add (.var 6) (.var 2)))
      .nil))))))))))
def slLawBuilt : List (Option Str) := [some (Str.ofString "number"), some (Str.ofString "words"), some (Str.ofString "tail"), some (Str.ofString "gap"), some (Str.ofString "many"), some (Str.ofString "rest"), some (Str.ofString "text"), some (Str.ofString "place")]
def psLawBuilt : List Str := [Str.ofString "number"]
def dLawBuilt : Option Nat := none
/-- _law_changed: 0 text, 1 number, 2 sign, 3 at, 4 skip -/
def bLawChanged : S :=
    (.seq (.assign 2 (.idx (.list (.cons (.str []) (.cons (.str [58]) (.cons (.str [46]) (.cons (.str [48]) (.cons (.str [70]) (.cons (.str [53]) (.cons (.str [120]) .nil)))))))) (.bin .Mod (.var 1) (.int 7))))
      (.seq (.assign 3 (.bin .Mod (.bin .FloorDiv (.var 1) (.int 7)) (.bin .Add (.bi .len (.cons (.var 0) .nil)) (.int 1))))
      (.seq (.assign 4 (.ite (.cmp .Eq (.var 2) (.str [])) (.int 1) (.bin .Mod (.bin .FloorDiv (.bin .FloorDiv (.var 1) (.int 7)) (.bin .Add (.bi .len (.cons (.var 0) .nil)) (.int 1))) (.int 2))))
      (.seq (.ret (.bin .Add (.bin .Add (.slice (.var 0) .none (.var 3)) (.var 2)) (.slice (.var 0) (.bin .Add (.var 3) (.var 4)) .none)))
      .nil))))
def slLawChanged : List (Option Str) := [some (Str.ofString "text"), some (Str.ofString "number"), some (Str.ofString "sign"), some (Str.ofString "at"), some (Str.ofString "skip")]
def psLawChanged : List Str := [Str.ofString "text", Str.ofString "number"]
def dLawChanged : Option Nat := none
/-- _law_edges6: 0 text -/
def bLawEdges6 : S :=
    (.seq (.assign 0 (.str [58, 58, 32, 58, 58, 58, 32, 49, 58, 58, 32, 58, 58, 49, 32, 49, 58, 50, 58, 51, 58, 52, 58, 53, 58, 54, 58, 55, 58, 56, 32, 49, 58, 50, 58, 51, 58, 52, 58, 53, 58, 54, 58, 55, 32, 49, 58, 50, 58, 51, 58, 52, 58, 53, 58, 54, 58, 55, 58, 58, 32, 58, 58, 50, 58, 51, 58, 52, 58, 53, 58, 54, 58, 55, 58, 56]))
      (.seq (.assign 0 (.bin .Add (.var 0) (.str [32, 49, 58, 58, 51, 58, 52, 58, 53, 58, 54, 58, 55, 58, 56, 32, 49, 58, 50, 58, 51, 58, 52, 58, 58, 53, 58, 54, 58, 55, 58, 56, 32, 49, 58, 58, 50, 58, 58, 51, 32, 58, 49, 58, 50, 58, 51, 58, 52, 58, 53, 58, 54, 58, 55, 32, 49, 58, 50, 58, 51, 58, 52, 58, 53, 58, 54, 58, 55, 58, 32, 58, 49, 58, 58, 50, 32, 49, 58, 58, 50, 58])))
      (.seq (.assign 0 (.bin .Add (.var 0) (.str [32, 58, 58, 102, 102, 102, 102, 58, 49, 46, 50, 46, 51, 46, 52, 32, 49, 58, 50, 58, 51, 58, 52, 58, 53, 58, 54, 58, 49, 46, 50, 46, 51, 46, 52, 32, 49, 58, 50, 58, 51, 58, 52, 58, 53, 58, 54, 58, 55, 58, 49, 46, 50, 46, 51, 46, 52, 32, 49, 58, 50, 58, 51, 58, 52, 58, 53, 58, 58, 49, 46, 50, 46, 51, 46, 52])))
      (.seq (.assign 0 (.bin .Add (.var 0) (.str [32, 49, 58, 50, 58, 51, 58, 52, 58, 53, 58, 54, 58, 58, 49, 46, 50, 46, 51, 46, 52, 32, 58, 58, 49, 46, 50, 46, 51, 46, 52, 58, 53, 32, 49, 46, 50, 46, 51, 46, 52, 58, 58, 32, 49, 46, 50, 46, 51, 46, 52, 32, 58, 58, 49, 46, 50, 46, 51, 32, 58, 58, 49, 46, 50, 46, 51, 46, 50, 53, 54, 32, 58, 58, 48, 49, 46, 50, 46, 51, 46, 52])))
      (.seq (.assign 0 (.bin .Add (.var 0) (.str [32, 49, 50, 51, 52, 53, 58, 58, 32, 58, 58, 103, 32, 58, 58, 65, 66, 67, 68, 58, 101, 102, 48, 49, 32, 58, 58, 48, 48, 48, 49, 32, 58, 58, 48, 48, 48, 48, 49, 32, 58, 32, 49, 32, 58, 58, 49, 47, 54, 52, 32, 58, 58, 49, 46, 50, 46, 51, 46, 52, 46, 53, 32, 49, 58, 50, 58, 51, 58, 52, 58, 53, 58, 54, 58, 55, 58, 56, 58, 57])))
      (.seq (.ret (.bin .Add (.me .split (.bin .Add (.var 0) (.str [32, 49, 58, 50, 58, 51, 58, 52, 58, 53, 58, 54, 58, 55, 58, 56, 58, 58, 57, 58, 58, 32, 49, 58, 58, 58, 50, 32, 58, 58, 48, 120, 49])) (.cons (.str [32]) .nil)) (.list (.cons (.str []) .nil))))
      .nil))))))
def slLawEdges6 : List (Option Str) := [some (Str.ofString "text")]
def psLawEdges6 : List Str := []
def dLawEdges6 : Option Nat := none
/-- _law_edges4: 0 words -/
def bLawEdges4 : S :=
    (.seq (.assign 0 (.list (.cons (.str [49, 46, 50, 46, 51, 46, 52]) (.cons (.str [48, 46, 48, 46, 48, 46, 48]) (.cons (.str [50, 53, 53, 46, 50, 53, 53, 46, 50, 53, 53, 46, 50, 53, 53]) (.cons (.str [50, 53, 54, 46, 48, 46, 48, 46, 49]) (.cons (.str [49, 46, 50, 46, 51]) (.cons (.str [49, 46, 50, 46, 51, 46, 52, 46, 53]) (.cons (.str [48, 49, 46, 50, 46, 51, 46, 52]) (.cons (.str [49, 46, 46, 51, 46, 52]) .nil))))))))))
      (.seq (.assign 0 (.bin .Add (.var 0) (.list (.cons (.str [49, 46, 50, 46, 51, 46]) (.cons (.str [49, 46, 50, 46, 51, 46, 52, 120]) (.cons (.str [49, 48, 48, 48, 46, 48, 46, 48, 46, 49]) (.cons (.str [97, 46, 98, 46, 99, 46, 100]) (.cons (.str [48, 48, 46, 48, 46, 48, 46, 48]) (.cons (.str [49, 46, 50, 46, 51, 46, 45, 52]) (.cons (.str [49, 46, 50, 46, 51, 46, 43, 52]) (.cons (.str [49, 44, 50, 44, 51, 44, 52]) .nil)))))))))))
      (.seq (.ret (.bin .Add (.var 0) (.list (.cons (.str [50, 52, 57, 46, 57, 57, 46, 49, 48, 48, 46, 49, 48]) (.cons (.str [46, 49, 46, 50, 46, 51]) (.cons (.str [49, 46, 50, 46, 51, 46, 52, 32]) (.cons (.str []) .nil)))))))
      .nil)))
def slLawEdges4 : List (Option Str) := [some (Str.ofString "words")]
def psLawEdges4 : List Str := []
def dLawEdges4 : Option Nat := none
/-- _law_lengths: 0 words -/
def bLawLengths : S :=
    (.seq (.assign 0 (.list (.cons (.str [47, 48]) (.cons (.str [47, 51, 50]) (.cons (.str [47, 50, 52]) (.cons (.str [47, 56]) (.cons (.str [47, 49]) (.cons (.str [47, 51, 49]) (.cons (.str [47, 51, 51]) (.cons (.str [47, 54, 52]) (.cons (.str [47, 49, 50, 55]) (.cons (.str [47, 49, 50, 56]) (.cons (.str [47, 49, 50, 57]) (.cons (.str [47]) (.cons (.str [47, 48, 56]) (.cons (.str [47, 45, 49]) (.cons (.str [47, 49, 47, 50]) .nil)))))))))))))))))
      (.seq (.ret (.bin .Add (.var 0) (.list (.cons (.str []) (.cons (.str [47, 32, 56]) (.cons (.str [47, 50, 53, 54]) .nil))))))
      .nil))
def slLawLengths : List (Option Str) := [some (Str.ofString "words")]
def psLawLengths : List Str := []
def dLawLengths : Option Nat := none
/-- _law_edgesmac: 0 words -/
def bLawEdgesmac : S :=
    (.seq (.assign 0 (.list (.cons (.str [48, 58, 49, 58, 50, 58, 51, 58, 52, 58, 53]) (.cons (.str [48, 48, 58, 49, 98, 58, 50, 67, 58, 102, 70, 58, 65, 48, 58, 57, 97]) (.cons (.str [48, 58, 49, 58, 50, 58, 51, 58, 52]) (.cons (.str [48, 58, 49, 58, 50, 58, 51, 58, 52, 58, 53, 58, 54]) (.cons (.str [48, 58, 49, 58, 50, 58, 51, 58, 52, 58, 49, 48, 48]) .nil)))))))
      (.seq (.ret (.bin .Add (.var 0) (.list (.cons (.str [48, 58, 49, 58, 50, 58, 51, 58, 52, 58]) (.cons (.str [48, 58, 49, 58, 50, 58, 51, 58, 52, 58, 103]) (.cons (.str [48, 48, 49, 58, 50, 58, 51, 58, 52, 58, 53, 58, 54]) (.cons (.str []) (.cons (.str [48, 45, 49, 45, 50, 45, 51, 45, 52, 45, 53]) (.cons (.str [97, 58, 66, 58, 99, 58, 68, 58, 101, 58, 70]) (.cons (.str [58, 49, 58, 50, 58, 51, 58, 52, 58, 53]) .nil))))))))))
      .nil))
def slLawEdgesmac : List (Option Str) := [some (Str.ofString "words")]
def psLawEdgesmac : List Str := []
def dLawEdgesmac : Option Nat := none
/-- _law_is_written: 0 script, 1 k, 2 groups, 3 number, 4 text, 5 (j) -/
def cLawIsWritten1 : E := (.comp (.bin .Mult (.idx (.var 2) (.var 5)) (.bin .Pow (.int 65536) (.bin .Sub (.int 7) (.var 5)))) 5 .range (.cons (.int 8) .nil) .nil)
def lLawIsWritten1 : S :=
    (.seq (.assign 2 (.call 24 (.cons (.call 14 (.cons (.var 0) (.cons (.var 1) .nil))) (.cons (.var 1) .nil))))
      (.seq (.assign 3 (.bi .sum (.cons cLawIsWritten1 .nil)))
      (.seq (.assign 4 (.call 17 (.cons (.var 2) .nil)))
      (.seq (.ite (.boolE false (.cons (.cmp .NotEq (.call 9 (.cons (.var 3) .nil)) (.var 4)) (.cons (.cmp .NotEq (.call 7 (.cons (.var 4) .nil)) (.var 3)) .nil))) (.seq (.ret (.bool false))
      .nil) .nil)
      .nil))))
def bLawIsWritten : S :=
    (.seq (.forS 1 .range (.cons (.int 3) .nil) lLawIsWritten1)
      (.seq (.assign 3 (.bin .Mod (.bin .Add (.call 14 (.cons (.var 0) (.cons (.int 3) .nil))) (.int 3221226239)) (.bin .Pow (.int 2) (.int 32))))
      (.seq (.assign 4 (.call 16 (.cons (.var 3) .nil)))
      (.seq (.ite (.boolE false (.cons (.cmp .NotEq (.call 5 (.cons (.var 3) .nil)) (.var 4)) (.cons (.cmp .NotEq (.call 4 (.cons (.var 4) .nil)) (.var 3)) .nil))) (.seq (.ret (.bool false))
      .nil) .nil)
      (.seq (.assign 3 (.bin .Mod (.bin .Add (.bin .Mult (.call 14 (.cons (.var 0) (.cons (.int 4) .nil))) (.int 257)) (.int 116703297696)) (.bin .Pow (.int 2) (.int 48))))
      (.seq (.assign 4 (.call 18 (.cons (.var 3) .nil)))
      (.seq (.ret (.boolE true (.cons (.cmp .Eq (.call 11 (.cons (.var 3) .nil)) (.var 4)) (.cons (.cmp .Eq (.call 10 (.cons (.var 4) .nil)) (.var 3)) .nil))))
      .nil)))))))
def slLawIsWritten : List (Option Str) := [some (Str.ofString "script"), some (Str.ofString "k"), some (Str.ofString "groups"), some (Str.ofString "number"), some (Str.ofString "text"), none]
def psLawIsWritten : List Str := [Str.ofString "script"]
def dLawIsWritten : Option Nat := none
/-- _law_is_read6: 0 script, 1 texts, 2 k, 3 text, 4 edges -/
def lLawIsRead61 : S :=
    (.seq (.ite (.cmp .NotEq (.call 7 (.cons (.var 3) .nil)) (.call 21 (.cons (.var 3) .nil))) (.seq (.ret (.bool false))
      .nil) .nil)
      .nil)
def lLawIsRead62 : S :=
    (.seq (.append 1 (.idx (.var 4) (.bin .Mod (.bin .Add (.call 14 (.cons (.var 0) (.cons (.int 9) .nil))) (.bin .Mult (.int 5) (.var 2))) (.int 40))))
      .nil)
def lLawIsRead63 : S :=
    (.seq (.assign 3 (.call 25 (.cons (.bin .Add (.call 14 (.cons (.var 0) (.cons (.bin .Add (.int 5) (.var 2)) .nil))) (.idx (.list (.cons (.int 222) (.cons (.int 89) .nil))) (.var 2))) .nil)))
      (.seq (.assign 1 (.bin .Add (.var 1) (.list (.cons (.var 3) (.cons (.call 26 (.cons (.var 3) (.cons (.bin .Add (.call 14 (.cons (.var 0) (.cons (.bin .Add (.int 7) (.var 2)) .nil))) (.bin .Mult (.int 61) (.var 2))) .nil))) .nil)))))
      .nil))
def bLawIsRead6 : S :=
    (.seq (.assign 1 (.list .nil))
      (.seq (.forS 2 .range (.cons (.int 2) .nil) lLawIsRead63)
      (.seq (.assign 4 (.call 27 .nil))
      (.seq (.forS 2 .range (.cons (.int 8) .nil) lLawIsRead62)
      (.freeze (.seq (.forS 3 .val (.cons (.var 1) .nil) lLawIsRead61)
      (.seq (.ret (.bool true))
      .nil)))))))
def slLawIsRead6 : List (Option Str) := [some (Str.ofString "script"), some (Str.ofString "texts"), some (Str.ofString "k"), some (Str.ofString "text"), some (Str.ofString "edges")]
def psLawIsRead6 : List Str := [Str.ofString "script"]
def dLawIsRead6 : Option Nat := some 1
/-- _law_is_read4: 0 script, 1 first, 2 lengths, 3 six, 4 k, 5 text, 6 word -/
def lLawIsRead41 : S :=
    (.seq (.ite (.cmp .NotEq (.call 13 (.cons (.var 6) .nil)) (.call 23 (.cons (.var 6) .nil))) (.seq (.ret (.bool false))
      .nil) .nil)
      .nil)
def lLawIsRead42 : S :=
    (.seq (.assign 5 (.idx (.call 28 .nil) (.bin .Mod (.bin .Add (.var 1) (.bin .Mult (.int 5) (.var 4))) (.int 20))))
      (.seq (.ite (.cmp .NotEq (.call 4 (.cons (.var 5) .nil)) (.call 19 (.cons (.var 5) .nil))) (.seq (.ret (.bool false))
      .nil) .nil)
      (.seq (.forS 6 .val (.cons (.list (.cons (.bin .Add (.var 5) (.idx (.var 2) (.bin .Mod (.bin .Add (.var 1) (.bin .Mult (.int 7) (.var 4))) (.int 18)))) (.cons (.bin .Add (.var 3) (.idx (.var 2) (.bin .Mod (.bin .Add (.bin .Add (.var 1) (.bin .Mult (.int 7) (.var 4))) (.int 9)) (.int 18)))) .nil))) .nil) lLawIsRead41)
      .nil)))
def bLawIsRead4 : S :=
    (.seq (.assign 1 (.call 14 (.cons (.var 0) (.cons (.int 10) .nil))))
      (.seq (.assign 2 (.call 29 .nil))
      (.seq (.assign 3 (.call 17 (.cons (.call 24 (.cons (.bin .FloorDiv (.var 1) (.int 18)) (.cons (.int 0) .nil))) .nil)))
      (.seq (.forS 4 .range (.cons (.int 4) .nil) lLawIsRead42)
      (.seq (.ret (.bool true))
      .nil)))))
def slLawIsRead4 : List (Option Str) := [some (Str.ofString "script"), some (Str.ofString "first"), some (Str.ofString "lengths"), some (Str.ofString "six"), some (Str.ofString "k"), some (Str.ofString "text"), some (Str.ofString "word")]
def psLawIsRead4 : List Str := [Str.ofString "script"]
def dLawIsRead4 : Option Nat := none
/-- law: 0 script, 1 k, 2 text -/
def lLaw1 : S :=
    (.seq (.assign 2 (.idx (.call 30 .nil) (.bin .Mod (.bin .Add (.call 14 (.cons (.var 0) (.cons (.int 11) .nil))) (.bin .Mult (.int 3) (.var 1))) (.int 12))))
      (.seq (.ite (.cmp .NotEq (.call 10 (.cons (.var 2) .nil)) (.call 22 (.cons (.var 2) .nil))) (.seq (.ret (.bool false))
      .nil) .nil)
      .nil))
def bLaw : S :=
    (.seq (.ite (.boolE false (.cons (.notE (.call 31 (.cons (.var 0) .nil))) (.cons (.notE (.call 32 (.cons (.var 0) .nil))) (.cons (.notE (.call 33 (.cons (.var 0) .nil))) .nil)))) (.seq (.ret (.bool false))
      .nil) .nil)
      (.seq (.forS 1 .range (.cons (.int 4) .nil) lLaw1)
      (.seq (.ret (.bool true))
      .nil)))
def slLaw : List (Option Str) := [some (Str.ofString "script"), some (Str.ofString "k"), some (Str.ofString "text")]
def psLaw : List Str := [Str.ofString "script"]
def dLaw : Option Nat := none
def plainArgs (a : Arguments) (ps : List Str) : Bool :=
  a.posonlyargs.isEmpty && (a.args.map (·.arg) == ps) && a.vararg.isNone && a.kwonlyargs.isEmpty && a.kw_defaults.isEmpty && a.kwarg.isNone
def chk (p : Program) (x : Str) (sl : List (Option Str)) (ps : List Str) (D : Option Nat) (st : S) : Bool :=
  match p.theDef x with
  | some (args, body, sc) => planB ⟨sl, sc.names, fnName, true⟩ ps D && okSs ⟨sl, sc.names, fnName, true⟩ D st body && sc.kind == .function && !sc.isCoroutine && !sc.isGenerator && plainArgs args ps
  | none => false
end Mine
end
section
open PySem PySem.Calls
set_option maxRecDepth 100000
namespace Mine

abbrev L := List Nat
def optI : Option Nat → PV
  | some n => .a (.int n)
  | none => .a .none
def S1 (l : L) : PV := .a (.str l)
def I1 (n : Nat) : PV := .a (.int n)

def run (Φ : Nat → List PV → Option PV) (k : Nat) (st : S) (args : List PV) : Option PV :=
  (ex Φ st (initS k args)).bind fun p => match p.1 with | .ret v => some v | .next => none
theorem run_ex {Φ : Nat → List PV → Option PV} {k : Nat} {st : S} {args : List PV} {r : PV} (h : run Φ k st args = some r) : ∃ ρ', ex Φ st (initS k args) = some (.ret r, ρ') := by
  unfold run at h
  rw [Option.bind_eq_some_iff] at h
  obtain ⟨⟨fl, ρ⟩, h1, h2⟩ := h
  cases fl with
  | next => cases h2
  | ret v => cases h2; exact ⟨ρ, h1⟩

/-! loops by a step function -/
def foldR {σ α : Type} (g : σ → α → Option (σ ⊕ PV)) : σ → List α → Option (σ ⊕ PV)
  | s, [] => some (.inl s)
  | s, a :: r => (g s a).bind fun x => match x with
    | .inl s' => foldR g s' r
    | .inr v => some (.inr v)
theorem foldR_total {σ α : Type} {g : σ → α → Option (σ ⊕ PV)} (h : ∀ s a, ∃ x, g s a = some x) : ∀ (l : List α) (s : σ), ∃ x, foldR g s l = some x
  | [], s => ⟨_, rfl⟩
  | a :: r, s => by
    obtain ⟨x, hx⟩ := h s a
    simp only [foldR, hx, Option.bind_some]
    cases x with
    | inl s' => exact foldR_total h r s'
    | inr v => exact ⟨_, rfl⟩
theorem foldR_inr {σ α : Type} {g : σ → α → Option (σ ⊕ PV)} {w : PV} (h : ∀ s a v, g s a = some (.inr v) → v = w) : ∀ (l : List α) (s : σ) (v : PV), foldR g s l = some (.inr v) → v = w
  | [], s, v, e => by cases e
  | a :: r, s, v, e => by
    simp only [foldR, Option.bind_eq_some_iff] at e
    obtain ⟨x, hx, e⟩ := e
    cases x with
    | inl s' => exact foldR_inr h r s' v e
    | inr u => cases e; exact h s a _ hx
def outR {σ : Type} (x : σ ⊕ PV) (ρ : Store) : Fl × Store := match x with
  | .inl _ => (.next, ρ)
  | .inr v => (.ret v, ρ)
def okR {σ : Type} (R : σ → Store → Prop) (x : σ ⊕ PV) (ρ : Store) : Prop := match x with
  | .inl s => R s ρ
  | .inr _ => True
theorem forGo_R {σ α : Type} {R : σ → Store → Prop} {enc : α → At} {body : At → Store → Option (Fl × Store)} {g : σ → α → Option (σ ⊕ PV)}
    (hs : ∀ s ρ a x, R s ρ → g s a = some x → ∃ ρ', body (enc a) ρ = some (outR x ρ') ∧ okR R x ρ') :
    ∀ (items : List α) (s : σ) (ρ : Store) (x : σ ⊕ PV), R s ρ → foldR g s items = some x → ∃ ρ', forGo body (items.map enc) ρ = some (outR x ρ') ∧ okR R x ρ'
  | [], s, ρ, x, h, e => by cases e; exact ⟨ρ, rfl, h⟩
  | a :: r, s, ρ, x, h, e => by
    simp only [foldR, Option.bind_eq_some_iff] at e
    obtain ⟨y, hy, e⟩ := e
    obtain ⟨ρ', h1, h2⟩ := hs s ρ a y h hy
    cases y with
    | inl s' =>
      obtain ⟨ρ'', h3, h4⟩ := forGo_R hs r s' ρ' x h2 e
      refine ⟨ρ'', ?_, h4⟩
      simp only [List.map_cons, forGo, h1, Option.bind_some, outR]
      exact h3
    | inr v =>
      cases e
      exact ⟨ρ', by simp only [List.map_cons, forGo, h1, Option.bind_some, outR], trivial⟩
def foldRi {σ α : Type} (g : σ → Nat → α → Option (σ ⊕ PV)) : Nat → σ → List α → Option (σ ⊕ PV)
  | _, s, [] => some (.inl s)
  | k, s, a :: r => (g s k a).bind fun x => match x with
    | .inl s' => foldRi g (k + 1) s' r
    | .inr v => some (.inr v)
theorem enumGo_R {σ α : Type} {R : σ → Store → Prop} {enc : α → At} {body : Int → At → Store → Option (Fl × Store)} {g : σ → Nat → α → Option (σ ⊕ PV)}
    (hs : ∀ s ρ (k : Nat) a x, R s ρ → g s k a = some x → ∃ ρ', body (k : Int) (enc a) ρ = some (outR x ρ') ∧ okR R x ρ') :
    ∀ (items : List α) (k : Nat) (s : σ) (ρ : Store) (x : σ ⊕ PV), R s ρ → foldRi g k s items = some x → ∃ ρ', enumGo body (k : Int) (items.map enc) ρ = some (outR x ρ') ∧ okR R x ρ'
  | [], k, s, ρ, x, h, e => by cases e; exact ⟨ρ, rfl, h⟩
  | a :: r, k, s, ρ, x, h, e => by
    simp only [foldRi, Option.bind_eq_some_iff] at e
    obtain ⟨y, hy, e⟩ := e
    obtain ⟨ρ', h1, h2⟩ := hs s ρ k a y h hy
    cases y with
    | inl s' =>
      obtain ⟨ρ'', h3, h4⟩ := enumGo_R hs r (k + 1) s' ρ' x h2 e
      refine ⟨ρ'', ?_, h4⟩
      simp only [List.map_cons, enumGo, h1, Option.bind_some, outR]
      exact h3
    | inr v =>
      cases e
      exact ⟨ρ', by simp only [List.map_cons, enumGo, h1, Option.bind_some, outR], trivial⟩
/-! loops that go on or give w -/
def foldO {σ α : Type} (f : σ → α → Option σ) : σ → List α → Option σ
  | s, [] => some s
  | s, a :: r => (f s a).bind fun s' => foldO f s' r
def outO {σ : Type} (w : PV) (o : Option σ) (ρ : Store) : Fl × Store := match o with
  | some _ => (.next, ρ)
  | none => (.ret w, ρ)
def okO' {σ : Type} (R : σ → Store → Prop) (o : Option σ) (ρ : Store) : Prop := match o with
  | some s => R s ρ
  | none => True
theorem forGo_O {σ α : Type} {R : σ → Store → Prop} {enc : α → At} {body : At → Store → Option (Fl × Store)} {f : σ → α → Option σ} (w : PV) :
    ∀ (items : List α) (s : σ) (ρ : Store), (∀ s ρ a, a ∈ items → R s ρ → ∃ ρ', body (enc a) ρ = some (outO w (f s a) ρ') ∧ okO' R (f s a) ρ') → R s ρ →
      ∃ ρ', forGo body (items.map enc) ρ = some (outO w (foldO f s items) ρ') ∧ okO' R (foldO f s items) ρ'
  | [], s, ρ, _, h => ⟨ρ, rfl, h⟩
  | a :: r, s, ρ, hs, h => by
    obtain ⟨ρ', h1, h2⟩ := hs s ρ a (by simp) h
    simp only [List.map_cons, forGo, h1, Option.bind_some, foldO]
    cases hf : f s a with
    | none => exact ⟨ρ', rfl, trivial⟩
    | some s' =>
      rw [hf] at h2
      exact forGo_O w r s' ρ' (fun s ρ b hb => hs s ρ b (by simp [hb])) h2
def foldOi {σ α : Type} (f : σ → Nat → α → Option σ) : Nat → σ → List α → Option σ
  | _, s, [] => some s
  | k, s, a :: r => (f s k a).bind fun s' => foldOi f (k + 1) s' r
theorem enumGo_O {σ α : Type} {R : σ → Store → Prop} {enc : α → At} {body : Int → At → Store → Option (Fl × Store)} {f : σ → Nat → α → Option σ} (w : PV) :
    ∀ (items : List α) (k : Nat) (s : σ) (ρ : Store), (∀ s ρ (k : Nat) a, a ∈ items → R s ρ → ∃ ρ', body (k : Int) (enc a) ρ = some (outO w (f s k a) ρ') ∧ okO' R (f s k a) ρ') → R s ρ →
      ∃ ρ', enumGo body (k : Int) (items.map enc) ρ = some (outO w (foldOi f k s items) ρ') ∧ okO' R (foldOi f k s items) ρ'
  | [], k, s, ρ, _, h => ⟨ρ, rfl, h⟩
  | a :: r, k, s, ρ, hs, h => by
    obtain ⟨ρ', h1, h2⟩ := hs s ρ k a (by simp) h
    simp only [List.map_cons, enumGo, h1, Option.bind_some, foldOi]
    cases hf : f s k a with
    | none => exact ⟨ρ', rfl, trivial⟩
    | some s' =>
      rw [hf] at h2
      exact enumGo_O w r (k + 1) s' ρ' (fun s ρ k b hb => hs s ρ k b (by simp [hb])) h2
theorem compGo_map {α : Type} {enc : α → At} {tst : At → Option Bool} {elt : At → Option At} {f : α → At} : ∀ {items : List α}, (∀ a ∈ items, tst (enc a) = some true) → (∀ a ∈ items, elt (enc a) = some (f a)) → compGo tst elt (items.map enc) = some (items.map f)
  | [], _, _ => rfl
  | a :: r, ht, h => by
    simp only [List.map_cons, compGo, ht a (by simp), Option.bind_some, if_true, h a (by simp)]
    rw [compGo_map (fun b hb => ht b (by simp [hb])) (fun b hb => h b (by simp [hb]))]
    rfl
theorem compGo_filter {α : Type} {enc : α → At} {tst : At → Option Bool} {elt : At → Option At} {f : α → At} {p : α → Bool} : ∀ {items : List α}, (∀ a ∈ items, tst (enc a) = some (p a)) → (∀ a ∈ items, elt (enc a) = some (f a)) → compGo tst elt (items.map enc) = some ((items.filter p).map f)
  | [], _, _ => rfl
  | a :: r, ht, h => by
    simp only [List.map_cons, compGo, ht a (by simp), Option.bind_some]
    have ih := compGo_filter (p := p) (f := f) (fun b hb => ht b (List.mem_cons_of_mem a hb)) (fun b hb => h b (List.mem_cons_of_mem a hb))
    rw [ih, h a (by simp), List.filter_cons]
    cases p a <;> rfl

theorem ev_comp_map {α : Type} {Φ : Nat → List PV → Option PV} {elt it : E} {x : Nat} {k : IK} {ρ : Store} {vs : List PV} (enc f : α → At) (items : List α) (hi : evs Φ it ρ = some vs) (hk : iterItems k vs = some (items.map enc))
    (he : ∀ a ∈ items, ev Φ elt (set ρ x (.a (enc a))) = some (.a (f a))) : ev Φ (.comp elt x k it .nil) ρ = some (.list (items.map f)) := by
  simp only [ev, hi, hk, Option.bind_some]
  rw [compGo_map (f := f) (fun a _ => rfl) (fun a ha => by simp only [he a ha]; rfl)]
  rfl
theorem ev_comp_filter {α : Type} {Φ : Nat → List PV → Option PV} {elt it test : E} {x : Nat} {k : IK} {ρ : Store} {vs : List PV} (enc f : α → At) (p : α → Bool) (items : List α) (hi : evs Φ it ρ = some vs) (hk : iterItems k vs = some (items.map enc))
    (hn : test.isNil = false) (ht : ∀ a ∈ items, ev Φ test (set ρ x (.a (enc a))) = some (.a (.bool (p a)))) (he : ∀ a ∈ items, ev Φ elt (set ρ x (.a (enc a))) = some (.a (f a))) : ev Φ (.comp elt x k it test) ρ = some (.list ((items.filter p).map f)) := by
  simp only [ev, hi, hk, Option.bind_some]
  rw [compGo_filter (f := f) (p := p) (fun a ha => by rw [hn, if_neg (by decide), ht a ha]; rfl) (fun a ha => by simp only [he a ha]; rfl)]
  rfl

/-! one step of each operation, at values -/
theorem isAt_a (x : At) : isAt (.a x) = true := rfl
theorem it_str (l : L) : iterItems .val [.a (.str l)] = some (l.map fun c => .str [c]) := rfl
theorem it_list (l : List At) : iterItems .val [.list l] = some l := rfl
theorem it_tup (l : List At) : iterItems .val [.tup l] = some l := rfl
theorem c_eq_str (a b : L) : cmpop .Eq (.a (.str a)) (.a (.str b)) = some (decide (a = b)) := rfl
theorem c_ne_str (a b : L) : cmpop .NotEq (.a (.str a)) (.a (.str b)) = some (!decide (a = b)) := rfl
theorem c_eq_int (a b : Int) : cmpop .Eq (.a (.int a)) (.a (.int b)) = some (decide (a = b)) := by simp [cmpop, PV.plain, At.plain]
theorem c_ne_int (a b : Int) : cmpop .NotEq (.a (.int a)) (.a (.int b)) = some (!decide (a = b)) := by simp [cmpop, PV.plain, At.plain]
theorem c_lt (a b : Int) : cmpop .Lt (.a (.int a)) (.a (.int b)) = some (decide (a < b)) := rfl
theorem c_le (a b : Int) : cmpop .LtE (.a (.int a)) (.a (.int b)) = some (decide (a ≤ b)) := rfl
theorem c_gt (a b : Int) : cmpop .Gt (.a (.int a)) (.a (.int b)) = some (decide (b < a)) := rfl
theorem c_ge (a b : Int) : cmpop .GtE (.a (.int a)) (.a (.int b)) = some (decide (b ≤ a)) := rfl
theorem c_le_one (a b : Nat) : cmpop .LtE (.a (.str [a])) (.a (.str [b])) = some (decide (a ≤ b)) := by
  show some (!decide ([b] < [a])) = _
  congr 1
  by_cases h : a ≤ b
  · have : ¬ b < a := by omega
    simp [h, List.cons_lt_cons_iff, this]
  · have : b < a := by omega
    simp [h, List.cons_lt_cons_iff, this]
theorem c_is_none : cmpop .Is (.a .none) (.a .none) = some true := rfl
theorem c_is_int (a : Int) : cmpop .Is (.a (.int a)) (.a .none) = some false := rfl
theorem c_is_list (a : List At) : cmpop .Is (.list a) (.a .none) = some false := rfl
theorem c_in_str (c : Nat) (x : L) : cmpop .In (.a (.str [c])) (.a (.str x)) = some (decide (c ∈ x)) := rfl
theorem b_add (a b : Int) : binop .Add (.a (.int a)) (.a (.int b)) = some (.a (.int (a + b))) := rfl
theorem b_sub (a b : Int) : binop .Sub (.a (.int a)) (.a (.int b)) = some (.a (.int (a - b))) := rfl
theorem b_mulR (a : Int) (b : Int) (h : b.natAbs < 2 ^ 64) : binop .Mult (.a (.int a)) (.a (.int b)) = some (.a (.int (a * b))) := by
  show (if _ then _ else _) = _
  rw [if_pos (.inr (.inl h))]
theorem b_mulL (a : Int) (b : Int) (h : a.natAbs < 2 ^ 64) : binop .Mult (.a (.int a)) (.a (.int b)) = some (.a (.int (a * b))) := by
  show (if _ then _ else _) = _
  rw [if_pos (.inl h)]
theorem b_div (a b : Int) (h : 0 < b) (h' : b < 2 ^ 200) : binop .FloorDiv (.a (.int a)) (.a (.int b)) = some (.a (.int (a / b))) := by
  show (if _ then _ else _) = _
  rw [if_pos ⟨h, h'⟩]
theorem b_mod (a b : Int) (h : 0 < b) : binop .Mod (.a (.int a)) (.a (.int b)) = some (.a (.int (a % b))) := by
  show (if _ then _ else _) = _
  rw [if_pos h]
theorem b_cat (a b : L) (h : a.length + b.length ≤ sizeLine) : binop .Add (.a (.str a)) (.a (.str b)) = some (.a (.str (a ++ b))) := by
  show (if _ then _ else _) = _
  rw [if_pos h]
theorem b_app (a b : List At) (h : a.length + b.length ≤ sizeLine) : binop .Add (.list a) (.list b) = some (.list (a ++ b)) := by
  show (if _ then _ else _) = _
  rw [if_pos h]
theorem f_len (l : L) : bi .len [.a (.str l)] = some (.a (.int l.length)) := rfl
theorem f_lenL (l : List At) : bi .len [.list l] = some (.a (.int l.length)) := rfl
theorem f_ord (c : Nat) : bi .ord [.a (.str [c])] = some (.a (.int c)) := rfl
theorem f_str (i : Int) (h : i.natAbs < 2 ^ 64) (h' : (textInt i).length ≤ sizeLine) : bi .str [.a (.int i)] = some (.a (.str (textInt i))) := by
  show (if _ then _ else _) = _
  rw [if_pos ⟨h, h'⟩]
theorem m_find (l : L) (c : Nat) : me .find (.a (.str l)) [.a (.str [c])] = some (.a (.int (findC c l))) := rfl
theorem t_b (b : Bool) : truth (.a (.bool b)) = some b := rfl
theorem e_str (Φ : Nat → List PV → Option PV) (ρ : Store) (l : L) (h : l.length ≤ 1000) : ev Φ (.str l) ρ = some (.a (.str l)) := by
  simp only [ev]
  rw [if_pos (by rw [sizeLine_eq]; omega)]
theorem i_str (l : L) (i : Int) (h : 0 ≤ i) : index (.a (.str l)) (.a (.int i)) = (l[i.toNat]?).map fun c => .a (.str [c]) := by
  simp [index, h]
theorem i_list (l : List At) (i : Int) (h : 0 ≤ i) : index (.list l) (.a (.int i)) = (l[i.toNat]?).map .a := by
  simp [index, h]
end Mine
end
section
open PySem PySem.Calls
set_option maxRecDepth 100000
namespace Mine
/-! decimal_of -/
def decG (n c : Nat) : Option Nat := if 48 ≤ c ∧ c ≤ 57 then some (n * 10 + (c - 48)) else none
def decOf (l : L) (m : Nat) : Option Nat :=
  if l = [] ∨ 3 < l.length ∨ (l[0]? = some 48 ∧ l ≠ [48]) then none else (foldO decG 0 l).bind fun n => if n ≤ m then some n else none

theorem x1 (Φ : Nat → List PV → Option PV) (l : L) (m : Nat) : run Φ 4 bDecimalOf [S1 l, I1 m] = some (optI (decOf l m)) := by
  have step : ∀ (s : Nat) ρ (c : Nat), c ∈ l → (∃ o, ρ = [some (S1 l), some (I1 m), some (I1 s), o]) →
      ∃ ρ', ex Φ lDecimalOf1 (set ρ 3 (.a (.str [c]))) = some (outO (.a .none) (decG s c) ρ') ∧ okO' (fun (s : Nat) ρ => ∃ o, ρ = [some (S1 l), some (I1 m), some (I1 s), o]) (decG s c) ρ' := by
    rintro s ρ c _ ⟨o, rfl⟩
    by_cases h1 : 48 ≤ c
    · by_cases h2 : c ≤ 57
      · simp [lDecimalOf1, ex, ev, evs, evb, get, set, initS, c_eq_str, c_ne_str, c_eq_int, c_ne_int, c_lt, c_le, c_gt, c_ge, c_le_one, outO, okO', b_mulR, b_mulL, c_is_none, c_is_int, c_is_list, c_in_str, b_add, b_sub, f_len, f_lenL, f_ord, m_find, t_b, sizeLine_eq, isAt_a, fresh, i_str, i_list, it_str, it_list, it_tup, S1, I1, h1, h2, decG]
        have e : ((c - 48 : Nat) : Int) = (c : Int) - 48 := by omega
        rw [e]; omega
      · simp [lDecimalOf1, ex, ev, evs, evb, get, set, initS, c_eq_str, c_ne_str, c_eq_int, c_ne_int, c_lt, c_le, c_gt, c_ge, c_le_one, outO, okO', b_mulR, b_mulL, c_is_none, c_is_int, c_is_list, c_in_str, b_add, b_sub, f_len, f_lenL, f_ord, m_find, t_b, sizeLine_eq, isAt_a, fresh, i_str, i_list, it_str, it_list, it_tup, S1, I1, h1, h2, decG]
    · simp [lDecimalOf1, ex, ev, evs, evb, get, set, initS, c_eq_str, c_ne_str, c_eq_int, c_ne_int, c_lt, c_le, c_gt, c_ge, c_le_one, outO, okO', b_mulR, b_mulL, c_is_none, c_is_int, c_is_list, c_in_str, b_add, b_sub, f_len, f_lenL, f_ord, m_find, t_b, sizeLine_eq, isAt_a, fresh, i_str, i_list, it_str, it_list, it_tup, S1, I1, h1, decG]
  by_cases h1 : l = []
  · subst h1
    simp [run, bDecimalOf, ex, ev, evs, evb, get, set, initS, c_eq_str, c_ne_str, c_eq_int, c_ne_int, c_lt, c_le, c_gt, c_ge, c_le_one, outO, okO', b_mulR, b_mulL, c_is_none, c_is_int, c_is_list, c_in_str, b_add, b_sub, f_len, f_lenL, f_ord, m_find, t_b, sizeLine_eq, isAt_a, fresh, i_str, i_list, it_str, it_list, it_tup, S1, I1, decOf, optI]
  by_cases h2 : 3 < l.length
  · have h2' : (3 : Int) < l.length := by omega
    simp [run, bDecimalOf, ex, ev, evs, evb, get, set, initS, c_eq_str, c_ne_str, c_eq_int, c_ne_int, c_lt, c_le, c_gt, c_ge, c_le_one, outO, okO', b_mulR, b_mulL, c_is_none, c_is_int, c_is_list, c_in_str, b_add, b_sub, f_len, f_lenL, f_ord, m_find, t_b, sizeLine_eq, isAt_a, fresh, i_str, i_list, it_str, it_list, it_tup, S1, I1, decOf, optI, h1, h2, h2']
  have h2' : ¬ (3 : Int) < l.length := by omega
  obtain ⟨c, r, rfl⟩ := List.exists_cons_of_ne_nil h1
  have h5 : (r.length : Int) + 1 ≤ 3 := by simp at h2'; omega
  have h6 : r.length + 1 ≤ 3 := by omega
  by_cases h3 : c = 48 ∧ r ≠ []
  · simp [run, bDecimalOf, ex, ev, evs, evb, get, set, initS, c_eq_str, c_ne_str, c_eq_int, c_ne_int, c_lt, c_le, c_gt, c_ge, c_le_one, outO, okO', b_mulR, b_mulL, c_is_none, c_is_int, c_is_list, c_in_str, b_add, b_sub, f_len, f_lenL, f_ord, m_find, t_b, sizeLine_eq, isAt_a, fresh, i_str, i_list, it_str, it_list, it_tup, S1, I1, decOf, optI, h5, h6, h3]
  obtain ⟨ρ', hgo, hR⟩ : ∃ ρ', forGo (fun a ρ => ex Φ lDecimalOf1 (set ρ 3 (.a a))) ((c :: r).map fun c => .str [c]) [some (.a (.str (c :: r))), some (.a (.int m)), some (.a (.int 0)), none] = some (outO (.a .none) (foldO decG 0 (c :: r)) ρ') ∧ _ :=
    forGo_O (.a .none) (c :: r) 0 _ step ⟨none, rfl⟩
  have h8 : ¬ (c :: r = [] ∨ 3 < (c :: r).length ∨ ((c :: r)[0]? = some 48 ∧ c :: r ≠ [48])) := by
    simp [h6]
    exact fun e => Classical.byContradiction fun hr => h3 ⟨e, fun h => hr (by simp [e, h])⟩
  unfold decOf
  rw [if_neg h8]
  simp only [List.map_cons] at hgo
  cases hx : foldO decG 0 (c :: r) with
  | none =>
    rw [hx] at hgo
    by_cases hc : c = 48
    · obtain rfl : r = [] := by simpa [hc] using h3
      subst hc
      simp only [List.map_nil] at hgo
      simp [run, bDecimalOf, ex, ev, evs, evb, get, set, initS, c_eq_str, c_ne_str, c_eq_int, c_ne_int, c_lt, c_le, c_gt, c_ge, c_le_one, outO, okO', b_mulR, b_mulL, c_is_none, c_is_int, c_is_list, c_in_str, b_add, b_sub, f_len, f_lenL, f_ord, m_find, t_b, sizeLine_eq, isAt_a, fresh, i_str, i_list, it_str, it_list, it_tup, S1, I1, hgo, optI]
    · simp [run, bDecimalOf, ex, ev, evs, evb, get, set, initS, c_eq_str, c_ne_str, c_eq_int, c_ne_int, c_lt, c_le, c_gt, c_ge, c_le_one, outO, okO', b_mulR, b_mulL, c_is_none, c_is_int, c_is_list, c_in_str, b_add, b_sub, f_len, f_lenL, f_ord, m_find, t_b, sizeLine_eq, isAt_a, fresh, i_str, i_list, it_str, it_list, it_tup, S1, I1, h5, hc, hgo, optI]
  | some k =>
    rw [hx] at hgo hR
    obtain ⟨o, rfl⟩ := hR
    by_cases h4 : k ≤ m
    · have h4' : (k : Int) ≤ m := by omega
      by_cases hc : c = 48
      · obtain rfl : r = [] := by simpa [hc] using h3
        subst hc
        simp only [List.map_nil] at hgo
        simp [run, bDecimalOf, ex, ev, evs, evb, get, set, initS, c_eq_str, c_ne_str, c_eq_int, c_ne_int, c_lt, c_le, c_gt, c_ge, c_le_one, outO, okO', b_mulR, b_mulL, c_is_none, c_is_int, c_is_list, c_in_str, b_add, b_sub, f_len, f_lenL, f_ord, m_find, t_b, sizeLine_eq, isAt_a, fresh, i_str, i_list, it_str, it_list, it_tup, S1, I1, hgo, h4, h4', optI]
      · simp [run, bDecimalOf, ex, ev, evs, evb, get, set, initS, c_eq_str, c_ne_str, c_eq_int, c_ne_int, c_lt, c_le, c_gt, c_ge, c_le_one, outO, okO', b_mulR, b_mulL, c_is_none, c_is_int, c_is_list, c_in_str, b_add, b_sub, f_len, f_lenL, f_ord, m_find, t_b, sizeLine_eq, isAt_a, fresh, i_str, i_list, it_str, it_list, it_tup, S1, I1, h5, hc, hgo, h4, h4', optI]
    · have h4' : ¬ (k : Int) ≤ m := by omega
      by_cases hc : c = 48
      · obtain rfl : r = [] := by simpa [hc] using h3
        subst hc
        simp only [List.map_nil] at hgo
        simp [run, bDecimalOf, ex, ev, evs, evb, get, set, initS, c_eq_str, c_ne_str, c_eq_int, c_ne_int, c_lt, c_le, c_gt, c_ge, c_le_one, outO, okO', b_mulR, b_mulL, c_is_none, c_is_int, c_is_list, c_in_str, b_add, b_sub, f_len, f_lenL, f_ord, m_find, t_b, sizeLine_eq, isAt_a, fresh, i_str, i_list, it_str, it_list, it_tup, S1, I1, hgo, h4, h4', optI]
      · simp [run, bDecimalOf, ex, ev, evs, evb, get, set, initS, c_eq_str, c_ne_str, c_eq_int, c_ne_int, c_lt, c_le, c_gt, c_ge, c_le_one, outO, okO', b_mulR, b_mulL, c_is_none, c_is_int, c_is_list, c_in_str, b_add, b_sub, f_len, f_lenL, f_ord, m_find, t_b, sizeLine_eq, isAt_a, fresh, i_str, i_list, it_str, it_list, it_tup, S1, I1, h5, hc, hgo, h4, h4', optI]

/-! hex_of, _law_group -/
def hx (c : Nat) : Option Nat := if 48 ≤ c ∧ c ≤ 57 then some (c - 48) else if 97 ≤ c ∧ c ≤ 102 then some (c - 87) else if 65 ≤ c ∧ c ≤ 70 then some (c - 55) else none
def hexG (n c : Nat) : Option Nat := (hx c).map fun d => n * 16 + d
def hexOf (l : L) (m : Nat) : Option Nat := if 1 ≤ l.length ∧ l.length ≤ m then foldO hexG 0 l else none
def hex22 : L := [48, 49, 50, 51, 52, 53, 54, 55, 56, 57, 97, 98, 99, 100, 101, 102, 65, 66, 67, 68, 69, 70]
def hex16 : L := [48, 49, 50, 51, 52, 53, 54, 55, 56, 57, 97, 98, 99, 100, 101, 102]
def find22 (c : Nat) : Int := match hx c with
  | some d => if 65 ≤ c ∧ c ≤ 70 then (d : Int) + 6 else d
  | none => -1
theorem findC_not {c : Nat} {l : L} (h : c ∉ l) : findC c l = -1 := by
  rcases findC_spec c l with ⟨e, _⟩ | ⟨i, _, h1, _⟩
  · exact e
  · exact absurd (List.mem_of_getElem? h1) h
theorem find22_eq (c : Nat) : findC c hex22 = find22 c := by
  by_cases h : c < 128
  · have : ∀ c, c < 128 → findC c hex22 = find22 c := by decide +kernel
    exact this c h
  · rw [findC_not (by simp [hex22]; omega)]
    have : hx c = none := by unfold hx; rw [if_neg (by omega), if_neg (by omega), if_neg (by omega)]
    simp [find22, this]
def find16 (c : Nat) : Int := match hx c with
  | some d => d
  | none => -1
theorem find16_eq {c : Nat} (h : c < 128) : findC (lowerC c) hex16 = find16 c := by
  have : ∀ c, c < 128 → findC (lowerC c) hex16 = find16 c := by decide +kernel
  exact this c h

theorem x2 (Φ : Nat → List PV → Option PV) (l : L) (m : Nat) : run Φ 5 bHexOf [S1 l, I1 m] = some (optI (hexOf l m)) := by
  have step : ∀ (s : Nat) ρ (c : Nat), c ∈ l → (∃ o o', ρ = [some (S1 l), some (I1 m), some (I1 s), o, o']) →
      ∃ ρ', ex Φ lHexOf1 (set ρ 3 (.a (.str [c]))) = some (outO (.a .none) (hexG s c) ρ') ∧ okO' (fun (s : Nat) ρ => ∃ o o', ρ = [some (S1 l), some (I1 m), some (I1 s), o, o']) (hexG s c) ρ' := by
    rintro s ρ c _ ⟨o, o', rfl⟩
    have hf : findC c [48, 49, 50, 51, 52, 53, 54, 55, 56, 57, 97, 98, 99, 100, 101, 102, 65, 66, 67, 68, 69, 70] = find22 c := find22_eq c
    cases hh : hx c with
    | none => simp [lHexOf1, ex, ev, evs, evb, get, set, initS, c_eq_str, c_ne_str, c_eq_int, c_ne_int, c_lt, c_le, c_gt, c_ge, c_le_one, outO, okO', b_mulR, b_mulL, c_is_none, c_is_int, c_is_list, c_in_str, b_add, b_sub, f_len, f_lenL, f_ord, m_find, t_b, sizeLine_eq, isAt_a, fresh, i_str, i_list, it_str, it_list, it_tup, S1, I1, hf, find22, hh, hexG]
    | some d =>
      have hd : d < 16 := by
        unfold hx at hh
        split at hh
        · cases hh; omega
        · split at hh
          · cases hh; omega
          · split at hh
            · cases hh; omega
            · cases hh
      by_cases hc : 65 ≤ c ∧ c ≤ 70
      · have hd' : 10 ≤ d := by
          unfold hx at hh
          rw [if_neg (by omega), if_neg (by omega), if_pos hc] at hh
          cases hh; omega
        have h1 : ¬ (d : Int) + 6 < 0 := by omega
        have h2 : ¬ (d : Int) + 6 < 16 := by omega
        simp [lHexOf1, ex, ev, evs, evb, get, set, initS, c_eq_str, c_ne_str, c_eq_int, c_ne_int, c_lt, c_le, c_gt, c_ge, c_le_one, outO, okO', b_mulR, b_mulL, c_is_none, c_is_int, c_is_list, c_in_str, b_add, b_sub, f_len, f_lenL, f_ord, m_find, t_b, sizeLine_eq, isAt_a, fresh, i_str, i_list, it_str, it_list, it_tup, S1, I1, hf, find22, hh, hexG, hc, h1, h2]
      · have h1 : ¬ (d : Int) < 0 := by omega
        have h2 : (d : Int) < 16 := by omega
        simp [lHexOf1, ex, ev, evs, evb, get, set, initS, c_eq_str, c_ne_str, c_eq_int, c_ne_int, c_lt, c_le, c_gt, c_ge, c_le_one, outO, okO', b_mulR, b_mulL, c_is_none, c_is_int, c_is_list, c_in_str, b_add, b_sub, f_len, f_lenL, f_ord, m_find, t_b, sizeLine_eq, isAt_a, fresh, i_str, i_list, it_str, it_list, it_tup, S1, I1, hf, find22, hh, hexG, hc, h1, h2]
  by_cases h1 : 1 ≤ l.length
  · have h1' : (1 : Int) ≤ l.length := by omega
    by_cases h2 : l.length ≤ m
    · have h2' : (l.length : Int) ≤ m := by omega
      obtain ⟨ρ', hgo, hR⟩ : ∃ ρ', forGo (fun a ρ => ex Φ lHexOf1 (set ρ 3 (.a a))) (l.map fun c => .str [c]) [some (.a (.str l)), some (.a (.int m)), some (.a (.int 0)), none, none] = some (outO (.a .none) (foldO hexG 0 l) ρ') ∧ _ :=
        forGo_O (.a .none) l 0 _ step ⟨none, none, rfl⟩
      unfold hexOf
      rw [if_pos ⟨h1, h2⟩]
      cases hx : foldO hexG 0 l with
      | none =>
        rw [hx] at hgo
        simp [run, bHexOf, ex, ev, evs, evb, get, set, initS, c_eq_str, c_ne_str, c_eq_int, c_ne_int, c_lt, c_le, c_gt, c_ge, c_le_one, outO, okO', b_mulR, b_mulL, c_is_none, c_is_int, c_is_list, c_in_str, b_add, b_sub, f_len, f_lenL, f_ord, m_find, t_b, sizeLine_eq, isAt_a, fresh, i_str, i_list, it_str, it_list, it_tup, S1, I1, h1', h2', hgo, optI]
      | some k =>
        rw [hx] at hgo hR
        obtain ⟨o, o', rfl⟩ := hR
        simp [run, bHexOf, ex, ev, evs, evb, get, set, initS, c_eq_str, c_ne_str, c_eq_int, c_ne_int, c_lt, c_le, c_gt, c_ge, c_le_one, outO, okO', b_mulR, b_mulL, c_is_none, c_is_int, c_is_list, c_in_str, b_add, b_sub, f_len, f_lenL, f_ord, m_find, t_b, sizeLine_eq, isAt_a, fresh, i_str, i_list, it_str, it_list, it_tup, S1, I1, h1', h2', hgo, optI]
    · have h2' : ¬ (l.length : Int) ≤ m := by omega
      simp [run, bHexOf, ex, ev, evs, evb, get, set, initS, c_eq_str, c_ne_str, c_eq_int, c_ne_int, c_lt, c_le, c_gt, c_ge, c_le_one, outO, okO', b_mulR, b_mulL, c_is_none, c_is_int, c_is_list, c_in_str, b_add, b_sub, f_len, f_lenL, f_ord, m_find, t_b, sizeLine_eq, isAt_a, fresh, i_str, i_list, it_str, it_list, it_tup, S1, I1, h1', h2', optI, hexOf, h2]
  · have h1' : ¬ (1 : Int) ≤ l.length := by omega
    simp [run, bHexOf, ex, ev, evs, evb, get, set, initS, c_eq_str, c_ne_str, c_eq_int, c_ne_int, c_lt, c_le, c_gt, c_ge, c_le_one, outO, okO', b_mulR, b_mulL, c_is_none, c_is_int, c_is_list, c_in_str, b_add, b_sub, f_len, f_lenL, f_ord, m_find, t_b, sizeLine_eq, isAt_a, fresh, i_str, i_list, it_str, it_list, it_tup, S1, I1, h1', optI, hexOf, h1]
def lawGroup (l : L) : Int := match hexOf l 4 with
  | some g => g
  | none => -1
theorem x20 (Φ : Nat → List PV → Option PV) (l : L) (ha : ∀ c ∈ l, c < 128) : run Φ 4 bLawGroup [S1 l] = some (.a (.int (lawGroup l))) := by
  have step : ∀ (s : Nat) ρ (c : Nat), c ∈ l → (∃ o o', ρ = [some (S1 l), some (I1 s), o, o']) →
      ∃ ρ', ex Φ lLawGroup1 (set ρ 2 (.a (.str [c]))) = some (outO (.a (.int (-1))) (hexG s c) ρ') ∧ okO' (fun (s : Nat) ρ => ∃ o o', ρ = [some (S1 l), some (I1 s), o, o']) (hexG s c) ρ' := by
    rintro s ρ c hc ⟨o, o', rfl⟩
    have hf : findC (lowerC c) [48, 49, 50, 51, 52, 53, 54, 55, 56, 57, 97, 98, 99, 100, 101, 102] = find16 c := find16_eq (ha c hc)
    have hl : me .lower (.a (.str [c])) [] = some (.a (.str [lowerC c])) := by
      show (if _ then _ else _) = _
      rw [if_pos (ha c hc)]
    cases hh : hx c with
    | none => simp [lLawGroup1, ex, ev, evs, evb, get, set, initS, c_eq_str, c_ne_str, c_eq_int, c_ne_int, c_lt, c_le, c_gt, c_ge, c_le_one, outO, okO', b_mulR, b_mulL, c_is_none, c_is_int, c_is_list, c_in_str, b_add, b_sub, f_len, f_lenL, f_ord, m_find, t_b, sizeLine_eq, isAt_a, fresh, i_str, i_list, it_str, it_list, it_tup, S1, I1, hf, find16, hh, hexG, hl]
    | some d =>
      have h1 : ¬ (d : Int) < 0 := by omega
      simp [lLawGroup1, ex, ev, evs, evb, get, set, initS, c_eq_str, c_ne_str, c_eq_int, c_ne_int, c_lt, c_le, c_gt, c_ge, c_le_one, outO, okO', b_mulR, b_mulL, c_is_none, c_is_int, c_is_list, c_in_str, b_add, b_sub, f_len, f_lenL, f_ord, m_find, t_b, sizeLine_eq, isAt_a, fresh, i_str, i_list, it_str, it_list, it_tup, S1, I1, hf, find16, hh, hexG, hl, h1]
      omega
  obtain ⟨ρ', hgo, hR⟩ : ∃ ρ', forGo (fun a ρ => ex Φ lLawGroup1 (set ρ 2 (.a a))) (l.map fun c => .str [c]) [some (.a (.str l)), some (.a (.int 0)), none, none] = some (outO (.a (.int (-1))) (foldO hexG 0 l) ρ') ∧ _ :=
    forGo_O (.a (.int (-1))) l 0 _ step ⟨none, none, rfl⟩
  cases hx : foldO hexG 0 l with
  | none =>
    rw [hx] at hgo
    simp [run, bLawGroup, ex, ev, evs, evb, get, set, initS, c_eq_str, c_ne_str, c_eq_int, c_ne_int, c_lt, c_le, c_gt, c_ge, c_le_one, outO, okO', b_mulR, b_mulL, c_is_none, c_is_int, c_is_list, c_in_str, b_add, b_sub, f_len, f_lenL, f_ord, m_find, t_b, sizeLine_eq, isAt_a, fresh, i_str, i_list, it_str, it_list, it_tup, S1, I1, hgo, lawGroup, hexOf, hx]
  | some k =>
    rw [hx] at hgo hR
    obtain ⟨o, o', rfl⟩ := hR
    by_cases h1 : 1 ≤ l.length
    · have h1' : (1 : Int) ≤ l.length := by omega
      by_cases h2 : l.length ≤ 4
      · have h2' : (l.length : Int) ≤ 4 := by omega
        simp [run, bLawGroup, ex, ev, evs, evb, get, set, initS, c_eq_str, c_ne_str, c_eq_int, c_ne_int, c_lt, c_le, c_gt, c_ge, c_le_one, outO, okO', b_mulR, b_mulL, c_is_none, c_is_int, c_is_list, c_in_str, b_add, b_sub, f_len, f_lenL, f_ord, m_find, t_b, sizeLine_eq, isAt_a, fresh, i_str, i_list, it_str, it_list, it_tup, S1, I1, hgo, lawGroup, hexOf, hx, h1, h2, h1', h2']
      · have h2' : ¬ (l.length : Int) ≤ 4 := by omega
        simp [run, bLawGroup, ex, ev, evs, evb, get, set, initS, c_eq_str, c_ne_str, c_eq_int, c_ne_int, c_lt, c_le, c_gt, c_ge, c_le_one, outO, okO', b_mulR, b_mulL, c_is_none, c_is_int, c_is_list, c_in_str, b_add, b_sub, f_len, f_lenL, f_ord, m_find, t_b, sizeLine_eq, isAt_a, fresh, i_str, i_list, it_str, it_list, it_tup, S1, I1, hgo, lawGroup, hexOf, hx, h1, h2, h1', h2']
    · have h1' : ¬ (1 : Int) ≤ l.length := by omega
      simp [run, bLawGroup, ex, ev, evs, evb, get, set, initS, c_eq_str, c_ne_str, c_eq_int, c_ne_int, c_lt, c_le, c_gt, c_ge, c_le_one, outO, okO', b_mulR, b_mulL, c_is_none, c_is_int, c_is_list, c_in_str, b_add, b_sub, f_len, f_lenL, f_ord, m_find, t_b, sizeLine_eq, isAt_a, fresh, i_str, i_list, it_str, it_list, it_tup, S1, I1, hgo, lawGroup, hexOf, hx, h1, h1']
end Mine
end
section
open PySem PySem.Calls
set_option maxRecDepth 100000
namespace Mine
/-! split by one sign, by two colons -/
def cons1 (c : Nat) : List L → List L
  | [] => [[c]]
  | h :: t => (c :: h) :: t
def splitC (c : Nat) : L → List L
  | [] => [[]]
  | x :: r => if x = c then [] :: splitC c r else cons1 x (splitC c r)
def split2 : L → List L
  | [] => [[]]
  | [x] => [[x]]
  | x :: y :: r => if x = 58 ∧ y = 58 then [] :: split2 r else cons1 x (split2 (y :: r))
theorem splitL_C (c : Nat) : ∀ (l : L) (n : Nat), l.length < n → splitL [c] n l = splitC c l
  | [], n + 1, _ => rfl
  | x :: r, 0, h => by simp at h
  | [], 0, h => by simp at h
  | x :: r, n + 1, h => by
    have ih := splitL_C c r n (by simp at h; omega)
    rw [splitL, splitC]
    by_cases e : x = c
    · subst e
      simp [List.isPrefixOf, ih]
    · have e' : ¬ c = x := fun q => e q.symm
      have : ([c].isPrefixOf (x :: r)) = false := by simp [List.isPrefixOf, e']
      rw [this, if_neg (by decide), if_neg e, ih]
      cases splitC c r <;> rfl
theorem splitL_2 : ∀ (l : L) (n : Nat), l.length < n → splitL [58, 58] n l = split2 l
  | [], 0, h => by simp at h
  | [], n + 1, _ => rfl
  | [x], 0, h => by simp at h
  | [x], n + 1, h => by
    have : n ≠ 0 := by simp at h; omega
    obtain ⟨m, rfl⟩ := Nat.exists_eq_succ_of_ne_zero this
    have e : ([58, 58].isPrefixOf [x]) = false := by simp [List.isPrefixOf]
    rw [splitL, e, if_neg (by decide)]
    rfl
  | x :: y :: r, 0, h => by simp at h
  | x :: y :: r, n + 1, h => by
    have ih1 := splitL_2 r n (by simp at h; omega)
    have ih2 := splitL_2 (y :: r) n (by simp at h ⊢; omega)
    rw [splitL, split2]
    by_cases e : x = 58 ∧ y = 58
    · obtain ⟨rfl, rfl⟩ := e
      have : ([58, 58].isPrefixOf (58 :: 58 :: r)) = true := by simp [List.isPrefixOf]
      rw [this]
      simp [ih1]
    · have : ([58, 58].isPrefixOf (x :: y :: r)) = false := by
        rw [Bool.eq_false_iff]
        intro q
        simp [List.isPrefixOf] at q
        exact e ⟨q.1.symm, q.2.symm⟩
      rw [this, if_neg (by decide), if_neg e, ih2]
      cases split2 (y :: r) <;> rfl
theorem splitC_ne (c : Nat) (l : L) : splitC c l ≠ [] := by
  cases l with
  | nil => simp [splitC]
  | cons x r =>
    unfold splitC
    split
    · simp
    · cases splitC c r <;> simp [cons1]
theorem split2_ne (l : L) : split2 l ≠ [] := by
  rw [← splitL_2 l (l.length + 1) (Nat.lt_succ_self _)]
  exact splitL_ne _ _ _
theorem splitC_sub {c : Nat} : ∀ {l w : L}, w ∈ splitC c l → w.length ≤ l.length ∧ (∀ x ∈ w, x ∈ l) ∧ c ∉ w
  | [], w, h => by simp [splitC] at h; simp [h]
  | x :: r, w, h => by
    unfold splitC at h
    split at h
    · rcases List.mem_cons.mp h with rfl | h
      · simp
      · obtain ⟨h1, h2, h3⟩ := splitC_sub h
        exact ⟨by simp; omega, fun y hy => by simp [h2 y hy], h3⟩
    · rename_i hx
      cases hs : splitC c r with
      | nil => exact absurd hs (splitC_ne _ _)
      | cons a t =>
        rw [hs] at h
        rcases List.mem_cons.mp h with rfl | h
        · obtain ⟨h1, h2, h3⟩ := splitC_sub (c := c) (l := r) (w := a) (by rw [hs]; simp)
          refine ⟨by simp; omega, fun y hy => ?_, ?_⟩
          · rcases List.mem_cons.mp hy with rfl | hy
            · simp
            · simp [h2 y hy]
          · simp only [List.mem_cons, not_or]; exact ⟨fun q => hx q.symm, h3⟩
        · obtain ⟨h1, h2, h3⟩ := splitC_sub (c := c) (l := r) (w := w) (by rw [hs]; simp [h])
          exact ⟨by simp; omega, fun y hy => by simp [h2 y hy], h3⟩
theorem m_split (l : L) (c : Nat) (hc : c < 256) (hl : l.length ≤ 1000) : me .split (.a (.str l)) [.a (.str [c])] = some (.list ((splitC c l).map .str)) := by
  have hl' : l.length < sizeLine := by rw [sizeLine_eq]; omega
  show (if _ then _ else _) = _
  rw [if_pos ⟨by simp, by simpa using hc, hl'⟩, splitL_C c l _ (Nat.lt_succ_self _)]
theorem m_split2 (l : L) (hl : l.length ≤ 1000) : me .split (.a (.str l)) [.a (.str [58, 58])] = some (.list ((split2 l).map .str)) := by
  have hl' : l.length < sizeLine := by rw [sizeLine_eq]; omega
  show (if _ then _ else _) = _
  rw [if_pos ⟨by simp, by simp, hl'⟩, splitL_2 l _ (Nat.lt_succ_self _)]
def short (l : L) : Bool := decide (l.length ≤ 1000) && l.all fun c => decide (c < 128)
theorem short_iff {l : L} : short l = true ↔ l.length ≤ 1000 ∧ ∀ c ∈ l, c < 128 := by simp [short]
theorem short_part {c : Nat} {l w : L} (h : short l = true) (hw : w ∈ splitC c l) : short w = true := by
  obtain ⟨h1, h2⟩ := short_iff.mp h
  obtain ⟨h3, h4, _⟩ := splitC_sub hw
  exact short_iff.mpr ⟨by omega, fun x hx => h2 x (h4 x hx)⟩

/-! ip4_of, mac_of -/
def numG (f : L → Option Nat) (n : Nat) (w : L) : Option Nat := (f w).map fun o => n * 256 + o
def partsOf (c : Nat) (k : Nat) (f : L → Option Nat) (l : L) : Option Nat := if (splitC c l).length = k then foldO (numG f) 0 (splitC c l) else none
def ip4Of (l : L) : Option Nat := partsOf 46 4 (fun w => decOf w 255) l
def macOf (l : L) : Option Nat := partsOf 58 6 (fun w => hexOf w 2) l

theorem x4 {Φ : Nat → List PV → Option PV} (h1 : ∀ l m, Φ 1 [S1 l, I1 m] = some (optI (decOf l m))) (l : L) (hl : l.length ≤ 1000) : run Φ 5 bIp4Of [S1 l] = some (optI (ip4Of l)) := by
  have step : ∀ (s : Nat) ρ (w : L), w ∈ splitC 46 l → (∃ o o', ρ = [some (S1 l), some (.list ((splitC 46 l).map .str)), some (I1 s), o, o']) →
      ∃ ρ', ex Φ lIp4Of1 (set ρ 3 (.a (.str w))) = some (outO (.a .none) (numG (fun w => decOf w 255) s w) ρ') ∧ okO' (fun (s : Nat) ρ => ∃ o o', ρ = [some (S1 l), some (.list ((splitC 46 l).map .str)), some (I1 s), o, o']) (numG (fun w => decOf w 255) s w) ρ' := by
    rintro s ρ w _ ⟨o, o', rfl⟩
    have h := h1 w 255
    simp only [S1, I1] at h
    have e : (((255 : Nat) : Int)) = 255 := rfl
    rw [e] at h
    cases hd : decOf w 255 with
    | none =>
      rw [hd] at h
      simp [lIp4Of1, ex, ev, evs, evb, get, set, initS, c_eq_str, c_ne_str, c_eq_int, c_ne_int, c_lt, c_le, c_gt, c_ge, c_le_one, outO, okO', b_mulR, b_mulL, c_is_none, c_is_int, c_is_list, c_in_str, b_add, b_sub, f_len, f_lenL, f_ord, m_find, t_b, sizeLine_eq, isAt_a, fresh, i_str, i_list, it_str, it_list, it_tup, S1, I1, h, optI, numG, hd]
    | some d =>
      rw [hd] at h
      simp [lIp4Of1, ex, ev, evs, evb, get, set, initS, c_eq_str, c_ne_str, c_eq_int, c_ne_int, c_lt, c_le, c_gt, c_ge, c_le_one, outO, okO', b_mulR, b_mulL, c_is_none, c_is_int, c_is_list, c_in_str, b_add, b_sub, f_len, f_lenL, f_ord, m_find, t_b, sizeLine_eq, isAt_a, fresh, i_str, i_list, it_str, it_list, it_tup, S1, I1, h, optI, numG, hd]
  have hm := m_split l 46 (by decide) hl
  by_cases hk : (splitC 46 l).length = 4
  · have hk' : ((splitC 46 l).length : Int) = 4 := by omega
    obtain ⟨ρ', hgo, hR⟩ : ∃ ρ', forGo (fun a ρ => ex Φ lIp4Of1 (set ρ 3 (.a a))) ((splitC 46 l).map .str) [some (.a (.str l)), some (.list ((splitC 46 l).map .str)), some (.a (.int 0)), none, none] = some (outO (.a .none) (foldO (numG fun w => decOf w 255) 0 (splitC 46 l)) ρ') ∧ _ :=
      forGo_O (.a .none) (splitC 46 l) 0 _ step ⟨none, none, rfl⟩
    unfold ip4Of partsOf
    rw [if_pos hk]
    cases hx : foldO (numG fun w => decOf w 255) 0 (splitC 46 l) with
    | none =>
      rw [hx] at hgo
      simp [run, bIp4Of, ex, ev, evs, evb, get, set, initS, c_eq_str, c_ne_str, c_eq_int, c_ne_int, c_lt, c_le, c_gt, c_ge, c_le_one, outO, okO', b_mulR, b_mulL, c_is_none, c_is_int, c_is_list, c_in_str, b_add, b_sub, f_len, f_lenL, f_ord, m_find, t_b, sizeLine_eq, isAt_a, fresh, i_str, i_list, it_str, it_list, it_tup, S1, I1, hm, hk', hgo, optI]
    | some n =>
      rw [hx] at hgo hR
      obtain ⟨o, o', rfl⟩ := hR
      simp [run, bIp4Of, ex, ev, evs, evb, get, set, initS, c_eq_str, c_ne_str, c_eq_int, c_ne_int, c_lt, c_le, c_gt, c_ge, c_le_one, outO, okO', b_mulR, b_mulL, c_is_none, c_is_int, c_is_list, c_in_str, b_add, b_sub, f_len, f_lenL, f_ord, m_find, t_b, sizeLine_eq, isAt_a, fresh, i_str, i_list, it_str, it_list, it_tup, S1, I1, hm, hk', hgo, optI]
  · have hk' : ¬ ((splitC 46 l).length : Int) = 4 := by omega
    simp [run, bIp4Of, ex, ev, evs, evb, get, set, initS, c_eq_str, c_ne_str, c_eq_int, c_ne_int, c_lt, c_le, c_gt, c_ge, c_le_one, outO, okO', b_mulR, b_mulL, c_is_none, c_is_int, c_is_list, c_in_str, b_add, b_sub, f_len, f_lenL, f_ord, m_find, t_b, sizeLine_eq, isAt_a, fresh, i_str, i_list, it_str, it_list, it_tup, S1, I1, hm, hk', optI, ip4Of, partsOf, hk]
theorem x10 {Φ : Nat → List PV → Option PV} (h1 : ∀ l m, Φ 2 [S1 l, I1 m] = some (optI (hexOf l m))) (l : L) (hl : l.length ≤ 1000) : run Φ 5 bMacOf [S1 l] = some (optI (macOf l)) := by
  have step : ∀ (s : Nat) ρ (w : L), w ∈ splitC 58 l → (∃ o o', ρ = [some (S1 l), some (.list ((splitC 58 l).map .str)), some (I1 s), o, o']) →
      ∃ ρ', ex Φ lMacOf1 (set ρ 3 (.a (.str w))) = some (outO (.a .none) (numG (fun w => hexOf w 2) s w) ρ') ∧ okO' (fun (s : Nat) ρ => ∃ o o', ρ = [some (S1 l), some (.list ((splitC 58 l).map .str)), some (I1 s), o, o']) (numG (fun w => hexOf w 2) s w) ρ' := by
    rintro s ρ w _ ⟨o, o', rfl⟩
    have h := h1 w 2
    simp only [S1, I1] at h
    have e : (((2 : Nat) : Int)) = 2 := rfl
    rw [e] at h
    cases hd : hexOf w 2 with
    | none =>
      rw [hd] at h
      simp [lMacOf1, ex, ev, evs, evb, get, set, initS, c_eq_str, c_ne_str, c_eq_int, c_ne_int, c_lt, c_le, c_gt, c_ge, c_le_one, outO, okO', b_mulR, b_mulL, c_is_none, c_is_int, c_is_list, c_in_str, b_add, b_sub, f_len, f_lenL, f_ord, m_find, t_b, sizeLine_eq, isAt_a, fresh, i_str, i_list, it_str, it_list, it_tup, S1, I1, h, optI, numG, hd]
    | some d =>
      rw [hd] at h
      simp [lMacOf1, ex, ev, evs, evb, get, set, initS, c_eq_str, c_ne_str, c_eq_int, c_ne_int, c_lt, c_le, c_gt, c_ge, c_le_one, outO, okO', b_mulR, b_mulL, c_is_none, c_is_int, c_is_list, c_in_str, b_add, b_sub, f_len, f_lenL, f_ord, m_find, t_b, sizeLine_eq, isAt_a, fresh, i_str, i_list, it_str, it_list, it_tup, S1, I1, h, optI, numG, hd]
  have hm := m_split l 58 (by decide) hl
  by_cases hk : (splitC 58 l).length = 6
  · have hk' : ((splitC 58 l).length : Int) = 6 := by omega
    obtain ⟨ρ', hgo, hR⟩ : ∃ ρ', forGo (fun a ρ => ex Φ lMacOf1 (set ρ 3 (.a a))) ((splitC 58 l).map .str) [some (.a (.str l)), some (.list ((splitC 58 l).map .str)), some (.a (.int 0)), none, none] = some (outO (.a .none) (foldO (numG fun w => hexOf w 2) 0 (splitC 58 l)) ρ') ∧ _ :=
      forGo_O (.a .none) (splitC 58 l) 0 _ step ⟨none, none, rfl⟩
    unfold macOf partsOf
    rw [if_pos hk]
    cases hx : foldO (numG fun w => hexOf w 2) 0 (splitC 58 l) with
    | none =>
      rw [hx] at hgo
      simp [run, bMacOf, ex, ev, evs, evb, get, set, initS, c_eq_str, c_ne_str, c_eq_int, c_ne_int, c_lt, c_le, c_gt, c_ge, c_le_one, outO, okO', b_mulR, b_mulL, c_is_none, c_is_int, c_is_list, c_in_str, b_add, b_sub, f_len, f_lenL, f_ord, m_find, t_b, sizeLine_eq, isAt_a, fresh, i_str, i_list, it_str, it_list, it_tup, S1, I1, hm, hk', hgo, optI]
    | some n =>
      rw [hx] at hgo hR
      obtain ⟨o, o', rfl⟩ := hR
      simp [run, bMacOf, ex, ev, evs, evb, get, set, initS, c_eq_str, c_ne_str, c_eq_int, c_ne_int, c_lt, c_le, c_gt, c_ge, c_le_one, outO, okO', b_mulR, b_mulL, c_is_none, c_is_int, c_is_list, c_in_str, b_add, b_sub, f_len, f_lenL, f_ord, m_find, t_b, sizeLine_eq, isAt_a, fresh, i_str, i_list, it_str, it_list, it_tup, S1, I1, hm, hk', hgo, optI]
  · have hk' : ¬ ((splitC 58 l).length : Int) = 6 := by omega
    simp [run, bMacOf, ex, ev, evs, evb, get, set, initS, c_eq_str, c_ne_str, c_eq_int, c_ne_int, c_lt, c_le, c_gt, c_ge, c_le_one, outO, okO', b_mulR, b_mulL, c_is_none, c_is_int, c_is_list, c_in_str, b_add, b_sub, f_len, f_lenL, f_ord, m_find, t_b, sizeLine_eq, isAt_a, fresh, i_str, i_list, it_str, it_list, it_tup, S1, I1, hm, hk', optI, macOf, partsOf, hk]
end Mine
end
section
open PySem PySem.Calls
set_option maxRecDepth 100000
namespace Mine
/-! numbers in figures -/
def dec (k : Nat) : L := textInt (k : Int)
theorem dec_small : ∀ k, k < 1000 → (dec k).length ≤ 3 ∧ decOf (dec k) 999 = some k ∧ (dec k).all (fun c => decide (48 ≤ c ∧ c ≤ 57)) = true := by decide +kernel
theorem dec_len {k : Nat} (h : k < 1000) : (dec k).length ≤ 3 := (dec_small k h).1
theorem dec_str {k : Nat} (h : k < 1000) : bi .str [.a (.int (k : Int))] = some (.a (.str (dec k))) := by
  refine f_str _ (by omega) ?_
  have := dec_len h
  rw [sizeLine_eq]
  unfold dec at this
  omega
theorem b_shr (n k : Nat) : binop .RShift (.a (.int (n : Int))) (.a (.int (k : Int))) = some (.a (.int ((n / 2 ^ k : Nat) : Int))) := by
  simp [binop]
theorem b_and (n m k : Nat) (h : m + 1 = 2 ^ k) : binop .BitAnd (.a (.int (n : Int))) (.a (.int (m : Int))) = some (.a (.int ((n % 2 ^ k : Nat) : Int))) := by
  have : m = 2 ^ k - 1 := by omega
  have e : n &&& m = n % 2 ^ k := by rw [this, Nat.and_two_pow_sub_one_eq_mod]
  unfold binop
  simp only [Int.toNat_natCast, e]
  rw [if_pos ⟨by omega, by omega⟩]
theorem b_divN (n m : Nat) (h : 0 < m) (h' : m < 2 ^ 200) : binop .FloorDiv (.a (.int (n : Int))) (.a (.int (m : Int))) = some (.a (.int ((n / m : Nat) : Int))) := by
  rw [b_div _ _ (by omega) (by omega)]; simp
theorem b_modN (n m : Nat) (h : 0 < m) : binop .Mod (.a (.int (n : Int))) (.a (.int (m : Int))) = some (.a (.int ((n % m : Nat) : Int))) := by
  rw [b_mod _ _ (by omega)]; simp
theorem b_powN (n k : Nat) (h : k ≤ 1000000) (h' : n < 2 ^ 64) : binop .Pow (.a (.int (n : Int))) (.a (.int (k : Int))) = some (.a (.int ((n ^ k : Nat) : Int))) := by
  unfold binop
  simp only [Int.toNat_natCast]
  rw [if_pos ⟨by omega, by omega, by omega⟩]; simp
theorem b_subN (n m : Nat) (h : m ≤ n) : binop .Sub (.a (.int (n : Int))) (.a (.int (m : Int))) = some (.a (.int ((n - m : Nat) : Int))) := by
  rw [b_sub, Int.natCast_sub h]
theorem it_range (n : Nat) (h : n < 1000000) : iterItems .range [.a (.int (n : Int))] = some ((List.range n).map fun k => .int (k : Int)) := by
  unfold iterItems
  simp only [Int.toNat_natCast]
  rw [if_pos ⟨by omega, by omega⟩]
  congr 1
  refine List.ext_getElem? fun i => ?_
  by_cases hi : i < n
  · rw [rangeL_get n 0 i hi]
    simp [hi]
  · rw [List.getElem?_eq_none (by rw [rangeL_len]; omega), List.getElem?_eq_none (by simp; omega)]
theorem strs_map (ls : List L) : strsOf (ls.map .str) = some ls := by
  induction ls with
  | nil => rfl
  | cons x r ih => simp [strsOf, ih]
theorem ints_map (ls : List Nat) : intsOf (ls.map fun k : Nat => .int (k : Int)) = some (ls.map fun k : Nat => (k : Int)) := by
  induction ls with
  | nil => rfl
  | cons x r ih => simp [intsOf, ih]
theorem j_join (sep : L) (ls : List L) (h : sumLen ls + ls.length * sep.length ≤ 1000) : me .join (.a (.str sep)) [.list (ls.map .str)] = some (.a (.str (joinL sep ls))) := by
  unfold me
  simp only [strs_map, Option.bind_some]
  rw [if_pos (by rw [sizeLine_eq]; omega)]

/-! ip4_text, _law_text4 -/
def oct4 (n : Nat) : List L := [24, 16, 8, 0].map fun k => dec (n / 2 ^ k % 256)
def text4 (n : Nat) : L := joinL [46] (oct4 n)
theorem oct4_sum (n : Nat) : sumLen (oct4 n) + (oct4 n).length * ([46] : L).length ≤ 1000 := by
  have h1 := dec_len (k := n / 2 ^ 24 % 256) (by omega)
  have h2 := dec_len (k := n / 2 ^ 16 % 256) (by omega)
  have h3 := dec_len (k := n / 2 ^ 8 % 256) (by omega)
  have h4 := dec_len (k := n / 2 ^ 0 % 256) (by omega)
  simp only [sumLen, oct4, List.map_cons, List.map_nil, List.length_cons, List.length_nil]
  omega
theorem x5 (Φ : Nat → List PV → Option PV) (n : Nat) : run Φ 2 bIp4Text [I1 n] = some (S1 (text4 n)) := by
  have hc : ev Φ cIp4Text1 [some (.a (.int (n : Int))), none] = some (.list ((oct4 n).map .str)) := by
    unfold oct4
    rw [List.map_map]
    refine ev_comp_map (vs := [.tup [.int 24, .int 16, .int 8, .int 0]]) (fun k : Nat => .int (k : Int)) _ [24, 16, 8, 0] ?_ rfl fun k _ => ?_
    · simp [ex, ev, evs, evb, get, set, initS, c_eq_str, c_ne_str, c_eq_int, c_ne_int, c_lt, c_le, c_gt, c_ge, c_le_one, outO, okO', b_mulR, b_mulL, c_is_none, c_is_int, c_is_list, c_in_str, b_add, b_sub, f_len, f_lenL, f_ord, m_find, t_b, sizeLine_eq, isAt_a, fresh, i_str, i_list, it_str, it_list, it_tup, atoms]
    · have h2 : binop .BitAnd (.a (.int ((n / 2 ^ k : Nat) : Int))) (.a (.int 255)) = some (.a (.int ((n / 2 ^ k % 256 : Nat) : Int))) := b_and (n / 2 ^ k) 255 8 rfl
      have h3 := dec_str (k := n / 2 ^ k % 256) (by omega)
      simp only [ev, evs, get, set, Option.bind_some, Option.map_some, b_shr n k, h2, h3, Function.comp]
  have hj := j_join [46] (oct4 n) (oct4_sum n)
  simp [run, bIp4Text, ex, ev, evs, evb, get, set, initS, c_eq_str, c_ne_str, c_eq_int, c_ne_int, c_lt, c_le, c_gt, c_ge, c_le_one, outO, okO', b_mulR, b_mulL, c_is_none, c_is_int, c_is_list, c_in_str, b_add, b_sub, f_len, f_lenL, f_ord, m_find, t_b, sizeLine_eq, isAt_a, fresh, i_str, i_list, it_str, it_list, it_tup, S1, I1, hc, hj, text4]
theorem x16 (Φ : Nat → List PV → Option PV) (n : Nat) : run Φ 2 bLawText4 [I1 n] = some (S1 (text4 n)) := by
  have hc : ev Φ cLawText41 [some (.a (.int (n : Int))), none] = some (.list ((oct4 n).map .str)) := by
    have e : oct4 n = (List.range 4).map fun k => dec (n / 256 ^ (3 - k) % 256) := by
      show _ = [dec (n / 256 ^ 3 % 256), dec (n / 256 ^ 2 % 256), dec (n / 256 ^ 1 % 256), dec (n / 256 ^ 0 % 256)]
      rfl
    rw [e, List.map_map]
    refine ev_comp_map (vs := [.a (.int 4)]) (fun k : Nat => .int (k : Int)) _ (List.range 4) ?_ (it_range 4 (by decide)) fun k hk => ?_
    · simp [ex, ev, evs, evb, get, set, initS, c_eq_str, c_ne_str, c_eq_int, c_ne_int, c_lt, c_le, c_gt, c_ge, c_le_one, outO, okO', b_mulR, b_mulL, c_is_none, c_is_int, c_is_list, c_in_str, b_add, b_sub, f_len, f_lenL, f_ord, m_find, t_b, sizeLine_eq, isAt_a, fresh, i_str, i_list, it_str, it_list, it_tup]
    · have hk' : k < 4 := List.mem_range.mp hk
      have h1 : binop .Sub (.a (.int 3)) (.a (.int (k : Int))) = some (.a (.int ((3 - k : Nat) : Int))) := b_subN 3 k (by omega)
      have h2 : binop .Pow (.a (.int 256)) (.a (.int ((3 - k : Nat) : Int))) = some (.a (.int ((256 ^ (3 - k) : Nat) : Int))) := b_powN 256 (3 - k) (by omega) (by decide)
      have hp : 0 < 256 ^ (3 - k) := Nat.pow_pos (by decide)
      have hp' : 256 ^ (3 - k) < 2 ^ 200 := Nat.lt_of_le_of_lt (Nat.pow_le_pow_right (by decide) (show 3 - k ≤ 3 by omega)) (by decide)
      have h3 := b_divN n (256 ^ (3 - k)) hp hp'
      have h4 : binop .Mod (.a (.int ((n / 256 ^ (3 - k) : Nat) : Int))) (.a (.int 256)) = some (.a (.int ((n / 256 ^ (3 - k) % 256 : Nat) : Int))) := b_modN _ 256 (by decide)
      have h5 := dec_str (k := n / 256 ^ (3 - k) % 256) (by omega)
      simp only [ev, evs, get, set, Option.bind_some, Option.map_some, h1, h2, h3, h4, h5, Function.comp]
  have hj := j_join [46] (oct4 n) (oct4_sum n)
  simp [run, bLawText4, ex, ev, evs, evb, get, set, initS, c_eq_str, c_ne_str, c_eq_int, c_ne_int, c_lt, c_le, c_gt, c_ge, c_le_one, outO, okO', b_mulR, b_mulL, c_is_none, c_is_int, c_is_list, c_in_str, b_add, b_sub, f_len, f_lenL, f_ord, m_find, t_b, sizeLine_eq, isAt_a, fresh, i_str, i_list, it_str, it_list, it_tup, S1, I1, hc, hj, text4]
end Mine
end
section
open PySem PySem.Calls
set_option maxRecDepth 100000
namespace Mine
/-! figures and back -/
theorem dec_digits : (∀ a, a < 10 → dec a = [48 + a]) ∧ (∀ a, a < 10 → ∀ b, b < 10 → a ≠ 0 → dec (10 * a + b) = [48 + a, 48 + b]) ∧
    (∀ a, a < 10 → ∀ b, b < 10 → ∀ c, c < 10 → a ≠ 0 → dec (100 * a + 10 * b + c) = [48 + a, 48 + b, 48 + c]) := by decide +kernel
theorem foldO_dec {n : Nat} : ∀ {l : L} {k : Nat}, foldO decG n l = some k → ∀ c ∈ l, 48 ≤ c ∧ c ≤ 57
  | [], _, _, _, h => by cases h
  | x :: r, k, e, c, h => by
    simp only [foldO, Option.bind_eq_some_iff] at e
    obtain ⟨m, hm, e⟩ := e
    unfold decG at hm
    split at hm
    · rcases List.mem_cons.mp h with rfl | h
      · assumption
      · exact foldO_dec e c h
    · cases hm
theorem decOf_inv {w : L} {m k : Nat} (h : decOf w m = some k) : w = dec k ∧ k ≤ m ∧ k < 1000 := by
  unfold decOf at h
  split at h
  · cases h
  · rename_i hc
    simp only [not_or, Nat.not_lt] at hc
    obtain ⟨h1, h2, h3⟩ := hc
    rw [Option.bind_eq_some_iff] at h
    obtain ⟨n, hn, h⟩ := h
    split at h
    · rename_i hm
      cases h
      have hd := foldO_dec hn
      obtain ⟨d1, d2, d3⟩ := dec_digits
      match w, h1, h2, h3, hn, hd with
      | [a], _, _, _, hn, hd =>
        have ha := hd a (by simp)
        simp only [foldO, decG, if_pos ha, Option.bind_some] at hn
        cases hn
        have := d1 (a - 48) (by omega)
        rw [show 0 * 10 + (a - 48) = a - 48 by omega] at hm ⊢
        rw [this, show 48 + (a - 48) = a by omega]
        exact ⟨rfl, hm, by omega⟩
      | [a, b], _, _, h3, hn, hd =>
        have ha := hd a (by simp)
        have hb := hd b (by simp)
        simp only [foldO, decG, if_pos ha, if_pos hb, Option.bind_some] at hn
        cases hn
        have ha0 : a ≠ 48 := fun e => h3 ⟨by simp [e], by simp⟩
        have := d2 (a - 48) (by omega) (b - 48) (by omega) (by omega)
        have e : (0 * 10 + (a - 48)) * 10 + (b - 48) = 10 * (a - 48) + (b - 48) := by omega
        rw [e] at hm ⊢
        rw [this, show 48 + (a - 48) = a by omega, show 48 + (b - 48) = b by omega]
        exact ⟨rfl, hm, by omega⟩
      | [a, b, c], _, _, h3, hn, hd =>
        have ha := hd a (by simp)
        have hb := hd b (by simp)
        have hc := hd c (by simp)
        simp only [foldO, decG, if_pos ha, if_pos hb, if_pos hc, Option.bind_some] at hn
        cases hn
        have ha0 : a ≠ 48 := fun e => h3 ⟨by simp [e], by simp⟩
        have := d3 (a - 48) (by omega) (b - 48) (by omega) (c - 48) (by omega) (by omega)
        have e : ((0 * 10 + (a - 48)) * 10 + (b - 48)) * 10 + (c - 48) = 100 * (a - 48) + 10 * (b - 48) + (c - 48) := by omega
        rw [e] at hm ⊢
        rw [this, show 48 + (a - 48) = a by omega, show 48 + (b - 48) = b by omega, show 48 + (c - 48) = c by omega]
        exact ⟨rfl, hm, by omega⟩
      | [], h1, _, _, _, _ => exact absurd rfl h1
      | _ :: _ :: _ :: _ :: _, _, h2, _, _, _ => simp at h2
    · cases h
theorem decOf_dec {k m : Nat} (h : k < 1000) (hm : k ≤ m) : decOf (dec k) m = some k := by
  have := (dec_small k h).2.1
  unfold decOf at this ⊢
  split at this
  · cases this
  · rw [Option.bind_eq_some_iff] at this
    obtain ⟨n, hn, h1⟩ := this
    split at h1
    · cases h1
      rename_i hc _
      rw [if_neg hc, hn]
      simp [hm]
    · cases h1
theorem dec_not {k c : Nat} (h : k < 1000) (hc : c < 48 ∨ 57 < c) : c ∉ dec k := by
  intro hm
  have := (dec_small k h).2.2
  rw [List.all_eq_true] at this
  have := this c hm
  simp at this
  omega
theorem dec_ne {k : Nat} (h : k < 1000) : dec k ≠ [] := by
  intro e
  have := (dec_small k h).2.1
  rw [e] at this
  simp [decOf] at this

/-! split and join -/
theorem cons1_join {c x : Nat} {l : List L} (h : l ≠ []) : joinL [c] (cons1 x l) = x :: joinL [c] l := by
  cases l with
  | nil => exact absurd rfl h
  | cons a t => cases t <;> rfl
theorem join_split (c : Nat) : ∀ l : L, joinL [c] (splitC c l) = l
  | [] => rfl
  | x :: r => by
    unfold splitC
    split
    · rename_i e
      subst e
      have ih := join_split x r
      cases hs : splitC x r with
      | nil => exact absurd hs (splitC_ne _ _)
      | cons a t =>
        rw [hs] at ih
        show [] ++ ([x] ++ joinL [x] (a :: t)) = _
        rw [ih]; rfl
    · rw [cons1_join (splitC_ne _ _), join_split c r]
theorem splitC_app {c : Nat} : ∀ (w : L) (r : L), c ∉ w → splitC c (w ++ c :: r) = w :: splitC c r
  | [], r, _ => by simp [splitC]
  | x :: w, r, h => by
    simp only [List.mem_cons, not_or] at h
    have ih := splitC_app w r h.2
    rw [List.cons_append, splitC, if_neg (fun e => h.1 e.symm), ih]
    rfl
theorem splitC_one {c : Nat} : ∀ (w : L), c ∉ w → splitC c w = [w]
  | [], _ => rfl
  | x :: w, h => by
    simp only [List.mem_cons, not_or] at h
    rw [splitC, if_neg (fun e => h.1 e.symm), splitC_one w h.2]
    rfl
theorem split_join {c : Nat} : ∀ {ws : List L}, ws ≠ [] → (∀ w ∈ ws, c ∉ w) → splitC c (joinL [c] ws) = ws
  | [], h, _ => absurd rfl h
  | [w], _, h => splitC_one w (h w (by simp))
  | w :: v :: r, _, h => by
    show splitC c (w ++ c :: joinL [c] (v :: r)) = _
    rw [splitC_app w _ (h w (by simp)), split_join (by simp) (fun u hu => h u (by simp [List.mem_cons] at hu ⊢; exact .inr hu))]

/-! ip4: there and back -/
theorem ip4_text4 {n : Nat} (h : n < 2 ^ 32) : ip4Of (text4 n) = some n := by
  have hs : splitC 46 (text4 n) = oct4 n := split_join (by simp [oct4]) (fun w hw => by
    simp only [oct4, List.map_cons, List.map_nil, List.mem_cons, List.not_mem_nil, or_false] at hw
    rcases hw with rfl | rfl | rfl | rfl <;> exact dec_not (by omega) (.inl (by decide)))
  unfold ip4Of partsOf
  rw [hs, if_pos (by simp [oct4])]
  simp only [oct4, List.map_cons, List.map_nil, foldO, numG]
  rw [decOf_dec (by omega) (by omega), decOf_dec (by omega) (by omega), decOf_dec (by omega) (by omega), decOf_dec (by omega) (by omega)]
  simp only [Option.map_some, Option.bind_some]
  congr 1
  omega
theorem ip4_inv {l : L} {n : Nat} (h : ip4Of l = some n) : text4 n = l ∧ n < 2 ^ 32 := by
  unfold ip4Of partsOf at h
  split at h
  · rename_i hl
    have hj := join_split 46 l
    match hs : splitC 46 l, hl with
    | [a, b, c, d], _ =>
      rw [hs] at h hj
      simp only [foldO, numG, Option.bind_eq_some_iff, Option.map_eq_some_iff] at h
      obtain ⟨_, ⟨x1, e1, rfl⟩, _, ⟨x2, e2, rfl⟩, _, ⟨x3, e3, rfl⟩, _, ⟨x4, e4, rfl⟩, h⟩ := h
      cases h
      obtain ⟨rfl, l1, _⟩ := decOf_inv e1
      obtain ⟨rfl, l2, _⟩ := decOf_inv e2
      obtain ⟨rfl, l3, _⟩ := decOf_inv e3
      obtain ⟨rfl, l4, _⟩ := decOf_inv e4
      refine ⟨?_, by omega⟩
      rw [← hj]
      unfold text4 oct4
      simp only [List.map_cons, List.map_nil]
      rw [show (((0 * 256 + x1) * 256 + x2) * 256 + x3) * 256 + x4 = x1 * 2 ^ 24 + x2 * 2 ^ 16 + x3 * 2 ^ 8 + x4 by omega]
      rw [show (x1 * 2 ^ 24 + x2 * 2 ^ 16 + x3 * 2 ^ 8 + x4) / 2 ^ 24 % 256 = x1 by omega, show (x1 * 2 ^ 24 + x2 * 2 ^ 16 + x3 * 2 ^ 8 + x4) / 2 ^ 16 % 256 = x2 by omega,
        show (x1 * 2 ^ 24 + x2 * 2 ^ 16 + x3 * 2 ^ 8 + x4) / 2 ^ 8 % 256 = x3 by omega, show (x1 * 2 ^ 24 + x2 * 2 ^ 16 + x3 * 2 ^ 8 + x4) / 2 ^ 0 % 256 = x4 by omega]
  · cases h
end Mine
end
section
open PySem PySem.Calls
set_option maxRecDepth 100000
namespace Mine
/-! _law_read4 -/
def dig10 : L := [48, 49, 50, 51, 52, 53, 54, 55, 56, 57]
def r4d (o c : Nat) : Nat := (((o : Int) * 10 + findC c dig10) % 256).toNat
def r4 (st : List Nat × Nat) (c : Nat) : List Nat × Nat := if c = 46 ∧ st.2 < 3 then (st.1, st.2 + 1) else (st.1.set st.2 (r4d (st.1.getD st.2 0) c), st.2)
def r4N (l : L) : Nat := match (l.foldl r4 ([0, 0, 0, 0], 0)).1 with
  | [a, b, c, d] => a * 16777216 + b * 65536 + c * 256 + d
  | _ => 0
theorem foldO_some {σ α : Type} (f : σ → α → σ) : ∀ (l : List α) (s : σ), foldO (fun s a => some (f s a)) s l = some (l.foldl f s)
  | [], s => rfl
  | a :: r, s => by simp only [foldO, Option.bind_some, List.foldl_cons]; exact foldO_some f r (f s a)
theorem r4_ok {st : List Nat × Nat} (c : Nat) (h : st.1.length = 4 ∧ st.2 ≤ 3) : (r4 st c).1.length = 4 ∧ (r4 st c).2 ≤ 3 := by
  unfold r4
  split
  · exact ⟨h.1, by have := h.2; omega⟩
  · exact ⟨by simpa using h.1, h.2⟩
theorem r4_fold {l : L} : ∀ {st : List Nat × Nat}, (st.1.length = 4 ∧ st.2 ≤ 3) → (l.foldl r4 st).1.length = 4 ∧ (l.foldl r4 st).2 ≤ 3 := by
  induction l with
  | nil => intro st h; exact h
  | cons c r ih => intro st h; exact ih (r4_ok c h)
theorem x19_run {Φ : Nat → List PV → Option PV} (h16 : ∀ n : Nat, Φ 16 [I1 n] = some (S1 (text4 n))) (l : L) : run Φ 5 bLawRead4 [S1 l] = some (optI (if text4 (r4N l) = l then some (r4N l) else none)) := by
  have step : ∀ (s : List Nat × Nat) ρ (c : Nat), c ∈ l → (∃ o, ρ = [some (S1 l), some (.list (s.1.map fun k : Nat => .int (k : Int))), some (I1 s.2), o, none] ∧ s.1.length = 4 ∧ s.2 ≤ 3) →
      ∃ ρ', ex Φ lLawRead41 (set ρ 3 (.a (.str [c]))) = some (outO (.a .none) (some (r4 s c)) ρ') ∧ okO' (fun (s : List Nat × Nat) ρ => ∃ o, ρ = [some (S1 l), some (.list (s.1.map fun k : Nat => .int (k : Int))), some (I1 s.2), o, none] ∧ s.1.length = 4 ∧ s.2 ≤ 3) (some (r4 s c)) ρ' := by
    rintro ⟨o, at'⟩ ρ c _ ⟨q, rfl, h1, h2⟩
    simp only at h1 h2
    by_cases hc : c = 46 ∧ at' < 3
    · have h3 : (at' : Int) < 3 := by omega
      simp [lLawRead41, ex, ev, evs, evb, get, set, initS, c_eq_str, c_ne_str, c_eq_int, c_ne_int, c_lt, c_le, c_gt, c_ge, c_le_one, outO, okO', b_mulR, b_mulL, c_is_none, c_is_int, c_is_list, c_in_str, b_add, b_sub, f_len, f_lenL, f_ord, m_find, t_b, sizeLine_eq, isAt_a, fresh, i_str, i_list, it_str, it_list, it_tup, S1, I1, hc, h3, r4, h1]
      omega
    · have hidx : index (.list (o.map fun k : Nat => .int (k : Int))) (.a (.int (at' : Int))) = some (.a (.int ((o.getD at' 0 : Nat) : Int))) := by
        rw [i_list _ _ (by omega)]
        have : at' < o.length := by omega
        simp [List.getD, this]
      have hval : ((((o.getD at' 0 : Nat) : Int) * 10 + findC c [48, 49, 50, 51, 52, 53, 54, 55, 56, 57]) % 256) = ((r4d (o.getD at' 0) c : Nat) : Int) := by
        unfold r4d dig10
        rw [Int.toNat_of_nonneg (Int.emod_nonneg _ (by decide))]
      have hmod : ∀ z : Int, binop .Mod (.a (.int z)) (.a (.int 256)) = some (.a (.int (z % 256))) := fun z => b_mod z 256 (by decide)
      have hset : ex Φ (.setItem 1 (.var 2) (.bin .Mod (.bin .Add (.bin .Mult (.idx (.var 1) (.var 2)) (.int 10)) (.me .find (.str [48, 49, 50, 51, 52, 53, 54, 55, 56, 57]) (.cons (.var 3) .nil))) (.int 256)))
          [some (.a (.str l)), some (.list (o.map fun k : Nat => .int (k : Int))), some (.a (.int (at' : Int))), some (.a (.str [c])), none] =
          some (.next, [some (.a (.str l)), some (.list ((o.set at' (r4d (o.getD at' 0) c)).map fun k : Nat => .int (k : Int))), some (.a (.int (at' : Int))), some (.a (.str [c])), none]) := by
        simp only [ex, ev, evs, get, Option.bind_some, Option.map_some, hidx, sizeLine_eq]
        rw [if_pos (by decide)]
        simp only [Option.bind_some, m_find, b_mulR _ 10 (by decide), b_add, hmod, hval]
        rw [if_pos ⟨by omega, by simp; omega⟩]
        simp [set, List.map_set]
      have hr : r4 (o, at') c = (o.set at' (r4d (o.getD at' 0) c), at') := by unfold r4; rw [if_neg hc]
      rw [hr]
      have htest : ev Φ (.boolE true (.cons (.cmp .Eq (.var 3) (.str [46])) (.cons (.cmp .Lt (.var 2) (.int 3)) .nil))) [some (.a (.str l)), some (.list (o.map fun k : Nat => .int (k : Int))), some (.a (.int (at' : Int))), some (.a (.str [c])), none] = some (.a (.bool false)) := by
        by_cases h46 : c = 46
        · have h3 : ¬ (at' : Int) < 3 := by omega
          simp [ex, ev, evs, evb, get, set, initS, c_eq_str, c_ne_str, c_eq_int, c_ne_int, c_lt, c_le, c_gt, c_ge, c_le_one, outO, okO', b_mulR, b_mulL, c_is_none, c_is_int, c_is_list, c_in_str, b_add, b_sub, f_len, f_lenL, f_ord, m_find, t_b, sizeLine_eq, isAt_a, fresh, i_str, i_list, it_str, it_list, it_tup, h46, h3]
        · simp [ex, ev, evs, evb, get, set, initS, c_eq_str, c_ne_str, c_eq_int, c_ne_int, c_lt, c_le, c_gt, c_ge, c_le_one, outO, okO', b_mulR, b_mulL, c_is_none, c_is_int, c_is_list, c_in_str, b_add, b_sub, f_len, f_lenL, f_ord, m_find, t_b, sizeLine_eq, isAt_a, fresh, i_str, i_list, it_str, it_list, it_tup, h46]
      have e0 : set [some (S1 l), some (.list (o.map fun k : Nat => .int (k : Int))), some (I1 at'), q, none] 3 (.a (.str [c])) = [some (.a (.str l)), some (.list (o.map fun k : Nat => .int (k : Int))), some (.a (.int (at' : Int))), some (.a (.str [c])), none] := rfl
      rw [e0]
      refine ⟨_, ?_, some (.a (.str [c])), rfl, by simpa using h1, h2⟩
      unfold lLawRead41
      rw [ex, ex, htest]
      simp only [Option.bind_some, t_b, if_neg (show ¬ (false = true) by decide)]
      rw [ex, hset]
      simp only [Option.bind_some, ex]
      rfl
  obtain ⟨ρ', hgo, hR⟩ : ∃ ρ', forGo (fun a ρ => ex Φ lLawRead41 (set ρ 3 (.a a))) (l.map fun c => .str [c]) [some (.a (.str l)), some (.list [.int 0, .int 0, .int 0, .int 0]), some (.a (.int 0)), none, none] = some (outO (.a .none) (foldO (fun s a => some (r4 s a)) ([0, 0, 0, 0], 0) l) ρ') ∧ _ :=
    forGo_O (.a .none) l ([0, 0, 0, 0], 0) _ step ⟨none, rfl, rfl, by decide⟩
  rw [foldO_some] at hgo hR
  obtain ⟨q, rfl, hl, _⟩ := hR
  match hs : (l.foldl r4 ([0, 0, 0, 0], 0)), hl with
  | ([a, b, c, d], at'), _ =>
    rw [hs] at hgo
    have hN : r4N l = a * 16777216 + b * 65536 + c * 256 + d := by unfold r4N; rw [hs]
    have hcast : ((a : Int) * 16777216 + (b : Int) * 65536 + (c : Int) * 256 + (d : Int)) = ((r4N l : Nat) : Int) := by rw [hN]; omega
    have h := h16 (r4N l)
    simp only [S1, I1] at h
    have hm : ∀ (x : Int) (y : Int), y.natAbs < 2 ^ 64 → binop .Mult (.a (.int x)) (.a (.int y)) = some (.a (.int (x * y))) := fun x y h => b_mulR x y h
    by_cases ht : text4 (r4N l) = l
    · rw [if_pos ht]
      simp [run, bLawRead4, ex, ev, evs, evb, get, set, initS, c_eq_str, c_ne_str, c_eq_int, c_ne_int, c_lt, c_le, c_gt, c_ge, c_le_one, outO, okO', b_mulR, b_mulL, c_is_none, c_is_int, c_is_list, c_in_str, b_add, b_sub, f_len, f_lenL, f_ord, m_find, t_b, sizeLine_eq, isAt_a, fresh, i_str, i_list, it_str, it_list, it_tup, S1, I1, atoms, hgo, hcast, h, ht, optI]
    · rw [if_neg ht]
      simp [run, bLawRead4, ex, ev, evs, evb, get, set, initS, c_eq_str, c_ne_str, c_eq_int, c_ne_int, c_lt, c_le, c_gt, c_ge, c_le_one, outO, okO', b_mulR, b_mulL, c_is_none, c_is_int, c_is_list, c_in_str, b_add, b_sub, f_len, f_lenL, f_ord, m_find, t_b, sizeLine_eq, isAt_a, fresh, i_str, i_list, it_str, it_list, it_tup, S1, I1, atoms, hgo, hcast, h, ht, optI]

/-! the reader gives back what was written -/
theorem r4d_dec : ∀ k, k < 256 → (dec k).foldl r4d 0 = k := by decide +kernel
theorem r4_word {at' : Nat} : ∀ (w : L) (o : List Nat), at' < o.length → 46 ∉ w → w.foldl r4 (o, at') = (o.set at' (w.foldl r4d (o.getD at' 0)), at')
  | [], o, h, _ => by
    have : o.set at' (o.getD at' 0) = o := by
      refine List.ext_getElem? fun i => ?_
      rw [List.getElem?_set]
      split
      · rename_i e; subst e; simp [h]
      · rfl
    simp only [List.foldl_nil, this]
  | c :: w, o, h, hn => by
    simp only [List.mem_cons, not_or] at hn
    have e : r4 (o, at') c = (o.set at' (r4d (o.getD at' 0) c), at') := by unfold r4; rw [if_neg (fun q => hn.1 q.1.symm)]
    rw [List.foldl_cons, e, r4_word w _ (by simpa using h) hn.2, List.foldl_cons]
    have e2 : (o.set at' (r4d (o.getD at' 0) c)).getD at' 0 = r4d (o.getD at' 0) c := by simp [List.getD, h]
    rw [e2, List.set_set]
theorem r4_dot {o : List Nat} {at' : Nat} (h : at' < 3) : r4 (o, at') 46 = (o, at' + 1) := by unfold r4; rw [if_pos ⟨rfl, h⟩]
theorem r4N_text4 {n : Nat} (h : n < 2 ^ 32) : r4N (text4 n) = n := by
  have hw : ∀ k, k < 256 → 46 ∉ dec k := fun k hk => dec_not (by omega) (.inl (by decide))
  have w0 : ∀ k, k < 256 → (dec k).foldl r4 ([0, 0, 0, 0], 0) = ([k, 0, 0, 0], 0) := fun k hk => by
    rw [r4_word _ _ (by decide) (hw k hk)]; simp [r4d_dec k hk]
  have w1 : ∀ a k, k < 256 → (dec k).foldl r4 ([a, 0, 0, 0], 1) = ([a, k, 0, 0], 1) := fun a k hk => by
    rw [r4_word _ _ (by simp) (hw k hk)]; simp [r4d_dec k hk]
  have w2 : ∀ a b k, k < 256 → (dec k).foldl r4 ([a, b, 0, 0], 2) = ([a, b, k, 0], 2) := fun a b k hk => by
    rw [r4_word _ _ (by simp) (hw k hk)]; simp [r4d_dec k hk]
  have w3 : ∀ a b c k, k < 256 → (dec k).foldl r4 ([a, b, c, 0], 3) = ([a, b, c, k], 3) := fun a b c k hk => by
    rw [r4_word _ _ (by simp) (hw k hk)]; simp [r4d_dec k hk]
  have e : (text4 n).foldl r4 ([0, 0, 0, 0], 0) = ([n / 2 ^ 24 % 256, n / 2 ^ 16 % 256, n / 2 ^ 8 % 256, n / 2 ^ 0 % 256], 3) := by
    unfold text4 oct4
    simp only [List.map_cons, List.map_nil, joinL, List.foldl_append, List.foldl_cons, List.foldl_nil]
    rw [w0 _ (by omega), r4_dot (at' := 0) (by decide), w1 _ _ (by omega), r4_dot (at' := 1) (by decide), w2 _ _ _ (by omega), r4_dot (at' := 2) (by decide), w3 _ _ _ _ (by omega)]
  unfold r4N
  rw [e]
  simp only
  omega
theorem r4_lt {l : L} : ∀ {st : List Nat × Nat}, (∀ x ∈ st.1, x < 256) → ∀ x ∈ (l.foldl r4 st).1, x < 256 := by
  induction l with
  | nil => intro st h; exact h
  | cons c r ih =>
    intro st h
    refine ih (st := r4 st c) fun x hx => ?_
    unfold r4 at hx
    split at hx
    · exact h x hx
    · rcases List.mem_or_eq_of_mem_set hx with hx | rfl
      · exact h x hx
      · unfold r4d
        have h1 := Int.emod_nonneg (((st.1.getD st.2 0 : Nat) : Int) * 10 + findC c dig10) (show (256 : Int) ≠ 0 by decide)
        have h2 := Int.emod_lt_of_pos (((st.1.getD st.2 0 : Nat) : Int) * 10 + findC c dig10) (show (0 : Int) < 256 by decide)
        omega
theorem r4N_lt (l : L) : r4N l < 2 ^ 32 := by
  have h := r4_lt (l := l) (st := ([0, 0, 0, 0], 0)) (by simp)
  unfold r4N
  split
  · rename_i a b c d e
    rw [e] at h
    have := h a (by simp)
    have := h b (by simp)
    have := h c (by simp)
    have := h d (by simp)
    omega
  · decide
theorem x19 {Φ : Nat → List PV → Option PV} (h16 : ∀ n : Nat, Φ 16 [I1 n] = some (S1 (text4 n))) (l : L) : run Φ 5 bLawRead4 [S1 l] = some (optI (ip4Of l)) := by
  rw [x19_run h16]
  congr 2
  cases h : ip4Of l with
  | some n =>
    obtain ⟨e, hn⟩ := ip4_inv h
    have e2 : r4N l = n := by rw [← e]; exact r4N_text4 hn
    rw [e2, if_pos e]
  | none =>
    rw [if_neg]
    intro e
    rw [← e, ip4_text4 (r4N_lt l)] at h
    cases h
end Mine
end
section
open PySem PySem.Calls
set_option maxRecDepth 100000
namespace Mine
/-! hexadecimal texts -/
def dg (k : Nat) : Nat := if k < 10 then 48 + k else 87 + k
theorem hex16_get : ∀ k, k < 16 → hex16[k]? = some (dg k) := by decide +kernel
def hexW (g : Nat) : L :=
  if g < 16 then [dg g] else if g < 256 then [dg (g / 16), dg (g % 16)] else if g < 4096 then [dg (g / 256), dg (g / 16 % 16), dg (g % 16)]
  else [dg (g / 4096), dg (g / 256 % 16), dg (g / 16 % 16), dg (g % 16)]
def hexT (g least : Nat) : L := if least = 2 ∧ g < 16 then [48, dg g] else hexW g
def hexL : Nat → Nat → Nat → L → L
  | 0, _, _, ds => ds
  | k + 1, n, least, ds => if 0 < n ∨ ds.length < least then hexL k (n / 16) least (dg (n % 16) :: ds) else ds
theorem idx16 (n : Nat) : index (.a (.str [48, 49, 50, 51, 52, 53, 54, 55, 56, 57, 97, 98, 99, 100, 101, 102])) (.a (.int ((n % 16 : Nat) : Int))) = some (.a (.str [dg (n % 16)])) := by
  rw [i_str _ _ (by omega)]
  have := hex16_get (n % 16) (by omega)
  unfold hex16 at this
  rw [Int.toNat_natCast, this]; rfl
theorem x3_loop (Φ : Nat → List PV → Option PV) (least : Nat) (hl : least ≤ 2) : ∀ (k n : Nat) (ds : L), ds.length ≤ 4 → n < 16 ^ (4 - ds.length) → 6 ≤ k + ds.length →
    ∃ n', whileGo (fun ρ => (ev Φ wHexText1 ρ).bind truth) (fun ρ => ex Φ lHexText1 ρ) k
      [some (.a (.int (n : Int))), some (.a (.int (least : Int))), some (.a (.str ds))] = some (.next, [n', some (.a (.int (least : Int))), some (.a (.str (hexL k n least ds)))])
  | 0, n, ds, h1, _, h3 => by omega
  | k + 1, n, ds, h1, h2, h3 => by
    have hand : binop .BitAnd (.a (.int (n : Int))) (.a (.int 15)) = some (.a (.int ((n % 16 : Nat) : Int))) := b_and n 15 4 rfl
    have hshr : binop .RShift (.a (.int (n : Int))) (.a (.int 4)) = some (.a (.int ((n / 16 : Nat) : Int))) := b_shr n 4
    by_cases hc : 0 < n ∨ ds.length < least
    · have hlen : ds.length < 4 := by
        rcases hc with h | h
        · refine Nat.lt_of_not_le fun q => ?_
          have : 4 - ds.length = 0 := by omega
          rw [this] at h2
          simp at h2
          omega
        · omega
      have htest : (ev Φ wHexText1 [some (.a (.int (n : Int))), some (.a (.int (least : Int))), some (.a (.str ds))]).bind truth = some true := by
        by_cases h0 : (0 : Int) < n
        · have h5 : n ≠ 0 := by omega
          have h6 : 0 < n := by omega
          simp [wHexText1, ex, ev, evs, evb, get, set, initS, c_eq_str, c_ne_str, c_eq_int, c_ne_int, c_lt, c_le, c_gt, c_ge, c_le_one, outO, okO', b_mulR, b_mulL, c_is_none, c_is_int, c_is_list, c_in_str, b_add, b_sub, f_len, f_lenL, f_ord, m_find, t_b, sizeLine_eq, isAt_a, fresh, i_str, i_list, it_str, it_list, it_tup, h0, h5, h6]
        · have h5 : n = 0 := by omega
          have h4 : (ds.length : Int) < least := by
            rcases hc with h | h
            · omega
            · omega
          have h6 : ¬ least ≤ ds.length := by omega
          simp [wHexText1, ex, ev, evs, evb, get, set, initS, c_eq_str, c_ne_str, c_eq_int, c_ne_int, c_lt, c_le, c_gt, c_ge, c_le_one, outO, okO', b_mulR, b_mulL, c_is_none, c_is_int, c_is_list, c_in_str, b_add, b_sub, f_len, f_lenL, f_ord, m_find, t_b, sizeLine_eq, isAt_a, fresh, i_str, i_list, it_str, it_list, it_tup, h5, h4, h6]
      have hcat := b_cat [dg (n % 16)] ds (by rw [sizeLine_eq]; simp; omega)
      have hbody : ex Φ lHexText1 [some (.a (.int (n : Int))), some (.a (.int (least : Int))), some (.a (.str ds))] = some (.next, [some (.a (.int ((n / 16 : Nat) : Int))), some (.a (.int (least : Int))), some (.a (.str (dg (n % 16) :: ds)))]) := by
        simp only [lHexText1, ex, ev, get, set, Option.bind_some, Option.map_some, hand, idx16, hshr, hcat, sizeLine_eq]
        rw [if_pos (by decide)]
        simp only [Option.bind_some, idx16, hcat, Option.map_some, set, get, hshr, List.cons_append, List.nil_append]
      have h2' : n / 16 < 16 ^ (4 - (dg (n % 16) :: ds).length) := by
        have e : 16 ^ (4 - ds.length) = 16 * 16 ^ (4 - (ds.length + 1)) := by
          rw [show 4 - ds.length = (4 - (ds.length + 1)) + 1 by omega, Nat.pow_succ, Nat.mul_comm]
        rw [e] at h2
        simp only [List.length_cons]
        omega
      obtain ⟨n', h⟩ := x3_loop Φ least hl k (n / 16) (dg (n % 16) :: ds) (by simp; omega) h2' (by simp; omega)
      refine ⟨n', ?_⟩
      rw [whileGo, htest]
      simp only [Option.bind_some, if_true, hbody]
      rw [hexL, if_pos hc]
      exact h
    · have h0 : ¬ (0 : Int) < n := by omega
      have h4 : ¬ (ds.length : Int) < least := by omega
      have htest : (ev Φ wHexText1 [some (.a (.int (n : Int))), some (.a (.int (least : Int))), some (.a (.str ds))]).bind truth = some false := by
        have h5 : n = 0 := by omega
        have h6 : least ≤ ds.length := by omega
        simp [wHexText1, ex, ev, evs, evb, get, set, initS, c_eq_str, c_ne_str, c_eq_int, c_ne_int, c_lt, c_le, c_gt, c_ge, c_le_one, outO, okO', b_mulR, b_mulL, c_is_none, c_is_int, c_is_list, c_in_str, b_add, b_sub, f_len, f_lenL, f_ord, m_find, t_b, sizeLine_eq, isAt_a, fresh, i_str, i_list, it_str, it_list, it_tup, h5, h4, h6]
      refine ⟨some (.a (.int (n : Int))), ?_⟩
      rw [whileGo, htest]
      simp only [Option.bind_some]
      rw [if_neg (by decide), hexL, if_neg hc]
theorem hexL_eq {g least : Nat} (hg : g < 65536) (h1 : least = 1 ∨ least = 2) : hexL 100 g least [] = hexT g least := by
  unfold hexT hexW
  have d0 : dg 0 = 48 := rfl
  by_cases a : g < 16
  · have e : g / 16 = 0 := by omega
    have e2 : g % 16 = g := by omega
    rcases h1 with rfl | rfl
    · simp [hexL, a, e, e2]
    · simp [hexL, a, e, e2, d0]
  · have n1 : 0 < g := by omega
    have n2 : 0 < g / 16 := by omega
    by_cases b : g < 256
    · have e : g / 16 / 16 = 0 := by omega
      have e2 : g / 16 % 16 = g / 16 := by omega
      rcases h1 with rfl | rfl <;> simp [hexL, a, b, e, e2, n1, n2]
    · have n3 : 0 < g / 16 / 16 := by omega
      have q : g / 16 / 16 = g / 256 := by omega
      by_cases c : g < 4096
      · have e : g / 16 / 16 / 16 = 0 := by omega
        have e2 : g / 16 / 16 % 16 = g / 256 := by omega
        rcases h1 with rfl | rfl <;> simp [hexL, a, b, c, e, e2, n1, n2, n3]
      · have n4 : 0 < g / 16 / 16 / 16 := by omega
        have e : g / 16 / 16 / 16 / 16 = 0 := by omega
        have e2 : g / 16 / 16 % 16 = g / 256 % 16 := by omega
        have e3 : g / 16 / 16 / 16 % 16 = g / 4096 := by omega
        rcases h1 with rfl | rfl <;> simp [hexL, a, b, c, e, e2, e3, n1, n2, n3, n4]
theorem x3 (Φ : Nat → List PV → Option PV) {g least : Nat} (hg : g < 65536) (h1 : least = 1 ∨ least = 2) : run Φ 3 bHexText [I1 g, I1 least] = some (S1 (hexT g least)) := by
  obtain ⟨n', h⟩ := x3_loop Φ least (by omega) 100 g [] (by simp) (by simpa using hg) (by simp)
  rw [hexL_eq hg h1] at h
  simp only [run, bHexText, initS, ex, ev, Option.bind_some, I1, S1, List.map_cons, List.map_nil, List.length_cons, List.length_nil, sizeLine_eq]
  rw [if_pos (by decide)]
  simp only [Option.map_some, Option.bind_some]
  have e : set ([some (.a (.int (g : Int))), some (.a (.int (least : Int)))] ++ List.replicate (3 - (0 + 1 + 1)) none) 2 (.a (.str [])) = [some (.a (.int (g : Int))), some (.a (.int (least : Int))), some (.a (.str []))] := rfl
  rw [e]
  rw [h]
  simp [get, fresh, isAt_a]

/-! _law_hex -/
def stripZ : List Nat → List Nat
  | 0 :: b :: r => stripZ (b :: r)
  | ds => ds
def nL (ds : List Nat) : List At := ds.map fun k : Nat => .int (k : Int)
theorem slice_tail {α : Type} (x : α) (r : List α) : pySlice (x :: r) (some 1) none = r := by
  unfold pySlice clip
  simp
theorem x15_loop (Φ : Nat → List PV → Option PV) (g : PV) : ∀ (k : Nat) (ds : List Nat), ds.length < k →
    whileGo (fun ρ => (ev Φ wLawHex1 ρ).bind truth) (fun ρ => ex Φ lLawHex1 ρ) k
      [some g, some (.list (nL ds)), none] = some (.next, [some g, some (.list (nL (stripZ ds))), none])
  | 0, ds, h => by omega
  | k + 1, ds, h => by
    match ds, h with
    | [], h => rw [whileGo]; simp [wLawHex1, ex, ev, evs, evb, get, set, initS, c_eq_str, c_ne_str, c_eq_int, c_ne_int, c_lt, c_le, c_gt, c_ge, c_le_one, outO, okO', b_mulR, b_mulL, c_is_none, c_is_int, c_is_list, c_in_str, b_add, b_sub, f_len, f_lenL, f_ord, m_find, t_b, sizeLine_eq, isAt_a, fresh, i_str, i_list, it_str, it_list, it_tup, nL, stripZ]
    | [a], h => rw [whileGo]; simp [wLawHex1, ex, ev, evs, evb, get, set, initS, c_eq_str, c_ne_str, c_eq_int, c_ne_int, c_lt, c_le, c_gt, c_ge, c_le_one, outO, okO', b_mulR, b_mulL, c_is_none, c_is_int, c_is_list, c_in_str, b_add, b_sub, f_len, f_lenL, f_ord, m_find, t_b, sizeLine_eq, isAt_a, fresh, i_str, i_list, it_str, it_list, it_tup, nL, stripZ]
    | a :: b :: r, h =>
      have hl : (1 : Int) < ((r.length : Nat) : Int) + 1 + 1 := by omega
      by_cases ha : a = 0
      · subst ha
        have ih := x15_loop Φ g k (b :: r) (by simp at h ⊢; omega)
        have ht : (ev Φ wLawHex1 [some g, some (.list (nL (0 :: b :: r))), none]).bind truth = some true := by simp [wLawHex1, ex, ev, evs, evb, get, set, initS, c_eq_str, c_ne_str, c_eq_int, c_ne_int, c_lt, c_le, c_gt, c_ge, c_le_one, outO, okO', b_mulR, b_mulL, c_is_none, c_is_int, c_is_list, c_in_str, b_add, b_sub, f_len, f_lenL, f_ord, m_find, t_b, sizeLine_eq, isAt_a, fresh, i_str, i_list, it_str, it_list, it_tup, hl, nL]
        have hb : ex Φ lLawHex1 [some g, some (.list (nL (0 :: b :: r))), none] = some (.next, [some g, some (.list (nL (b :: r))), none]) := by
          simp [lLawHex1, ex, ev, evs, evb, get, set, initS, c_eq_str, c_ne_str, c_eq_int, c_ne_int, c_lt, c_le, c_gt, c_ge, c_le_one, outO, okO', b_mulR, b_mulL, c_is_none, c_is_int, c_is_list, c_in_str, b_add, b_sub, f_len, f_lenL, f_ord, m_find, t_b, sizeLine_eq, isAt_a, fresh, i_str, i_list, it_str, it_list, it_tup, part, sliceV, slice_tail, nL]
        rw [whileGo, ht]
        simp only [Option.bind_some, if_true, hb]
        exact ih
      · have ht : (ev Φ wLawHex1 [some g, some (.list (nL (a :: b :: r))), none]).bind truth = some false := by simp [wLawHex1, ex, ev, evs, evb, get, set, initS, c_eq_str, c_ne_str, c_eq_int, c_ne_int, c_lt, c_le, c_gt, c_ge, c_le_one, outO, okO', b_mulR, b_mulL, c_is_none, c_is_int, c_is_list, c_in_str, b_add, b_sub, f_len, f_lenL, f_ord, m_find, t_b, sizeLine_eq, isAt_a, fresh, i_str, i_list, it_str, it_list, it_tup, hl, nL, ha]
        have hz : stripZ (a :: b :: r) = a :: b :: r := by
          unfold stripZ; split
          · rename_i e; cases e; exact absurd rfl ha
          · rfl
        rw [whileGo, ht, hz]
        simp only [Option.bind_some]
        rw [if_neg (by decide)]
theorem joinL_nil : ∀ ds : List Nat, joinL [] (ds.map fun d => [dg d]) = ds.map dg
  | [] => rfl
  | [a] => rfl
  | a :: b :: r => by
    have ih := joinL_nil (b :: r)
    simp only [List.map_cons] at ih ⊢
    rw [joinL, ih]; rfl
theorem sumLen_one : ∀ ds : List Nat, sumLen (ds.map fun d => [dg d]) = ds.length
  | [] => rfl
  | a :: r => by simp [sumLen, sumLen_one r]; omega
theorem stripZ_hex {g : Nat} (hg : g < 65536) : (stripZ [g / 4096, g / 256 % 16, g / 16 % 16, g % 16]).map dg = hexW g := by
  unfold hexW
  by_cases a : g < 16
  · have e1 : g / 4096 = 0 := by omega
    have e2 : g / 256 % 16 = 0 := by omega
    have e3 : g / 16 % 16 = 0 := by omega
    have e4 : g % 16 = g := by omega
    rw [e1, e2, e3, e4]; simp [stripZ, a]
  · by_cases b : g < 256
    · have e1 : g / 4096 = 0 := by omega
      have e2 : g / 256 % 16 = 0 := by omega
      have e3 : g / 16 % 16 = g / 16 := by omega
      have e4 : g / 16 ≠ 0 := by omega
      obtain ⟨m, hm⟩ := Nat.exists_eq_succ_of_ne_zero e4
      rw [e1, e2, e3, hm]; simp [stripZ, a, b]
    · by_cases c : g < 4096
      · have e1 : g / 4096 = 0 := by omega
        have e3 : g / 256 % 16 = g / 256 := by omega
        have e4 : g / 256 ≠ 0 := by omega
        obtain ⟨m, hm⟩ := Nat.exists_eq_succ_of_ne_zero e4
        rw [e1, e3, hm]; simp [stripZ, a, b, c]
      · have e4 : g / 4096 ≠ 0 := by omega
        obtain ⟨m, hm⟩ := Nat.exists_eq_succ_of_ne_zero e4
        rw [hm]; simp [stripZ, a, b, c]
theorem stripZ_sub : ∀ ds : List Nat, (∀ d ∈ stripZ ds, d ∈ ds) ∧ (stripZ ds).length ≤ ds.length
  | [] => ⟨fun d h => h, Nat.le_refl _⟩
  | [a] => by unfold stripZ; split <;> simp_all
  | a :: b :: r => by
    obtain ⟨h1, h2⟩ := stripZ_sub (b :: r)
    by_cases ha : a = 0
    · subst ha
      simp only [stripZ]
      exact ⟨fun d hd => List.mem_cons_of_mem _ (h1 d hd), by simp at h2 ⊢; omega⟩
    · have : stripZ (a :: b :: r) = a :: b :: r := by
        unfold stripZ; split
        · rename_i e; cases e; exact absurd rfl ha
        · rfl
      rw [this]; exact ⟨fun d h => h, Nat.le_refl _⟩
theorem x15 (Φ : Nat → List PV → Option PV) {g : Nat} (hg : g < 65536) : run Φ 3 bLawHex [I1 g] = some (S1 (hexW g)) := by
  have h1 : binop .FloorDiv (.a (.int (g : Int))) (.a (.int 4096)) = some (.a (.int ((g / 4096 : Nat) : Int))) := b_divN g 4096 (by decide) (by decide)
  have h2 : binop .FloorDiv (.a (.int (g : Int))) (.a (.int 256)) = some (.a (.int ((g / 256 : Nat) : Int))) := b_divN g 256 (by decide) (by decide)
  have h3 : binop .FloorDiv (.a (.int (g : Int))) (.a (.int 16)) = some (.a (.int ((g / 16 : Nat) : Int))) := b_divN g 16 (by decide) (by decide)
  have hm : ∀ n : Nat, binop .Mod (.a (.int (n : Int))) (.a (.int 16)) = some (.a (.int ((n % 16 : Nat) : Int))) := fun n => b_modN n 16 (by decide)
  have hloop := x15_loop Φ (.a (.int (g : Int))) 100 [g / 4096, g / 256 % 16, g / 16 % 16, g % 16] (by simp)
  obtain ⟨hsub, hlen⟩ := stripZ_sub [g / 4096, g / 256 % 16, g / 16 % 16, g % 16]
  have hc : ev Φ cLawHex1 [some (.a (.int (g : Int))), some (.list (nL (stripZ [g / 4096, g / 256 % 16, g / 16 % 16, g % 16]))), none] = some (.list (((stripZ [g / 4096, g / 256 % 16, g / 16 % 16, g % 16]).map fun d => [dg d]).map .str)) := by
    rw [List.map_map]
    refine ev_comp_map (vs := [.list (nL (stripZ [g / 4096, g / 256 % 16, g / 16 % 16, g % 16]))]) (fun k : Nat => .int (k : Int)) _ (stripZ [g / 4096, g / 256 % 16, g / 16 % 16, g % 16]) ?_ rfl fun d hd => ?_
    · simp only [evs, ev, get, Option.bind_some, Option.map_some]
    · have hd16 : d < 16 := by
        have := hsub d hd
        simp only [List.mem_cons, List.not_mem_nil, or_false] at this
        omega
      have hi := idx16 d
      rw [Nat.mod_eq_of_lt hd16] at hi
      simp only [ev, get, set, sizeLine_eq, Option.bind_some]
      rw [if_pos (by decide)]
      exact hi
  have hj := j_join [] ((stripZ [g / 4096, g / 256 % 16, g / 16 % 16, g % 16]).map fun d => [dg d]) (by rw [sumLen_one]; simp at hlen ⊢; omega)
  rw [joinL_nil, stripZ_hex hg] at hj
  simp only [run, bLawHex, initS, ex, ev, evs, Option.bind_some, I1, S1, List.map_cons, List.map_nil, List.length_cons, List.length_nil, sizeLine_eq, get, List.cons_append, h1, h2, h3, hm, Option.map_some, atoms]
  rw [if_pos (by decide)]
  simp only [Option.map_some, Option.bind_some, List.nil_append]
  have e : set (some (.a (.int (g : Int))) :: List.replicate (3 - (0 + 1)) none) 1 (.list [.int ((g / 4096 : Nat) : Int), .int ((g / 256 % 16 : Nat) : Int), .int ((g / 16 % 16 : Nat) : Int), .int ((g % 16 : Nat) : Int)]) = [some (.a (.int (g : Int))), some (.list (nL [g / 4096, g / 256 % 16, g / 16 % 16, g % 16])), none] := rfl
  rw [e]
  rw [hloop]
  simp [hc, hj, fresh, isAt_a, -List.map_map]
end Mine
end
section
open PySem PySem.Calls
set_option maxRecDepth 100000
namespace Mine
/-! mac texts -/
def oct6 (n : Nat) : List Nat := (List.range 6).map fun p => n / 2 ^ (8 * (5 - p)) % 256
def mac2 (o : Nat) : L := [dg (o / 16), dg (o % 16)]
def macW (n : Nat) : L := joinL [58] ((oct6 n).map mac2)
theorem oct6_lt {n o : Nat} (h : o ∈ oct6 n) : o < 256 := by
  simp only [oct6, List.mem_map] at h
  obtain ⟨p, _, rfl⟩ := h
  omega
theorem x0 (Φ : Nat → List PV → Option PV) {n : Nat} (hn : n < 2 ^ 48) : run Φ 3 bOctetsOf [I1 n, I1 6] = some (.bytes ((oct6 n).map fun o => o.toUInt8)) := by
  have hsh : binop .RShift (.a (.int (n : Int))) (.a (.int 48)) = some (.a (.int 0)) := by
    have := b_shr n 48
    rw [Nat.div_eq_of_lt hn] at this
    exact this
  have hc : ev Φ cOctetsOf1 [some (.a (.int (n : Int))), some (.a (.int 6)), none] = some (.list ((oct6 n).map fun o : Nat => .int (o : Int))) := by
    unfold oct6
    rw [List.map_map]
    refine ev_comp_map (vs := [.a (.int 6)]) (fun k : Nat => .int (k : Int)) _ (List.range 6) ?_ (it_range 6 (by decide)) fun k hk => ?_
    · simp [ex, ev, evs, evb, get, set, initS, c_eq_str, c_ne_str, c_eq_int, c_ne_int, c_lt, c_le, c_gt, c_ge, c_le_one, outO, okO', b_mulR, b_mulL, c_is_none, c_is_int, c_is_list, c_in_str, b_add, b_sub, f_len, f_lenL, f_ord, m_find, t_b, sizeLine_eq, isAt_a, fresh, i_str, i_list, it_str, it_list, it_tup]
    · have hk' : k < 6 := List.mem_range.mp hk
      have e1 : binop .Sub (.a (.int 5)) (.a (.int (k : Int))) = some (.a (.int ((5 - k : Nat) : Int))) := b_subN 5 k (by omega)
      have e2 : binop .Mult (.a (.int 8)) (.a (.int ((5 - k : Nat) : Int))) = some (.a (.int ((8 * (5 - k) : Nat) : Int))) := by
        rw [b_mulL _ _ (by decide)]; simp
      have e3 := b_shr n (8 * (5 - k))
      have e4 : binop .BitAnd (.a (.int ((n / 2 ^ (8 * (5 - k)) : Nat) : Int))) (.a (.int 255)) = some (.a (.int ((n / 2 ^ (8 * (5 - k)) % 256 : Nat) : Int))) := b_and _ 255 8 rfl
      have e0 : binop .Sub (.a (.int 6)) (.a (.int 1)) = some (.a (.int 5)) := rfl
      simp only [ev, get, set, Option.bind_some, e0, e1, e2, e3, e4, Function.comp]
  have hb : bi .bytes [.list ((oct6 n).map fun o : Nat => .int (o : Int))] = some (.bytes ((oct6 n).map fun o => o.toUInt8)) := by
    unfold bi
    simp only [ints_map, Option.bind_some]
    rw [if_pos]
    · simp
    · rw [List.all_eq_true]
      intro x hx
      simp only [List.mem_map] at hx
      obtain ⟨o, ho, rfl⟩ := hx
      have := oct6_lt ho
      simp [byteOk]; omega
  have h0 : ¬ (n : Int) < 0 := by omega
  have hm : binop .Mult (.a (.int 8)) (.a (.int 6)) = some (.a (.int 48)) := rfl
  simp [run, bOctetsOf, ex, ev, evs, evb, get, set, initS, c_eq_str, c_ne_str, c_eq_int, c_ne_int, c_lt, c_le, c_gt, c_ge, c_le_one, outO, okO', b_mulR, b_mulL, c_is_none, c_is_int, c_is_list, c_in_str, b_add, b_sub, f_len, f_lenL, f_ord, m_find, t_b, sizeLine_eq, isAt_a, fresh, i_str, i_list, it_str, it_list, it_tup, S1, I1, hsh, hc, hb, h0, hm]
theorem hexT_two {o : Nat} (h : o < 256) : hexT o 2 = mac2 o := by
  unfold hexT mac2
  by_cases h1 : o < 16
  · have e : o / 16 = 0 := by omega
    have e2 : o % 16 = o := by omega
    rw [if_pos ⟨rfl, h1⟩, e, e2]; rfl
  · rw [if_neg (fun q => h1 q.2)]
    unfold hexW
    rw [if_neg h1, if_pos h]
theorem sumLen_mac : ∀ os : List Nat, sumLen (os.map mac2) = 2 * os.length
  | [] => rfl
  | a :: r => by simp [sumLen, sumLen_mac r, mac2]; omega
theorem macJ (n : Nat) : me .join (.a (.str [58])) [.list (((oct6 n).map mac2).map .str)] = some (.a (.str (macW n))) := j_join [58] _ (by rw [sumLen_mac]; simp [oct6])
theorem x11 {Φ : Nat → List PV → Option PV} (h0 : ∀ n : Nat, n < 2 ^ 48 → Φ 0 [I1 n, I1 6] = some (.bytes ((oct6 n).map fun o => o.toUInt8))) (h3 : ∀ g least : Nat, g < 65536 → (least = 1 ∨ least = 2) → Φ 3 [I1 g, I1 least] = some (S1 (hexT g least)))
    {n : Nat} (hn : n < 2 ^ 48) : run Φ 2 bMacText [I1 n] = some (S1 (macW n)) := by
  have hc : ev Φ cMacText1 [some (.a (.int (n : Int))), none] = some (.list (((oct6 n).map mac2).map .str)) := by
    rw [List.map_map]
    refine ev_comp_map (vs := [.bytes ((oct6 n).map fun o => o.toUInt8)]) (fun k : Nat => .int (k : Int)) _ (oct6 n) ?_ ?_ fun o ho => ?_
    · have := h0 n hn
      simp only [I1] at this
      simp only [evs, ev, get, Option.bind_some, Option.map_some]
      exact congrArg (fun z : Option PV => z.bind fun v => some [v]) this
    · unfold iterItems
      simp only [List.length_map, sizeLine_eq]
      rw [if_pos (by simp [oct6])]
      congr 1
      rw [List.map_map]
      refine List.map_congr_left fun o ho => ?_
      have := oct6_lt ho
      simp only [Function.comp, Nat.toUInt8, UInt8.toNat_ofNat']
      rw [Nat.mod_eq_of_lt (by omega)]
    · have hlt := oct6_lt ho
      have := h3 o 2 (by omega) (.inr rfl)
      rw [hexT_two hlt] at this
      simp only [evs, ev, get, set, Option.bind_some, Option.map_some, Function.comp]
      exact this
  have hj := macJ n
  simp [run, bMacText, ex, ev, evs, evb, get, set, initS, c_eq_str, c_ne_str, c_eq_int, c_ne_int, c_lt, c_le, c_gt, c_ge, c_le_one, outO, okO', b_mulR, b_mulL, c_is_none, c_is_int, c_is_list, c_in_str, b_add, b_sub, f_len, f_lenL, f_ord, m_find, t_b, sizeLine_eq, isAt_a, fresh, i_str, i_list, it_str, it_list, it_tup, S1, I1, hc, hj, -List.map_map]
theorem x18 (Φ : Nat → List PV → Option PV) {n : Nat} (hn : n < 2 ^ 48) : run Φ 4 bLawTextmac [I1 n] = some (S1 (macW n)) := by
  have hc2 : ev Φ cLawTextmac2 [some (.a (.int (n : Int))), none, none, none] = some (.list (nL (oct6 n))) := by
    have e : oct6 n = (List.range 6).map fun p => n / 256 ^ (5 - p) % 256 := by
      unfold oct6
      refine List.map_congr_left fun p _ => ?_
      rw [Nat.pow_mul]
    unfold nL
    rw [e, List.map_map]
    refine ev_comp_map (vs := [.a (.int 6)]) (fun k : Nat => .int (k : Int)) _ (List.range 6) ?_ (it_range 6 (by decide)) fun k hk => ?_
    · simp [ex, ev, evs, evb, get, set, initS, c_eq_str, c_ne_str, c_eq_int, c_ne_int, c_lt, c_le, c_gt, c_ge, c_le_one, outO, okO', b_mulR, b_mulL, c_is_none, c_is_int, c_is_list, c_in_str, b_add, b_sub, f_len, f_lenL, f_ord, m_find, t_b, sizeLine_eq, isAt_a, fresh, i_str, i_list, it_str, it_list, it_tup]
    · have hk' : k < 6 := List.mem_range.mp hk
      have h1 : binop .Sub (.a (.int 5)) (.a (.int (k : Int))) = some (.a (.int ((5 - k : Nat) : Int))) := b_subN 5 k (by omega)
      have h2 : binop .Pow (.a (.int 256)) (.a (.int ((5 - k : Nat) : Int))) = some (.a (.int ((256 ^ (5 - k) : Nat) : Int))) := b_powN 256 (5 - k) (by omega) (by decide)
      have hp : 0 < 256 ^ (5 - k) := Nat.pow_pos (by decide)
      have hp' : 256 ^ (5 - k) < 2 ^ 200 := Nat.lt_of_le_of_lt (Nat.pow_le_pow_right (by decide) (show 5 - k ≤ 5 by omega)) (by decide)
      have h3 := b_divN n (256 ^ (5 - k)) hp hp'
      have h4 : binop .Mod (.a (.int ((n / 256 ^ (5 - k) : Nat) : Int))) (.a (.int 256)) = some (.a (.int ((n / 256 ^ (5 - k) % 256 : Nat) : Int))) := b_modN _ 256 (by decide)
      simp only [ev, evs, get, set, Option.bind_some, Option.map_some, h1, h2, h3, h4, Function.comp]
  have hc1 : ev Φ cLawTextmac1 [some (.a (.int (n : Int))), some (.list (nL (oct6 n))), none, none] = some (.list (((oct6 n).map mac2).map .str)) := by
    rw [List.map_map]
    refine ev_comp_map (vs := [.list (nL (oct6 n))]) (fun k : Nat => .int (k : Int)) _ (oct6 n) ?_ rfl fun o ho => ?_
    · simp only [evs, ev, get, Option.bind_some, Option.map_some]
    · have hlt := oct6_lt ho
      have h1 : binop .FloorDiv (.a (.int (o : Int))) (.a (.int 16)) = some (.a (.int ((o / 16 : Nat) : Int))) := b_divN o 16 (by decide) (by decide)
      have h2 : binop .Mod (.a (.int (o : Int))) (.a (.int 16)) = some (.a (.int ((o % 16 : Nat) : Int))) := b_modN o 16 (by decide)
      have i1 := idx16 (o / 16)
      rw [Nat.mod_eq_of_lt (show o / 16 < 16 by omega)] at i1
      have i2 := idx16 o
      have h3 := b_cat [dg (o / 16)] [dg (o % 16)] (by rw [sizeLine_eq]; simp)
      simp only [ev, evs, get, set, Option.bind_some, Option.map_some, h1, h2, sizeLine_eq]
      rw [if_pos (by decide)]
      simp only [Option.bind_some, i1, i2, h3]
      rfl
  have hj := macJ n
  simp [run, bLawTextmac, ex, ev, evs, evb, get, set, initS, c_eq_str, c_ne_str, c_eq_int, c_ne_int, c_lt, c_le, c_gt, c_ge, c_le_one, outO, okO', b_mulR, b_mulL, c_is_none, c_is_int, c_is_list, c_in_str, b_add, b_sub, f_len, f_lenL, f_ord, m_find, t_b, sizeLine_eq, isAt_a, fresh, i_str, i_list, it_str, it_list, it_tup, S1, I1, hc2, hc1, hj, -List.map_map]
theorem mac2_hex : ∀ o, o < 256 → hexOf (mac2 o) 2 = some o ∧ 58 ∉ mac2 o := by decide +kernel
theorem mac_back {n : Nat} (h : n < 2 ^ 48) : macOf (macW n) = some n := by
  have hs : splitC 58 (macW n) = (oct6 n).map mac2 := split_join (by simp [oct6]) (fun w hw => by
    simp only [List.mem_map] at hw
    obtain ⟨o, ho, rfl⟩ := hw
    exact (mac2_hex o (oct6_lt ho)).2)
  unfold macOf partsOf
  rw [hs, if_pos (by simp [oct6])]
  have e : oct6 n = [n / 2 ^ 40 % 256, n / 2 ^ 32 % 256, n / 2 ^ 24 % 256, n / 2 ^ 16 % 256, n / 2 ^ 8 % 256, n / 2 ^ 0 % 256] := rfl
  rw [e]
  simp only [List.map_cons, List.map_nil, foldO, numG]
  rw [(mac2_hex _ (show n / 2 ^ 40 % 256 < 256 by omega)).1, (mac2_hex _ (show n / 2 ^ 32 % 256 < 256 by omega)).1, (mac2_hex _ (show n / 2 ^ 24 % 256 < 256 by omega)).1, (mac2_hex _ (show n / 2 ^ 16 % 256 < 256 by omega)).1,
    (mac2_hex _ (show n / 2 ^ 8 % 256 < 256 by omega)).1, (mac2_hex _ (show n / 2 ^ 0 % 256 < 256 by omega)).1]
  simp only [Option.map_some, Option.bind_some]
  congr 1
  omega
end Mine
end
section
open PySem PySem.Calls
set_option maxRecDepth 100000
namespace Mine
/-! _law_readmac -/
theorem minL_some : ∀ {ns : List Int}, ns ≠ [] → ∃ k, minL ns = some k
  | [], h => absurd rfl h
  | x :: r, _ => ⟨_, rfl⟩
theorem maxL_some : ∀ {ns : List Int}, ns ≠ [] → ∃ k, maxL ns = some k
  | [], h => absurd rfl h
  | x :: r, _ => ⟨_, rfl⟩
theorem minL_key : ∀ {ns : List Int} {k : Int}, minL ns = some k → k ∈ ns ∧ ∀ a ∈ ns, k ≤ a
  | x :: r, k, e => by
    unfold minL at e
    cases h : minL r with
    | none =>
      rw [h] at e; cases e
      have : r = [] := by cases r with
        | nil => rfl
        | cons a b => simp [minL] at h
      subst this; simp
    | some y =>
      rw [h] at e; cases e
      obtain ⟨h1, h2⟩ := minL_key h
      dsimp only
      split
      · refine ⟨.tail _ h1, fun a ha => ?_⟩
        rcases List.mem_cons.mp ha with rfl | ha
        · omega
        · exact h2 a ha
      · refine ⟨.head _, fun a ha => ?_⟩
        rcases List.mem_cons.mp ha with rfl | ha
        · omega
        · have := h2 a ha; omega
theorem maxL_key : ∀ {ns : List Int} {k : Int}, maxL ns = some k → k ∈ ns ∧ ∀ a ∈ ns, a ≤ k
  | x :: r, k, e => by
    unfold maxL at e
    cases h : maxL r with
    | none =>
      rw [h] at e; cases e
      have : r = [] := by cases r with
        | nil => rfl
        | cons a b => simp [maxL] at h
      subst this; simp
    | some y =>
      rw [h] at e; cases e
      obtain ⟨h1, h2⟩ := maxL_key h
      dsimp only
      split
      · refine ⟨.tail _ h1, fun a ha => ?_⟩
        rcases List.mem_cons.mp ha with rfl | ha
        · omega
        · exact h2 a ha
      · refine ⟨.head _, fun a ha => ?_⟩
        rcases List.mem_cons.mp ha with rfl | ha
        · omega
        · have := h2 a ha; omega
/-- a word of two signs at most is a group of its own -/
theorem hex_two {w : L} {o : Nat} : hexOf w 2 = some o ↔ hexOf w 4 = some o ∧ w.length ≤ 2 := by
  unfold hexOf
  constructor
  · intro h
    split at h
    · rename_i hc
      rw [if_pos ⟨hc.1, by omega⟩]
      exact ⟨h, hc.2⟩
    · cases h
  · rintro ⟨h, hl⟩
    split at h
    · rename_i hc
      rw [if_pos ⟨hc.1, hl⟩]
      exact h
    · cases h
theorem numF_none {f : L → Option Nat} : ∀ {ws : List L} {n : Nat}, (∃ w ∈ ws, f w = none) → foldO (numG f) n ws = none
  | [], _, ⟨_, h, _⟩ => by cases h
  | w :: r, n, ⟨v, hv, e⟩ => by
    simp only [foldO, numG]
    cases hw : f w with
    | none => rfl
    | some o =>
      simp only [Option.map_some, Option.bind_some]
      rcases List.mem_cons.mp hv with rfl | hv
      · rw [e] at hw; cases hw
      · exact numF_none ⟨v, hv, e⟩
theorem ints_mapI (ls : List Int) : intsOf (ls.map .int) = some ls := by
  induction ls with
  | nil => rfl
  | cons x r ih => simp [intsOf, ih]
theorem hexGo_lt : ∀ {l : L} {n k : Nat}, foldO hexG n l = some k → k < (n + 1) * 16 ^ l.length
  | [], n, k, e => by cases e; simp
  | c :: r, n, k, e => by
    simp only [foldO, Option.bind_eq_some_iff] at e
    obtain ⟨m, hm, e⟩ := e
    have ih := hexGo_lt e
    simp only [hexG, Option.map_eq_some_iff] at hm
    obtain ⟨d, hd, rfl⟩ := hm
    have hd16 : d < 16 := by
      unfold hx at hd
      split at hd
      · cases hd; omega
      · split at hd
        · cases hd; omega
        · split at hd
          · cases hd; omega
          · cases hd
    rw [List.length_cons, Nat.pow_succ, Nat.mul_comm (16 ^ r.length) 16, ← Nat.mul_assoc]
    exact Nat.lt_of_lt_of_le ih (Nat.mul_le_mul_right _ (by omega))
theorem hexOf_lt {w : L} {m k : Nat} (hm : m ≤ 4) (h : hexOf w m = some k) : k < 65536 := by
  unfold hexOf at h
  split at h
  · rename_i hc
    have := hexGo_lt h
    have h2 : 16 ^ w.length ≤ 16 ^ 4 := Nat.pow_le_pow_right (by decide) (by omega)
    omega
  · cases h
theorem nL_get (ds : List Nat) (k : Nat) (h : k < ds.length) : index (.list (nL ds)) (.a (.int (k : Int))) = some (.a (.int ((ds.getD k 0 : Nat) : Int))) := by
  rw [i_list _ _ (by omega), Int.toNat_natCast]
  unfold nL
  rw [List.getElem?_map, List.getElem?_eq_getElem h]
  simp [List.getD, h]
theorem sum6 (a b c d e f : Nat) : bi .sum [.list (nL [a, b, c, d, e, f])] = some (.a (.int ((a + b + c + d + e + f : Nat) : Int))) := by
  have h : (([a, b, c, d, e, f].map fun k : Nat => (k : Int))).sum = ((a + b + c + d + e + f : Nat) : Int) := by
    simp only [List.map_cons, List.map_nil, List.sum_cons, List.sum_nil]
    omega
  unfold bi nL
  simp only [ints_map, Option.map_some, h]
theorem x22 {Φ : Nat → List PV → Option PV} (h20 : ∀ l, short l = true → Φ 20 [S1 l] = some (.a (.int (lawGroup l)))) {l : L} (hs : short l = true) : run Φ 6 bLawReadmac [S1 l] = some (optI (macOf l)) := by
  have hm := m_split l 58 (by decide) (short_iff.mp hs).1
  have hc3 : ev Φ cLawReadmac3 [some (.a (.str l)), some (.list ((splitC 58 l).map .str)), none, none, none, none] = some (.list (((splitC 58 l).map lawGroup).map .int)) := by
    rw [List.map_map]
    refine ev_comp_map (k := .val) (vs := [.list ((splitC 58 l).map .str)]) .str _ (splitC 58 l) ?_ rfl fun w hw => ?_
    · simp only [evs, ev, get, Option.bind_some, Option.map_some]
    · have := h20 w (short_part hs hw)
      simp only [evs, ev, get, set, Option.bind_some, Option.map_some, Function.comp]
      exact this
  have hc2 : ev Φ cLawReadmac2 [some (.a (.str l)), some (.list ((splitC 58 l).map .str)), some (.list (((splitC 58 l).map lawGroup).map .int)), none, none, none] = some (.list (((splitC 58 l).map fun w : L => (w.length : Int)).map .int)) := by
    conv => rhs; rw [List.map_map]
    refine ev_comp_map (k := .val) (vs := [.list ((splitC 58 l).map .str)]) .str _ (splitC 58 l) ?_ rfl fun w hw => ?_
    · simp only [evs, ev, get, Option.bind_some, Option.map_some]
    · simp only [evs, ev, get, set, Option.bind_some, Option.map_some, Function.comp, f_len]
  obtain ⟨mn, hmn⟩ := minL_some (ns := (splitC 58 l).map lawGroup) (by simpa using splitC_ne 58 l)
  obtain ⟨mx, hmx⟩ := maxL_some (ns := (splitC 58 l).map fun w : L => (w.length : Int)) (by simpa using splitC_ne 58 l)
  have fmin : bi .min [.list (((splitC 58 l).map lawGroup).map .int)] = some (.a (.int mn)) := by
    unfold bi; simp only [ints_mapI, Option.bind_some, hmn, Option.map_some]
  have fmax : bi .max [.list (((splitC 58 l).map fun w : L => (w.length : Int)).map .int)] = some (.a (.int mx)) := by
    unfold bi; simp only [ints_mapI, Option.bind_some, hmx, Option.map_some]
  obtain ⟨n1, n2⟩ := minL_key hmn
  obtain ⟨m1, m2⟩ := maxL_key hmx
  by_cases hk : (splitC 58 l).length = 6
  · have hk' : ((splitC 58 l).length : Int) = 6 := by omega
    by_cases hbad : ∃ w ∈ splitC 58 l, hexOf w 2 = none
    · have hspec : macOf l = none := by unfold macOf partsOf; rw [if_pos hk, numF_none hbad]
      rw [hspec]
      obtain ⟨w, hw, hb⟩ := hbad
      by_cases hmn0 : mn < 0
      · simp [run, bLawReadmac, ex, ev, evs, evb, get, set, initS, c_eq_str, c_ne_str, c_eq_int, c_ne_int, c_lt, c_le, c_gt, c_ge, c_le_one, outO, okO', b_mulR, b_mulL, c_is_none, c_is_int, c_is_list, c_in_str, b_add, b_sub, f_len, f_lenL, f_ord, m_find, t_b, sizeLine_eq, isAt_a, fresh, i_str, i_list, it_str, it_list, it_tup, S1, I1, hm, hc3, hk', fmin, hmn0, optI, -List.map_map]
      · have hw4 : w.length > 2 := by
          have := n2 (lawGroup w) (List.mem_map.mpr ⟨w, hw, rfl⟩)
          cases h4 : hexOf w 4 with
          | none => unfold lawGroup at this; rw [h4] at this; simp at this; omega
          | some g =>
            refine Nat.lt_of_not_le fun hle => ?_
            rw [hex_two.mpr ⟨h4, hle⟩] at hb; cases hb
        have hmx2 : (2 : Int) < mx := by
          have := m2 (w.length : Int) (List.mem_map.mpr ⟨w, hw, rfl⟩)
          omega
        simp [run, bLawReadmac, ex, ev, evs, evb, get, set, initS, c_eq_str, c_ne_str, c_eq_int, c_ne_int, c_lt, c_le, c_gt, c_ge, c_le_one, outO, okO', b_mulR, b_mulL, c_is_none, c_is_int, c_is_list, c_in_str, b_add, b_sub, f_len, f_lenL, f_ord, m_find, t_b, sizeLine_eq, isAt_a, fresh, i_str, i_list, it_str, it_list, it_tup, S1, I1, hm, hc3, hk', fmin, hmn0, hc2, fmax, hmx2, optI, -List.map_map]
    · have hall : ∀ w ∈ splitC 58 l, ∃ o, hexOf w 2 = some o := fun w hw => by
        cases h : hexOf w 2 with
        | none => exact absurd ⟨w, hw, h⟩ hbad
        | some o => exact ⟨o, rfl⟩
      have hmn0 : ¬ mn < 0 := by
        obtain ⟨w, hw, rfl⟩ := List.mem_map.mp n1
        obtain ⟨o, ho⟩ := hall w hw
        unfold lawGroup
        rw [(hex_two.mp ho).1]
        simp
      have hmx2 : ¬ (2 : Int) < mx := by
        obtain ⟨w, hw, rfl⟩ := List.mem_map.mp m1
        obtain ⟨o, ho⟩ := hall w hw
        have := (hex_two.mp ho).2
        omega
      have hk6 := hk
      match hws : splitC 58 l, hk with
      | [w1, w2, w3, w4, w5, w6], _ =>
        rw [hws] at hall
        obtain ⟨o1, q1⟩ := hall w1 (by simp)
        obtain ⟨o2, q2⟩ := hall w2 (by simp)
        obtain ⟨o3, q3⟩ := hall w3 (by simp)
        obtain ⟨o4, q4⟩ := hall w4 (by simp)
        obtain ⟨o5, q5⟩ := hall w5 (by simp)
        obtain ⟨o6, q6⟩ := hall w6 (by simp)
        have hspec : macOf l = some (o1 * 256 ^ 5 + o2 * 256 ^ 4 + o3 * 256 ^ 3 + o4 * 256 ^ 2 + o5 * 256 ^ 1 + o6 * 256 ^ 0) := by
          unfold macOf partsOf
          rw [if_pos hk6, hws]
          simp only [foldO, numG, q1, q2, q3, q4, q5, q6, Option.map_some, Option.bind_some]
          congr 1
          omega
        have hv : ((splitC 58 l).map lawGroup).map At.int = nL [o1, o2, o3, o4, o5, o6] := by
          rw [hws]
          unfold lawGroup nL
          simp only [List.map_cons, List.map_nil, (hex_two.mp q1).1, (hex_two.mp q2).1, (hex_two.mp q3).1, (hex_two.mp q4).1, (hex_two.mp q5).1, (hex_two.mp q6).1]
        rw [hv] at fmin hc3 hc2
        have e : ((List.range 6).map fun k => At.int (([o1, o2, o3, o4, o5, o6].getD k 0 * 256 ^ (5 - k) : Nat) : Int)) =
            nL [o1 * 256 ^ 5, o2 * 256 ^ 4, o3 * 256 ^ 3, o4 * 256 ^ 2, o5 * 256 ^ 1, o6 * 256 ^ 0] := by
          simp [List.range_succ, nL, List.getD]
        have hc1 : ev Φ cLawReadmac1 [some (.a (.str l)), some (.list ((splitC 58 l).map .str)), some (.list (nL [o1, o2, o3, o4, o5, o6])), none, none, none] =
            some (.list (nL [o1 * 256 ^ 5, o2 * 256 ^ 4, o3 * 256 ^ 3, o4 * 256 ^ 2, o5 * 256 ^ 1, o6 * 256 ^ 0])) := by
          rw [← e]
          refine ev_comp_map (vs := [.a (.int 6)]) (fun k : Nat => .int (k : Int)) _ (List.range 6) ?_ (it_range 6 (by decide)) fun k hk => ?_
          · simp [ex, ev, evs, evb, get, set, initS, c_eq_str, c_ne_str, c_eq_int, c_ne_int, c_lt, c_le, c_gt, c_ge, c_le_one, outO, okO', b_mulR, b_mulL, c_is_none, c_is_int, c_is_list, c_in_str, b_add, b_sub, f_len, f_lenL, f_ord, m_find, t_b, sizeLine_eq, isAt_a, fresh, i_str, i_list, it_str, it_list, it_tup]
          · have hk' : k < 6 := List.mem_range.mp hk
            have h1 : binop .Sub (.a (.int 5)) (.a (.int (k : Int))) = some (.a (.int ((5 - k : Nat) : Int))) := b_subN 5 k (by omega)
            have h2 : binop .Pow (.a (.int 256)) (.a (.int ((5 - k : Nat) : Int))) = some (.a (.int ((256 ^ (5 - k) : Nat) : Int))) := b_powN 256 (5 - k) (by omega) (by decide)
            have h3 := nL_get [o1, o2, o3, o4, o5, o6] k hk'
            have hp' : 256 ^ (5 - k) < 2 ^ 64 := Nat.lt_of_le_of_lt (Nat.pow_le_pow_right (by decide) (show 5 - k ≤ 5 by omega)) (by decide)
            have h4 := b_mulR (([o1, o2, o3, o4, o5, o6].getD k 0 : Nat) : Int) ((256 ^ (5 - k) : Nat) : Int) (by rw [Int.natAbs_natCast]; exact hp')
            rw [← Int.natCast_mul] at h4
            simp only [ev, evs, get, set, Option.bind_some, Option.map_some, h1, h2, h3, h4]
        have fsum := sum6 (o1 * 256 ^ 5) (o2 * 256 ^ 4) (o3 * 256 ^ 3) (o4 * 256 ^ 2) (o5 * 256 ^ 1) (o6 * 256 ^ 0)
        generalize o1 * 256 ^ 5 + o2 * 256 ^ 4 + o3 * 256 ^ 3 + o4 * 256 ^ 2 + o5 * 256 ^ 1 + o6 * 256 ^ 0 = tot at hspec fsum
        generalize nL [o1 * 256 ^ 5, o2 * 256 ^ 4, o3 * 256 ^ 3, o4 * 256 ^ 2, o5 * 256 ^ 1, o6 * 256 ^ 0] = prods at hc1 fsum
        rw [hspec]
        have hk7 : ((splitC 58 l).length : Int) = 6 := by rw [hws]; rfl
        simp [run, bLawReadmac, ex, ev, evs, evb, get, set, initS, c_eq_str, c_ne_str, c_eq_int, c_ne_int, c_lt, c_le, c_gt, c_ge, c_le_one, outO, okO', b_mulR, b_mulL, c_is_none, c_is_int, c_is_list, c_in_str, b_add, b_sub, f_len, f_lenL, f_ord, m_find, t_b, sizeLine_eq, isAt_a, fresh, i_str, i_list, it_str, it_list, it_tup, S1, I1, hm, hc3, hk7, fmin, hmn0, hc2, fmax, hmx2, hc1, fsum, optI, -List.map_map]
  · have hk' : ¬ ((splitC 58 l).length : Int) = 6 := by omega
    simp [run, bLawReadmac, ex, ev, evs, evb, get, set, initS, c_eq_str, c_ne_str, c_eq_int, c_ne_int, c_lt, c_le, c_gt, c_ge, c_le_one, outO, okO', b_mulR, b_mulL, c_is_none, c_is_int, c_is_list, c_in_str, b_add, b_sub, f_len, f_lenL, f_ord, m_find, t_b, sizeLine_eq, isAt_a, fresh, i_str, i_list, it_str, it_list, it_tup, S1, I1, hm, hc3, hk', optI, macOf, partsOf, hk, -List.map_map]
end Mine
end
section
open PySem PySem.Calls
set_option maxRecDepth 100000
namespace Mine
theorem ex_ite {Φ : Nat → List PV → Option PV} {c : E} {t f : S} {ρ : Store} {b : Bool} (h : ev Φ c ρ = some (.a (.bool b))) : ex Φ (.ite c t f) ρ = if b then ex Φ t ρ else ex Φ f ρ := by
  rw [ex, h]; rfl
theorem ex_one {Φ : Nat → List PV → Option PV} {s : S} {ρ : Store} : ex Φ (.seq s .nil) ρ = ex Φ s ρ := by
  rw [ex]
  cases h : ex Φ s ρ with
  | none => rfl
  | some p =>
    obtain ⟨fl, ρ'⟩ := p
    cases fl <;> rfl
theorem ex_next {Φ : Nat → List PV → Option PV} {s t : S} {ρ ρ' : Store} (h : ex Φ s ρ = some (.next, ρ')) : ex Φ (.seq s t) ρ = ex Φ t ρ' := by
  rw [ex, h]; rfl
theorem ex_ret {Φ : Nat → List PV → Option PV} {s t : S} {ρ ρ' : Store} {v : PV} (h : ex Φ s ρ = some (.ret v, ρ')) : ex Φ (.seq s t) ρ = some (.ret v, ρ') := by
  rw [ex, h]; rfl
theorem ex_for {Φ : Nat → List PV → Option PV} {x : Nat} {k : IK} {it : E} {body : S} {ρ : Store} {vs : List PV} {items : List At} (h1 : evs Φ it ρ = some vs) (h2 : iterItems k vs = some items) :
    ex Φ (.forS x k it body) ρ = forGo (fun a ρ => ex Φ body (set ρ x (.a a))) items ρ := by
  rw [ex, h1, Option.bind_some, h2, Option.bind_some]
theorem ex_assign {Φ : Nat → List PV → Option PV} {x : Nat} {e : E} {ρ : Store} {v : PV} (h : ev Φ e ρ = some v) : ex Φ (.assign x e) ρ = some (.next, set ρ x v) := by
  rw [ex, h, Option.map_some]
theorem ex_retF {Φ : Nat → List PV → Option PV} {e : E} {ρ : Store} {v : PV} (h : ev Φ e ρ = some v) (hc : (fresh e || isAt v) = true) : ex Φ (.ret e) ρ = some (.ret v, ρ) := by
  rw [ex, h, Option.bind_some, if_pos hc]
theorem evs_one {Φ : Nat → List PV → Option PV} {e : E} {ρ : Store} {v : PV} (h : ev Φ e ρ = some v) : evs Φ (.cons e .nil) ρ = some [v] := by
  rw [evs, h, Option.bind_some, evs, Option.map_some]
theorem evs_cons {Φ : Nat → List PV → Option PV} {e r : E} {ρ : Store} {v : PV} {vs : List PV} (h : ev Φ e ρ = some v) (h2 : evs Φ r ρ = some vs) : evs Φ (.cons e r) ρ = some (v :: vs) := by
  rw [evs, h, Option.bind_some, h2, Option.map_some]
theorem ev_bin {Φ : Nat → List PV → Option PV} {ρ : Store} {op : Operator} {l r : E} {x y z : PV} (h1 : ev Φ l ρ = some x) (h2 : ev Φ r ρ = some y) (h3 : binop op x y = some z) : ev Φ (.bin op l r) ρ = some z := by
  rw [ev, h1, Option.bind_some, h2, Option.bind_some, h3]
theorem ev_cmp {Φ : Nat → List PV → Option PV} {ρ : Store} {op : CmpOp} {l r : E} {x y : PV} {b : Bool} (h1 : ev Φ l ρ = some x) (h2 : ev Φ r ρ = some y) (h3 : cmpop op x y = some b) : ev Φ (.cmp op l r) ρ = some (.a (.bool b)) := by
  rw [ev, h1, Option.bind_some, h2, Option.bind_some, h3, Option.map_some]
theorem ev_call {Φ : Nat → List PV → Option PV} {ρ : Store} {f : Nat} {args : E} {vs : List PV} {v : PV} (h1 : evs Φ args ρ = some vs) (h2 : Φ f vs = some v) : ev Φ (.call f args) ρ = some v := by
  rw [ev, h1, Option.bind_some, h2]
theorem ev_bi {Φ : Nat → List PV → Option PV} {ρ : Store} {f : BI} {args : E} {vs : List PV} {v : PV} (h1 : evs Φ args ρ = some vs) (h2 : bi f vs = some v) : ev Φ (.bi f args) ρ = some v := by
  rw [ev, h1, Option.bind_some, h2]
theorem ev_me {Φ : Nat → List PV → Option PV} {ρ : Store} {m : ME} {o args : E} {x : PV} {vs : List PV} {v : PV} (h0 : ev Φ o ρ = some x) (h1 : evs Φ args ρ = some vs) (h2 : me m x vs = some v) : ev Φ (.me m o args) ρ = some v := by
  rw [ev, h0, Option.bind_some, h1, Option.bind_some, h2]
theorem ev_idx {Φ : Nat → List PV → Option PV} {ρ : Store} {o i : E} {x y v : PV} (h0 : ev Φ o ρ = some x) (h1 : ev Φ i ρ = some y) (h2 : index x y = some v) : ev Φ (.idx o i) ρ = some v := by
  rw [ev, h0, Option.bind_some, h1, Option.bind_some, h2]
theorem ev_var {Φ : Nat → List PV → Option PV} {ρ : Store} {i : Nat} {v : PV} (h : get ρ i = some v) : ev Φ (.var i) ρ = some v := by rw [ev, h]
theorem ev_int {Φ : Nat → List PV → Option PV} {ρ : Store} {i : Int} : ev Φ (.int i) ρ = some (.a (.int i)) := by rw [ev]
theorem enumGo_K {σ α : Type} {R : Nat → σ → Store → Prop} {enc : α → At} {body : Int → At → Store → Option (Fl × Store)} {f : σ → Nat → α → Option σ} (w : PV) :
    ∀ (items : List α) (k : Nat) (s : σ) (ρ : Store), (∀ s ρ (j : Nat) a, a ∈ items → k ≤ j → j < k + items.length → R j s ρ → ∃ ρ', body (j : Int) (enc a) ρ = some (outO w (f s j a) ρ') ∧ okO' (R (j + 1)) (f s j a) ρ') → R k s ρ →
      ∃ ρ', enumGo body (k : Int) (items.map enc) ρ = some (outO w (foldOi f k s items) ρ') ∧ okO' (R (k + items.length)) (foldOi f k s items) ρ'
  | [], k, s, ρ, _, h => ⟨ρ, rfl, h⟩
  | a :: r, k, s, ρ, hs, h => by
    obtain ⟨ρ', h1, h2⟩ := hs s ρ k a (by simp) (Nat.le_refl _) (by simp) h
    simp only [List.map_cons, enumGo, h1, Option.bind_some, foldOi]
    cases hf : f s k a with
    | none => exact ⟨ρ', rfl, trivial⟩
    | some s' =>
      rw [hf] at h2
      have := enumGo_K w r (k + 1) s' ρ' (fun s ρ j b hb h1 h2 => hs s ρ j b (by simp [hb]) (by omega) (by simp; omega)) h2
      rw [show k + 1 + r.length = k + (a :: r).length by simp; omega] at this
      exact this
/-! groups_of -/
def optL : Option (List Nat) → PV
  | some gs => .list (nL gs)
  | none => .a .none
def grG (isEnd : Bool) (n : Nat) (gs : List Nat) (k : Nat) (w : L) : Option (List Nat) :=
  if isEnd = true ∧ k + 1 = n ∧ 46 ∈ w then (ip4Of w).map fun t => gs ++ [t / 65536, t % 65536] else (hexOf w 4).map fun g => gs ++ [g]
def sideOf (isEnd : Bool) (t : L) : Option (List Nat) := if t = [] then some [] else foldOi (grG isEnd (splitC 58 t).length) 0 [] (splitC 58 t)
theorem nL_app (a b : List Nat) : nL (a ++ b) = nL a ++ nL b := by simp [nL]
theorem nL_cons (a : Nat) (b : List Nat) : nL (a :: b) = .int (a : Int) :: nL b := rfl
theorem nL_nil : nL [] = [] := rfl
theorem nL_len (a : List Nat) : (nL a).length = a.length := by simp [nL]
theorem x_append {Φ : Nat → List PV → Option PV} {x : Nat} {e : E} {ρ : Store} {gs : List Nat} {g : Nat} (hx : get ρ x = some (.list (nL gs))) (he : ev Φ e ρ = some (.a (.int (g : Int)))) (hl : gs.length ≤ 10000) :
    ex Φ (.append x e) ρ = some (.next, set ρ x (.list (nL (gs ++ [g])))) := by
  simp only [ex, he, Option.bind_some, hx]
  rw [if_pos (by rw [sizeLine_eq]; simp [nL]; omega)]
  simp [nL]
theorem splitC_count (c : Nat) : ∀ l : L, (splitC c l).length ≤ l.length + 1
  | [] => by simp [splitC]
  | x :: r => by
    have ih := splitC_count c r
    unfold splitC
    split
    · simp; omega
    · cases h : splitC c r with
      | nil => simp [cons1]
      | cons a t => rw [h] at ih; simp [cons1] at ih ⊢; omega
theorem x6 {Φ : Nat → List PV → Option PV} (h4 : ∀ l, short l = true → Φ 4 [S1 l] = some (optI (ip4Of l))) (h2 : ∀ l m, Φ 2 [S1 l, I1 m] = some (optI (hexOf l m))) {t : L} (hs : short t = true) (isEnd : Bool) :
    run Φ 8 bGroupsOf [S1 t, .a (.bool isEnd)] = some (optL (sideOf isEnd t)) := by
  have hm := m_split t 58 (by decide) (short_iff.mp hs).1
  have hcount := splitC_count 58 t
  have hlen := (short_iff.mp hs).1
  generalize hW : splitC 58 t = W at hm hcount
  have step : ∀ (gs : List Nat) ρ (k : Nat) (w : L), w ∈ W → 0 ≤ k → k < 0 + W.length →
      (∃ o1 o2 o3 o4, ρ = [some (.a (.str t)), some (.a (.bool isEnd)), some (.list (nL gs)), some (.list (W.map .str)), o1, o2, o3, o4] ∧ gs.length ≤ 2 * k) →
      ∃ ρ', ex Φ lGroupsOf1 (set (set ρ 4 (.a (.int (k : Int)))) 5 (.a (.str w))) = some (outO (.a .none) (grG isEnd W.length gs k w) ρ') ∧
        okO' (fun gs ρ => ∃ o1 o2 o3 o4, ρ = [some (.a (.str t)), some (.a (.bool isEnd)), some (.list (nL gs)), some (.list (W.map .str)), o1, o2, o3, o4] ∧ gs.length ≤ 2 * (k + 1)) (grG isEnd W.length gs k w) ρ' := by
    rintro gs ρ k w hw _ hk ⟨o1, o2, o3, o4, rfl, hgl⟩
    have hws : short w = true := short_part hs (hW ▸ hw)
    have e0 : set (set [some (.a (.str t)), some (.a (.bool isEnd)), some (.list (nL gs)), some (.list (W.map .str)), o1, o2, o3, o4] 4 (.a (.int (k : Int)))) 5 (.a (.str w)) = [some (.a (.str t)), some (.a (.bool isEnd)), some (.list (nL gs)), some (.list (W.map .str)), some (.a (.int (k : Int))), some (.a (.str w)), o3, o4] := rfl
    rw [e0]
    have htest : ev Φ (.boolE true (.cons (.var 1) (.cons (.cmp .Eq (.var 4) (.bin .Sub (.bi .len (.cons (.var 3) .nil)) (.int 1))) (.cons (.cmp .In (.str [46]) (.var 5)) .nil)))) [some (.a (.str t)), some (.a (.bool isEnd)), some (.list (nL gs)), some (.list (W.map .str)), some (.a (.int (k : Int))), some (.a (.str w)), o3, o4] =
        some (.a (.bool (decide (isEnd = true ∧ k + 1 = W.length ∧ 46 ∈ w)))) := by
      cases isEnd with
      | false => simp [ex, ev, evs, evb, get, set, initS, c_eq_str, c_ne_str, c_eq_int, c_ne_int, c_lt, c_le, c_gt, c_ge, c_le_one, outO, okO', b_mulR, b_mulL, c_is_none, c_is_int, c_is_list, c_in_str, b_add, b_sub, f_len, f_lenL, f_ord, m_find, t_b, sizeLine_eq, isAt_a, fresh, i_str, i_list, it_str, it_list, it_tup]
      | true =>
        by_cases h1 : k + 1 = W.length
        · have h1' : (k : Int) = (W.length : Int) - 1 := by omega
          by_cases h2 : 46 ∈ w
          · simp [ex, ev, evs, evb, get, set, initS, c_eq_str, c_ne_str, c_eq_int, c_ne_int, c_lt, c_le, c_gt, c_ge, c_le_one, outO, okO', b_mulR, b_mulL, c_is_none, c_is_int, c_is_list, c_in_str, b_add, b_sub, f_len, f_lenL, f_ord, m_find, t_b, sizeLine_eq, isAt_a, fresh, i_str, i_list, it_str, it_list, it_tup, h1, h1', h2]
          · simp [ex, ev, evs, evb, get, set, initS, c_eq_str, c_ne_str, c_eq_int, c_ne_int, c_lt, c_le, c_gt, c_ge, c_le_one, outO, okO', b_mulR, b_mulL, c_is_none, c_is_int, c_is_list, c_in_str, b_add, b_sub, f_len, f_lenL, f_ord, m_find, t_b, sizeLine_eq, isAt_a, fresh, i_str, i_list, it_str, it_list, it_tup, h1, h1', h2]
        · have h1' : ¬ (k : Int) = (W.length : Int) - 1 := by omega
          simp [ex, ev, evs, evb, get, set, initS, c_eq_str, c_ne_str, c_eq_int, c_ne_int, c_lt, c_le, c_gt, c_ge, c_le_one, outO, okO', b_mulR, b_mulL, c_is_none, c_is_int, c_is_list, c_in_str, b_add, b_sub, f_len, f_lenL, f_ord, m_find, t_b, sizeLine_eq, isAt_a, fresh, i_str, i_list, it_str, it_list, it_tup, h1, h1']
    unfold lGroupsOf1
    rw [ex_one, ex_ite htest]
    have hcallh := h2 w 4
    have hcall4 := h4 w hws
    simp only [S1, I1] at hcallh hcall4
    have e4 : (((4 : Nat) : Int)) = 4 := rfl
    rw [e4] at hcallh
    by_cases hc : isEnd = true ∧ k + 1 = W.length ∧ 46 ∈ w
    · have hg : grG isEnd W.length gs k w = (ip4Of w).map fun t => gs ++ [t / 65536, t % 65536] := by unfold grG; rw [if_pos hc]
      rw [hg]
      cases hi : ip4Of w with
      | none =>
        rw [hi] at hcall4
        simp [ex, ev, evs, evb, get, set, initS, c_eq_str, c_ne_str, c_eq_int, c_ne_int, c_lt, c_le, c_gt, c_ge, c_le_one, outO, okO', b_mulR, b_mulL, c_is_none, c_is_int, c_is_list, c_in_str, b_add, b_sub, f_len, f_lenL, f_ord, m_find, t_b, sizeLine_eq, isAt_a, fresh, i_str, i_list, it_str, it_list, it_tup, hc, hcall4, optI]
      | some n =>
        rw [hi] at hcall4
        have hshr : binop .RShift (.a (.int (n : Int))) (.a (.int 16)) = some (.a (.int ((n / 65536 : Nat) : Int))) := b_shr n 16
        have hand : binop .BitAnd (.a (.int (n : Int))) (.a (.int 65535)) = some (.a (.int ((n % 65536 : Nat) : Int))) := b_and n 65535 16 rfl
        have l1 : (nL gs).length < 16777216 := by simp [nL]; omega
        have l2 : (nL gs).length + 1 < 16777216 := by simp [nL]; omega
        simp [ex, ev, evs, evb, get, set, initS, c_eq_str, c_ne_str, c_eq_int, c_ne_int, c_lt, c_le, c_gt, c_ge, c_le_one, outO, okO', b_mulR, b_mulL, c_is_none, c_is_int, c_is_list, c_in_str, b_add, b_sub, f_len, f_lenL, f_ord, m_find, t_b, sizeLine_eq, isAt_a, fresh, i_str, i_list, it_str, it_list, it_tup, hc, hcall4, optI, hshr, hand, l1, l2, nL_app, nL_cons, nL_nil]
        omega
    · have hg : grG isEnd W.length gs k w = (hexOf w 4).map fun g => gs ++ [g] := by unfold grG; rw [if_neg hc]
      rw [hg]
      cases hi : hexOf w 4 with
      | none =>
        rw [hi] at hcallh
        simp [ex, ev, evs, evb, get, set, initS, c_eq_str, c_ne_str, c_eq_int, c_ne_int, c_lt, c_le, c_gt, c_ge, c_le_one, outO, okO', b_mulR, b_mulL, c_is_none, c_is_int, c_is_list, c_in_str, b_add, b_sub, f_len, f_lenL, f_ord, m_find, t_b, sizeLine_eq, isAt_a, fresh, i_str, i_list, it_str, it_list, it_tup, hc, hcallh, optI]
      | some n =>
        rw [hi] at hcallh
        have l1 : (nL gs).length < 16777216 := by simp [nL]; omega
        simp [ex, ev, evs, evb, get, set, initS, c_eq_str, c_ne_str, c_eq_int, c_ne_int, c_lt, c_le, c_gt, c_ge, c_le_one, outO, okO', b_mulR, b_mulL, c_is_none, c_is_int, c_is_list, c_in_str, b_add, b_sub, f_len, f_lenL, f_ord, m_find, t_b, sizeLine_eq, isAt_a, fresh, i_str, i_list, it_str, it_list, it_tup, hc, hcallh, optI, l1, nL_app, nL_cons, nL_nil]
        omega
  by_cases ht : t = []
  · subst ht
    simp [run, bGroupsOf, ex, ev, evs, evb, get, set, initS, c_eq_str, c_ne_str, c_eq_int, c_ne_int, c_lt, c_le, c_gt, c_ge, c_le_one, outO, okO', b_mulR, b_mulL, c_is_none, c_is_int, c_is_list, c_in_str, b_add, b_sub, f_len, f_lenL, f_ord, m_find, t_b, sizeLine_eq, isAt_a, fresh, i_str, i_list, it_str, it_list, it_tup, S1, I1, sideOf, optL, atoms, nL_nil]
  · obtain ⟨ρ', hgo, hR⟩ : ∃ ρ', enumGo (fun k a ρ => ex Φ lGroupsOf1 (set (set ρ 4 (.a (.int k))) 5 (.a a))) 0 (W.map .str) [some (.a (.str t)), some (.a (.bool isEnd)), some (.list []), some (.list (W.map .str)), none, none, none, none] = some (outO (.a .none) (foldOi (grG isEnd W.length) 0 [] W) ρ') ∧ _ :=
      enumGo_K (R := fun k gs ρ => ∃ o1 o2 o3 o4, ρ = [some (.a (.str t)), some (.a (.bool isEnd)), some (.list (nL gs)), some (.list (W.map .str)), o1, o2, o3, o4] ∧ gs.length ≤ 2 * k) (.a .none) W 0 [] _ step ⟨none, none, none, none, rfl, by simp⟩
    have hside : sideOf isEnd t = foldOi (grG isEnd W.length) 0 [] W := by unfold sideOf; rw [if_neg ht, hW]
    rw [hside]
    cases hx : foldOi (grG isEnd W.length) 0 [] W with
    | none =>
      rw [hx] at hgo
      simp [run, bGroupsOf, ex, ev, evs, evb, get, set, initS, c_eq_str, c_ne_str, c_eq_int, c_ne_int, c_lt, c_le, c_gt, c_ge, c_le_one, outO, okO', b_mulR, b_mulL, c_is_none, c_is_int, c_is_list, c_in_str, b_add, b_sub, f_len, f_lenL, f_ord, m_find, t_b, sizeLine_eq, isAt_a, fresh, i_str, i_list, it_str, it_list, it_tup, S1, I1, optL, atoms, ht, hm, hgo]
    | some gs =>
      rw [hx] at hgo hR
      obtain ⟨o1, o2, o3, o4, rfl, _⟩ := hR
      simp [run, bGroupsOf, ex, ev, evs, evb, get, set, initS, c_eq_str, c_ne_str, c_eq_int, c_ne_int, c_lt, c_le, c_gt, c_ge, c_le_one, outO, okO', b_mulR, b_mulL, c_is_none, c_is_int, c_is_list, c_in_str, b_add, b_sub, f_len, f_lenL, f_ord, m_find, t_b, sizeLine_eq, isAt_a, fresh, i_str, i_list, it_str, it_list, it_tup, S1, I1, optL, atoms, ht, hm, hgo]
end Mine
end
section
open PySem PySem.Calls
set_option maxRecDepth 100000
namespace Mine
/-! ip6_of -/
def num16 (n : Nat) (gs : List Nat) : Nat := gs.foldl (fun n g => n * 65536 + g) n
def ip6Of (l : L) : Option Nat :=
  match split2 l with
  | [t] => (sideOf true t).bind fun gs => if gs.length = 8 then some (num16 0 gs) else none
  | [x, y] => (sideOf false x).bind fun a => (sideOf true y).bind fun b => if 7 < a.length + b.length then none else some (num16 0 (a ++ List.replicate (8 - a.length - b.length) 0 ++ b))
  | _ => none
theorem grG_lt {isEnd : Bool} {n k : Nat} {gs gs' : List Nat} {w : L} (h : ∀ g ∈ gs, g < 65536) (e : grG isEnd n gs k w = some gs') : ∀ g ∈ gs', g < 65536 := by
  unfold grG at e
  split at e
  · simp only [Option.map_eq_some_iff] at e
    obtain ⟨t, ht, rfl⟩ := e
    obtain ⟨_, hlt⟩ := ip4_inv ht
    intro g hg
    simp only [List.mem_append, List.mem_cons, List.not_mem_nil, or_false] at hg
    rcases hg with hg | rfl | rfl
    · exact h g hg
    · omega
    · omega
  · simp only [Option.map_eq_some_iff] at e
    obtain ⟨t, ht, rfl⟩ := e
    have := hexOf_lt (by decide) ht
    intro g hg
    simp only [List.mem_append, List.mem_cons, List.not_mem_nil, or_false] at hg
    rcases hg with hg | rfl
    · exact h g hg
    · exact this
theorem fold_lt {isEnd : Bool} {n : Nat} : ∀ {ws : List L} {k : Nat} {gs gs' : List Nat}, (∀ g ∈ gs, g < 65536) → foldOi (grG isEnd n) k gs ws = some gs' → ∀ g ∈ gs', g < 65536
  | [], k, gs, gs', h, e => by cases e; exact h
  | w :: r, k, gs, gs', h, e => by
    simp only [foldOi, Option.bind_eq_some_iff] at e
    obtain ⟨m, hm, e⟩ := e
    exact fold_lt (grG_lt h hm) e
theorem sideOf_lt {isEnd : Bool} {t : L} {gs : List Nat} (e : sideOf isEnd t = some gs) : ∀ g ∈ gs, g < 65536 := by
  unfold sideOf at e
  split at e
  · cases e; simp
  · exact fold_lt (by simp) e
theorem or_add {n g : Nat} (h : g < 65536) : n * 65536 ||| g = n * 65536 + g := by
  have := Nat.two_pow_add_eq_or_of_lt (i := 16) (b := g) (by omega) n
  rw [Nat.mul_comm] at this
  exact this.symm
theorem b_shlN (n k : Nat) (h : k ≤ 1000) (h' : n < 2 ^ 200) : binop .LShift (.a (.int (n : Int))) (.a (.int (k : Int))) = some (.a (.int ((n * 2 ^ k : Nat) : Int))) := by
  unfold binop
  simp only [Int.toNat_natCast]
  rw [if_pos ⟨by omega, by omega, by rw [Int.natAbs_natCast]; exact h'⟩]
  simp
theorem b_orN (n m : Nat) : binop .BitOr (.a (.int (n : Int))) (.a (.int (m : Int))) = some (.a (.int ((n ||| m : Nat) : Int))) := by
  unfold binop
  simp only [Int.toNat_natCast]
  rw [if_pos ⟨by omega, by omega⟩]
theorem x7_loop {Φ : Nat → List PV → Option PV} {a b c d : Option PV} : ∀ (gs : List Nat) (n j : Nat) (o : Option PV), n < 65536 ^ j → j + gs.length ≤ 8 → (∀ g ∈ gs, g < 65536) →
    ∃ o', forGo (fun a ρ => ex Φ lIp6Of1 (set ρ 5 (.a a))) (nL gs) [a, b, c, d, some (.a (.int (n : Int))), o] = some (.next, [a, b, c, d, some (.a (.int ((num16 n gs : Nat) : Int))), o'])
  | [], n, j, o, _, _, _ => ⟨o, rfl⟩
  | g :: gs, n, j, o, h1, h2, h3 => by
    have hg := h3 g (by simp)
    have hj : 65536 ^ j ≤ 65536 ^ 7 := Nat.pow_le_pow_right (by decide) (by simp at h2; omega)
    have hn : n < 65536 ^ 7 := Nat.lt_of_lt_of_le h1 hj
    have hshl : binop .LShift (.a (.int (n : Int))) (.a (.int 16)) = some (.a (.int ((n * 65536 : Nat) : Int))) := b_shlN n 16 (by decide) (Nat.lt_trans hn (by decide))
    have hor : binop .BitOr (.a (.int ((n * 65536 : Nat) : Int))) (.a (.int (g : Int))) = some (.a (.int ((n * 65536 + g : Nat) : Int))) := by
      rw [b_orN, or_add hg]
    have hb : ex Φ lIp6Of1 (set [a, b, c, d, some (.a (.int (n : Int))), o] 5 (.a (.int (g : Int)))) = some (.next, [a, b, c, d, some (.a (.int ((n * 65536 + g : Nat) : Int))), some (.a (.int (g : Int)))]) := by
      unfold lIp6Of1
      rw [ex_one]
      simp only [set, ex, ev, get, Option.bind_some, hshl, hor, Option.map_some]
    obtain ⟨o', ih⟩ := x7_loop (Φ := Φ) (a := a) (b := b) (c := c) (d := d) gs (n * 65536 + g) (j + 1) (some (.a (.int (g : Int)))) (by rw [Nat.pow_succ]; omega) (by simp at h2; omega) (fun x hx => h3 x (by simp [hx]))
    refine ⟨o', ?_⟩
    rw [nL_cons, forGo, hb]
    simp only [Option.bind_some]
    exact ih
theorem split2_len {l t : L} (h : t ∈ split2 l) : t.length ≤ l.length := by
  rw [← splitL_2 l (l.length + 1) (Nat.lt_succ_self _)] at h
  exact splitL_len _ _ _ _ h
theorem split2_mem : ∀ {l t : L}, t ∈ split2 l → ∀ c ∈ t, c ∈ l
  | [], t, h, c, hc => by simp [split2] at h; subst h; cases hc
  | [x], t, h, c, hc => by simp [split2] at h; subst h; exact hc
  | x :: y :: r, t, h, c, hc => by
    unfold split2 at h
    split at h
    · rcases List.mem_cons.mp h with rfl | h
      · cases hc
      · have := split2_mem h c hc
        simp [this]
    · cases hs : split2 (y :: r) with
      | nil => exact absurd hs (split2_ne _)
      | cons a b =>
        rw [hs] at h
        rcases List.mem_cons.mp h with rfl | h
        · rcases List.mem_cons.mp hc with rfl | hc
          · simp
          · have := split2_mem (l := y :: r) (t := a) (by rw [hs]; simp) c hc
            simp at this ⊢; exact .inr this
        · have := split2_mem (l := y :: r) (t := t) (by rw [hs]; simp [h]) c hc
          simp at this ⊢; exact .inr this
theorem short_half {l t : L} (h : short l = true) (ht : t ∈ split2 l) : short t = true := by
  obtain ⟨h1, h2⟩ := short_iff.mp h
  exact short_iff.mpr ⟨Nat.le_trans (split2_len ht) h1, fun c hc => h2 c (split2_mem ht c hc)⟩
theorem zeros_flat : ∀ k : Nat, (List.replicate k [At.int 0]).flatten = nL (List.replicate k 0)
  | 0 => rfl
  | k + 1 => by rw [List.replicate_succ, List.flatten_cons, zeros_flat k, List.replicate_succ, nL_cons]; rfl
theorem x7 {Φ : Nat → List PV → Option PV} (h6 : ∀ t (e : Bool), short t = true → Φ 6 [S1 t, .a (.bool e)] = some (optL (sideOf e t))) {l : L} (hs : short l = true) : run Φ 6 bIp6Of [S1 l] = some (optI (ip6Of l)) := by
  have hm := m_split2 l (short_iff.mp hs).1
  have hcall : ∀ t (e : Bool), t ∈ split2 l → Φ 6 [.a (.str t), .a (.bool e)] = some (optL (sideOf e t)) := fun t e ht => h6 t e (short_half hs ht)
  unfold ip6Of
  cases hsp : split2 l with
  | nil => exact absurd hsp (split2_ne l)
  | cons x r =>
    have hx := fun e => hcall x e (by rw [hsp]; simp)
    rw [hsp] at hm
    cases r with
    | nil =>
      cases hg : sideOf true x with
      | none =>
        have h := hx true
        rw [hg] at h
        simp [run, bIp6Of, ex, ev, evs, evb, get, set, initS, c_eq_str, c_ne_str, c_eq_int, c_ne_int, c_lt, c_le, c_gt, c_ge, c_le_one, outO, okO', b_mulR, b_mulL, c_is_none, c_is_int, c_is_list, c_in_str, b_add, b_sub, f_len, f_lenL, f_ord, m_find, t_b, sizeLine_eq, isAt_a, fresh, i_str, i_list, it_str, it_list, it_tup, S1, I1, hm, h, optL, optI, hg]
      | some gs =>
        have h := hx true
        rw [hg] at h
        by_cases h8 : gs.length = 8
        · obtain ⟨o', hgo⟩ := x7_loop (Φ := Φ) (a := some (.a (.str l))) (b := some (.list ([x].map .str))) (c := some (.list (nL gs))) (d := none) gs 0 0 none (by decide) (by omega) (sideOf_lt hg)
          have h8' : ((nL gs).length : Int) = 8 := by rw [nL_len]; omega
          simp only [List.map_cons, List.map_nil] at hgo
          rw [show (((0 : Nat) : Int)) = 0 from rfl] at hgo
          simp [run, bIp6Of, ex, ev, evs, evb, get, set, initS, c_eq_str, c_ne_str, c_eq_int, c_ne_int, c_lt, c_le, c_gt, c_ge, c_le_one, outO, okO', b_mulR, b_mulL, c_is_none, c_is_int, c_is_list, c_in_str, b_add, b_sub, f_len, f_lenL, f_ord, m_find, t_b, sizeLine_eq, isAt_a, fresh, i_str, i_list, it_str, it_list, it_tup, S1, I1, hm, h, optL, optI, h8', h8, hg, hgo]
        · have h8' : ¬ ((nL gs).length : Int) = 8 := by rw [nL_len]; omega
          simp [run, bIp6Of, ex, ev, evs, evb, get, set, initS, c_eq_str, c_ne_str, c_eq_int, c_ne_int, c_lt, c_le, c_gt, c_ge, c_le_one, outO, okO', b_mulR, b_mulL, c_is_none, c_is_int, c_is_list, c_in_str, b_add, b_sub, f_len, f_lenL, f_ord, m_find, t_b, sizeLine_eq, isAt_a, fresh, i_str, i_list, it_str, it_list, it_tup, S1, I1, hm, h, optL, optI, h8', h8, hg]
    | cons y r =>
      cases r with
      | cons z r =>
        have h3 : (2 : Int) < ((r.length : Nat) : Int) + 1 + 1 + 1 := by omega
        simp [run, bIp6Of, ex, ev, evs, evb, get, set, initS, c_eq_str, c_ne_str, c_eq_int, c_ne_int, c_lt, c_le, c_gt, c_ge, c_le_one, outO, okO', b_mulR, b_mulL, c_is_none, c_is_int, c_is_list, c_in_str, b_add, b_sub, f_len, f_lenL, f_ord, m_find, t_b, sizeLine_eq, isAt_a, fresh, i_str, i_list, it_str, it_list, it_tup, S1, I1, hm, h3, optI]
      | nil =>
        have hy := hcall y true (by rw [hsp]; simp)
        have hx0 := hx false
        cases ha : sideOf false x with
        | none =>
          rw [ha] at hx0
          simp [run, bIp6Of, ex, ev, evs, evb, get, set, initS, c_eq_str, c_ne_str, c_eq_int, c_ne_int, c_lt, c_le, c_gt, c_ge, c_le_one, outO, okO', b_mulR, b_mulL, c_is_none, c_is_int, c_is_list, c_in_str, b_add, b_sub, f_len, f_lenL, f_ord, m_find, t_b, sizeLine_eq, isAt_a, fresh, i_str, i_list, it_str, it_list, it_tup, S1, I1, hm, hx0, optL, optI, ha]
        | some a =>
          rw [ha] at hx0
          cases hb : sideOf true y with
          | none =>
            rw [hb] at hy
            simp [run, bIp6Of, ex, ev, evs, evb, get, set, initS, c_eq_str, c_ne_str, c_eq_int, c_ne_int, c_lt, c_le, c_gt, c_ge, c_le_one, outO, okO', b_mulR, b_mulL, c_is_none, c_is_int, c_is_list, c_in_str, b_add, b_sub, f_len, f_lenL, f_ord, m_find, t_b, sizeLine_eq, isAt_a, fresh, i_str, i_list, it_str, it_list, it_tup, S1, I1, hm, hx0, hy, optL, optI, ha, hb]
          | some b =>
            rw [hb] at hy
            by_cases h7 : 7 < a.length + b.length
            · have h7' : (7 : Int) < ((nL a).length : Int) + ((nL b).length : Int) := by rw [nL_len, nL_len]; omega
              simp [run, bIp6Of, ex, ev, evs, evb, get, set, initS, c_eq_str, c_ne_str, c_eq_int, c_ne_int, c_lt, c_le, c_gt, c_ge, c_le_one, outO, okO', b_mulR, b_mulL, c_is_none, c_is_int, c_is_list, c_in_str, b_add, b_sub, f_len, f_lenL, f_ord, m_find, t_b, sizeLine_eq, isAt_a, fresh, i_str, i_list, it_str, it_list, it_tup, S1, I1, hm, hx0, hy, optL, optI, ha, hb, h7, h7']
            · have h7' : ¬ (7 : Int) < ((nL a).length : Int) + ((nL b).length : Int) := by rw [nL_len, nL_len]; omega
              have hall : ∀ g ∈ a ++ List.replicate (8 - a.length - b.length) 0 ++ b, g < 65536 := by
                intro g hg
                simp only [List.mem_append, List.mem_replicate] at hg
                rcases hg with (hg | ⟨_, rfl⟩) | hg
                · exact sideOf_lt ha g hg
                · decide
                · exact sideOf_lt hb g hg
              have hlen : (a ++ List.replicate (8 - a.length - b.length) 0 ++ b).length = 8 := by simp; omega
              obtain ⟨o', hgo⟩ := x7_loop (Φ := Φ) (a := some (.a (.str l))) (b := some (.list ([x, y].map .str))) (c := some (.list (nL (a ++ List.replicate (8 - a.length - b.length) 0 ++ b)))) (d := some (.list (nL b))) _ 0 0 none (by decide) (by omega) hall
              have hmul : binop .Mult (.list [.int 0]) (.a (.int ((8 : Int) - ((nL a).length : Int) - ((nL b).length : Int)))) = some (.list (nL (List.replicate (8 - a.length - b.length) 0))) := by
                have e : ((8 : Int) - ((nL a).length : Int) - ((nL b).length : Int)).toNat = 8 - a.length - b.length := by rw [nL_len, nL_len]; omega
                unfold binop
                simp only [e, zeros_flat]
                rw [if_pos]
                refine ⟨by rw [nL_len, nL_len]; omega, by rw [nL_len, nL_len]; omega, by simp; omega⟩
              have hadd1 : binop .Add (.list (nL a)) (.list (nL (List.replicate (8 - a.length - b.length) 0))) = some (.list (nL (a ++ List.replicate (8 - a.length - b.length) 0))) := by
                rw [b_app _ _ (by rw [sizeLine_eq, nL_len, nL_len]; simp; omega), nL_app]
              have hadd2 : binop .Add (.list (nL (a ++ List.replicate (8 - a.length - b.length) 0))) (.list (nL b)) = some (.list (nL (a ++ List.replicate (8 - a.length - b.length) 0 ++ b))) := by
                rw [b_app _ _ (by rw [sizeLine_eq, nL_len, nL_len]; simp; omega), ← nL_app]
              have h8' : ((nL (a ++ List.replicate (8 - a.length - b.length) 0 ++ b)).length : Int) = 8 := by rw [nL_len, hlen]; rfl
              simp only [ha, hb, Option.bind_some, if_neg h7]
              generalize a ++ List.replicate (8 - a.length - b.length) 0 ++ b = gs at hgo hadd2 h8' ⊢
              simp only [List.map_cons, List.map_nil] at hgo
              rw [show (((0 : Nat) : Int)) = 0 from rfl] at hgo
              simp [run, bIp6Of, ex, ev, evs, evb, get, set, initS, c_eq_str, c_ne_str, c_eq_int, c_ne_int, c_lt, c_le, c_gt, c_ge, c_le_one, outO, okO', b_mulR, b_mulL, c_is_none, c_is_int, c_is_list, c_in_str, b_add, b_sub, f_len, f_lenL, f_ord, m_find, t_b, sizeLine_eq, isAt_a, fresh, i_str, i_list, it_str, it_list, it_tup, S1, I1, hm, hx0, hy, optL, optI, h7', atoms, hmul, hadd1, hadd2, h8', hgo]
end Mine
end
section
open PySem PySem.Calls
set_option maxRecDepth 100000
namespace Mine
/-! slices -/
theorem slice_take {α : Type} (l : List α) (n : Nat) : pySlice l none (some (n : Int)) = l.take n := by
  unfold pySlice clip
  dsimp only
  rw [if_neg (by omega), Int.toNat_natCast, List.drop_zero, List.take_eq_take_min]
  rw [Nat.min_assoc, Nat.min_self]
  rw [← List.take_eq_take_min]
theorem slice_drop {α : Type} (l : List α) (n : Nat) : pySlice l (some (n : Int)) none = l.drop n := by
  unfold pySlice clip
  dsimp only
  rw [if_neg (by omega), Int.toNat_natCast, List.take_length]
  by_cases h : n ≤ l.length
  · rw [Nat.min_eq_left h]
  · rw [Nat.min_eq_right (by omega), List.drop_length, List.drop_of_length_le (by omega)]
theorem slice_both {α : Type} (l : List α) (a b : Nat) (h : a ≤ b) : pySlice l (some (a : Int)) (some (b : Int)) = (l.take b).drop a := by
  unfold pySlice clip
  dsimp only
  rw [if_neg (by omega), if_neg (by omega), Int.toNat_natCast, Int.toNat_natCast]
  by_cases hb : b ≤ l.length
  · rw [Nat.min_eq_left hb, Nat.min_eq_left (by omega)]
  · rw [show min b l.length = l.length by omega, List.take_length, List.take_of_length_le (show l.length ≤ b by omega)]
    by_cases ha : a ≤ l.length
    · rw [Nat.min_eq_left ha]
    · rw [Nat.min_eq_right (by omega), List.drop_length, List.drop_of_length_le (by omega)]
/-! nought_run -/
def nrS (st : Nat × Nat × Nat) (k g : Nat) : Nat × Nat × Nat :=
  let run := if g = 0 then st.2.2 + 1 else 0
  if st.2.1 < run then (k + 1 - run, run, run) else (st.1, st.2.1, run)
def nrF : Nat → Nat × Nat × Nat → List Nat → Nat × Nat × Nat
  | _, st, [] => st
  | k, st, g :: r => nrF (k + 1) (nrS st k g) r
theorem foldOi_nr : ∀ (gs : List Nat) (k : Nat) (st : Nat × Nat × Nat), foldOi (fun st k g => some (nrS st k g)) k st gs = some (nrF k st gs)
  | [], _, _ => rfl
  | g :: r, k, st => by simp only [foldOi, Option.bind_some, nrF]; exact foldOi_nr r (k + 1) (nrS st k g)
def nr (gs : List Nat) : Nat × Nat := ((nrF 0 (0, 0, 0) gs).1, (nrF 0 (0, 0, 0) gs).2.1)
theorem x8 (Φ : Nat → List PV → Option PV) (gs : List Nat) : run Φ 6 bNoughtRun [.list (nL gs)] = some (.tup [.int ((nr gs).1 : Int), .int ((nr gs).2 : Int)]) := by
  have step : ∀ (st : Nat × Nat × Nat) ρ (k : Nat) (g : Nat), g ∈ gs → 0 ≤ k → k < 0 + gs.length →
      (∃ o1 o2, ρ = [some (.list (nL gs)), some (.a (.int (st.1 : Int))), some (.a (.int (st.2.1 : Int))), some (.a (.int (st.2.2 : Int))), o1, o2] ∧ st.2.2 ≤ k) →
      ∃ ρ', ex Φ lNoughtRun1 (set (set ρ 4 (.a (.int (k : Int)))) 5 (.a (.int (g : Int)))) = some (outO (.a .none) (some (nrS st k g)) ρ') ∧
        okO' (fun (st : Nat × Nat × Nat) ρ => ∃ o1 o2, ρ = [some (.list (nL gs)), some (.a (.int (st.1 : Int))), some (.a (.int (st.2.1 : Int))), some (.a (.int (st.2.2 : Int))), o1, o2] ∧ st.2.2 ≤ k + 1) (some (nrS st k g)) ρ' := by
    rintro ⟨b, m, r⟩ ρ k g _ _ _ ⟨o1, o2, rfl, hr⟩
    simp only at hr
    by_cases h0 : g = 0
    · subst h0
      by_cases h1 : m < r + 1
      · have h1' : (m : Int) < (r : Int) + 1 := by omega
        have h2 : (((k + 1 - (r + 1) : Nat)) : Int) = (k : Int) + 1 - ((r : Int) + 1) := by omega
        have hs : nrS (b, m, r) k 0 = (k + 1 - (r + 1), r + 1, r + 1) := by simp [nrS, h1]
        rw [hs]
        simp [lNoughtRun1, ex, ev, evs, evb, get, set, initS, c_eq_str, c_ne_str, c_eq_int, c_ne_int, c_lt, c_le, c_gt, c_ge, c_le_one, outO, okO', b_mulR, b_mulL, c_is_none, c_is_int, c_is_list, c_in_str, b_add, b_sub, f_len, f_lenL, f_ord, m_find, t_b, sizeLine_eq, isAt_a, fresh, i_str, i_list, it_str, it_list, it_tup, h1', atoms, h2]
        omega
      · have h1' : ¬ (m : Int) < (r : Int) + 1 := by omega
        have hs : nrS (b, m, r) k 0 = (b, m, r + 1) := by simp [nrS, h1]
        rw [hs]
        simp [lNoughtRun1, ex, ev, evs, evb, get, set, initS, c_eq_str, c_ne_str, c_eq_int, c_ne_int, c_lt, c_le, c_gt, c_ge, c_le_one, outO, okO', b_mulR, b_mulL, c_is_none, c_is_int, c_is_list, c_in_str, b_add, b_sub, f_len, f_lenL, f_ord, m_find, t_b, sizeLine_eq, isAt_a, fresh, i_str, i_list, it_str, it_list, it_tup, h1', atoms]
        omega
    · have hs : nrS (b, m, r) k g = (b, m, 0) := by simp [nrS, h0]
      rw [hs]
      have h1' : ¬ (m : Int) < 0 := by omega
      simp [lNoughtRun1, ex, ev, evs, evb, get, set, initS, c_eq_str, c_ne_str, c_eq_int, c_ne_int, c_lt, c_le, c_gt, c_ge, c_le_one, outO, okO', b_mulR, b_mulL, c_is_none, c_is_int, c_is_list, c_in_str, b_add, b_sub, f_len, f_lenL, f_ord, m_find, t_b, sizeLine_eq, isAt_a, fresh, i_str, i_list, it_str, it_list, it_tup, h0, h1', atoms]
  obtain ⟨ρ', hgo, hR⟩ : ∃ ρ', enumGo (fun k a ρ => ex Φ lNoughtRun1 (set (set ρ 4 (.a (.int k))) 5 (.a a))) 0 (nL gs) [some (.list (nL gs)), some (.a (.int 0)), some (.a (.int 0)), some (.a (.int 0)), none, none] = some (outO (.a .none) (foldOi (fun st k g => some (nrS st k g)) 0 (0, 0, 0) gs) ρ') ∧ _ :=
    enumGo_K (enc := fun g : Nat => .int (g : Int)) (R := fun k (st : Nat × Nat × Nat) ρ => ∃ o1 o2, ρ = [some (.list (nL gs)), some (.a (.int (st.1 : Int))), some (.a (.int (st.2.1 : Int))), some (.a (.int (st.2.2 : Int))), o1, o2] ∧ st.2.2 ≤ k) (.a .none) gs 0 (0, 0, 0) _ step ⟨none, none, rfl, by decide⟩
  rw [foldOi_nr] at hgo hR
  obtain ⟨o1, o2, rfl, _⟩ := hR
  simp [run, bNoughtRun, ex, ev, evs, evb, get, set, initS, c_eq_str, c_ne_str, c_eq_int, c_ne_int, c_lt, c_le, c_gt, c_ge, c_le_one, outO, okO', b_mulR, b_mulL, c_is_none, c_is_int, c_is_list, c_in_str, b_add, b_sub, f_len, f_lenL, f_ord, m_find, t_b, sizeLine_eq, isAt_a, fresh, i_str, i_list, it_str, it_list, it_tup, S1, I1, atoms, hgo, nr]
theorem hexT_one (g : Nat) : hexT g 1 = hexW g := by unfold hexT; rw [if_neg (by omega)]
theorem hexW_len (g : Nat) : 1 ≤ (hexW g).length ∧ (hexW g).length ≤ 4 := by
  unfold hexW
  split
  · simp
  · split
    · simp
    · split <;> simp
theorem sumLen_hex : ∀ gs : List Nat, sumLen (gs.map hexW) ≤ 4 * gs.length
  | [] => by simp [sumLen]
  | g :: r => by
    have := sumLen_hex r
    have := (hexW_len g).2
    simp [sumLen]; omega
end Mine
end
section
open PySem PySem.Calls
set_option maxRecDepth 100000
namespace Mine
/-! ip6_text -/
def gs8 (n : Nat) : List Nat := [112, 96, 80, 64, 48, 32, 16, 0].map fun k => n / 2 ^ k % 65536
def v4at (gs : List Nat) (b m : Nat) : Bool := decide (b = 0) && (decide (m = 6) || (decide (m = 5) && decide (gs.getD 5 0 = 65535)))
def words6 (gs : List Nat) (v4 : Bool) : List L := if v4 then (gs.map hexW).take 6 ++ [text4 (gs.getD 6 0 * 65536 + gs.getD 7 0)] else gs.map hexW
def txt (ws : List L) (b m : Nat) : L := joinL [58] (ws.take b) ++ [58, 58] ++ joinL [58] (ws.drop (b + m))
def text6 (gs : List Nat) : L :=
  if (nr gs).2 < 2 then joinL [58] (gs.map hexW) else txt (words6 gs (v4at gs (nr gs).1 (nr gs).2)) (nr gs).1 (nr gs).2
theorem text4_len (n : Nat) : (text4 n).length ≤ 20 := by
  have := joinL_len [46] (oct4 n)
  have h1 := dec_len (k := n / 2 ^ 24 % 256) (by omega)
  have h2 := dec_len (k := n / 2 ^ 16 % 256) (by omega)
  have h3 := dec_len (k := n / 2 ^ 8 % 256) (by omega)
  have h4 := dec_len (k := n / 2 ^ 0 % 256) (by omega)
  unfold text4
  simp only [sumLen, oct4, List.map_cons, List.map_nil, List.length_cons, List.length_nil] at this ⊢
  omega
/-- words that are few and short -/
def Few (ws : List L) : Prop := ws.length ≤ 8 ∧ ∀ w ∈ ws, w.length ≤ 20
theorem sumLen_le {k : Nat} : ∀ {ws : List L}, (∀ w ∈ ws, w.length ≤ k) → sumLen ws ≤ k * ws.length
  | [], _ => by simp [sumLen]
  | w :: r, h => by
    have h1 := h w (by simp)
    have h2 := sumLen_le (ws := r) (fun v hv => h v (by simp [hv]))
    simp only [sumLen, List.length_cons, Nat.mul_add]
    omega
theorem few_join {ws : List L} (h : Few ws) : me .join (.a (.str [58])) [.list (ws.map .str)] = some (.a (.str (joinL [58] ws))) ∧ (joinL [58] ws).length ≤ 200 := by
  have hs := sumLen_le h.2
  have h1 := h.1
  refine ⟨j_join [58] ws (by simp; omega), ?_⟩
  have := joinL_len [58] ws
  simp at this
  omega
theorem Few.take {ws : List L} (h : Few ws) (k : Nat) : Few (ws.take k) := ⟨by have := h.1; simp; omega, fun w hw => h.2 w (List.mem_of_mem_take hw)⟩
theorem Few.drop {ws : List L} (h : Few ws) (k : Nat) : Few (ws.drop k) := ⟨by have := h.1; simp; omega, fun w hw => h.2 w (List.mem_of_mem_drop hw)⟩
theorem few_words {gs : List Nat} (h : gs.length = 8) (v4 : Bool) : Few (words6 gs v4) := by
  unfold words6
  split
  · refine ⟨by simp; omega, fun w hw => ?_⟩
    rcases List.mem_append.mp hw with hw | hw
    · obtain ⟨g, _, rfl⟩ := List.mem_map.mp (List.mem_of_mem_take hw)
      have := (hexW_len g).2; omega
    · simp only [List.mem_singleton] at hw
      subst hw; exact text4_len _
  · refine ⟨by simp; omega, fun w hw => ?_⟩
    obtain ⟨g, _, rfl⟩ := List.mem_map.mp hw
    have := (hexW_len g).2; omega
theorem words_false (gs : List Nat) : words6 gs false = gs.map hexW := rfl
theorem nrS_ok {st : Nat × Nat × Nat} {k g : Nat} (h : st.1 + st.2.1 ≤ k ∧ st.2.2 ≤ k) : (nrS st k g).1 + (nrS st k g).2.1 ≤ k + 1 ∧ (nrS st k g).2.2 ≤ k + 1 := by
  unfold nrS
  by_cases h0 : g = 0
  · simp only [h0, if_true]
    split
    · dsimp only; omega
    · dsimp only; omega
  · simp only [h0, if_false]
    split
    · dsimp only; omega
    · dsimp only; omega
theorem nrF_ok : ∀ {gs : List Nat} {k : Nat} {st : Nat × Nat × Nat}, (st.1 + st.2.1 ≤ k ∧ st.2.2 ≤ k) → (nrF k st gs).1 + (nrF k st gs).2.1 ≤ k + gs.length
  | [], k, st, h => h.1
  | g :: r, k, st, h => by
    have := nrF_ok (gs := r) (nrS_ok (g := g) h)
    simp only [nrF, List.length_cons]
    omega
theorem nr_le (gs : List Nat) : (nr gs).1 + (nr gs).2 ≤ gs.length := by
  have := nrF_ok (gs := gs) (k := 0) (st := (0, 0, 0)) ⟨by decide, by decide⟩
  unfold nr
  omega
theorem gs8_lt {n g : Nat} (h : g ∈ gs8 n) : g < 65536 := by
  simp only [gs8, List.mem_map] at h
  obtain ⟨p, _, rfl⟩ := h
  omega
/-- the last step of both -/
theorem ev_txt {Φ : Nat → List PV → Option PV} {ρ : Store} {ws : List L} {b m : Nat} {iw : Nat} {eb em : E} (hf : Few ws) (hw : get ρ iw = some (.list (ws.map .str))) (hb : ev Φ eb ρ = some (.a (.int (b : Int)))) (hm : ev Φ em ρ = some (.a (.int (m : Int)))) :
    ev Φ (.bin .Add (.bin .Add (.me .join (.str [58]) (.cons (.slice (.var iw) .none eb) .nil)) (.str [58, 58])) (.me .join (.str [58]) (.cons (.slice (.var iw) (.bin .Add eb em) .none) .nil))) ρ = some (.a (.str (txt ws b m))) := by
  obtain ⟨j1, l1⟩ := few_join (hf.take b)
  obtain ⟨j2, l2⟩ := few_join (hf.drop (b + m))
  have s1 : sliceV (.list (ws.map .str)) none (some (b : Int)) = some (.list ((ws.take b).map .str)) := by
    show some (PV.list (pySlice (ws.map .str) none (some (b : Int)))) = _
    rw [slice_take, List.map_take]
  have s2 : sliceV (.list (ws.map .str)) (some ((b : Int) + (m : Int))) none = some (.list ((ws.drop (b + m)).map .str)) := by
    show some (PV.list (pySlice (ws.map .str) (some ((b : Int) + (m : Int))) none)) = _
    rw [← Int.natCast_add, slice_drop, List.map_drop]
  have c1 := b_cat (joinL [58] (ws.take b)) [58, 58] (by rw [sizeLine_eq]; simp; omega)
  have c2 := b_cat (joinL [58] (ws.take b) ++ [58, 58]) (joinL [58] (ws.drop (b + m))) (by rw [sizeLine_eq]; simp; omega)
  simp only [ev, evs, Option.bind_some, Option.map_some, hw, hb, hm, part, sizeLine_eq, b_add]
  rw [if_pos (by decide), if_pos (by decide)]
  simp only [Option.bind_some, s1, s2, j1, j2, c1, c2]
  rfl
theorem x9 {Φ : Nat → List PV → Option PV} (h8 : ∀ gs, Φ 8 [.list (nL gs)] = some (.tup [.int ((nr gs).1 : Int), .int ((nr gs).2 : Int)])) (h3 : ∀ g, g < 65536 → Φ 3 [I1 g] = some (S1 (hexW g))) (h5 : ∀ n : Nat, Φ 5 [I1 n] = some (S1 (text4 n)))
    (n : Nat) : run Φ 7 bIp6Text [I1 n] = some (S1 (text6 (gs8 n))) := by
  have hc2 : ev Φ cIp6Text2 [some (.a (.int (n : Int))), none, none, none, none, none, none] = some (.list (nL (gs8 n))) := by
    unfold gs8 nL
    rw [List.map_map]
    refine ev_comp_map (vs := [.tup [.int 112, .int 96, .int 80, .int 64, .int 48, .int 32, .int 16, .int 0]]) (fun k : Nat => .int (k : Int)) _ [112, 96, 80, 64, 48, 32, 16, 0] ?_ rfl fun k _ => ?_
    · simp [ex, ev, evs, evb, get, set, initS, c_eq_str, c_ne_str, c_eq_int, c_ne_int, c_lt, c_le, c_gt, c_ge, c_le_one, outO, okO', b_mulR, b_mulL, c_is_none, c_is_int, c_is_list, c_in_str, b_add, b_sub, f_len, f_lenL, f_ord, m_find, t_b, sizeLine_eq, isAt_a, fresh, i_str, i_list, it_str, it_list, it_tup, atoms]
    · have h2 : binop .BitAnd (.a (.int ((n / 2 ^ k : Nat) : Int))) (.a (.int 65535)) = some (.a (.int ((n / 2 ^ k % 65536 : Nat) : Int))) := b_and (n / 2 ^ k) 65535 16 rfl
      simp only [ev, evs, get, set, Option.bind_some, Option.map_some, b_shr n k, h2, Function.comp]
  have hlt := fun g hg => gs8_lt (n := n) (g := g) hg
  have hg5 : (gs8 n).getD 5 0 = n / 2 ^ 32 % 65536 := rfl
  have hg67 : (gs8 n).getD 6 0 * 65536 + (gs8 n).getD 7 0 = n % 2 ^ 32 := by
    show n / 2 ^ 16 % 65536 * 65536 + n / 2 ^ 0 % 65536 = _
    omega
  have hlen : (gs8 n).length = 8 := rfl
  have h8' := h8 (gs8 n)
  have hnr := nr_le (gs8 n)
  unfold text6
  generalize hgs : gs8 n = gs at *
  generalize (nr gs).1 = b at *
  generalize (nr gs).2 = m at *
  have hc1 : ev Φ cIp6Text1 [some (.a (.int (n : Int))), some (.list (nL gs)), some (.a (.int (b : Int))), some (.a (.int (m : Int))), none, none, none] = some (.list ((gs.map hexW).map .str)) := by
    rw [List.map_map]
    refine ev_comp_map (vs := [.list (nL gs)]) (fun k : Nat => .int (k : Int)) _ gs ?_ rfl fun g hg => ?_
    · simp only [evs, ev, get, Option.bind_some, Option.map_some]
    · have := h3 g (hlt g hg)
      simp only [evs, ev, get, set, Option.bind_some, Option.map_some, Function.comp]
      exact this
  have hf := few_words hlen false
  rw [words_false] at hf
  obtain ⟨hj, _⟩ := few_join hf
  by_cases hm2 : m < 2
  · have hm2' : (m : Int) < 2 := by omega
    simp [run, bIp6Text, ex, ev, evs, evb, get, set, initS, c_eq_str, c_ne_str, c_eq_int, c_ne_int, c_lt, c_le, c_gt, c_ge, c_le_one, outO, okO', b_mulR, b_mulL, c_is_none, c_is_int, c_is_list, c_in_str, b_add, b_sub, f_len, f_lenL, f_ord, m_find, t_b, sizeLine_eq, isAt_a, fresh, i_str, i_list, it_str, it_list, it_tup, S1, I1, hc2, h8', hc1, hm2, hm2', hj, -List.map_map]
  · have hm2' : ¬ (m : Int) < 2 := by omega
    have hend : ∀ ws : List L, Few ws → ev Φ (.bin .Add (.bin .Add (.me .join (.str [58]) (.cons (.slice (.var 4) .none (.var 2)) .nil)) (.str [58, 58])) (.me .join (.str [58]) (.cons (.slice (.var 4) (.bin .Add (.var 2) (.var 3)) .none) .nil)))
        [some (.a (.int (n : Int))), some (.list (nL gs)), some (.a (.int (b : Int))), some (.a (.int (m : Int))), some (.list (ws.map .str)), none, none] = some (.a (.str (txt ws b m))) := fun ws hfw => ev_txt hfw rfl rfl rfl
    rw [if_neg hm2]
    have hi5 : index (.list (nL gs)) (.a (.int 5)) = some (.a (.int ((gs.getD 5 0 : Nat) : Int))) := nL_get gs 5 (by omega)
    have htest : ev Φ (.boolE true (.cons (.cmp .Eq (.var 2) (.int 0)) (.cons (.boolE false (.cons (.cmp .Eq (.var 3) (.int 6)) (.cons (.boolE true (.cons (.cmp .Eq (.var 3) (.int 5)) (.cons (.cmp .Eq (.idx (.var 1) (.int 5)) (.int 65535)) .nil))) .nil))) .nil)))
        [some (.a (.int (n : Int))), some (.list (nL gs)), some (.a (.int (b : Int))), some (.a (.int (m : Int))), some (.list ((gs.map hexW).map .str)), none, none] = some (.a (.bool (v4at gs b m))) := by
      unfold v4at
      by_cases hb0 : b = 0
      · have hb0' : (b : Int) = 0 := by omega
        by_cases hm6 : m = 6
        · have hm6' : (m : Int) = 6 := by omega
          simp [ex, ev, evs, evb, get, set, initS, c_eq_str, c_ne_str, c_eq_int, c_ne_int, c_lt, c_le, c_gt, c_ge, c_le_one, outO, okO', b_mulR, b_mulL, c_is_none, c_is_int, c_is_list, c_in_str, b_add, b_sub, f_len, f_lenL, f_ord, m_find, t_b, sizeLine_eq, isAt_a, fresh, i_str, i_list, it_str, it_list, it_tup, hb0', hm6', hb0, hm6]
        · have hm6' : ¬ (m : Int) = 6 := by omega
          by_cases hm5 : m = 5
          · have hm5' : (m : Int) = 5 := by omega
            by_cases h5' : gs.getD 5 0 = 65535
            · have h5'' : ((gs.getD 5 0 : Nat) : Int) = 65535 := by omega
              rw [h5''] at hi5
              simp only [ev, evb, get, Option.bind_some, Option.map_some, c_eq_int, t_b, hi5, hb0', hm5', hb0, hm5, h5']
              rfl
            · have h5'' : ¬ ((gs.getD 5 0 : Nat) : Int) = 65535 := by omega
              have d5 : decide (((gs.getD 5 0 : Nat) : Int) = 65535) = false := decide_eq_false h5''
              have d5' : decide (gs.getD 5 0 = 65535) = false := decide_eq_false h5'
              simp only [ev, evb, get, Option.bind_some, Option.map_some, c_eq_int, t_b, hi5, hb0', hm5', hb0, hm5, d5, d5']
              rfl
          · have hm5' : ¬ (m : Int) = 5 := by omega
            simp [ex, ev, evs, evb, get, set, initS, c_eq_str, c_ne_str, c_eq_int, c_ne_int, c_lt, c_le, c_gt, c_ge, c_le_one, outO, okO', b_mulR, b_mulL, c_is_none, c_is_int, c_is_list, c_in_str, b_add, b_sub, f_len, f_lenL, f_ord, m_find, t_b, sizeLine_eq, isAt_a, fresh, i_str, i_list, it_str, it_list, it_tup, hb0', hm6', hb0, hm6, hm5, hm5']
      · have hb0' : ¬ (b : Int) = 0 := by omega
        simp [ex, ev, evs, evb, get, set, initS, c_eq_str, c_ne_str, c_eq_int, c_ne_int, c_lt, c_le, c_gt, c_ge, c_le_one, outO, okO', b_mulR, b_mulL, c_is_none, c_is_int, c_is_list, c_in_str, b_add, b_sub, f_len, f_lenL, f_ord, m_find, t_b, sizeLine_eq, isAt_a, fresh, i_str, i_list, it_str, it_list, it_tup, hb0', hb0]
    have s0 : ex Φ (.assign 1 cIp6Text2) (initS 7 [I1 n]) = some (.next, [some (.a (.int (n : Int))), some (.list (nL gs)), none, none, none, none, none]) := by
      show (ev Φ cIp6Text2 [some (.a (.int (n : Int))), none, none, none, none, none, none]).map _ = _
      rw [hc2]; rfl
    have s1 : ex Φ (.assign2 2 3 (.call 8 (.cons (.var 1) .nil))) [some (.a (.int (n : Int))), some (.list (nL gs)), none, none, none, none, none] = some (.next, [some (.a (.int (n : Int))), some (.list (nL gs)), some (.a (.int (b : Int))), some (.a (.int (m : Int))), none, none, none]) := by
      simp only [ex, ev, evs, get, Option.bind_some, Option.map_some, h8', set]
    have s2 : ex Φ (.assign 4 cIp6Text1) [some (.a (.int (n : Int))), some (.list (nL gs)), some (.a (.int (b : Int))), some (.a (.int (m : Int))), none, none, none] = some (.next, [some (.a (.int (n : Int))), some (.list (nL gs)), some (.a (.int (b : Int))), some (.a (.int (m : Int))), some (.list ((gs.map hexW).map .str)), none, none]) := by
      rw [ex, hc1]; rfl
    have s3 : ev Φ (.cmp .Lt (.var 3) (.int 2)) [some (.a (.int (n : Int))), some (.list (nL gs)), some (.a (.int (b : Int))), some (.a (.int (m : Int))), some (.list ((gs.map hexW).map .str)), none, none] = some (.a (.bool false)) := by
      simp [ex, ev, evs, evb, get, set, initS, c_eq_str, c_ne_str, c_eq_int, c_ne_int, c_lt, c_le, c_gt, c_ge, c_le_one, outO, okO', b_mulR, b_mulL, c_is_none, c_is_int, c_is_list, c_in_str, b_add, b_sub, f_len, f_lenL, f_ord, m_find, t_b, sizeLine_eq, isAt_a, fresh, i_str, i_list, it_str, it_list, it_tup, hm2']
    have hfin : ∀ ws : List L, Few ws → ex Φ (.ret (.bin .Add (.bin .Add (.me .join (.str [58]) (.cons (.slice (.var 4) .none (.var 2)) .nil)) (.str [58, 58])) (.me .join (.str [58]) (.cons (.slice (.var 4) (.bin .Add (.var 2) (.var 3)) .none) .nil))))
        [some (.a (.int (n : Int))), some (.list (nL gs)), some (.a (.int (b : Int))), some (.a (.int (m : Int))), some (.list (ws.map .str)), none, none] = some (.ret (S1 (txt ws b m)), [some (.a (.int (n : Int))), some (.list (nL gs)), some (.a (.int (b : Int))), some (.a (.int (m : Int))), some (.list (ws.map .str)), none, none]) := fun ws hfw => by
      rw [ex, hend ws hfw]; rfl
    have hwf := few_words hlen (v4at gs b m)
    have key : ex Φ bIp6Text (initS 7 [I1 n]) = some (.ret (S1 (txt (words6 gs (v4at gs b m)) b m)), [some (.a (.int (n : Int))), some (.list (nL gs)), some (.a (.int (b : Int))), some (.a (.int (m : Int))), some (.list ((words6 gs (v4at gs b m)).map .str)), none, none]) := by
      unfold bIp6Text
      rw [ex_next s0, ex_next s1, ex_next s2, ex_next (by rw [ex_ite s3, if_neg (by decide), ex])]
      cases hv : v4at gs b m with
      | false =>
        rw [hv] at htest hwf
        rw [ex_next (by rw [ex_ite htest, if_neg (by decide), ex])]
        rw [words_false] at hwf ⊢
        exact ex_ret (hfin _ hwf)
      | true =>
        rw [hv] at htest hwf
        have hand : binop .BitAnd (.a (.int (n : Int))) (.a (.int 4294967295)) = some (.a (.int ((n % 2 ^ 32 : Nat) : Int))) := b_and n 4294967295 32 rfl
        have hcall := h5 (n % 2 ^ 32)
        simp only [I1, S1] at hcall
        have hw : words6 gs true = (gs.map hexW).take 6 ++ [text4 (n % 2 ^ 32)] := by unfold words6; rw [if_pos rfl, hg67]
        have hsl : sliceV (.list ((gs.map hexW).map .str)) none (some 6) = some (.list (((gs.map hexW).take 6).map .str)) := by
          show some (PV.list (pySlice ((gs.map hexW).map .str) none (some ((6 : Nat) : Int)))) = _
          rw [slice_take, List.map_take]
        have hadd : binop .Add (.list (((gs.map hexW).take 6).map .str)) (.list [.str (text4 (n % 2 ^ 32))]) = some (.list ((words6 gs true).map .str)) := by
          rw [b_app _ _ (by rw [sizeLine_eq]; simp; omega), hw, List.map_append]; rfl
        have hset : ex Φ (.assign 4 (.bin .Add (.slice (.var 4) .none (.int 6)) (.list (.cons (.call 5 (.cons (.bin .BitAnd (.var 0) (.int 4294967295)) .nil)) .nil))))
            [some (.a (.int (n : Int))), some (.list (nL gs)), some (.a (.int (b : Int))), some (.a (.int (m : Int))), some (.list ((gs.map hexW).map .str)), none, none] =
            some (.next, [some (.a (.int (n : Int))), some (.list (nL gs)), some (.a (.int (b : Int))), some (.a (.int (m : Int))), some (.list ((words6 gs true).map .str)), none, none]) := by
          simp only [ex, ev, evs, get, Option.bind_some, Option.map_some, part, hsl, hand, hcall, atoms, List.length_cons, List.length_nil, sizeLine_eq]
          rw [if_pos (by decide)]
          simp only [Option.map_some, Option.bind_some, hadd, set]
        rw [ex_next (by rw [ex_ite htest, if_pos rfl, ex_one, hset])]
        exact ex_ret (hfin _ hwf)
    unfold run
    rw [key]; rfl
end Mine
end
section
open PySem PySem.Calls
set_option maxRecDepth 100000
namespace Mine
/-! the search for noughts, on patterns -/
def nrSB (st : Nat × Nat × Nat) (k : Nat) (z : Bool) : Nat × Nat × Nat :=
  let run := if z then st.2.2 + 1 else 0
  if st.2.1 < run then (k + 1 - run, run, run) else (st.1, st.2.1, run)
def nrFB : Nat → Nat × Nat × Nat → List Bool → Nat × Nat × Nat
  | _, st, [] => st
  | k, st, g :: r => nrFB (k + 1) (nrSB st k g) r
def zs (gs : List Nat) : List Bool := gs.map fun g => decide (g = 0)
theorem nrS_B (st : Nat × Nat × Nat) (k g : Nat) : nrS st k g = nrSB st k (decide (g = 0)) := by
  unfold nrS nrSB
  by_cases h : g = 0 <;> simp [h]
theorem nrF_B : ∀ (gs : List Nat) (k : Nat) (st : Nat × Nat × Nat), nrF k st gs = nrFB k st (zs gs)
  | [], _, _ => rfl
  | g :: r, k, st => by
    show nrF (k + 1) (nrS st k g) r = nrFB (k + 1) (nrSB st k (decide (g = 0))) (zs r)
    rw [nrS_B, nrF_B r]
def pz (gs : List Nat) (m b : Nat) : Bool := decide ((gs.take (b + m)).drop b = List.replicate m 0)
def pB (z : List Bool) (m b : Nat) : Bool := decide ((z.take (b + m)).drop b = List.replicate m true)
theorem pz_B (gs : List Nat) (m b : Nat) : pz gs m b = pB (zs gs) m b := by
  unfold pz pB zs
  rw [← List.map_take, ← List.map_drop]
  congr 1
  refine propext ⟨fun h => by rw [h]; simp, fun h => ?_⟩
  rw [List.eq_replicate_iff] at h ⊢
  refine ⟨by simpa using h.1, fun g hg => ?_⟩
  have := h.2 (decide (g = 0)) (List.mem_map.mpr ⟨g, hg, rfl⟩)
  simpa using this
def searchBy (p : Nat → Nat → Bool) : List Nat → Option (Nat × Nat)
  | [] => none
  | m :: r => match (List.range (9 - m)).find? (p m) with
    | some b => some (b, m)
    | none => searchBy p r
theorem search_B : ∀ a b c d e f g h : Bool, searchBy (pB [a, b, c, d, e, f, g, h]) [8, 7, 6, 5, 4, 3, 2] =
    (if (nrFB 0 (0, 0, 0) [a, b, c, d, e, f, g, h]).2.1 < 2 then none else some ((nrFB 0 (0, 0, 0) [a, b, c, d, e, f, g, h]).1, (nrFB 0 (0, 0, 0) [a, b, c, d, e, f, g, h]).2.1)) := by decide +kernel
def v4B (b m : Nat) (q : Bool) : Bool := decide (b = 0) && (decide (m = 6) || (decide (m = 5) && q))
theorem cond_B : ∀ a b c d e f g h q : Bool, (q = true → f = false) → ((a && b && c && d && e && q) || (a && b && c && d && e && f && !g)) =
    (!decide ((nrFB 0 (0, 0, 0) [a, b, c, d, e, f, g, h]).2.1 < 2) && v4B (nrFB 0 (0, 0, 0) [a, b, c, d, e, f, g, h]).1 (nrFB 0 (0, 0, 0) [a, b, c, d, e, f, g, h]).2.1 q) := by decide +kernel
def condL (gs : List Nat) : Bool := decide (gs.take 6 = [0, 0, 0, 0, 0, 65535]) || (decide (gs.take 6 = List.replicate 6 0) && !decide (gs.getD 6 0 = 0))
def lawT6 (gs : List Nat) : L := match searchBy (pz gs) [8, 7, 6, 5, 4, 3, 2] with
  | some (b, m) => txt (words6 gs (condL gs)) b m
  | none => joinL [58] (words6 gs (condL gs))
theorem lawT6_eq {gs : List Nat} (h : gs.length = 8) : lawT6 gs = text6 gs := by
  match gs, h with
  | [a, b, c, d, e, f, g, i], _ =>
    have hp : pz [a, b, c, d, e, f, g, i] = pB (zs [a, b, c, d, e, f, g, i]) := by funext m k; exact pz_B _ _ _
    have hz : zs [a, b, c, d, e, f, g, i] = [decide (a = 0), decide (b = 0), decide (c = 0), decide (d = 0), decide (e = 0), decide (f = 0), decide (g = 0), decide (i = 0)] := rfl
    have hs := search_B (decide (a = 0)) (decide (b = 0)) (decide (c = 0)) (decide (d = 0)) (decide (e = 0)) (decide (f = 0)) (decide (g = 0)) (decide (i = 0))
    have hc := cond_B (decide (a = 0)) (decide (b = 0)) (decide (c = 0)) (decide (d = 0)) (decide (e = 0)) (decide (f = 0)) (decide (g = 0)) (decide (i = 0)) (decide (f = 65535)) (by
      intro q; have : f = 65535 := by simpa using q
      subst this; rfl)
    have hcond : condL [a, b, c, d, e, f, g, i] = ((decide (a = 0) && decide (b = 0) && decide (c = 0) && decide (d = 0) && decide (e = 0) && decide (f = 65535)) ||
        (decide (a = 0) && decide (b = 0) && decide (c = 0) && decide (d = 0) && decide (e = 0) && decide (f = 0) && !decide (g = 0))) := by
      unfold condL
      simp [List.replicate, Bool.and_assoc]
    rw [← hz, ← nrF_B] at hs hc
    rw [← hp] at hs
    unfold lawT6 text6
    rw [hs]
    have hv : v4at [a, b, c, d, e, f, g, i] (nr [a, b, c, d, e, f, g, i]).1 (nr [a, b, c, d, e, f, g, i]).2 = v4B (nr [a, b, c, d, e, f, g, i]).1 (nr [a, b, c, d, e, f, g, i]).2 (decide (f = 65535)) := rfl
    rw [hcond, hc, hv]
    unfold nr
    dsimp only
    by_cases hm : (nrF 0 (0, 0, 0) [a, b, c, d, e, f, g, i]).2.1 < 2
    · rw [if_pos hm, if_pos hm]
      simp [hm, words6]
    · rw [if_neg hm, if_neg hm]
      simp [hm]
end Mine
end
section
open PySem PySem.Calls
set_option maxRecDepth 100000
namespace Mine
/-! _law_text6 -/
theorem foldR_find {α : Type} {p : α → Bool} {v : α → PV} : ∀ l : List α, foldR (fun (_ : Unit) a => some (if p a then .inr (v a) else .inl ())) () l = some (match l.find? p with | some a => .inr (v a) | none => .inl ())
  | [] => rfl
  | a :: r => by
    simp only [foldR, Option.bind_some, List.find?_cons]
    cases h : p a with
    | true => rfl
    | false => exact foldR_find r
theorem nL_take (gs : List Nat) (k : Nat) : (nL gs).take k = nL (gs.take k) := by simp [nL, List.map_take]
theorem nL_drop (gs : List Nat) (k : Nat) : (nL gs).drop k = nL (gs.drop k) := by simp [nL, List.map_drop]
theorem nL_inj {a b : List Nat} : nL a = nL b ↔ a = b := by
  unfold nL
  refine ⟨fun h => ?_, fun h => by rw [h]⟩
  have : ∀ {a b : List Nat}, a.map (fun k : Nat => At.int (k : Int)) = b.map (fun k : Nat => At.int (k : Int)) → a = b := by
    intro a
    induction a with
    | nil => intro b h; cases b with
      | nil => rfl
      | cons _ _ => simp at h
    | cons x r ih => intro b h; cases b with
      | nil => simp at h
      | cons y t =>
        simp at h
        obtain ⟨h1, h2⟩ := h
        have h1 : x = y := by omega
        rw [h1, ih (by simpa using h2)]
  exact this h
theorem c_eq_nL (a b : List Nat) : cmpop .Eq (.list (nL a)) (.list (nL b)) = some (decide (a = b)) := by
  have pl : ∀ a : List Nat, (PV.list (nL a)).plain = true := fun a => by
    show (nL a).all At.plain = true
    rw [List.all_eq_true]
    intro x hx
    obtain ⟨k, _, rfl⟩ := List.mem_map.mp hx
    rfl
  show (if (PV.list (nL a)).plain && (PV.list (nL b)).plain then some (decide (PV.list (nL a) = PV.list (nL b))) else none) = _
  rw [pl, pl]
  simp [nL_inj]
theorem t6_test {Φ : Nat → List PV → Option PV} {gs : List Nat} (hlen : gs.length = 8) : ev Φ (.boolE false (.cons (.cmp .Eq (.slice (.var 0) .none (.int 6)) (.list (.cons (.int 0) (.cons (.int 0) (.cons (.int 0) (.cons (.int 0) (.cons (.int 0) (.cons (.int 65535) .nil)))))))) (.cons (.boolE true (.cons (.cmp .Eq (.slice (.var 0) .none (.int 6)) (.bin .Mult (.list (.cons (.int 0) .nil)) (.int 6))) (.cons (.cmp .NotEq (.idx (.var 0) (.int 6)) (.int 0)) .nil))) .nil)))
      [some (.list (nL gs)), some (.list ((gs.map hexW).map .str)), none, none, none] = some (.a (.bool (condL gs))) := by
  have hsl6 : sliceV (.list (nL gs)) none (some 6) = some (.list (nL (gs.take 6))) := by
    show some (PV.list (pySlice (nL gs) none (some ((6 : Nat) : Int)))) = _
    rw [slice_take, nL_take]
  have h06 : binop .Mult (.list [.int 0]) (.a (.int 6)) = some (.list (nL (List.replicate 6 0))) := rfl
  have hi6 : index (.list (nL gs)) (.a (.int 6)) = some (.a (.int ((gs.getD 6 0 : Nat) : Int))) := nL_get gs 6 (by omega)
  have hi7 : index (.list (nL gs)) (.a (.int 7)) = some (.a (.int ((gs.getD 7 0 : Nat) : Int))) := nL_get gs 7 (by omega)
  have e1 : (PV.list [.int 0, .int 0, .int 0, .int 0, .int 0, .int 65535]) = .list (nL [0, 0, 0, 0, 0, 65535]) := rfl
  have d6 : decide (((gs.getD 6 0 : Nat) : Int) = 0) = decide (gs.getD 6 0 = 0) := by
    by_cases h : gs.getD 6 0 = 0
    · have : ((gs.getD 6 0 : Nat) : Int) = 0 := by omega
      rw [decide_eq_true h, decide_eq_true this]
    · have : ¬ ((gs.getD 6 0 : Nat) : Int) = 0 := by omega
      rw [decide_eq_false h, decide_eq_false this]
  unfold condL
  simp only [ev, evs, evb, get, Option.bind_some, Option.map_some, part, hsl6, atoms, List.length_cons, List.length_nil, sizeLine_eq]
  rw [if_pos (by decide), if_pos (by decide)]
  simp only [Option.bind_some, Option.map_some, e1, c_eq_nL, t_b, h06, hi6, c_ne_int, d6]
  cases decide (gs.take 6 = [0, 0, 0, 0, 0, 65535]) <;> cases decide (gs.take 6 = List.replicate 6 0) <;> cases decide (gs.getD 6 0 = 0) <;> rfl
theorem t6_words {Φ : Nat → List PV → Option PV} (h16 : ∀ n : Nat, Φ 16 [I1 n] = some (S1 (text4 n))) {gs : List Nat} (hlen : gs.length = 8) : ex Φ (.ite (.boolE false (.cons (.cmp .Eq (.slice (.var 0) .none (.int 6)) (.list (.cons (.int 0) (.cons (.int 0) (.cons (.int 0) (.cons (.int 0) (.cons (.int 0) (.cons (.int 65535) .nil)))))))) (.cons (.boolE true (.cons (.cmp .Eq (.slice (.var 0) .none (.int 6)) (.bin .Mult (.list (.cons (.int 0) .nil)) (.int 6))) (.cons (.cmp .NotEq (.idx (.var 0) (.int 6)) (.int 0)) .nil))) .nil)))
      (.seq (.assign 1 (.bin .Add (.slice (.var 1) .none (.int 6)) (.list (.cons (.call 16 (.cons (.bin .Add (.bin .Mult (.idx (.var 0) (.int 6)) (.int 65536)) (.idx (.var 0) (.int 7))) .nil)) .nil)))) .nil) .nil)
      [some (.list (nL gs)), some (.list ((gs.map hexW).map .str)), none, none, none] = some (.next, [some (.list (nL gs)), some (.list ((words6 gs (condL gs)).map .str)), none, none, none]) := by
  have hsl6 : sliceV (.list (nL gs)) none (some 6) = some (.list (nL (gs.take 6))) := by
    show some (PV.list (pySlice (nL gs) none (some ((6 : Nat) : Int)))) = _
    rw [slice_take, nL_take]
  have h06 : binop .Mult (.list [.int 0]) (.a (.int 6)) = some (.list (nL (List.replicate 6 0))) := rfl
  have hi6 : index (.list (nL gs)) (.a (.int 6)) = some (.a (.int ((gs.getD 6 0 : Nat) : Int))) := nL_get gs 6 (by omega)
  have hi7 : index (.list (nL gs)) (.a (.int 7)) = some (.a (.int ((gs.getD 7 0 : Nat) : Int))) := nL_get gs 7 (by omega)
  have htest := t6_test (Φ := Φ) hlen
  rw [ex_ite htest]
  cases condL gs with
  | false => rw [if_neg (by decide), ex, words_false]
  | true =>
    rw [if_pos rfl, ex_one]
    have hcall := h16 (gs.getD 6 0 * 65536 + gs.getD 7 0)
    simp only [I1, S1] at hcall
    have hmul : binop .Mult (.a (.int ((gs.getD 6 0 : Nat) : Int))) (.a (.int 65536)) = some (.a (.int ((gs.getD 6 0 * 65536 : Nat) : Int))) := by
      rw [b_mulR _ _ (by decide)]; simp
    have hadd0 : binop .Add (.a (.int ((gs.getD 6 0 * 65536 : Nat) : Int))) (.a (.int ((gs.getD 7 0 : Nat) : Int))) = some (.a (.int ((gs.getD 6 0 * 65536 + gs.getD 7 0 : Nat) : Int))) := by
      rw [b_add]; rfl
    have hsl : sliceV (.list ((gs.map hexW).map .str)) none (some 6) = some (.list (((gs.map hexW).take 6).map .str)) := by
      show some (PV.list (pySlice ((gs.map hexW).map .str) none (some ((6 : Nat) : Int)))) = _
      rw [slice_take, List.map_take]
    have hw : words6 gs true = (gs.map hexW).take 6 ++ [text4 (gs.getD 6 0 * 65536 + gs.getD 7 0)] := by unfold words6; rw [if_pos rfl]
    have hadd : binop .Add (.list (((gs.map hexW).take 6).map .str)) (.list [.str (text4 (gs.getD 6 0 * 65536 + gs.getD 7 0))]) = some (.list ((words6 gs true).map .str)) := by
      rw [b_app _ _ (by rw [sizeLine_eq]; simp; omega), hw, List.map_append]; rfl
    simp only [ex, ev, evs, get, Option.bind_some, Option.map_some, part, hsl, hi6, hi7, hmul, hadd0, hcall, atoms, List.length_cons, List.length_nil, sizeLine_eq]
    rw [if_pos (by decide)]
    simp only [Option.map_some, Option.bind_some, hadd, set]
theorem q_hs (gs : List Nat) (b m : Nat) : sliceV (.list (nL gs)) (some (b : Int)) (some ((b : Int) + (m : Int))) = some (.list (nL ((gs.take (b + m)).drop b))) := by
  show some (PV.list (pySlice (nL gs) (some (b : Int)) (some ((b : Int) + (m : Int))))) = _
  rw [← Int.natCast_add, slice_both _ _ _ (by omega), nL_take, nL_drop]
theorem q_hz (m : Nat) (hm8 : m ≤ 8) : binop .Mult (.list [.int 0]) (.a (.int (m : Int))) = some (.list (nL (List.replicate m 0))) := by
  unfold binop
  simp only [Int.toNat_natCast, zeros_flat]
  have h3 : ([At.int 0] : List At).length * m ≤ 2 ^ 24 := by rw [List.length_singleton, Nat.one_mul]; exact Nat.le_trans hm8 (by decide)
  have h1 : -(2 : Int) ^ 63 ≤ (m : Int) := by omega
  have h2 : (m : Int) < 2 ^ 63 := by omega
  rw [if_pos ⟨h1, h2, h3⟩]
theorem q_a {Φ : Nat → List PV → Option PV} {gs : List Nat} {ws : List L} {m b : Nat} : ev Φ (.slice (.var 0) (.var 3) (.bin .Add (.var 3) (.var 2))) [some (.list (nL gs)), some (.list (ws.map .str)), some (.a (.int (m : Int))), some (.a (.int (b : Int))), none] = some (.list (nL ((gs.take (b + m)).drop b))) := by
  simp only [ev, evs, get, Option.bind_some, Option.map_some, part, b_add, q_hs]
theorem q_0 {Φ : Nat → List PV → Option PV} {ρ : Store} : ev Φ (.list (.cons (.int 0) .nil)) ρ = some (.list [.int 0]) := by
  simp only [ev, evs, Option.bind_some, Option.map_some, atoms, List.length_cons, List.length_nil, sizeLine_eq]
  rw [if_pos (by decide)]
theorem q_b {Φ : Nat → List PV → Option PV} {gs : List Nat} {ws : List L} {m b : Nat} (hm8 : m ≤ 8) : ev Φ (.bin .Mult (.list (.cons (.int 0) .nil)) (.var 2)) [some (.list (nL gs)), some (.list (ws.map .str)), some (.a (.int (m : Int))), some (.a (.int (b : Int))), none] = some (.list (nL (List.replicate m 0))) := by
  rw [ev, q_0]
  rw [Option.bind_some, ev]
  have h := q_hz m hm8
  show (some (.a (.int (m : Int))) : Option PV).bind (fun b => binop .Mult (.list [.int 0]) b) = _
  rw [Option.bind_some, h]
theorem q_ht {Φ : Nat → List PV → Option PV} {gs : List Nat} {ws : List L} {m b : Nat} (hm8 : m ≤ 8) : ev Φ (.cmp .Eq (.slice (.var 0) (.var 3) (.bin .Add (.var 3) (.var 2))) (.bin .Mult (.list (.cons (.int 0) .nil)) (.var 2))) [some (.list (nL gs)), some (.list (ws.map .str)), some (.a (.int (m : Int))), some (.a (.int (b : Int))), none] = some (.a (.bool (pz gs m b))) := by
  rw [ev, q_a, q_b hm8, Option.bind_some, Option.bind_some, c_eq_nL]
  rfl
theorem t6_inner {Φ : Nat → List PV → Option PV} {gs : List Nat} {ws : List L} (hwf : Few ws) : ∀ (m : Nat) (o : Option PV), 2 ≤ m → m ≤ 8 → ∃ ρ', ex Φ lLawText62 [some (.list (nL gs)), some (.list (ws.map .str)), some (.a (.int (m : Int))), o, none] =
      some (match (List.range (9 - m)).find? (pz gs m) with | some b => (.ret (S1 (txt ws b m)), ρ') | none => (.next, ρ')) ∧ ((List.range (9 - m)).find? (pz gs m) = none → ∃ o', ρ' = [some (.list (nL gs)), some (.list (ws.map .str)), some (.a (.int (m : Int))), o', none]) := by
  intro m o hm2 hm8
  have step : ∀ (s : Unit) ρ (b : Nat) x, (∃ o, ρ = [some (.list (nL gs)), some (.list (ws.map .str)), some (.a (.int (m : Int))), o, none]) → (fun (_ : Unit) b => some (if pz gs m b then (.inr (S1 (txt ws b m)) : Unit ⊕ PV) else .inl ())) s b = some x →
      ∃ ρ', ex Φ lLawText61 (set ρ 3 (.a (.int (b : Int)))) = some (outR x ρ') ∧ okR (fun (_ : Unit) ρ => ∃ o, ρ = [some (.list (nL gs)), some (.list (ws.map .str)), some (.a (.int (m : Int))), o, none]) x ρ' := by
    rintro _ ρ b x ⟨o, rfl⟩ e
    cases e
    have e0 : set [some (.list (nL gs)), some (.list (ws.map .str)), some (.a (.int (m : Int))), o, none] 3 (.a (.int (b : Int))) = [some (.list (nL gs)), some (.list (ws.map .str)), some (.a (.int (m : Int))), some (.a (.int (b : Int))), none] := rfl
    rw [e0]
    have ht := q_ht (Φ := Φ) (gs := gs) (ws := ws) (b := b) hm8
    unfold lLawText61
    rw [ex_one, ex_ite ht]
    cases pz gs m b with
    | false => exact ⟨_, by rw [if_neg (by decide), ex]; rfl, some (.a (.int (b : Int))), rfl⟩
    | true =>
      refine ⟨[some (.list (nL gs)), some (.list (ws.map .str)), some (.a (.int (m : Int))), some (.a (.int (b : Int))), none], ?_, trivial⟩
      rw [if_pos rfl, ex_one, ex, ev_txt (b := b) (m := m) hwf rfl rfl rfl]
      rfl
  have hr := it_range (9 - m) (by omega)
  have hsub : binop .Sub (.a (.int 9)) (.a (.int (m : Int))) = some (.a (.int ((9 - m : Nat) : Int))) := b_subN 9 m (by omega)
  obtain ⟨ρ', hgo, hR⟩ := forGo_R (R := fun (_ : Unit) ρ => ∃ o, ρ = [some (.list (nL gs)), some (.list (ws.map .str)), some (.a (.int (m : Int))), o, none]) (enc := fun b : Nat => .int (b : Int)) (body := fun a ρ => ex Φ lLawText61 (set ρ 3 (.a a))) step (List.range (9 - m)) () _ _ ⟨o, rfl⟩ (foldR_find _)
  unfold lLawText62
  rw [ex_one]
  rw [ex_for (evs_one (ev_bin ev_int (ev_var rfl) hsub)) hr, hgo]
  refine ⟨ρ', ?_, fun hf => ?_⟩
  · cases (List.range (9 - m)).find? (pz gs m) <;> rfl
  · rw [hf] at hR
    exact hR
theorem t6_outer {gs : List Nat} {ws : List L} : ∀ l : List Nat, (∀ m ∈ l, 2 ≤ m ∧ m ≤ 8) → foldR (fun (_ : Unit) m => if 2 ≤ m ∧ m ≤ 8 then some (match (List.range (9 - m)).find? (pz gs m) with | some b => (.inr (S1 (txt ws b m)) : Unit ⊕ PV) | none => .inl ()) else none) () l =
      some (match searchBy (pz gs) l with | some (b, m) => .inr (S1 (txt ws b m)) | none => .inl ()) := by
  intro l
  induction l with
  | nil => intro _; rfl
  | cons m r ih =>
    intro h
    have hm := h m (by simp)
    simp only [foldR, if_pos hm, Option.bind_some, searchBy]
    cases (List.range (9 - m)).find? (pz gs m) with
    | some b => rfl
    | none => exact ih fun k hk => h k (by simp [hk])
theorem t6_step {Φ : Nat → List PV → Option PV} {gs : List Nat} {ws : List L} (hwf : Few ws) : ∀ (s : Unit) ρ (m : Nat) x, (∃ o1 o2, ρ = [some (.list (nL gs)), some (.list (ws.map .str)), o1, o2, none]) → (fun (_ : Unit) m => if 2 ≤ m ∧ m ≤ 8 then some (match (List.range (9 - m)).find? (pz gs m) with | some b => (.inr (S1 (txt ws b m)) : Unit ⊕ PV) | none => .inl ()) else none) s m = some x →
      ∃ ρ', ex Φ lLawText62 (set ρ 2 (.a (.int (m : Int)))) = some (outR x ρ') ∧ okR (fun (_ : Unit) ρ => ∃ o1 o2, ρ = [some (.list (nL gs)), some (.list (ws.map .str)), o1, o2, none]) x ρ' := by
  rintro _ ρ m x ⟨o1, o2, rfl⟩ e
  dsimp only at e
  split at e
  · rename_i hm
    cases e
    obtain ⟨ρ', h1, h2⟩ := t6_inner (Φ := Φ) (gs := gs) hwf m o2 hm.1 hm.2
    have e0 : set [some (.list (nL gs)), some (.list (ws.map .str)), o1, o2, none] 2 (.a (.int (m : Int))) = [some (.list (nL gs)), some (.list (ws.map .str)), some (.a (.int (m : Int))), o2, none] := rfl
    rw [e0, h1]
    refine ⟨ρ', ?_, ?_⟩
    · cases (List.range (9 - m)).find? (pz gs m) <;> rfl
    · cases hf : (List.range (9 - m)).find? (pz gs m) with
      | some b => trivial
      | none =>
        obtain ⟨o', rfl⟩ := h2 hf
        exact ⟨_, _, rfl⟩
  · cases e
theorem t6_loop {Φ : Nat → List PV → Option PV} {gs : List Nat} {ws : List L} (hwf : Few ws) :
    ∃ ρ', ex Φ (.forS 2 .range (.cons (.int 8) (.cons (.int 1) (.cons (.int (-1)) .nil))) lLawText62) [some (.list (nL gs)), some (.list (ws.map .str)), none, none, none] =
      some (outR (match searchBy (pz gs) [8, 7, 6, 5, 4, 3, 2] with | some (b, m) => .inr (S1 (txt ws b m)) | none => (.inl () : Unit ⊕ PV)) ρ') ∧
      okR (fun (_ : Unit) ρ => ∃ o1 o2, ρ = [some (.list (nL gs)), some (.list (ws.map .str)), o1, o2, none]) (match searchBy (pz gs) [8, 7, 6, 5, 4, 3, 2] with | some (b, m) => .inr (S1 (txt ws b m)) | none => (.inl () : Unit ⊕ PV)) ρ' := by
  obtain ⟨ρ', hgo, hR⟩ := forGo_R (R := fun (_ : Unit) ρ => ∃ o1 o2, ρ = [some (.list (nL gs)), some (.list (ws.map .str)), o1, o2, none]) (enc := fun b : Nat => .int (b : Int)) (body := fun a ρ => ex Φ lLawText62 (set ρ 2 (.a a))) (t6_step hwf) [8, 7, 6, 5, 4, 3, 2] () _ _ ⟨none, none, rfl⟩ (t6_outer _ (by decide))
  have hrange : iterItems .range [.a (.int 8), .a (.int 1), .a (.int (-1))] = some ([8, 7, 6, 5, 4, 3, 2].map fun m : Nat => .int (m : Int)) := rfl
  refine ⟨ρ', ?_, hR⟩
  rw [ex]
  simp only [ev, evs, Option.bind_some, Option.map_some, hrange]
  exact hgo
theorem x17 {Φ : Nat → List PV → Option PV} (h15 : ∀ g, g < 65536 → Φ 15 [I1 g] = some (S1 (hexW g))) (h16 : ∀ n : Nat, Φ 16 [I1 n] = some (S1 (text4 n))) {gs : List Nat} (hlen : gs.length = 8) (hlt : ∀ g ∈ gs, g < 65536) :
    run Φ 5 bLawText6 [.list (nL gs)] = some (S1 (text6 gs)) := by
  rw [← lawT6_eq hlen]
  have hc1 : ev Φ cLawText61 [some (.list (nL gs)), none, none, none, none] = some (.list ((gs.map hexW).map .str)) := by
    rw [List.map_map]
    refine ev_comp_map (vs := [.list (nL gs)]) (fun k : Nat => .int (k : Int)) _ gs ?_ rfl fun g hg => ?_
    · simp only [evs, ev, get, Option.bind_some, Option.map_some]
    · have := h15 g (hlt g hg)
      simp only [evs, ev, get, set, Option.bind_some, Option.map_some, Function.comp]
      exact this
  have s0 : ex Φ (.assign 1 cLawText61) (initS 5 [.list (nL gs)]) = some (.next, [some (.list (nL gs)), some (.list ((gs.map hexW).map .str)), none, none, none]) := by
    show (ev Φ cLawText61 [some (.list (nL gs)), none, none, none, none]).map _ = _
    rw [hc1]; rfl
  have hwf := few_words hlen (condL gs)
  have s1 := t6_words h16 hlen
  generalize hws : words6 gs (condL gs) = ws at *
  obtain ⟨ρ', s2, hR⟩ := t6_loop (Φ := Φ) (gs := gs) hwf
  obtain ⟨hj, _⟩ := few_join hwf
  unfold lawT6
  rw [hws]
  unfold run bLawText6
  rw [ex_next s0, ex_next s1]
  cases hsr : searchBy (pz gs) [8, 7, 6, 5, 4, 3, 2] with
  | some p =>
    obtain ⟨b, m⟩ := p
    rw [hsr] at s2
    rw [ex_ret s2]; rfl
  | none =>
    rw [hsr] at s2 hR
    obtain ⟨o1, o2, rfl⟩ := hR
    rw [ex_next s2]
    simp [ex, ev, evs, evb, get, set, initS, c_eq_str, c_ne_str, c_eq_int, c_ne_int, c_lt, c_le, c_gt, c_ge, c_le_one, outO, okO', b_mulR, b_mulL, c_is_none, c_is_int, c_is_list, c_in_str, b_add, b_sub, f_len, f_lenL, f_ord, m_find, t_b, sizeLine_eq, isAt_a, fresh, i_str, i_list, it_str, it_list, it_tup, hj, S1]
end Mine
end
section
open PySem PySem.Calls
set_option maxRecDepth 100000
namespace Mine
theorem ex_ite_t {Φ : Nat → List PV → Option PV} {c : E} {t f : S} {ρ : Store} (h : ev Φ c ρ = some (.a (.bool true))) : ex Φ (.ite c t f) ρ = ex Φ t ρ := by rw [ex_ite h, if_pos rfl]
theorem ex_ite_f {Φ : Nat → List PV → Option PV} {c : E} {t f : S} {ρ : Store} (h : ev Φ c ρ = some (.a (.bool false))) : ex Φ (.ite c t f) ρ = ex Φ f ρ := by rw [ex_ite h, if_neg (by decide)]
theorem ex_nil {Φ : Nat → List PV → Option PV} {ρ : Store} : ex Φ .nil ρ = some (.next, ρ) := by rw [ex]
theorem ex_skip {Φ : Nat → List PV → Option PV} {c : E} {t : S} {ρ : Store} (h : ev Φ c ρ = some (.a (.bool false))) : ex Φ (.ite c t .nil) ρ = some (.next, ρ) := by rw [ex_ite_f h, ex_nil]
theorem ex_retNone {Φ : Nat → List PV → Option PV} {ρ : Store} {s : S} : ex Φ (.seq (.ret .none) s) ρ = some (.ret (.a .none), ρ) := ex_ret (ex_retF (by rw [ev]) rfl)
theorem ex_retBool {Φ : Nat → List PV → Option PV} {ρ : Store} {s : S} {b : Bool} : ex Φ (.seq (.ret (.bool b)) s) ρ = some (.ret (.a (.bool b)), ρ) := ex_ret (ex_retF (by rw [ev]) rfl)
theorem ev_is {Φ : Nat → List PV → Option PV} {ρ : Store} {i : Nat} {x : At} (h : get ρ i = some (.a x)) : ev Φ (.cmp .Is (.var i) .none) ρ = some (.a (.bool (decide (x = .none)))) := ev_cmp (ev_var h) (by rw [ev]) rfl
theorem ev_isI {Φ : Nat → List PV → Option PV} {ρ : Store} {i : Nat} {x : Int} (h : get ρ i = some (.a (.int x))) : ev Φ (.cmp .Is (.var i) .none) ρ = some (.a (.bool false)) := ev_is h
theorem ev_isN {Φ : Nat → List PV → Option PV} {ρ : Store} {i : Nat} (h : get ρ i = some (.a .none)) : ev Φ (.cmp .Is (.var i) .none) ρ = some (.a (.bool true)) := ev_is h
theorem ev_or_f {Φ : Nat → List PV → Option PV} {ρ : Store} {h t : E} {b : Bool} (h1 : ev Φ h ρ = some (.a (.bool false))) (h2 : evb Φ false t ρ = some b) : evb Φ false (.cons h t) ρ = some b := by
  rw [evb, h1]; exact h2
theorem ev_or_t {Φ : Nat → List PV → Option PV} {ρ : Store} {h t : E} (h1 : ev Φ h ρ = some (.a (.bool true))) : evb Φ false (.cons h t) ρ = some true := by
  rw [evb, h1]; rfl
theorem ev_and_t {Φ : Nat → List PV → Option PV} {ρ : Store} {h t : E} {b : Bool} (h1 : ev Φ h ρ = some (.a (.bool true))) (h2 : evb Φ true t ρ = some b) : evb Φ true (.cons h t) ρ = some b := by
  rw [evb, h1]; exact h2
theorem ev_and_f {Φ : Nat → List PV → Option PV} {ρ : Store} {h t : E} (h1 : ev Φ h ρ = some (.a (.bool false))) : evb Φ true (.cons h t) ρ = some false := by
  rw [evb, h1]; rfl
theorem ev_bnil {Φ : Nat → List PV → Option PV} {ρ : Store} {i : Bool} : evb Φ i .nil ρ = some i := by rw [evb]
theorem ev_boolE {Φ : Nat → List PV → Option PV} {ρ : Store} {i b : Bool} {args : E} (h : evb Φ i args ρ = some b) : ev Φ (.boolE i args) ρ = some (.a (.bool b)) := by rw [ev, h]; rfl
theorem ev_iteT {Φ : Nat → List PV → Option PV} {ρ : Store} {c a b : E} {v : PV} (h : ev Φ c ρ = some (.a (.bool true))) (h1 : ev Φ a ρ = some v) : ev Φ (.ite c a b) ρ = some v := by
  rw [ev, h, Option.bind_some, t_b, Option.bind_some, if_pos rfl, h1]
theorem ev_iteF {Φ : Nat → List PV → Option PV} {ρ : Store} {c a b : E} {v : PV} (h : ev Φ c ρ = some (.a (.bool false))) (h1 : ev Φ b ρ = some v) : ev Φ (.ite c a b) ρ = some v := by
  rw [ev, h, Option.bind_some, t_b, Option.bind_some, if_neg (by decide), h1]
theorem ev_notE {Φ : Nat → List PV → Option PV} {ρ : Store} {e : E} {b : Bool} (h : ev Φ e ρ = some (.a (.bool b))) : ev Φ (.notE e) ρ = some (.a (.bool (!b))) := by
  rw [ev, h, Option.bind_some, t_b]; rfl
theorem ev_str {Φ : Nat → List PV → Option PV} {ρ : Store} {l : L} (h : l.length ≤ 1000) : ev Φ (.str l) ρ = some (.a (.str l)) := e_str Φ ρ l h
/-! mask_of, _law_digit -/
theorem and_mask {b n k : Nat} (hb : b < 2 ^ n) (hk : k ≤ n) : b &&& (2 ^ n - 2 ^ (n - k)) = b / 2 ^ (n - k) * 2 ^ (n - k) := by
  have e : 2 ^ n - 2 ^ (n - k) = (2 ^ k - 1) * 2 ^ (n - k) := by
    rw [Nat.sub_mul, ← Nat.pow_add, Nat.one_mul, Nat.add_sub_cancel' hk]
  rw [e]
  refine Nat.eq_of_testBit_eq fun i => ?_
  rw [Nat.testBit_and, Nat.testBit_mul_two_pow, Nat.testBit_mul_two_pow, Nat.testBit_two_pow_sub_one, Nat.testBit_div_two_pow]
  by_cases h1 : n - k ≤ i
  · rw [Nat.sub_add_cancel h1]
    by_cases h2 : i - (n - k) < k
    · simp [h1, h2]
    · have h3 : b.testBit i = false := Nat.testBit_lt_two_pow (Nat.lt_of_lt_of_le hb (Nat.pow_le_pow_right (by decide) (by omega)))
      simp [h3]
  · simp [h1]
theorem x12 (Φ : Nat → List PV → Option PV) {len bits : Nat} (h : len ≤ bits) (hb : bits ≤ 128) : run Φ 2 bMaskOf [I1 len, I1 bits] = some (I1 (2 ^ bits - 2 ^ (bits - len))) := by
  have h1 : binop .LShift (.a (.int 1)) (.a (.int (bits : Int))) = some (.a (.int ((1 * 2 ^ bits : Nat) : Int))) := b_shlN 1 bits (by omega) (by decide)
  have h2 : binop .Sub (.a (.int (bits : Int))) (.a (.int (len : Int))) = some (.a (.int ((bits - len : Nat) : Int))) := b_subN bits len h
  have h3 : binop .LShift (.a (.int 1)) (.a (.int ((bits - len : Nat) : Int))) = some (.a (.int ((1 * 2 ^ (bits - len) : Nat) : Int))) := b_shlN 1 (bits - len) (by omega) (by decide)
  have h4 : binop .Sub (.a (.int ((1 * 2 ^ bits : Nat) : Int))) (.a (.int ((1 * 2 ^ (bits - len) : Nat) : Int))) = some (.a (.int ((2 ^ bits - 2 ^ (bits - len) : Nat) : Int))) := by
    rw [b_subN _ _ (by rw [Nat.one_mul, Nat.one_mul]; exact Nat.pow_le_pow_right (by decide) (by omega)), Nat.one_mul, Nat.one_mul]
  unfold run bMaskOf
  rw [ex_one]
  have e : initS 2 [I1 len, I1 bits] = [some (.a (.int (len : Int))), some (.a (.int (bits : Int)))] := rfl
  rw [e, ex_retF (ev_bin (ev_bin ev_int (ev_var rfl) h1) (ev_bin ev_int (ev_bin (ev_var rfl) (ev_var rfl) h2) h3) h4) rfl]
  rfl
def digit (xs : List Int) (k : Nat) : Int := xs.getD k 0
theorem x14 (Φ : Nat → List PV → Option PV) (xs : List Int) (k : Nat) : run Φ 2 bLawDigit [.list (xs.map .int), I1 k] = some (.a (.int (digit xs k))) := by
  have hi : k < xs.length → index (.list (xs.map .int)) (.a (.int (k : Int))) = some (.a (.int (digit xs k))) := fun h => by
    rw [i_list _ _ (by omega)]
    simp [digit, List.getD, h]
  by_cases h : k < xs.length
  · have h' : (k : Int) < xs.length := by omega
    simp [run, bLawDigit, ex, ev, evs, evb, get, set, initS, c_eq_str, c_ne_str, c_eq_int, c_ne_int, c_lt, c_le, c_gt, c_ge, c_le_one, outO, okO', b_mulR, b_mulL, c_is_none, c_is_int, c_is_list, c_in_str, b_add, b_sub, f_len, f_lenL, f_ord, m_find, t_b, sizeLine_eq, isAt_a, fresh, i_str, i_list, it_str, it_list, it_tup, S1, I1, h', hi h, -List.map_map]
  · have h' : ¬ (k : Int) < xs.length := by omega
    have e : digit xs k = 0 := by simp [digit, List.getD, h]
    simp [run, bLawDigit, ex, ev, evs, evb, get, set, initS, c_eq_str, c_ne_str, c_eq_int, c_ne_int, c_lt, c_le, c_gt, c_ge, c_le_one, outO, okO', b_mulR, b_mulL, c_is_none, c_is_int, c_is_list, c_in_str, b_add, b_sub, f_len, f_lenL, f_ord, m_find, t_b, sizeLine_eq, isAt_a, fresh, i_str, i_list, it_str, it_list, it_tup, S1, I1, h', e]
end Mine
end
section
open PySem PySem.Calls
set_option maxRecDepth 100000
namespace Mine
/-! prefix_of -/
theorem num16_lt : ∀ (gs : List Nat) (n j : Nat), n < 65536 ^ j → (∀ g ∈ gs, g < 65536) → num16 n gs < 65536 ^ (j + gs.length)
  | [], n, j, h, _ => h
  | g :: gs, n, j, h, hg => by
    have h1 := hg g (by simp)
    have := num16_lt gs (n * 65536 + g) (j + 1) (by rw [Nat.pow_succ]; omega) (fun x hx => hg x (by simp [hx]))
    rw [show j + 1 + gs.length = j + (g :: gs).length by simp; omega] at this
    exact this
theorem ip6_lt {l : L} {n : Nat} (h : ip6Of l = some n) : n < 2 ^ 128 := by
  have key : ∀ gs : List Nat, gs.length = 8 → (∀ g ∈ gs, g < 65536) → num16 0 gs < 2 ^ 128 := fun gs hl hg => by
    have := num16_lt gs 0 0 (by decide) hg
    rw [hl] at this
    exact this
  unfold ip6Of at h
  split at h
  · rw [Option.bind_eq_some_iff] at h
    obtain ⟨gs, h1, h2⟩ := h
    split at h2
    · cases h2
      exact key gs (by assumption) (sideOf_lt h1)
    · cases h2
  · simp only [Option.bind_eq_some_iff] at h
    obtain ⟨a, h1, b, h2, h3⟩ := h
    split at h3
    · cases h3
    · cases h3
      refine key _ (by simp; omega) fun g hg => ?_
      simp only [List.mem_append, List.mem_replicate] at hg
      rcases hg with (hg | ⟨_, rfl⟩) | hg
      · exact sideOf_lt h1 g hg
      · decide
      · exact sideOf_lt h2 g hg
  · cases h
def baseOf (w : L) : Option (Nat × Nat × Nat) := match ip4Of w with
  | some b => some (2, 32, b)
  | none => match ip6Of w with
    | some b => some (10, 128, b)
    | none => none
def cutTo (b bits k : Nat) : Nat := b / 2 ^ (bits - k) * 2 ^ (bits - k)
def prefTail (nf bits b : Nat) : List L → Option (Nat × Nat × Nat)
  | [_] => some (nf, cutTo b bits bits, bits)
  | [_, v] => (decOf v bits).map fun k => (nf, cutTo b bits k, k)
  | _ => none
def prefOf (l : L) : Option (Nat × Nat × Nat) := (baseOf ((splitC 47 l).headD [])).bind fun x => prefTail x.1 x.2.1 x.2.2 (splitC 47 l)
def optT : Option (Nat × Nat × Nat) → PV
  | some (a, b, c) => .tup [.int (a : Int), .int (b : Int), .int (c : Int)]
  | none => .a .none
theorem base_of_ok {w : L} {nf bits b : Nat} (h : baseOf w = some (nf, bits, b)) : b < 2 ^ bits ∧ ((bits = 32 ∧ nf = 2) ∨ (bits = 128 ∧ nf = 10)) := by
  unfold baseOf at h
  split at h
  · rename_i x hx
    cases h
    exact ⟨(ip4_inv hx).2, .inl ⟨rfl, rfl⟩⟩
  · split at h
    · rename_i x hx
      cases h
      exact ⟨ip6_lt hx, .inr ⟨rfl, rfl⟩⟩
    · cases h
def tailP : S := (.seq (.ite (.cmp .Is (.var 4) .none) (.seq (.ret .none)
      .nil) .nil)
      (.seq (.assign 5 (.ite (.cmp .Eq (.bi .len (.cons (.var 1) .nil)) (.int 1)) (.var 3) (.call 1 (.cons (.idx (.var 1) (.int 1)) (.cons (.var 3) .nil)))))
      (.seq (.ite (.cmp .Is (.var 5) .none) (.seq (.ret .none)
      .nil) .nil)
      (.seq (.ret (.tup (.cons (.var 2) (.cons (.bin .BitAnd (.var 4) (.call 12 (.cons (.var 5) (.cons (.var 3) .nil)))) (.cons (.var 5) .nil)))))
      .nil))))
theorem tailP_end {Φ : Nat → List PV → Option PV} (h12 : ∀ len bits, len ≤ bits → bits ≤ 128 → Φ 12 [I1 len, I1 bits] = some (I1 (2 ^ bits - 2 ^ (bits - len)))) {o1 : Option PV} {nf bits b k : Nat} (hb : b < 2 ^ bits) (hk : k ≤ bits) (hbits : bits ≤ 128) (o : Option PV) :
    ev Φ (.tup (.cons (.var 2) (.cons (.bin .BitAnd (.var 4) (.call 12 (.cons (.var 5) (.cons (.var 3) .nil)))) (.cons (.var 5) .nil)))) [o, o1, some (.a (.int (nf : Int))), some (.a (.int (bits : Int))), some (.a (.int (b : Int))), some (.a (.int (k : Int)))] = some (optT (some (nf, cutTo b bits k, k))) := by
  have hc := h12 k bits hk hbits
  simp only [I1] at hc
  have hand : binop .BitAnd (.a (.int (b : Int))) (.a (.int ((2 ^ bits - 2 ^ (bits - k) : Nat) : Int))) = some (.a (.int ((cutTo b bits k : Nat) : Int))) := by
    unfold binop
    simp only [Int.toNat_natCast]
    rw [if_pos ⟨by omega, by omega⟩, and_mask hb hk]
    rfl
  simp only [ev, evs, get, Option.bind_some, Option.map_some, hc, hand, atoms, List.length_cons, List.length_nil, sizeLine_eq]
  rw [if_pos (by decide)]
  rfl
theorem x13_tail {Φ : Nat → List PV → Option PV} (h1 : ∀ l m, Φ 1 [S1 l, I1 m] = some (optI (decOf l m))) (h12 : ∀ len bits, len ≤ bits → bits ≤ 128 → Φ 12 [I1 len, I1 bits] = some (I1 (2 ^ bits - 2 ^ (bits - len))))
    {o : Option PV} {W : List L} {nf bits b : Nat} (hb : b < 2 ^ bits) (hbits : bits ≤ 128) (hW : (∃ w, W = [w]) ∨ ∃ w v, W = [w, v]) :
    ∃ ρ', ex Φ tailP [o, some (.list (W.map .str)), some (.a (.int (nf : Int))), some (.a (.int (bits : Int))), some (.a (.int (b : Int))), none] =
      some (.ret (optT (prefTail nf bits b W)), ρ') := by
  have s1 : ex Φ (.ite (.cmp .Is (.var 4) .none) (.seq (.ret .none) .nil) .nil) [o, some (.list (W.map .str)), some (.a (.int (nf : Int))), some (.a (.int (bits : Int))), some (.a (.int (b : Int))), none] =
      some (.next, [o, some (.list (W.map .str)), some (.a (.int (nf : Int))), some (.a (.int (bits : Int))), some (.a (.int (b : Int))), none]) := by simp [ex, ev, evs, evb, get, set, initS, c_eq_str, c_ne_str, c_eq_int, c_ne_int, c_lt, c_le, c_gt, c_ge, c_le_one, outO, okO', b_mulR, b_mulL, c_is_none, c_is_int, c_is_list, c_in_str, b_add, b_sub, f_len, f_lenL, f_ord, m_find, t_b, sizeLine_eq, isAt_a, fresh, i_str, i_list, it_str, it_list, it_tup]
  unfold tailP
  rw [ex_next s1]
  rcases hW with ⟨w, rfl⟩ | ⟨w, v, rfl⟩
  · have s2 : ex Φ (.assign 5 (.ite (.cmp .Eq (.bi .len (.cons (.var 1) .nil)) (.int 1)) (.var 3) (.call 1 (.cons (.idx (.var 1) (.int 1)) (.cons (.var 3) .nil))))) [o, some (.list ([w].map .str)), some (.a (.int (nf : Int))), some (.a (.int (bits : Int))), some (.a (.int (b : Int))), none] =
        some (.next, [o, some (.list ([w].map .str)), some (.a (.int (nf : Int))), some (.a (.int (bits : Int))), some (.a (.int (b : Int))), some (.a (.int (bits : Int)))]) := by simp [ex, ev, evs, evb, get, set, initS, c_eq_str, c_ne_str, c_eq_int, c_ne_int, c_lt, c_le, c_gt, c_ge, c_le_one, outO, okO', b_mulR, b_mulL, c_is_none, c_is_int, c_is_list, c_in_str, b_add, b_sub, f_len, f_lenL, f_ord, m_find, t_b, sizeLine_eq, isAt_a, fresh, i_str, i_list, it_str, it_list, it_tup]
    have s3 : ex Φ (.ite (.cmp .Is (.var 5) .none) (.seq (.ret .none) .nil) .nil) [o, some (.list ([w].map .str)), some (.a (.int (nf : Int))), some (.a (.int (bits : Int))), some (.a (.int (b : Int))), some (.a (.int (bits : Int)))] =
        some (.next, [o, some (.list ([w].map .str)), some (.a (.int (nf : Int))), some (.a (.int (bits : Int))), some (.a (.int (b : Int))), some (.a (.int (bits : Int)))]) := by simp [ex, ev, evs, evb, get, set, initS, c_eq_str, c_ne_str, c_eq_int, c_ne_int, c_lt, c_le, c_gt, c_ge, c_le_one, outO, okO', b_mulR, b_mulL, c_is_none, c_is_int, c_is_list, c_in_str, b_add, b_sub, f_len, f_lenL, f_ord, m_find, t_b, sizeLine_eq, isAt_a, fresh, i_str, i_list, it_str, it_list, it_tup]
    rw [ex_next s2, ex_next s3, ex_one]
    exact ⟨_, ex_retF (tailP_end h12 hb (Nat.le_refl _) hbits _) rfl⟩
  · have hc := h1 v bits
    simp only [S1, I1] at hc
    have s2 : ∀ p : PV, Φ 1 [.a (.str v), .a (.int (bits : Int))] = some p → ex Φ (.assign 5 (.ite (.cmp .Eq (.bi .len (.cons (.var 1) .nil)) (.int 1)) (.var 3) (.call 1 (.cons (.idx (.var 1) (.int 1)) (.cons (.var 3) .nil))))) [o, some (.list ([w, v].map .str)), some (.a (.int (nf : Int))), some (.a (.int (bits : Int))), some (.a (.int (b : Int))), none] =
        some (.next, [o, some (.list ([w, v].map .str)), some (.a (.int (nf : Int))), some (.a (.int (bits : Int))), some (.a (.int (b : Int))), some p]) := fun p hp => by
      have hi : index (.list [.str w, .str v]) (.a (.int 1)) = some (.a (.str v)) := rfl
      simp [ex, ev, evs, evb, get, set, initS, c_eq_str, c_ne_str, c_eq_int, c_ne_int, c_lt, c_le, c_gt, c_ge, c_le_one, outO, okO', b_mulR, b_mulL, c_is_none, c_is_int, c_is_list, c_in_str, b_add, b_sub, f_len, f_lenL, f_ord, m_find, t_b, sizeLine_eq, isAt_a, fresh, i_str, i_list, it_str, it_list, it_tup, hi, hp]
    have hpt : prefTail nf bits b [w, v] = (decOf v bits).map fun k => (nf, cutTo b bits k, k) := rfl
    rw [hpt]
    cases hd : decOf v bits with
    | none =>
      rw [hd] at hc
      rw [ex_next (s2 _ hc)]
      have s3 : ex Φ (.ite (.cmp .Is (.var 5) .none) (.seq (.ret .none) .nil) .nil) [o, some (.list ([w, v].map .str)), some (.a (.int (nf : Int))), some (.a (.int (bits : Int))), some (.a (.int (b : Int))), some (optI none)] =
          some (.ret (.a .none), [o, some (.list ([w, v].map .str)), some (.a (.int (nf : Int))), some (.a (.int (bits : Int))), some (.a (.int (b : Int))), some (optI none)]) := by simp [ex, ev, evs, evb, get, set, initS, c_eq_str, c_ne_str, c_eq_int, c_ne_int, c_lt, c_le, c_gt, c_ge, c_le_one, outO, okO', b_mulR, b_mulL, c_is_none, c_is_int, c_is_list, c_in_str, b_add, b_sub, f_len, f_lenL, f_ord, m_find, t_b, sizeLine_eq, isAt_a, fresh, i_str, i_list, it_str, it_list, it_tup, optI]
      exact ⟨_, ex_ret s3⟩
    | some k =>
      rw [hd] at hc
      obtain ⟨_, hk, _⟩ := decOf_inv hd
      rw [ex_next (s2 _ hc)]
      have s3 : ex Φ (.ite (.cmp .Is (.var 5) .none) (.seq (.ret .none) .nil) .nil) [o, some (.list ([w, v].map .str)), some (.a (.int (nf : Int))), some (.a (.int (bits : Int))), some (.a (.int (b : Int))), some (optI (some k))] =
          some (.next, [o, some (.list ([w, v].map .str)), some (.a (.int (nf : Int))), some (.a (.int (bits : Int))), some (.a (.int (b : Int))), some (optI (some k))]) := by simp [ex, ev, evs, evb, get, set, initS, c_eq_str, c_ne_str, c_eq_int, c_ne_int, c_lt, c_le, c_gt, c_ge, c_le_one, outO, okO', b_mulR, b_mulL, c_is_none, c_is_int, c_is_list, c_in_str, b_add, b_sub, f_len, f_lenL, f_ord, m_find, t_b, sizeLine_eq, isAt_a, fresh, i_str, i_list, it_str, it_list, it_tup, optI]
      rw [ex_next s3, ex_one]
      exact ⟨_, ex_retF (tailP_end h12 hb hk hbits _) rfl⟩
theorem x13 {Φ : Nat → List PV → Option PV} (h4 : ∀ l, short l = true → Φ 4 [S1 l] = some (optI (ip4Of l))) (h7 : ∀ l, short l = true → Φ 7 [S1 l] = some (optI (ip6Of l)))
    (h1 : ∀ l m, Φ 1 [S1 l, I1 m] = some (optI (decOf l m))) (h12 : ∀ len bits, len ≤ bits → bits ≤ 128 → Φ 12 [I1 len, I1 bits] = some (I1 (2 ^ bits - 2 ^ (bits - len)))) {l : L} (hs : short l = true) :
    run Φ 6 bPrefixOf [S1 l] = some (optT (prefOf l)) := by
  have hm := m_split l 47 (by decide) (short_iff.mp hs).1
  have hsub : ∀ w ∈ splitC 47 l, short w = true := fun w hw => short_part hs hw
  unfold prefOf
  generalize splitC 47 l = W at hm hsub ⊢
  have hb : bPrefixOf = .seq (.assign 1 (.me .split (.var 0) (.cons (.str [47]) .nil))) (.seq (.ite (.cmp .Gt (.bi .len (.cons (.var 1) .nil)) (.int 2)) (.seq (.ret .none) .nil) .nil)
      (.seq (.assign2 2 3 (.tup (.cons (.int 2) (.cons (.int 32) .nil)))) (.seq (.assign 4 (.call 4 (.cons (.idx (.var 1) (.int 0)) .nil)))
      (.seq (.ite (.cmp .Is (.var 4) .none) (.seq (.assign2 2 3 (.tup (.cons (.int 10) (.cons (.int 128) .nil)))) (.seq (.assign 4 (.call 7 (.cons (.idx (.var 1) (.int 0)) .nil))) .nil)) .nil) tailP)))) := rfl
  have s0 : ex Φ (.assign 1 (.me .split (.var 0) (.cons (.str [47]) .nil))) (initS 6 [S1 l]) = some (.next, [some (.a (.str l)), some (.list (W.map .str)), none, none, none, none]) := by
    simp [ex, ev, evs, evb, get, set, initS, c_eq_str, c_ne_str, c_eq_int, c_ne_int, c_lt, c_le, c_gt, c_ge, c_le_one, outO, okO', b_mulR, b_mulL, c_is_none, c_is_int, c_is_list, c_in_str, b_add, b_sub, f_len, f_lenL, f_ord, m_find, t_b, sizeLine_eq, isAt_a, fresh, i_str, i_list, it_str, it_list, it_tup, S1, hm]
  unfold run
  rw [hb, ex_next s0]
  by_cases hl : 2 < W.length
  · have hl' : (2 : Int) < W.length := by omega
    have s1 : ex Φ (.ite (.cmp .Gt (.bi .len (.cons (.var 1) .nil)) (.int 2)) (.seq (.ret .none) .nil) .nil) [some (.a (.str l)), some (.list (W.map .str)), none, none, none, none] = some (.ret (.a .none), [some (.a (.str l)), some (.list (W.map .str)), none, none, none, none]) := by
      simp [ex, ev, evs, evb, get, set, initS, c_eq_str, c_ne_str, c_eq_int, c_ne_int, c_lt, c_le, c_gt, c_ge, c_le_one, outO, okO', b_mulR, b_mulL, c_is_none, c_is_int, c_is_list, c_in_str, b_add, b_sub, f_len, f_lenL, f_ord, m_find, t_b, sizeLine_eq, isAt_a, fresh, i_str, i_list, it_str, it_list, it_tup, hl']
    rw [ex_ret s1]
    match W, hl with
    | w :: _ :: _ :: _, _ =>
      show some (PV.a .none) = some (optT ((baseOf w).bind fun x => none))
      cases baseOf w <;> rfl
  · have hl' : ¬ (2 : Int) < W.length := by omega
    have s1 : ex Φ (.ite (.cmp .Gt (.bi .len (.cons (.var 1) .nil)) (.int 2)) (.seq (.ret .none) .nil) .nil) [some (.a (.str l)), some (.list (W.map .str)), none, none, none, none] = some (.next, [some (.a (.str l)), some (.list (W.map .str)), none, none, none, none]) := by
      simp [ex, ev, evs, evb, get, set, initS, c_eq_str, c_ne_str, c_eq_int, c_ne_int, c_lt, c_le, c_gt, c_ge, c_le_one, outO, okO', b_mulR, b_mulL, c_is_none, c_is_int, c_is_list, c_in_str, b_add, b_sub, f_len, f_lenL, f_ord, m_find, t_b, sizeLine_eq, isAt_a, fresh, i_str, i_list, it_str, it_list, it_tup, hl']
    have s2 : ex Φ (.assign2 2 3 (.tup (.cons (.int 2) (.cons (.int 32) .nil)))) [some (.a (.str l)), some (.list (W.map .str)), none, none, none, none] = some (.next, [some (.a (.str l)), some (.list (W.map .str)), some (.a (.int 2)), some (.a (.int 32)), none, none]) := by
      simp [ex, ev, evs, evb, get, set, initS, c_eq_str, c_ne_str, c_eq_int, c_ne_int, c_lt, c_le, c_gt, c_ge, c_le_one, outO, okO', b_mulR, b_mulL, c_is_none, c_is_int, c_is_list, c_in_str, b_add, b_sub, f_len, f_lenL, f_ord, m_find, t_b, sizeLine_eq, isAt_a, fresh, i_str, i_list, it_str, it_list, it_tup, atoms]
    rw [ex_next s1, ex_next s2]
    cases hW : W with
    | nil =>
      exfalso
      subst hW
      have h9 : me .split (.a (.str l)) [.a (.str [47])] = some (.list ((splitC 47 l).map .str)) := m_split l 47 (by decide) (short_iff.mp hs).1
      rw [hm] at h9
      have := splitC_ne 47 l
      simp at h9
      exact this h9
    | cons w r =>
      have hsw := hsub w (by rw [hW]; simp)
      have c4 := h4 w hsw
      have c7 := h7 w hsw
      simp only [S1] at c4 c7
      have hi : index (.list ((w :: r).map .str)) (.a (.int 0)) = some (.a (.str w)) := rfl
      have hW2 : (∃ u, w :: r = [u]) ∨ ∃ u v, w :: r = [u, v] := by
        subst hW
        match r, hl with
        | [], _ => exact .inl ⟨w, rfl⟩
        | [v], _ => exact .inr ⟨w, v, rfl⟩
        | _ :: _ :: _, h => exact absurd (show 2 < (w :: _ :: _ :: _).length by simp) h
      have hfin : ∀ nf bits b : Nat, b < 2 ^ bits → bits ≤ 128 → baseOf w = some (nf, bits, b) → ∀ o : Option PV, (ex Φ tailP [o, some (.list ((w :: r).map .str)), some (.a (.int (nf : Int))), some (.a (.int (bits : Int))), some (.a (.int (b : Int))), none]).bind (fun p => match p.1 with | .ret v => some v | .next => none) =
          some (optT ((baseOf w).bind fun x => prefTail x.1 x.2.1 x.2.2 (w :: r))) := fun nf bits b h1' h2' h3' o => by
        obtain ⟨ρ', e⟩ := x13_tail h1 h12 (o := o) (W := w :: r) (nf := nf) h1' h2' hW2
        rw [e, h3']; rfl
      cases h4o : ip4Of w with
      | some b =>
        rw [h4o] at c4
        have hbase : baseOf w = some (2, 32, b) := by unfold baseOf; rw [h4o]
        have s3 : ex Φ (.assign 4 (.call 4 (.cons (.idx (.var 1) (.int 0)) .nil))) [some (.a (.str l)), some (.list ((w :: r).map .str)), some (.a (.int 2)), some (.a (.int 32)), none, none] = some (.next, [some (.a (.str l)), some (.list ((w :: r).map .str)), some (.a (.int 2)), some (.a (.int 32)), some (.a (.int (b : Int))), none]) :=
          ex_assign (ev_call (evs_one (ev_idx (ev_var rfl) ev_int hi)) c4)
        have s4 : ex Φ (.ite (.cmp .Is (.var 4) .none) (.seq (.assign2 2 3 (.tup (.cons (.int 10) (.cons (.int 128) .nil)))) (.seq (.assign 4 (.call 7 (.cons (.idx (.var 1) (.int 0)) .nil))) .nil)) .nil) [some (.a (.str l)), some (.list ((w :: r).map .str)), some (.a (.int 2)), some (.a (.int 32)), some (.a (.int (b : Int))), none] =
            some (.next, [some (.a (.str l)), some (.list ((w :: r).map .str)), some (.a (.int 2)), some (.a (.int 32)), some (.a (.int (b : Int))), none]) := by simp [ex, ev, evs, evb, get, set, initS, c_eq_str, c_ne_str, c_eq_int, c_ne_int, c_lt, c_le, c_gt, c_ge, c_le_one, outO, okO', b_mulR, b_mulL, c_is_none, c_is_int, c_is_list, c_in_str, b_add, b_sub, f_len, f_lenL, f_ord, m_find, t_b, sizeLine_eq, isAt_a, fresh, i_str, i_list, it_str, it_list, it_tup]
        rw [ex_next s3, ex_next s4]
        exact hfin 2 32 b (base_of_ok hbase).1 (by decide) hbase _
      | none =>
        rw [h4o] at c4
        have s3 : ex Φ (.assign 4 (.call 4 (.cons (.idx (.var 1) (.int 0)) .nil))) [some (.a (.str l)), some (.list ((w :: r).map .str)), some (.a (.int 2)), some (.a (.int 32)), none, none] = some (.next, [some (.a (.str l)), some (.list ((w :: r).map .str)), some (.a (.int 2)), some (.a (.int 32)), some (.a .none), none]) :=
          ex_assign (ev_call (evs_one (ev_idx (ev_var rfl) ev_int hi)) c4)
        have s4 : ∀ p : PV, Φ 7 [.a (.str w)] = some p → ex Φ (.ite (.cmp .Is (.var 4) .none) (.seq (.assign2 2 3 (.tup (.cons (.int 10) (.cons (.int 128) .nil)))) (.seq (.assign 4 (.call 7 (.cons (.idx (.var 1) (.int 0)) .nil))) .nil)) .nil) [some (.a (.str l)), some (.list ((w :: r).map .str)), some (.a (.int 2)), some (.a (.int 32)), some (.a .none), none] =
            some (.next, [some (.a (.str l)), some (.list ((w :: r).map .str)), some (.a (.int 10)), some (.a (.int 128)), some p, none]) := fun p hp => by
          have hi' : index (.list (.str w :: r.map .str)) (.a (.int 0)) = some (.a (.str w)) := rfl
          simp [ex, ev, evs, evb, get, set, initS, c_eq_str, c_ne_str, c_eq_int, c_ne_int, c_lt, c_le, c_gt, c_ge, c_le_one, outO, okO', b_mulR, b_mulL, c_is_none, c_is_int, c_is_list, c_in_str, b_add, b_sub, f_len, f_lenL, f_ord, m_find, t_b, sizeLine_eq, isAt_a, fresh, i_str, i_list, it_str, it_list, it_tup, atoms, hi', hp]
        cases h6o : ip6Of w with
        | some b =>
          rw [h6o] at c7
          have hbase : baseOf w = some (10, 128, b) := by unfold baseOf; rw [h4o]; dsimp only; rw [h6o]
          rw [ex_next s3, ex_next (s4 _ c7)]
          exact hfin 10 128 b (base_of_ok hbase).1 (by decide) hbase _
        | none =>
          rw [h6o] at c7
          have hbase : baseOf w = none := by unfold baseOf; rw [h4o]; dsimp only; rw [h6o]
          rw [ex_next s3, ex_next (s4 _ c7)]
          unfold tailP
          have s5 : ex Φ (.ite (.cmp .Is (.var 4) .none) (.seq (.ret .none) .nil) .nil) [some (.a (.str l)), some (.list ((w :: r).map .str)), some (.a (.int 10)), some (.a (.int 128)), some (optI none), none] =
              some (.ret (.a .none), [some (.a (.str l)), some (.list ((w :: r).map .str)), some (.a (.int 10)), some (.a (.int 128)), some (optI none), none]) := by simp [ex, ev, evs, evb, get, set, initS, c_eq_str, c_ne_str, c_eq_int, c_ne_int, c_lt, c_le, c_gt, c_ge, c_le_one, outO, okO', b_mulR, b_mulL, c_is_none, c_is_int, c_is_list, c_in_str, b_add, b_sub, f_len, f_lenL, f_ord, m_find, t_b, sizeLine_eq, isAt_a, fresh, i_str, i_list, it_str, it_list, it_tup, optI]
          rw [ex_ret s5]
          show some (PV.a .none) = some (optT ((baseOf w).bind fun x => prefTail x.1 x.2.1 x.2.2 (w :: r)))
          rw [hbase]; rfl
end Mine
end
section
open PySem PySem.Calls
set_option maxRecDepth 100000
namespace Mine
/-! _law_prefix -/
def lens (bits : Nat) : List L := (List.range (bits + 1)).map dec
theorem idx32 : ∀ k, k < 33 → (lens 32).idxOf (dec k) = k := by decide +kernel
theorem idx128 : ∀ k, k < 129 → (lens 128).idxOf (dec k) = k := by decide +kernel
theorem lens_idx {bits k : Nat} (hb : bits = 32 ∨ bits = 128) (hk : k ≤ bits) : (lens bits).idxOf (dec k) = k := by
  rcases hb with rfl | rfl
  · exact idx32 k (by omega)
  · exact idx128 k (by omega)
theorem lens_mem {bits : Nat} {v : L} : v ∈ lens bits ↔ ∃ k, k ≤ bits ∧ v = dec k := by
  unfold lens
  simp only [List.mem_map, List.mem_range]
  constructor
  · rintro ⟨k, h, rfl⟩; exact ⟨k, by omega, rfl⟩
  · rintro ⟨k, h, rfl⟩; exact ⟨k, by omega, rfl⟩
theorem lens_dec {bits : Nat} (hb : bits ≤ 128) {v : L} : v ∈ lens bits ↔ ∃ k, decOf v bits = some k := by
  rw [lens_mem]
  constructor
  · rintro ⟨k, h, rfl⟩; exact ⟨k, decOf_dec (by omega) h⟩
  · rintro ⟨k, h⟩
    obtain ⟨rfl, h1, _⟩ := decOf_inv h
    exact ⟨k, h1, rfl⟩
theorem lens_get {bits : Nat} : (lens bits)[bits]? = some (dec bits) := by simp [lens]
theorem lp_comp {Φ : Nat → List PV → Option PV} {o0 o1 o2 o4 : Option PV} {bits : Nat} (hb : bits ≤ 128) : ev Φ cLawPrefix1 [o0, o1, o2, some (.a (.int (bits : Int))), o4, none, none, none, none] = some (.list ((lens bits).map .str)) := by
  unfold lens
  rw [List.map_map]
  have h1 : binop .Add (.a (.int (bits : Int))) (.a (.int 1)) = some (.a (.int ((bits + 1 : Nat) : Int))) := rfl
  refine ev_comp_map (vs := [.a (.int ((bits + 1 : Nat) : Int))]) (fun k : Nat => .int (k : Int)) _ (List.range (bits + 1)) (evs_one (ev_bin (ev_var rfl) ev_int h1)) (it_range _ (by omega)) fun k hk => ?_
  have hk' := List.mem_range.mp hk
  exact ev_bi (evs_one (ev_var rfl)) (dec_str (by omega))
theorem any_mem {v : L} {ss : List L} : (ss.any fun x => x == v) = decide (v ∈ ss) := by
  rw [Bool.eq_iff_iff]
  simp
theorem c_notin (v : L) (ss : List L) : cmpop .NotIn (.a (.str v)) (.list (ss.map .str)) = some (!decide (v ∈ ss)) := by
  unfold cmpop
  simp only [strs_map, Option.map_some, any_mem]
theorem m_index {v : L} {ss : List L} (h : v ∈ ss) : me .index (.list (ss.map .str)) [.a (.str v)] = some (.a (.int ((ss.idxOf v : Nat) : Int))) := by
  unfold me
  simp only [strs_map, Option.bind_some]
  rw [if_pos h]
def tailL : S := (.seq (.assign 5 cLawPrefix1)
      (.seq (.assign 6 (.ite (.cmp .Eq (.bi .len (.cons (.var 1) .nil)) (.int 1)) (.idx (.var 5) (.var 3)) (.idx (.var 1) (.int 1))))
      (.seq (.ite (.cmp .NotIn (.var 6) (.var 5)) (.seq (.ret .none)
      .nil) .nil)
      (.seq (.assign 7 (.bin .Pow (.int 2) (.bin .Sub (.var 3) (.me .index (.var 5) (.cons (.var 6) .nil)))))
      (.seq (.ret (.tup (.cons (.var 2) (.cons (.bin .Mult (.bin .FloorDiv (.var 4) (.var 7)) (.var 7)) (.cons (.me .index (.var 5) (.cons (.var 6) .nil)) .nil)))))
      .nil)))))
theorem tailL_end {Φ : Nat → List PV → Option PV} {o0 : Option PV} {W : List L} {nf bits b : Nat} {v : L} (hb : b < 2 ^ bits) (hbits : bits = 32 ∨ bits = 128) :
    ∃ ρ', ex Φ (.seq (.ite (.cmp .NotIn (.var 6) (.var 5)) (.seq (.ret .none)
      .nil) .nil)
      (.seq (.assign 7 (.bin .Pow (.int 2) (.bin .Sub (.var 3) (.me .index (.var 5) (.cons (.var 6) .nil)))))
      (.seq (.ret (.tup (.cons (.var 2) (.cons (.bin .Mult (.bin .FloorDiv (.var 4) (.var 7)) (.var 7)) (.cons (.me .index (.var 5) (.cons (.var 6) .nil)) .nil)))))
      .nil))) [o0, some (.list (W.map .str)), some (.a (.int (nf : Int))), some (.a (.int (bits : Int))), some (.a (.int (b : Int))), some (.list ((lens bits).map .str)), some (.a (.str v)), none, none] =
    some (.ret (optT ((decOf v bits).map fun k => (nf, cutTo b bits k, k))), ρ') := by
  have hb128 : bits ≤ 128 := by omega
  have ht : ev Φ (.cmp .NotIn (.var 6) (.var 5)) [o0, some (.list (W.map .str)), some (.a (.int (nf : Int))), some (.a (.int (bits : Int))), some (.a (.int (b : Int))), some (.list ((lens bits).map .str)), some (.a (.str v)), none, none] = some (.a (.bool (!decide (v ∈ lens bits)))) :=
    ev_cmp (ev_var rfl) (ev_var rfl) (c_notin _ _)
  cases hd : decOf v bits with
  | none =>
    have hm : ¬ v ∈ lens bits := fun h => by
      obtain ⟨k, hk⟩ := (lens_dec hb128).mp h
      rw [hd] at hk; cases hk
    rw [decide_eq_false hm] at ht
    exact ⟨_, ex_ret ((ex_ite_t ht).trans ex_retNone)⟩
  | some k =>
    have hm : v ∈ lens bits := (lens_dec hb128).mpr ⟨k, hd⟩
    obtain ⟨rfl, hk, _⟩ := decOf_inv hd
    rw [decide_eq_true hm] at ht
    have hidx := m_index hm
    rw [lens_idx hbits hk] at hidx
    rw [ex_next (ex_skip ht)]
    have h1 : binop .Sub (.a (.int (bits : Int))) (.a (.int (k : Int))) = some (.a (.int ((bits - k : Nat) : Int))) := b_subN bits k hk
    have h2 : binop .Pow (.a (.int 2)) (.a (.int ((bits - k : Nat) : Int))) = some (.a (.int ((2 ^ (bits - k) : Nat) : Int))) := b_powN 2 (bits - k) (by omega) (by decide)
    have hs : 2 ^ (bits - k) ≤ 2 ^ 128 := Nat.pow_le_pow_right (by decide) (by omega)
    have h3 := b_divN b (2 ^ (bits - k)) (Nat.pow_pos (by decide)) (Nat.lt_of_le_of_lt hs (by decide))
    have hb' : b < 2 ^ 128 := Nat.lt_of_lt_of_le hb (Nat.pow_le_pow_right (by decide) hb128)
    have hq : b / 2 ^ (bits - k) < 2 ^ 200 := Nat.lt_of_le_of_lt (Nat.div_le_self _ _) (Nat.lt_trans hb' (by decide))
    have h4 : binop .Mult (.a (.int ((b / 2 ^ (bits - k) : Nat) : Int))) (.a (.int ((2 ^ (bits - k) : Nat) : Int))) = some (.a (.int ((cutTo b bits k : Nat) : Int))) := by
      show (if _ then _ else _) = _
      rw [if_pos (.inr (.inr ⟨by rw [Int.natAbs_natCast]; exact hq, by rw [Int.natAbs_natCast]; exact Nat.lt_of_le_of_lt hs (by decide)⟩)), ← Int.natCast_mul]
      rfl
    generalize 2 ^ (bits - k) = sz at h2 h3 h4
    rw [ex_next (ex_assign (ev_bin ev_int (ev_bin (ev_var rfl) (ev_me (ev_var rfl) (evs_one (ev_var rfl)) hidx) h1) h2)), ex_one]
    refine ⟨_, ex_retF (v := optT (some (nf, cutTo b bits k, k))) ?_ rfl⟩
    rw [ev, evs_cons (ev_var rfl) (evs_cons (ev_bin (ev_bin (ev_var rfl) (ev_var rfl) h3) (ev_var rfl) h4) (evs_one (ev_me (ev_var rfl) (evs_one (ev_var rfl)) hidx)))]
    rw [Option.bind_some, if_pos (by rw [sizeLine_eq]; simp)]
    rfl
theorem x23_tail {Φ : Nat → List PV → Option PV} {o0 : Option PV} {W : List L} {nf bits b : Nat} (hb : b < 2 ^ bits) (hbits : bits = 32 ∨ bits = 128) (hW : (∃ w, W = [w]) ∨ ∃ w v, W = [w, v]) :
    ∃ ρ', ex Φ tailL [o0, some (.list (W.map .str)), some (.a (.int (nf : Int))), some (.a (.int (bits : Int))), some (.a (.int (b : Int))), none, none, none, none] = some (.ret (optT (prefTail nf bits b W)), ρ') := by
  have hb128 : bits ≤ 128 := by omega
  unfold tailL
  rw [ex_next (ex_assign (lp_comp hb128))]
  show ∃ ρ', ex Φ _ [o0, some (.list (W.map .str)), some (.a (.int (nf : Int))), some (.a (.int (bits : Int))), some (.a (.int (b : Int))), some (.list ((lens bits).map .str)), none, none, none] = _
  rcases hW with ⟨w, rfl⟩ | ⟨w, v, rfl⟩
  · have hi : index (.list ((lens bits).map .str)) (.a (.int (bits : Int))) = some (.a (.str (dec bits))) := by
      rw [i_list _ _ (by omega), Int.toNat_natCast, List.getElem?_map, lens_get]; rfl
    rw [ex_next (ex_assign (ev_iteT (ev_cmp (ev_bi (evs_one (ev_var rfl)) (f_lenL _)) ev_int (by rw [c_eq_int]; rfl)) (ev_idx (ev_var rfl) (ev_var rfl) hi)))]
    obtain ⟨ρ', e⟩ := tailL_end (Φ := Φ) (o0 := o0) (W := [w]) (nf := nf) (v := dec bits) hb hbits
    rw [decOf_dec (by omega) (Nat.le_refl _)] at e
    exact ⟨ρ', e⟩
  · have hi : index (.list ([w, v].map .str)) (.a (.int 1)) = some (.a (.str v)) := rfl
    rw [ex_next (ex_assign (ev_iteF (ev_cmp (ev_bi (evs_one (ev_var rfl)) (f_lenL _)) ev_int (by rw [c_eq_int]; rfl)) (ev_idx (ev_var rfl) ev_int hi)))]
    exact tailL_end (Φ := Φ) (o0 := o0) (W := [w, v]) (nf := nf) (v := v) hb hbits
theorem x23 {Φ : Nat → List PV → Option PV} (h19 : ∀ l, Φ 19 [S1 l] = some (optI (ip4Of l))) (h21 : ∀ l, short l = true → Φ 21 [S1 l] = some (optI (ip6Of l))) {l : L} (hs : short l = true) :
    run Φ 9 bLawPrefix [S1 l] = some (optT (prefOf l)) := by
  have hm := m_split l 47 (by decide) (short_iff.mp hs).1
  have hne := splitC_ne 47 l
  have hsub : ∀ w ∈ splitC 47 l, short w = true := fun w hw => short_part hs hw
  unfold prefOf
  generalize splitC 47 l = W at hm hsub hne ⊢
  obtain ⟨w, r, rfl⟩ := List.exists_cons_of_ne_nil hne
  have hsw := hsub w (by simp)
  have c19 := h19 w
  have c21 := h21 w hsw
  simp only [S1] at c19 c21
  have hi : index (.list ((w :: r).map .str)) (.a (.int 0)) = some (.a (.str w)) := rfl
  have hb : bLawPrefix = .seq (.assign 1 (.me .split (.var 0) (.cons (.str [47]) .nil))) (.seq (.assign 2 (.int 2)) (.seq (.assign 3 (.int 32)) (.seq (.assign 4 (.call 19 (.cons (.idx (.var 1) (.int 0)) .nil)))
      (.seq (.ite (.cmp .Is (.var 4) .none) (.seq (.assign 2 (.int 10)) (.seq (.assign 3 (.int 128)) (.seq (.assign 4 (.call 21 (.cons (.idx (.var 1) (.int 0)) .nil))) .nil))) .nil)
      (.seq (.ite (.boolE false (.cons (.cmp .Is (.var 4) .none) (.cons (.cmp .Gt (.bi .len (.cons (.var 1) .nil)) (.int 2)) .nil))) (.seq (.ret .none) .nil) .nil) tailL))))) := rfl
  unfold run
  rw [hb, ex_next (ex_assign (ev_me (ev_var rfl) (evs_one (ev_str (by decide))) hm)), ex_next (ex_assign ev_int), ex_next (ex_assign ev_int), ex_next (ex_assign (ev_call (evs_one (ev_idx (ev_var rfl) ev_int hi)) c19))]
  show (ex Φ _ [some (.a (.str l)), some (.list ((w :: r).map .str)), some (.a (.int 2)), some (.a (.int 32)), some (optI (ip4Of w)), none, none, none, none]).bind _ = some (optT ((baseOf w).bind fun x => prefTail x.1 x.2.1 x.2.2 (w :: r)))
  have hstep : ∃ nf bits b : Nat, ∃ p : At, ex Φ (.ite (.cmp .Is (.var 4) .none) (.seq (.assign 2 (.int 10)) (.seq (.assign 3 (.int 128)) (.seq (.assign 4 (.call 21 (.cons (.idx (.var 1) (.int 0)) .nil))) .nil))) .nil) [some (.a (.str l)), some (.list ((w :: r).map .str)), some (.a (.int 2)), some (.a (.int 32)), some (optI (ip4Of w)), none, none, none, none] =
      some (.next, [some (.a (.str l)), some (.list ((w :: r).map .str)), some (.a (.int (nf : Int))), some (.a (.int (bits : Int))), some (.a p), none, none, none, none]) ∧ ((baseOf w = none ∧ p = .none) ∨ (baseOf w = some (nf, bits, b) ∧ p = .int (b : Int))) := by
    cases h4o : ip4Of w with
    | some b => exact ⟨2, 32, b, .int (b : Int), ex_skip (ev_isI rfl), .inr ⟨by unfold baseOf; rw [h4o], rfl⟩⟩
    | none =>
      have s : ∀ q : PV, Φ 21 [.a (.str w)] = some q → ex Φ (.ite (.cmp .Is (.var 4) .none) (.seq (.assign 2 (.int 10)) (.seq (.assign 3 (.int 128)) (.seq (.assign 4 (.call 21 (.cons (.idx (.var 1) (.int 0)) .nil))) .nil))) .nil) [some (.a (.str l)), some (.list ((w :: r).map .str)), some (.a (.int 2)), some (.a (.int 32)), some (optI none), none, none, none, none] =
          some (.next, [some (.a (.str l)), some (.list ((w :: r).map .str)), some (.a (.int 10)), some (.a (.int 128)), some q, none, none, none, none]) := fun q hq => by
        rw [ex_ite_t (ev_isN rfl), ex_next (ex_assign ev_int), ex_next (ex_assign ev_int), ex_next (ex_assign (ev_call (evs_one (ev_idx (ev_var rfl) ev_int hi)) hq)), ex_nil]
        rfl
      cases h6o : ip6Of w with
      | some b =>
        rw [h6o] at c21
        exact ⟨10, 128, b, .int (b : Int), s _ c21, .inr ⟨by unfold baseOf; rw [h4o]; dsimp only; rw [h6o], rfl⟩⟩
      | none =>
        rw [h6o] at c21
        exact ⟨10, 128, 0, .none, s _ c21, .inl ⟨by unfold baseOf; rw [h4o]; dsimp only; rw [h6o], rfl⟩⟩
  obtain ⟨nf, bits, b, p, e1, e2⟩ := hstep
  rw [ex_next e1]
  rcases e2 with ⟨e2, rfl⟩ | ⟨e2, rfl⟩
  · rw [e2, ex_ret ((ex_ite_t (ev_boolE (ev_or_t (ev_isN rfl)))).trans ex_retNone)]
    rfl
  · obtain ⟨hlt, hbits⟩ := base_of_ok e2
    rw [e2]
    have hlen : ev Φ (.cmp .Gt (.bi .len (.cons (.var 1) .nil)) (.int 2)) [some (.a (.str l)), some (.list ((w :: r).map .str)), some (.a (.int (nf : Int))), some (.a (.int (bits : Int))), some (.a (.int (b : Int))), none, none, none, none] = some (.a (.bool (decide (2 < ((((w :: r).map At.str).length : Nat) : Int))))) :=
      ev_cmp (ev_bi (evs_one (ev_var rfl)) (f_lenL _)) ev_int (c_gt _ _)
    match r, hlen with
    | [], hlen =>
      rw [ex_next (ex_skip (ev_boolE (ev_or_f (ev_isI rfl) (ev_or_f hlen ev_bnil))))]
      obtain ⟨ρ', e⟩ := x23_tail (Φ := Φ) (o0 := some (.a (.str l))) (W := [w]) (nf := nf) hlt (by omega) (.inl ⟨w, rfl⟩)
      rw [e]; rfl
    | [v], hlen =>
      rw [ex_next (ex_skip (ev_boolE (ev_or_f (ev_isI rfl) (ev_or_f hlen ev_bnil))))]
      obtain ⟨ρ', e⟩ := x23_tail (Φ := Φ) (o0 := some (.a (.str l))) (W := [w, v]) (nf := nf) hlt (by omega) (.inr ⟨w, v, rfl⟩)
      rw [e]; rfl
    | v :: u :: q, hlen =>
      have hlen' : decide (2 < ((((w :: v :: u :: q).map At.str).length : Nat) : Int)) = true := by simp; omega
      rw [hlen'] at hlen
      rw [ex_ret ((ex_ite_t (ev_boolE (ev_or_f (ev_isI rfl) (ev_or_t hlen)))).trans ex_retNone)]
      rfl
end Mine
end
section
open PySem PySem.Calls
set_option maxRecDepth 100000
namespace Mine
/-! two colons: where they stand -/
def dbl : Nat → L → List Nat
  | _, [] => []
  | k, x :: r => if x = 58 ∧ r.head? = some 58 then k :: dbl (k + 1) r else dbl (k + 1) r
theorem dbl_nil_any : ∀ {l : L} {k j : Nat}, dbl k l = [] → dbl j l = []
  | [], _, _, _ => rfl
  | x :: r, k, j, h => by
    unfold dbl at h ⊢
    split at h
    · cases h
    · rename_i hc
      rw [if_neg hc]
      exact dbl_nil_any h
theorem dbl_filter (l0 : L) : ∀ (l pre : L), l0 = pre ++ l → ((List.range' pre.length l.length).filter fun p => decide ((l0.take (p + 2)).drop p = [58, 58])) = dbl pre.length l
  | [], _, _ => rfl
  | x :: r, pre, h => by
    have ih := dbl_filter l0 r (pre ++ [x]) (by rw [h]; simp)
    have hl : (pre ++ [x]).length = pre.length + 1 := by simp
    rw [hl] at ih
    have hk : (l0.take (pre.length + 2)).drop pre.length = (x :: r).take 2 := by
      rw [h, List.drop_take, List.drop_left]
      congr 1; omega
    rw [List.length_cons, List.range'_succ, List.filter_cons, ih, hk, dbl]
    by_cases hc : x = 58 ∧ r.head? = some 58
    · rw [if_pos hc]
      obtain ⟨rfl, h2⟩ := hc
      cases r with
      | nil => cases h2
      | cons y t => cases h2; rw [if_pos (by simp)]
    · rw [if_neg hc, if_neg]
      intro q
      have q := of_decide_eq_true q
      cases r with
      | nil => simp at q
      | cons y t =>
        simp at q
        exact hc ⟨q.1, by rw [q.2]; rfl⟩
theorem split2_cases : ∀ (l : L) (k : Nat), (dbl k l = [] ∧ split2 l = [l]) ∨
    ∃ x y, l = x ++ 58 :: 58 :: y ∧ split2 l = x :: split2 y ∧ dbl k l = (k + x.length) :: dbl (k + x.length + 1) (58 :: y)
  | [], k => .inl ⟨rfl, rfl⟩
  | [a], k => .inl ⟨by simp [dbl], rfl⟩
  | a :: b :: r, k => by
    by_cases hc : a = 58 ∧ b = 58
    · obtain ⟨rfl, rfl⟩ := hc
      refine .inr ⟨[], r, rfl, by rw [split2, if_pos ⟨rfl, rfl⟩], ?_⟩
      rw [dbl, if_pos ⟨rfl, rfl⟩]
      rfl
    · have hd : dbl k (a :: b :: r) = dbl (k + 1) (b :: r) := by
        rw [dbl, if_neg]
        rintro ⟨h1, h2⟩
        exact hc ⟨h1, by simpa using h2⟩
      have hs : split2 (a :: b :: r) = cons1 a (split2 (b :: r)) := by rw [split2, if_neg hc]
      rcases split2_cases (b :: r) (k + 1) with ⟨h1, h2⟩ | ⟨x, y, h1, h2, h3⟩
      · exact .inl ⟨hd.trans h1, by rw [hs, h2]; rfl⟩
      · refine .inr ⟨a :: x, y, by rw [h1]; rfl, by rw [hs, h2]; rfl, ?_⟩
        rw [hd, h3, List.length_cons]
        rw [show k + 1 + x.length = k + (x.length + 1) by omega]
theorem splitC_cat (c : Nat) : ∀ (x z : L), splitC c (x ++ c :: z) = splitC c x ++ splitC c z
  | [], z => by simp [splitC]
  | a :: x, z => by
    have ih := splitC_cat c x z
    rw [List.cons_append, splitC, splitC, ih]
    split
    · rfl
    · cases h : splitC c x with
      | nil => exact absurd h (splitC_ne _ _)
      | cons p q => rfl
/-! the fold over the words, as the law has it -/
def lawSt (n : Nat) (st : List Int × Nat) (k : Nat) (w : L) : Option (List Int × Nat) :=
  if w = [] then some (st.1, st.1.length) else if 46 ∈ w then (match ip4Of w with
    | some t => if k + 1 = n then some (st.1 ++ [((t / 65536 : Nat) : Int), ((t % 65536 : Nat) : Int)], st.2) else none
    | none => none) else some (st.1 ++ [lawGroup w], st.2)
def iL (gs : List Nat) : List Int := gs.map fun k : Nat => (k : Int)
theorem iL_app (a b : List Nat) : iL (a ++ b) = iL a ++ iL b := by simp [iL]
theorem iL_neg (gs : List Nat) : (-1 : Int) ∉ iL gs := by
  unfold iL
  intro h
  obtain ⟨k, _, e⟩ := List.mem_map.mp h
  omega
theorem iL_len (gs : List Nat) : (iL gs).length = gs.length := by simp [iL]
def Bad (o : Option (List Int × Nat)) : Prop := ∀ st, o = some st → (-1 : Int) ∈ st.1
theorem bad_fold {n : Nat} : ∀ (ws : List L) (k : Nat) (st : List Int × Nat), (-1 : Int) ∈ st.1 → Bad (foldOi (lawSt n) k st ws)
  | [], k, st, h => fun s e => by cases e; exact h
  | w :: r, k, st, h => by
    intro s e
    simp only [foldOi, Option.bind_eq_some_iff] at e
    obtain ⟨st', h1, e⟩ := e
    refine bad_fold r (k + 1) st' ?_ s e
    unfold lawSt at h1
    split at h1
    · cases h1; exact h
    · split at h1
      · split at h1
        · split at h1
          · cases h1; exact List.mem_append_left _ h
          · cases h1
        · cases h1
      · cases h1; exact List.mem_append_left _ h
theorem hexGo_dot {l : L} : ∀ {n : Nat}, 46 ∈ l → foldO hexG n l = none := by
  induction l with
  | nil => intro n h; cases h
  | cons c r ih =>
    intro n h
    simp only [foldO]
    cases hq : hexG n c with
    | none => rfl
    | some m =>
      rw [Option.bind_some]
      rcases List.mem_cons.mp h with rfl | h
      · cases hq
      · exact ih h
theorem hexOf_dot {w : L} {m : Nat} (h : 46 ∈ w) : hexOf w m = none := by
  unfold hexOf
  split
  · exact hexGo_dot h
  · rfl
theorem foldOi_app {σ α : Type} {f : σ → Nat → α → Option σ} : ∀ (a b : List α) (k : Nat) (s : σ), foldOi f k s (a ++ b) = (foldOi f k s a).bind fun s' => foldOi f (k + a.length) s' b
  | [], b, k, s => rfl
  | x :: a, b, k, s => by
    simp only [List.cons_append, foldOi]
    cases f s k x with
    | none => rfl
    | some s' =>
      simp only [Option.bind_some]
      rw [foldOi_app a b (k + 1) s', List.length_cons, show k + (a.length + 1) = k + 1 + a.length by omega]
theorem run_words {isEnd : Bool} {n m gap : Nat} : ∀ (ws : List L) (k j : Nat) (gs : List Nat), (∀ w ∈ ws, w ≠ []) → (isEnd = true → j + ws.length = m ∧ k + ws.length = n) → (isEnd = false → k + ws.length < n) →
    (∀ gs', foldOi (grG isEnd m) j gs ws = some gs' → foldOi (lawSt n) k (iL gs, gap) ws = some (iL gs', gap)) ∧
    (foldOi (grG isEnd m) j gs ws = none → Bad (foldOi (lawSt n) k (iL gs, gap) ws))
  | [], k, j, gs, _, _, _ => ⟨fun gs' e => by cases e; rfl, fun e => by cases e⟩
  | w :: r, k, j, gs, hne, h1, h2 => by
    have hw := hne w (by simp)
    have hr : ∀ v ∈ r, v ≠ [] := fun v hv => hne v (by simp [hv])
    have h1' : isEnd = true → j + 1 + r.length = m ∧ k + 1 + r.length = n := fun e => by have := h1 e; simp at this; omega
    have h2' : isEnd = false → k + 1 + r.length < n := fun e => by have := h2 e; simp at this; omega
    simp only [foldOi]
    by_cases hd : 46 ∈ w
    · by_cases hc : isEnd = true ∧ j + 1 = m
      · have hk : k + 1 = n := by have := h1 hc.1; simp at this; omega
        have hg : grG isEnd m gs j w = (ip4Of w).map fun t => gs ++ [t / 65536, t % 65536] := by unfold grG; rw [if_pos ⟨hc.1, hc.2, hd⟩]
        cases hi : ip4Of w with
        | none =>
          have hL : lawSt n (iL gs, gap) k w = none := by unfold lawSt; rw [if_neg hw, if_pos hd, hi]
          rw [hg, hi, hL]
          exact ⟨fun gs' e => (by cases e), fun _ s e => by cases e⟩
        | some t =>
          have hL : lawSt n (iL gs, gap) k w = some (iL (gs ++ [t / 65536, t % 65536]), gap) := by
            unfold lawSt; rw [if_neg hw, if_pos hd, hi]; dsimp only; rw [if_pos hk, iL_app]; rfl
          rw [hg, hi, hL, Option.map_some, Option.bind_some, Option.bind_some]
          exact run_words r (k + 1) (j + 1) _ hr h1' h2'
      · have hk : ¬ k + 1 = n := by
          cases hE : isEnd with
          | false => have := h2 hE; simp at this; omega
          | true =>
            have := h1 hE
            have hj : ¬ j + 1 = m := fun e => hc ⟨hE, e⟩
            omega
        have hg : grG isEnd m gs j w = none := by
          unfold grG
          rw [if_neg fun q => hc ⟨q.1, q.2.1⟩, hexOf_dot hd]; rfl
        have hL : lawSt n (iL gs, gap) k w = none := by
          unfold lawSt; rw [if_neg hw, if_pos hd]
          cases ip4Of w with
          | none => rfl
          | some t => dsimp only; rw [if_neg hk]
        rw [hg, hL]
        exact ⟨fun gs' e => (by cases e), fun _ s e => by cases e⟩
    · have hg : grG isEnd m gs j w = (hexOf w 4).map fun g => gs ++ [g] := by unfold grG; rw [if_neg fun q => hd q.2.2]
      have hL : lawSt n (iL gs, gap) k w = some (iL gs ++ [lawGroup w], gap) := by unfold lawSt; rw [if_neg hw, if_neg hd]
      cases hi : hexOf w 4 with
      | none =>
        have hlg : lawGroup w = -1 := by unfold lawGroup; rw [hi]
        rw [hg, hi, hL, hlg, Option.bind_some]
        exact ⟨fun gs' e => (by cases e), fun _ => bad_fold r (k + 1) _ (by simp)⟩
      | some g =>
        have hlg : lawGroup w = (g : Int) := by unfold lawGroup; rw [hi]
        have e : iL gs ++ [(g : Int)] = iL (gs ++ [g]) := by rw [iL_app]; rfl
        rw [hg, hi, hL, hlg, e, Option.map_some, Option.bind_some, Option.bind_some]
        exact run_words r (k + 1) (j + 1) _ hr h1' h2'
theorem fold_empty {isEnd : Bool} {m : Nat} : ∀ (ws : List L) (j : Nat) (gs : List Nat), [] ∈ ws → foldOi (grG isEnd m) j gs ws = none
  | [], _, _, h => by cases h
  | w :: r, j, gs, h => by
    simp only [foldOi]
    rcases List.mem_cons.mp h with rfl | h
    · have : grG isEnd m gs j [] = none := by unfold grG; rw [if_neg (by simp)]; rfl
      rw [this]; rfl
    · cases grG isEnd m gs j w with
      | none => rfl
      | some s => rw [Option.bind_some]; exact fold_empty r (j + 1) s h
theorem sideOf_empty {isEnd : Bool} {t : L} (ht : t ≠ []) (h : [] ∈ splitC 58 t) : sideOf isEnd t = none := by
  unfold sideOf
  rw [if_neg ht, fold_empty _ _ _ h]
theorem sideOf_ne {isEnd : Bool} {t : L} (ht : t ≠ []) : sideOf isEnd t = foldOi (grG isEnd (splitC 58 t).length) 0 [] (splitC 58 t) := by
  unfold sideOf
  rw [if_neg ht]
end Mine
end
section
open PySem PySem.Calls
set_option maxRecDepth 100000
namespace Mine
/-! the number, place by place -/
def pw (len gap p : Nat) : Nat := if p < gap then 7 - p else len - 1 - p
def numTo (gs : List Nat) (len gap k : Nat) : Nat := (List.range k).foldl (fun n p => n + gs.getD p 0 * 65536 ^ pw len gap p) 0
def lawNum (gs : List Nat) (gap : Nat) : Nat := numTo gs gs.length gap gs.length
theorem numTo_succ (gs : List Nat) (len gap k : Nat) : numTo gs len gap (k + 1) = numTo gs len gap k + gs.getD k 0 * 65536 ^ pw len gap k := by
  unfold numTo
  rw [List.range_succ, List.foldl_append]; rfl
theorem num16_app (a b : List Nat) (n : Nat) : num16 n (a ++ b) = num16 (num16 n a) b := by unfold num16; rw [List.foldl_append]
theorem num16_shift : ∀ (gs : List Nat) (n : Nat), num16 n gs = n * 65536 ^ gs.length + num16 0 gs
  | [], n => by simp [num16]
  | g :: r, n => by
    show num16 (n * 65536 + g) r = _ + num16 (0 * 65536 + g) r
    rw [num16_shift r (n * 65536 + g), num16_shift r (0 * 65536 + g), List.length_cons, Nat.pow_succ, Nat.zero_mul, Nat.zero_add, Nat.add_mul, Nat.mul_comm (65536 ^ r.length) 65536, ← Nat.mul_assoc, Nat.add_assoc]
theorem num_zeros : ∀ (k n : Nat), num16 n (List.replicate k 0) = n * 65536 ^ k
  | 0, n => by simp [num16]
  | k + 1, n => by
    rw [List.replicate_succ]
    show num16 (n * 65536 + 0) (List.replicate k 0) = _
    rw [num_zeros k, Nat.pow_succ, Nat.add_zero, Nat.mul_assoc, Nat.mul_comm 65536]
theorem take_step {gs : List Nat} {k : Nat} (h : k < gs.length) : num16 0 (gs.take (k + 1)) = num16 0 (gs.take k) * 65536 + gs.getD k 0 := by
  rw [List.take_succ_eq_append_getElem h, num16_app]
  show num16 0 (gs.take k) * 65536 + gs[k] = _
  simp [List.getD, h]
theorem numTo_a {a b : List Nat} (h : a.length + b.length ≤ 8) : ∀ k, k ≤ a.length → numTo (a ++ b) (a ++ b).length a.length k = num16 0 (a.take k) * 65536 ^ (8 - k)
  | 0, _ => by simp [numTo, num16]
  | k + 1, hk => by
    have hg : (a ++ b).getD k 0 = a.getD k 0 := by
      have : k < (a ++ b).length := by simp; omega
      simp [List.getD, List.getElem?_append_left (show k < a.length by omega)]
    have hp : pw (a ++ b).length a.length k = 7 - k := by unfold pw; rw [if_pos (by omega)]
    rw [numTo_succ, numTo_a h k (by omega), take_step (by omega), hg, hp, show 8 - (k + 1) = 7 - k by omega, show 8 - k = (7 - k) + 1 by omega, Nat.pow_succ, Nat.add_mul, Nat.mul_assoc, Nat.mul_comm 65536]
theorem numTo_b {a b : List Nat} (h : a.length + b.length ≤ 8) : ∀ j, j ≤ b.length → numTo (a ++ b) (a ++ b).length a.length (a.length + j) = num16 0 a * 65536 ^ (8 - a.length) + num16 0 (b.take j) * 65536 ^ (b.length - j)
  | 0, _ => by
    rw [Nat.add_zero, numTo_a h _ (Nat.le_refl _), List.take_length]
    simp [num16]
  | j + 1, hj => by
    have hg : (a ++ b).getD (a.length + j) 0 = b.getD j 0 := by
      simp [List.getD, List.getElem?_append_right (show a.length ≤ a.length + j by omega)]
    have hp : pw (a ++ b).length a.length (a.length + j) = b.length - (j + 1) := by
      unfold pw; rw [if_neg (by omega), List.length_append]; omega
    rw [← Nat.add_assoc, numTo_succ, numTo_b h j (by omega), take_step (by omega), hg, hp, show b.length - j = b.length - (j + 1) + 1 by omega, Nat.pow_succ, Nat.add_mul, Nat.mul_assoc, Nat.mul_comm 65536, Nat.add_assoc]
theorem lawNum_eq {a b : List Nat} (h : a.length + b.length ≤ 8) : lawNum (a ++ b) a.length = num16 0 (a ++ List.replicate (8 - a.length - b.length) 0 ++ b) := by
  have := numTo_b h b.length (Nat.le_refl _)
  rw [List.take_length, Nat.sub_self, Nat.pow_zero, Nat.mul_one] at this
  unfold lawNum
  rw [show (a ++ b).length = a.length + b.length by simp] at this ⊢
  rw [this, num16_app, num16_app, num_zeros, num16_shift b (num16 0 a * 65536 ^ (8 - a.length - b.length)), Nat.mul_assoc, ← Nat.pow_add]
  rw [show 8 - a.length - b.length + b.length = 8 - a.length by omega]
theorem numTo_gap {gs : List Nat} {len : Nat} (h : len ≤ 8) : ∀ k, k ≤ len → numTo gs len 9 k = numTo gs len len k
  | 0, _ => rfl
  | k + 1, hk => by
    rw [numTo_succ, numTo_succ, numTo_gap h k (by omega)]
    unfold pw
    rw [if_pos (by omega), if_pos (by omega)]
theorem lawNum_whole {gs : List Nat} (h : gs.length = 8) : lawNum gs 9 = num16 0 gs := by
  have := lawNum_eq (a := gs) (b := []) (by simp [h])
  rw [List.append_nil, List.append_nil, h] at this
  unfold lawNum at this ⊢
  rw [h, numTo_gap (by omega) _ (Nat.le_refl _)]
  rw [h] at this
  rw [this]
  simp
/-! _law_read6 is ip6_of -/
def toN (G : List Int) : List Nat := G.map Int.toNat
theorem toN_iL (gs : List Nat) : toN (iL gs) = gs := by simp [toN, iL, Function.comp_def]
def empties (D : List Nat) (len : Nat) : Nat := match D with
  | [d] => 1 + (if d = 0 then 1 else 0) + (if d + 2 = len then 1 else 0)
  | _ => 0
def law6 (l : L) : Option Nat :=
  if 1 < (dbl 0 l).length ∨ (splitC 58 l).countP (· == []) ≠ empties (dbl 0 l) l.length then none
  else (foldOi (lawSt (splitC 58 l).length) 0 ([], 9) (splitC 58 l)).bind fun st =>
    if (-1 : Int) ∈ st.1 ∨ 8 < st.1.length + (dbl 0 l).length ∨ (st.1.length < 8 ∧ st.2 = 9) then none else some (lawNum (toN st.1) st.2)
theorem bad_none {o : Option (List Int × Nat)} {c : List Int × Nat → Prop} [∀ s, Decidable (c s)] {f : List Int × Nat → Nat} (h : Bad o) : (o.bind fun st => if (-1 : Int) ∈ st.1 ∨ c st then none else some (f st)) = none := by
  cases o with
  | none => rfl
  | some st => rw [Option.bind_some, if_pos (.inl (h st rfl))]
theorem count_zero {ws : List L} : ws.countP (· == []) = 0 ↔ ∀ w ∈ ws, w ≠ [] := by
  rw [List.countP_eq_zero]
  simp
theorem law6_none {l : L} (h1 : dbl 0 l = []) (h2 : split2 l = [l]) : law6 l = ip6Of l := by
  have hi : ip6Of l = (sideOf true l).bind fun gs => if gs.length = 8 then some (num16 0 gs) else none := by unfold ip6Of; rw [h2]
  rw [hi]
  unfold law6
  rw [h1]
  by_cases hc : (splitC 58 l).countP (· == []) = 0
  · have hne := count_zero.mp hc
    have hl : l ≠ [] := by
      rintro rfl
      exact hne [] (by simp [splitC]) rfl
    rw [if_neg (by rintro (h | h); exact absurd h (by decide); exact h hc)]
    have hrun := run_words (isEnd := true) (n := (splitC 58 l).length) (m := (splitC 58 l).length) (gap := 9) (splitC 58 l) 0 0 [] hne (fun _ => ⟨by omega, by omega⟩) (fun e => by cases e)
    have e0 : (iL [], 9) = (([], 9) : List Int × Nat) := rfl
    rw [e0] at hrun
    rw [sideOf_ne hl]
    cases hg : foldOi (grG true (splitC 58 l).length) 0 [] (splitC 58 l) with
    | none =>
      rw [bad_none (hrun.2 hg)]; rfl
    | some gs =>
      rw [hrun.1 gs hg, Option.bind_some, Option.bind_some]
      by_cases h8 : gs.length = 8
      · rw [if_neg, if_pos h8, toN_iL, lawNum_whole h8]
        simp [iL_neg, iL_len, h8]
      · rw [if_pos, if_neg h8]
        simp [iL_neg, iL_len]
        omega
  · rw [if_pos (.inr hc)]
    by_cases hl : l = []
    · subst hl; rfl
    · rw [sideOf_empty hl]
      · rfl
      · refine Classical.byContradiction fun hn => hc (count_zero.mpr fun w hw e => hn (e ▸ hw))
theorem law6_two {x y : L} (h1 : split2 (x ++ 58 :: 58 :: y) = x :: split2 y) (h2 : dbl 0 (x ++ 58 :: 58 :: y) = x.length :: dbl (x.length + 1) (58 :: y)) (h3 : dbl (x.length + 1) (58 :: y) ≠ []) : law6 (x ++ 58 :: 58 :: y) = ip6Of (x ++ 58 :: 58 :: y) := by
  unfold law6 ip6Of
  rw [h1, h2, if_pos (.inl (by
    rw [List.length_cons]
    have := List.length_pos_iff.mpr h3
    omega))]
  rcases split2_cases y 0 with ⟨q1, q2⟩ | ⟨x', y', q1, q2, q3⟩
  · rw [q2]
    dsimp only
    have hy : y.head? = some 58 := by
      refine Classical.byContradiction fun hn => h3 ?_
      rw [dbl, if_neg (fun q => hn q.2)]
      exact dbl_nil_any q1
    have hs : sideOf true y = none := by
      cases y with
      | nil => cases hy
      | cons c r =>
        cases hy
        exact sideOf_empty (by simp) (by simp [splitC])
    rw [hs]
    cases sideOf false x <;> rfl
  · rw [q2]
    have hne := split2_ne y'
    cases hs : split2 y' with
    | nil => exact absurd hs hne
    | cons a b => rfl
theorem count_cat (a b : List L) : (a ++ [] :: b).countP (· == []) = a.countP (· == []) + 1 + b.countP (· == []) := by
  rw [List.countP_append, List.countP_cons]
  simp
  omega
theorem split_nil_count {t : L} (h : t = []) : splitC 58 t = [[]] := by subst h; rfl
/-- one side of the two colons -/
theorem side_run {isEnd : Bool} {t : L} {n k gap : Nat} (gs0 : List Nat) (hgap : t = [] → gap = gs0.length) (hc : t = [] ∨ (splitC 58 t).countP (· == []) = 0) (h1 : isEnd = true → k + (splitC 58 t).length = n) (h2 : isEnd = false → k + (splitC 58 t).length < n) (h0 : gs0 = [] ∨ isEnd = true) :
    (∀ gs, sideOf isEnd t = some gs → foldOi (lawSt n) k (iL gs0, gap) (splitC 58 t) = some (iL (gs0 ++ gs), gap)) ∧ (sideOf isEnd t = none → Bad (foldOi (lawSt n) k (iL gs0, gap) (splitC 58 t))) := by
  by_cases ht : t = []
  · subst ht
    have hs : sideOf isEnd [] = some [] := rfl
    have hg := hgap rfl
    rw [hs]
    refine ⟨fun gs e => ?_, fun e => (by cases e)⟩
    cases e
    rw [List.append_nil]
    show (lawSt n (iL gs0, gap) k []).bind _ = _
    unfold lawSt
    rw [if_pos rfl, Option.bind_some]
    show some (iL gs0, (iL gs0).length) = _
    rw [iL_len, hg]
  · have hne := count_zero.mp (hc.resolve_left ht)
    rw [sideOf_ne ht]
    have hrun := run_words (isEnd := isEnd) (n := n) (m := (splitC 58 t).length) (gap := gap) (splitC 58 t) k 0 gs0 hne (fun e => ⟨by omega, h1 e⟩) h2
    have hshift : ∀ (ws : List L) (j : Nat) (gs : List Nat), foldOi (grG isEnd (splitC 58 t).length) j (gs0 ++ gs) ws = (foldOi (grG isEnd (splitC 58 t).length) j gs ws).map fun q => gs0 ++ q := by
      intro ws
      induction ws with
      | nil => intro j gs; rfl
      | cons w r ih =>
        intro j gs
        have hst : grG isEnd (splitC 58 t).length (gs0 ++ gs) j w = (grG isEnd (splitC 58 t).length gs j w).map fun q => gs0 ++ q := by
          unfold grG
          split
          · cases ip4Of w with
            | none => rfl
            | some a => simp
          · cases hexOf w 4 with
            | none => rfl
            | some a => simp
        simp only [foldOi, hst]
        cases grG isEnd (splitC 58 t).length gs j w with
        | none => rfl
        | some s => simp only [Option.map_some, Option.bind_some]; exact ih (j + 1) s
    have hsh := hshift (splitC 58 t) 0 []
    rw [List.append_nil] at hsh
    rw [hsh] at hrun
    refine ⟨fun gs e => ?_, fun e => ?_⟩
    · rw [e] at hrun; exact hrun.1 _ rfl
    · rw [e] at hrun; exact hrun.2 rfl
theorem law6_one {x y : L} (h1 : split2 (x ++ 58 :: 58 :: y) = x :: split2 y) (h2 : dbl 0 (x ++ 58 :: 58 :: y) = x.length :: dbl (x.length + 1) (58 :: y)) (h3 : dbl (x.length + 1) (58 :: y) = []) : law6 (x ++ 58 :: 58 :: y) = ip6Of (x ++ 58 :: 58 :: y) := by
  have hy : dbl 0 y = [] ∧ split2 y = [y] := by
    have hd : dbl 0 y = [] := by
      rw [dbl] at h3
      split at h3
      · cases h3
      · exact dbl_nil_any h3
    rcases split2_cases y 0 with h | ⟨a, b, _, _, q⟩
    · exact h
    · rw [hd] at q; cases q
  have hW : splitC 58 (x ++ 58 :: 58 :: y) = splitC 58 x ++ [] :: splitC 58 y := by
    rw [splitC_cat]
    congr 1
  have hi : ip6Of (x ++ 58 :: 58 :: y) = (sideOf false x).bind fun a => (sideOf true y).bind fun b => if 7 < a.length + b.length then none else some (num16 0 (a ++ List.replicate (8 - a.length - b.length) 0 ++ b)) := by
    unfold ip6Of; rw [h1, hy.2]
  rw [hi]
  unfold law6
  rw [h2, h3, hW, count_cat]
  have hx1 : x = [] → (splitC 58 x).countP (· == []) = 1 := fun e => by rw [e]; rfl
  have hy1 : y = [] → (splitC 58 y).countP (· == []) = 1 := fun e => by rw [e]; rfl
  have hem : empties [x.length] (x ++ 58 :: 58 :: y).length = 1 + (if x = [] then 1 else 0) + (if y = [] then 1 else 0) := by
    unfold empties
    dsimp only
    rw [List.length_append, List.length_cons, List.length_cons]
    congr 1
    · congr 1
      by_cases e : x = []
      · simp [e]
      · have : x.length ≠ 0 := fun q => e (List.length_eq_zero_iff.mp q)
        rw [if_neg this, if_neg e]
    · by_cases e : y = []
      · simp [e]
      · have : y.length ≠ 0 := fun q => e (List.length_eq_zero_iff.mp q)
        rw [if_neg (by omega), if_neg e]
  rw [hem]
  have hmem : ∀ t : L, (splitC 58 t).countP (· == []) ≠ 0 → [] ∈ splitC 58 t := fun t hc => Classical.byContradiction fun hn => hc (count_zero.mpr fun w hw e => hn (e ▸ hw))
  by_cases hcx : x = [] ∨ (splitC 58 x).countP (· == []) = 0
  · by_cases hcy : y = [] ∨ (splitC 58 y).countP (· == []) = 0
    · have hcount : (splitC 58 x).countP (· == []) + 1 + (splitC 58 y).countP (· == []) = 1 + (if x = [] then 1 else 0) + (if y = [] then 1 else 0) := by
        have ex : (splitC 58 x).countP (· == []) = if x = [] then 1 else 0 := by
          by_cases e : x = []
          · rw [if_pos e, hx1 e]
          · rw [if_neg e]; exact hcx.resolve_left e
        have ey : (splitC 58 y).countP (· == []) = if y = [] then 1 else 0 := by
          by_cases e : y = []
          · rw [if_pos e, hy1 e]
          · rw [if_neg e]; exact hcy.resolve_left e
        rw [ex, ey]; omega
      rw [if_neg (by rintro (h | h); exact absurd h (by simp); exact h hcount)]
      have hlen : (splitC 58 x ++ [] :: splitC 58 y).length = (splitC 58 x).length + 1 + (splitC 58 y).length := by simp; omega
      rw [hlen, foldOi_app, Nat.zero_add]
      have hfirst : (∀ gs, sideOf false x = some gs → ∃ gap, foldOi (lawSt ((splitC 58 x).length + 1 + (splitC 58 y).length)) 0 ([], 9) (splitC 58 x) = some (iL gs, gap)) ∧ (sideOf false x = none → Bad (foldOi (lawSt ((splitC 58 x).length + 1 + (splitC 58 y).length)) 0 ([], 9) (splitC 58 x))) := by
        by_cases e : x = []
        · subst e
          refine ⟨fun gs hg => ?_, fun hg => (by cases hg)⟩
          cases hg
          exact ⟨0, rfl⟩
        · have := side_run (isEnd := false) (t := x) (n := (splitC 58 x).length + 1 + (splitC 58 y).length) (k := 0) (gap := 9) [] (fun q => absurd q e) hcx (fun q => (by cases q)) (fun _ => by omega) (.inl rfl)
          exact ⟨fun gs hg => ⟨9, this.1 gs hg⟩, this.2⟩
      cases ha : sideOf false x with
      | none =>
        have hb := hfirst.2 ha
        have hbad : Bad ((foldOi (lawSt ((splitC 58 x).length + 1 + (splitC 58 y).length)) 0 ([], 9) (splitC 58 x)).bind fun s' => foldOi (lawSt ((splitC 58 x).length + 1 + (splitC 58 y).length)) ((splitC 58 x).length) s' ([] :: splitC 58 y)) := by
          intro st e
          rw [Option.bind_eq_some_iff] at e
          obtain ⟨s, e1, e2⟩ := e
          exact bad_fold _ _ s (hb s e1) st e2
        rw [bad_none hbad]; rfl
      | some a =>
        obtain ⟨gap, hf⟩ := hfirst.1 a ha
        rw [hf, Option.bind_some, Option.bind_some]
        have hmid : foldOi (lawSt ((splitC 58 x).length + 1 + (splitC 58 y).length)) ((splitC 58 x).length) (iL a, gap) ([] :: splitC 58 y) =
            foldOi (lawSt ((splitC 58 x).length + 1 + (splitC 58 y).length)) ((splitC 58 x).length + 1) (iL a, a.length) (splitC 58 y) := by
          have : lawSt ((splitC 58 x).length + 1 + (splitC 58 y).length) (iL a, gap) (splitC 58 x).length [] = some (iL a, a.length) := by
            unfold lawSt; rw [if_pos rfl, iL_len]
          simp only [foldOi, this, Option.bind_some]
        rw [hmid]
        have hsec := side_run (isEnd := true) (t := y) (n := (splitC 58 x).length + 1 + (splitC 58 y).length) (k := (splitC 58 x).length + 1) (gap := a.length) a (fun _ => rfl) hcy (fun _ => rfl) (fun q => (by cases q)) (.inr rfl)
        cases hb : sideOf true y with
        | none => rw [bad_none (hsec.2 hb)]; rfl
        | some b =>
          rw [hsec.1 b hb, Option.bind_some, Option.bind_some]
          by_cases h7 : 7 < a.length + b.length
          · rw [if_pos h7, if_pos]
            simp [iL_len, iL_neg]
            omega
          · rw [if_neg h7, if_neg, toN_iL, lawNum_eq (by omega)]
            simp [iL_len, iL_neg]
            omega
    · rw [if_pos, sideOf_empty (fun e => hcy (.inl e)) (hmem y fun e => hcy (.inr e))]
      · cases sideOf false x <;> rfl
      · refine .inr ?_
        have e1 : y ≠ [] := fun e => hcy (.inl e)
        have e2 : (splitC 58 y).countP (· == []) ≠ 0 := fun e => hcy (.inr e)
        rw [if_neg e1]
        by_cases e : x = []
        · rw [if_pos e, hx1 e]; omega
        · rw [if_neg e]; omega
  · rw [if_pos, sideOf_empty (fun e => hcx (.inl e)) (hmem x fun e => hcx (.inr e))]
    · rfl
    · refine .inr ?_
      have e1 : x ≠ [] := fun e => hcx (.inl e)
      have e2 : (splitC 58 x).countP (· == []) ≠ 0 := fun e => hcx (.inr e)
      rw [if_neg e1]
      by_cases e : y = []
      · rw [if_pos e, hy1 e]; omega
      · rw [if_neg e]; omega
theorem law6_eq (l : L) : law6 l = ip6Of l := by
  rcases split2_cases l 0 with ⟨h1, h2⟩ | ⟨x, y, rfl, h2, h3⟩
  · exact law6_none h1 h2
  · rw [Nat.zero_add] at h3
    by_cases h : dbl (x.length + 1) (58 :: y) = []
    · exact law6_one h2 h3 h
    · exact law6_two h2 h3 h
end Mine
end
section
open PySem PySem.Calls
set_option maxRecDepth 100000
namespace Mine
/-! _law_read6, walked -/
theorem l6_dbl {Φ : Nat → List PV → Option PV} {l : L} (hl : l.length ≤ 1000) {o1 o2 o3 o4 o5 o6 o7 o8 o9 o10 o11 : Option PV} : ev Φ cLawRead61 [some (.a (.str l)), o1, o2, o3, o4, o5, o6, o7, o8, o9, o10, o11] = some (.list (nL (dbl 0 l))) := by
  have e := dbl_filter l l [] rfl
  rw [List.length_nil, ← List.range_eq_range'] at e
  rw [← e]
  unfold nL
  refine ev_comp_filter (vs := [.a (.int (l.length : Int))]) (fun k : Nat => .int (k : Int)) _ _ (List.range l.length) (evs_one (ev_bi (evs_one (ev_var rfl)) (f_len l))) (it_range _ (by omega)) rfl (fun k hk => ?_) (fun k _ => ev_var rfl)
  refine ev_cmp (x := .a (.str ((l.take (k + 2)).drop k))) ?_ (ev_str (by decide)) (c_eq_str _ _)
  have hs : sliceV (.a (.str l)) (some (k : Int)) (some ((k : Int) + 2)) = some (.a (.str ((l.take (k + 2)).drop k))) := by
    show some (PV.a (.str (pySlice l (some (k : Int)) (some ((k + 2 : Nat) : Int))))) = _
    rw [slice_both _ _ _ (by omega)]
  rw [ev]
  show (some (PV.a (.str l))).bind _ = _
  simp only [Option.bind_some, ev, get, set, b_add, part, hs]
theorem m_countB (a b : Bool) : me .count (.list [.bool a, .bool b]) [.a (.bool true)] = some (.a (.int (((if a then 1 else 0) + (if b then 1 else 0) : Nat) : Int))) := by
  cases a <;> cases b <;> rfl
theorem m_countS (W : List L) : me .count (.list (W.map .str)) [.a (.str [])] = some (.a (.int ((W.countP (· == []) : Nat) : Int))) := by
  unfold me
  simp only [strs_map, Option.map_some]
theorem l6_empties {Φ : Nat → List PV → Option PV} {l : L} {D : List Nat} {o1 o4 o5 o6 o7 o8 o9 o10 o11 : Option PV} :
    ex Φ (.ite (.cmp .Eq (.bi .len (.cons (.var 2) .nil)) (.int 1)) (.seq (.assign 3 (.bin .Add (.int 1) (.me .count (.list (.cons (.cmp .Eq (.idx (.var 2) (.int 0)) (.int 0)) (.cons (.cmp .Eq (.idx (.var 2) (.int 0)) (.bin .Sub (.bi .len (.cons (.var 0) .nil)) (.int 2))) .nil))) (.cons (.bool true) .nil))))
      .nil) .nil) [some (.a (.str l)), o1, some (.list (nL D)), some (.a (.int 0)), o4, o5, o6, o7, o8, o9, o10, o11] = some (.next, [some (.a (.str l)), o1, some (.list (nL D)), some (.a (.int ((empties D l.length : Nat) : Int))), o4, o5, o6, o7, o8, o9, o10, o11]) := by
  have ht : ev Φ (.cmp .Eq (.bi .len (.cons (.var 2) .nil)) (.int 1)) [some (.a (.str l)), o1, some (.list (nL D)), some (.a (.int 0)), o4, o5, o6, o7, o8, o9, o10, o11] = some (.a (.bool (decide (((nL D).length : Int) = 1)))) := ev_cmp (ev_bi (evs_one (ev_var rfl)) (f_lenL _)) ev_int (c_eq_int _ _)
  match D, ht with
  | [], ht => exact ex_skip ht
  | a :: b :: r, ht =>
    have hd : decide (((nL (a :: b :: r)).length : Int) = 1) = false := by
      refine decide_eq_false ?_
      rw [nL_len]
      simp
      omega
    rw [hd] at ht
    exact ex_skip ht
  | [d], ht =>
    rw [ex_ite_t ht, ex_one]
    have hi : index (.list (nL [d])) (.a (.int 0)) = some (.a (.int (d : Int))) := rfl
    have e1 : ev Φ (.cmp .Eq (.idx (.var 2) (.int 0)) (.int 0)) [some (.a (.str l)), o1, some (.list (nL [d])), some (.a (.int 0)), o4, o5, o6, o7, o8, o9, o10, o11] = some (.a (.bool (decide ((d : Int) = 0)))) := ev_cmp (ev_idx (ev_var rfl) ev_int hi) ev_int (c_eq_int _ _)
    have e2 : ev Φ (.cmp .Eq (.idx (.var 2) (.int 0)) (.bin .Sub (.bi .len (.cons (.var 0) .nil)) (.int 2))) [some (.a (.str l)), o1, some (.list (nL [d])), some (.a (.int 0)), o4, o5, o6, o7, o8, o9, o10, o11] = some (.a (.bool (decide ((d : Int) = (l.length : Int) - 2)))) :=
      ev_cmp (ev_idx (ev_var rfl) ev_int hi) (ev_bin (ev_bi (evs_one (ev_var rfl)) (f_len l)) ev_int (b_sub _ _)) (c_eq_int _ _)
    have e3 : ev Φ (.list (.cons (.cmp .Eq (.idx (.var 2) (.int 0)) (.int 0)) (.cons (.cmp .Eq (.idx (.var 2) (.int 0)) (.bin .Sub (.bi .len (.cons (.var 0) .nil)) (.int 2))) .nil))) [some (.a (.str l)), o1, some (.list (nL [d])), some (.a (.int 0)), o4, o5, o6, o7, o8, o9, o10, o11] =
        some (.list [.bool (decide ((d : Int) = 0)), .bool (decide ((d : Int) = (l.length : Int) - 2))]) := by
      rw [ev, evs_cons e1 (evs_one e2), Option.bind_some, if_pos (by rw [sizeLine_eq]; simp)]
      rfl
    rw [ex_assign (ev_bin ev_int (ev_me e3 (evs_one (by rw [ev])) (m_countB _ _)) (b_add _ _))]
    have hv : (1 : Int) + ((((if decide ((d : Int) = 0) = true then 1 else 0) + (if decide ((d : Int) = (l.length : Int) - 2) = true then 1 else 0) : Nat)) : Int) = ((empties [d] l.length : Nat) : Int) := by
      unfold empties
      dsimp only
      have a1 : (if decide ((d : Int) = 0) = true then 1 else 0) = if d = 0 then 1 else 0 := by
        by_cases h : d = 0
        · simp [h]
        · simp [h]
      have a2 : (if decide ((d : Int) = (l.length : Int) - 2) = true then 1 else 0) = if d + 2 = l.length then 1 else 0 := by
        by_cases h : d + 2 = l.length
        · have : (d : Int) = (l.length : Int) - 2 := by omega
          simp [h, this]
        · have : ¬ (d : Int) = (l.length : Int) - 2 := by omega
          simp [h, this]
      rw [a1, a2]
      omega
    rw [hv]
    rfl
theorem l6_step {Φ : Nat → List PV → Option PV} (h19 : ∀ l, Φ 19 [S1 l] = some (optI (ip4Of l))) (h20 : ∀ l, short l = true → Φ 20 [S1 l] = some (.a (.int (lawGroup l)))) {o0 o2 o3 o9 o10 o11 : Option PV} {W : List L} (hW : W.length ≤ 1001) (st : List Int × Nat) (k : Nat) (w : L) (hw : short w = true) (hk : k < W.length) (hG : st.1.length ≤ 2 * k) (o6 o7 o8 : Option PV) :
    ∃ ρ', ex Φ lLawRead62 [o0, some (.list (W.map .str)), o2, o3, some (.list (st.1.map .int)), some (.a (.int (st.2 : Int))), some (.a (.int (k : Int))), some (.a (.str w)), o8, o9, o10, o11] = some (outO (.a .none) (lawSt W.length st k w) ρ') ∧
      okO' (fun (st : List Int × Nat) ρ => ∃ o6 o7 o8, ρ = [o0, some (.list (W.map .str)), o2, o3, some (.list (st.1.map .int)), some (.a (.int (st.2 : Int))), o6, o7, o8, o9, o10, o11] ∧ st.1.length ≤ 2 * (k + 1)) (lawSt W.length st k w) ρ' := by
  obtain ⟨G, gap⟩ := st
  dsimp only at hG ⊢
  unfold lLawRead62
  rw [ex_one]
  have ht1 : ev Φ (.cmp .Eq (.var 7) (.str [])) [o0, some (.list (W.map .str)), o2, o3, some (.list (G.map .int)), some (.a (.int (gap : Int))), some (.a (.int (k : Int))), some (.a (.str w)), o8, o9, o10, o11] = some (.a (.bool (decide (w = [])))) := ev_cmp (ev_var rfl) (ev_str (by decide)) (c_eq_str _ _)
  unfold lawSt
  dsimp only
  by_cases h0 : w = []
  · rw [decide_eq_true h0] at ht1
    rw [if_pos h0, ex_ite_t ht1, ex_one, ex_assign (ev_bi (evs_one (ev_var rfl)) (f_lenL _))]
    refine ⟨_, rfl, some (.a (.int (k : Int))), some (.a (.str w)), o8, ?_, by dsimp only; omega⟩
    rw [List.length_map]
    rfl
  · rw [decide_eq_false h0] at ht1
    rw [if_neg h0, ex_ite_f ht1, ex_one]
    have ht2 : ev Φ (.cmp .In (.str [46]) (.var 7)) [o0, some (.list (W.map .str)), o2, o3, some (.list (G.map .int)), some (.a (.int (gap : Int))), some (.a (.int (k : Int))), some (.a (.str w)), o8, o9, o10, o11] = some (.a (.bool (decide (46 ∈ w)))) := ev_cmp (ev_str (by decide)) (ev_var rfl) (c_in_str _ _)
    by_cases h1 : 46 ∈ w
    · rw [decide_eq_true h1] at ht2
      rw [if_pos h1, ex_ite_t ht2]
      have c19 := h19 w
      simp only [S1] at c19
      have hne : ∀ p : PV, ev Φ (.cmp .NotEq (.var 6) (.bin .Sub (.bi .len (.cons (.var 1) .nil)) (.int 1))) [o0, some (.list (W.map .str)), o2, o3, some (.list (G.map .int)), some (.a (.int (gap : Int))), some (.a (.int (k : Int))), some (.a (.str w)), some p, o9, o10, o11] = some (.a (.bool (!decide ((k : Int) = (W.length : Int) - 1)))) := fun p => by
        have := ev_cmp (Φ := Φ) (ρ := [o0, some (.list (W.map .str)), o2, o3, some (.list (G.map .int)), some (.a (.int (gap : Int))), some (.a (.int (k : Int))), some (.a (.str w)), some p, o9, o10, o11]) (l := .var 6) (r := .bin .Sub (.bi .len (.cons (.var 1) .nil)) (.int 1)) (op := .NotEq) (ev_var rfl) (ev_bin (ev_bi (evs_one (ev_var rfl)) (f_lenL _)) ev_int (b_sub _ _)) (c_ne_int _ _)
        rw [List.length_map] at this
        exact this
      rw [ex_next (ex_assign (ev_call (evs_one (ev_var rfl)) c19))]
      cases hi : ip4Of w with
      | none =>
        rw [ex_ret ((ex_ite_t (ev_boolE (ev_or_t (ev_isN rfl)))).trans ex_retNone)]
        exact ⟨_, rfl, trivial⟩
      | some t =>
        simp only [set, optI]
        by_cases hk1 : k + 1 = W.length
        · have hd : (!decide ((k : Int) = (W.length : Int) - 1)) = false := by
            have : (k : Int) = (W.length : Int) - 1 := by omega
            simp [this]
          have hne' := hne (.a (.int (t : Int)))
          rw [hd] at hne'
          rw [if_pos hk1, ex_next (ex_skip (ev_boolE (ev_or_f (ev_isI rfl) (ev_or_f hne' ev_bnil)))), ex_one]
          have d1 : binop .FloorDiv (.a (.int (t : Int))) (.a (.int 65536)) = some (.a (.int ((t / 65536 : Nat) : Int))) := b_divN t 65536 (by decide) (by decide)
          have d2 : binop .Mod (.a (.int (t : Int))) (.a (.int 65536)) = some (.a (.int ((t % 65536 : Nat) : Int))) := b_modN t 65536 (by decide)
          have el : ev Φ (.list (.cons (.bin .FloorDiv (.var 8) (.int 65536)) (.cons (.bin .Mod (.var 8) (.int 65536)) .nil))) [o0, some (.list (W.map .str)), o2, o3, some (.list (G.map .int)), some (.a (.int (gap : Int))), some (.a (.int (k : Int))), some (.a (.str w)), some (.a (.int (t : Int))), o9, o10, o11] =
              some (.list [.int ((t / 65536 : Nat) : Int), .int ((t % 65536 : Nat) : Int)]) := by
            rw [ev, evs_cons (ev_bin (ev_var rfl) ev_int d1) (evs_one (ev_bin (ev_var rfl) ev_int d2)), Option.bind_some, if_pos (by rw [sizeLine_eq]; simp)]
            rfl
          have hcat := b_app (G.map .int) [.int ((t / 65536 : Nat) : Int), .int ((t % 65536 : Nat) : Int)] (by rw [sizeLine_eq]; simp; omega)
          have hm : G.map At.int ++ [.int ((t / 65536 : Nat) : Int), .int ((t % 65536 : Nat) : Int)] = (G ++ [((t / 65536 : Nat) : Int), ((t % 65536 : Nat) : Int)]).map .int := by simp
          rw [hm] at hcat
          refine ⟨_, ex_assign (ev_bin (ev_var rfl) el hcat), _, _, _, rfl, ?_⟩
          dsimp only
          rw [List.length_append]
          simp
          omega
        · have hd : (!decide ((k : Int) = (W.length : Int) - 1)) = true := by
            have : ¬ (k : Int) = (W.length : Int) - 1 := by omega
            simp [this]
          have hne' := hne (.a (.int (t : Int)))
          rw [hd] at hne'
          rw [if_neg hk1, ex_ret ((ex_ite_t (ev_boolE (ev_or_f (ev_isI rfl) (ev_or_t hne')))).trans ex_retNone)]
          exact ⟨_, rfl, trivial⟩
    · rw [decide_eq_false h1] at ht2
      rw [if_neg h1, ex_ite_f ht2, ex_one]
      have c20 := h20 w hw
      simp only [S1] at c20
      have ec : ev Φ (.call 20 (.cons (.var 7) .nil)) [o0, some (.list (W.map .str)), o2, o3, some (.list (G.map .int)), some (.a (.int (gap : Int))), some (.a (.int (k : Int))), some (.a (.str w)), o8, o9, o10, o11] = some (.a (.int (lawGroup w))) := ev_call (evs_one (ev_var rfl)) c20
      rw [ex, ec]
      simp only [Option.bind_some, get]
      rw [if_pos (by rw [sizeLine_eq]; simp; omega)]
      refine ⟨_, rfl, some (.a (.int (k : Int))), some (.a (.str w)), o8, ?_, ?_⟩
      · have hm : G.map At.int ++ [.int (lawGroup w)] = (G ++ [lawGroup w]).map .int := by simp
        rw [hm]; rfl
      · dsimp only
        rw [List.length_append]
        simp
        omega
end Mine
end
section
open PySem PySem.Calls
set_option maxRecDepth 100000
namespace Mine
theorem iL_nL (gs : List Nat) : (iL gs).map At.int = nL gs := by simp [iL, nL, Function.comp_def]
theorem l6_num {Φ : Nat → List PV → Option PV} {o0 o1 o2 o3 o7 o8 o11 : Option PV} {gs : List Nat} {gap : Nat} (hl : gs.length ≤ 8) (hg : ∀ g ∈ gs, g < 65536) (o6 o10 : Option PV) :
    ∃ ρ', ex Φ (.forS 6 .range (.cons (.bi .len (.cons (.var 4) .nil)) .nil) lLawRead61) [o0, o1, o2, o3, some (.list (nL gs)), some (.a (.int (gap : Int))), o6, o7, o8, some (.a (.int 0)), o10, o11] = some (.next, ρ') ∧ get ρ' 9 = some (.a (.int ((lawNum gs gap : Nat) : Int))) := by
  have step : ∀ (n : Nat) ρ (p : Nat), p ∈ List.range gs.length → (∃ o6 o10, ρ = [o0, o1, o2, o3, some (.list (nL gs)), some (.a (.int (gap : Int))), o6, o7, o8, some (.a (.int (n : Int))), o10, o11]) →
      ∃ ρ', ex Φ lLawRead61 (set ρ 6 (.a (.int (p : Int)))) = some (outO (.a .none) (some (n + gs.getD p 0 * 65536 ^ pw gs.length gap p)) ρ') ∧ okO' (fun (n : Nat) ρ => ∃ o6 o10, ρ = [o0, o1, o2, o3, some (.list (nL gs)), some (.a (.int (gap : Int))), o6, o7, o8, some (.a (.int (n : Int))), o10, o11]) (some (n + gs.getD p 0 * 65536 ^ pw gs.length gap p)) ρ' := by
    rintro n ρ p hp ⟨o6, o10, rfl⟩
    have hp := List.mem_range.mp hp
    simp only [set]
    have hw : ev Φ (.ite (.cmp .Lt (.var 6) (.var 5)) (.bin .Sub (.int 7) (.var 6)) (.bin .Sub (.bin .Sub (.bi .len (.cons (.var 4) .nil)) (.int 1)) (.var 6)))
        [o0, o1, o2, o3, some (.list (nL gs)), some (.a (.int (gap : Int))), some (.a (.int (p : Int))), o7, o8, some (.a (.int (n : Int))), o10, o11] = some (.a (.int ((pw gs.length gap p : Nat) : Int))) := by
      have ht : ev Φ (.cmp .Lt (.var 6) (.var 5)) [o0, o1, o2, o3, some (.list (nL gs)), some (.a (.int (gap : Int))), some (.a (.int (p : Int))), o7, o8, some (.a (.int (n : Int))), o10, o11] = some (.a (.bool (decide ((p : Int) < (gap : Int))))) := ev_cmp (ev_var rfl) (ev_var rfl) (c_lt _ _)
      unfold pw
      by_cases h : p < gap
      · rw [decide_eq_true (show (p : Int) < (gap : Int) by omega)] at ht
        rw [if_pos h]
        exact ev_iteT ht (ev_bin ev_int (ev_var rfl) (b_subN 7 p (by omega)))
      · rw [decide_eq_false (show ¬ (p : Int) < (gap : Int) by omega)] at ht
        rw [if_neg h]
        have hlen := f_lenL (nL gs)
        rw [nL_len] at hlen
        exact ev_iteF ht (ev_bin (ev_bin (ev_bi (evs_one (ev_var rfl)) hlen) ev_int (b_subN gs.length 1 (by omega))) (ev_var rfl) (b_subN _ p (by omega)))
    have hpw : pw gs.length gap p ≤ 7 := by unfold pw; split <;> omega
    generalize pw gs.length gap p = e at hw hpw ⊢
    have hpow : binop .Pow (.a (.int 65536)) (.a (.int (e : Int))) = some (.a (.int ((65536 ^ e : Nat) : Int))) := b_powN 65536 e (by omega) (by decide)
    have hget := nL_get gs p hp
    have hglt : gs.getD p 0 < 65536 := by
      simp only [List.getD, List.getElem?_eq_getElem hp, Option.getD_some]
      exact hg _ (List.getElem_mem _)
    generalize gs.getD p 0 = g at hget hglt ⊢
    have hmul : binop .Mult (.a (.int (g : Int))) (.a (.int ((65536 ^ e : Nat) : Int))) = some (.a (.int ((g * 65536 ^ e : Nat) : Int))) := by
      rw [b_mulL _ _ (by rw [Int.natAbs_natCast]; omega), ← Int.natCast_mul]
    generalize 65536 ^ e = P at hpow hmul ⊢
    have hadd : binop .Add (.a (.int (n : Int))) (.a (.int ((g * P : Nat) : Int))) = some (.a (.int ((n + g * P : Nat) : Int))) := by rw [b_add, ← Int.natCast_add]
    unfold lLawRead61
    rw [ex_next (ex_assign hw), ex_one, ex_assign (ev_bin (ev_var rfl) (ev_bin (ev_idx (ev_var rfl) (ev_var rfl) hget) (ev_bin ev_int (ev_var rfl) hpow) hmul) hadd)]
    exact ⟨_, rfl, _, _, rfl⟩
  have hlen := f_lenL (nL gs)
  rw [nL_len] at hlen
  obtain ⟨ρ', hgo, hR⟩ := forGo_O (R := fun (n : Nat) ρ => ∃ o6 o10, ρ = [o0, o1, o2, o3, some (.list (nL gs)), some (.a (.int (gap : Int))), o6, o7, o8, some (.a (.int (n : Int))), o10, o11]) (enc := fun k : Nat => .int (k : Int)) (body := fun a ρ => ex Φ lLawRead61 (set ρ 6 (.a a))) (f := fun n p => some (n + gs.getD p 0 * 65536 ^ pw gs.length gap p)) (.a .none) (List.range gs.length) 0 [o0, o1, o2, o3, some (.list (nL gs)), some (.a (.int (gap : Int))), o6, o7, o8, some (.a (.int 0)), o10, o11] step ⟨o6, o10, rfl⟩
  rw [foldO_some] at hgo hR
  obtain ⟨o6', o10', rfl⟩ := hR
  refine ⟨_, (ex_for (evs_one (ev_bi (evs_one (ev_var rfl)) hlen)) (it_range _ (by omega))).trans hgo, rfl⟩
theorem ints_ofI (G : List Int) : intsOf (G.map At.int) = some G := ints_mapI G
theorem c_in_int (i : Int) (G : List Int) : cmpop .In (.a (.int i)) (.list (G.map .int)) = some (decide (i ∈ G)) := by
  unfold cmpop
  simp only [ints_ofI, Option.map_some]
  congr 1
  rw [Bool.eq_iff_iff]
  simp
/-- a state of the fold with no -1 is one of numbers below 65536 -/
def Clean (st : List Int × Nat) : Prop := (-1 : Int) ∈ st.1 ∨ ∃ gs : List Nat, st.1 = iL gs ∧ ∀ g ∈ gs, g < 65536
theorem lawSt_clean {n k : Nat} {st st' : List Int × Nat} {w : L} (h : Clean st) (e : lawSt n st k w = some st') : Clean st' := by
  unfold lawSt at e
  split at e
  · cases e; exact h
  · split at e
    · split at e
      · rename_i t ht
        split at e
        · cases e
          rcases h with h | ⟨gs, h1, h2⟩
          · exact .inl (List.mem_append_left _ h)
          · refine .inr ⟨gs ++ [t / 65536, t % 65536], by rw [iL_app, ← h1]; rfl, fun g hg => ?_⟩
            have := (ip4_inv ht).2
            simp only [List.mem_append, List.mem_cons, List.not_mem_nil, or_false] at hg
            rcases hg with hg | rfl | rfl
            · exact h2 g hg
            · omega
            · omega
        · cases e
      · cases e
    · cases e
      rcases h with h | ⟨gs, h1, h2⟩
      · exact .inl (List.mem_append_left _ h)
      · cases hx : hexOf w 4 with
        | none => exact .inl (by simp [lawGroup, hx])
        | some g =>
          refine .inr ⟨gs ++ [g], by rw [iL_app, ← h1]; simp [lawGroup, hx, iL], fun x hg => ?_⟩
          simp only [List.mem_append, List.mem_cons, List.not_mem_nil, or_false] at hg
          rcases hg with hg | rfl
          · exact h2 x hg
          · exact hexOf_lt (by decide) hx
theorem fold_clean {n : Nat} : ∀ {ws : List L} {k : Nat} {st st' : List Int × Nat}, Clean st → foldOi (lawSt n) k st ws = some st' → Clean st'
  | [], _, _, _, h, e => by cases e; exact h
  | w :: r, k, st, st', h, e => by
    simp only [foldOi, Option.bind_eq_some_iff] at e
    obtain ⟨s, h1, e⟩ := e
    exact fold_clean (lawSt_clean h h1) e
theorem x21 {Φ : Nat → List PV → Option PV} (h19 : ∀ l, Φ 19 [S1 l] = some (optI (ip4Of l))) (h20 : ∀ l, short l = true → Φ 20 [S1 l] = some (.a (.int (lawGroup l)))) {l : L} (hs : short l = true) :
    run Φ 12 bLawRead6 [S1 l] = some (optI (ip6Of l)) := by
  rw [← law6_eq]
  have hl := (short_iff.mp hs).1
  have hm := m_split l 58 (by decide) hl
  have hcount := splitC_count 58 l
  have hsub : ∀ w ∈ splitC 58 l, short w = true := fun w hw => short_part hs hw
  unfold law6
  have hcl : ∀ st, foldOi (lawSt (splitC 58 l).length) 0 ([], 9) (splitC 58 l) = some st → Clean st := fun st e => fold_clean (.inr ⟨[], rfl, by simp⟩) e
  generalize splitC 58 l = W at hm hcount hsub hcl ⊢
  unfold run bLawRead6
  rw [ex_next (ex_assign (ev_me (ev_var rfl) (evs_one (ev_str (by decide))) hm))]
  have e1 : set (initS 12 [S1 l]) 1 (.list (W.map .str)) = [some (.a (.str l)), some (.list (W.map .str)), none, none, none, none, none, none, none, none, none, none] := rfl
  rw [e1, ex_next (ex_assign (l6_dbl hl)), ex_next (ex_assign ev_int)]
  simp only [set]
  rw [ex_next l6_empties]
  generalize dbl 0 l = D
  generalize empties D l.length = e
  have hD : ev Φ (.cmp .Gt (.bi .len (.cons (.var 2) .nil)) (.int 1)) [some (.a (.str l)), some (.list (W.map .str)), some (.list (nL D)), some (.a (.int (e : Int))), none, none, none, none, none, none, none, none] = some (.a (.bool (decide (1 < D.length)))) := by
    have := ev_cmp (Φ := Φ) (ρ := [some (.a (.str l)), some (.list (W.map .str)), some (.list (nL D)), some (.a (.int (e : Int))), none, none, none, none, none, none, none, none]) (l := .bi .len (.cons (.var 2) .nil)) (r := .int 1) (ev_bi (evs_one (ev_var rfl)) (f_lenL _)) ev_int (c_gt _ _)
    rw [this, nL_len]
    congr 4
    exact propext ⟨fun h => by omega, fun h => by omega⟩
  have hE : ev Φ (.cmp .NotEq (.me .count (.var 1) (.cons (.str []) .nil)) (.var 3)) [some (.a (.str l)), some (.list (W.map .str)), some (.list (nL D)), some (.a (.int (e : Int))), none, none, none, none, none, none, none, none] = some (.a (.bool (!decide (W.countP (· == []) = e)))) := by
    have := ev_cmp (Φ := Φ) (ρ := [some (.a (.str l)), some (.list (W.map .str)), some (.list (nL D)), some (.a (.int (e : Int))), none, none, none, none, none, none, none, none]) (l := .me .count (.var 1) (.cons (.str []) .nil)) (r := .var 3) (ev_me (ev_var rfl) (evs_one (ev_str (by decide))) (m_countS W)) (ev_var rfl) (c_ne_int _ _)
    rw [this]
    congr 5
    exact propext ⟨fun h => by omega, fun h => by omega⟩
  by_cases hc : 1 < D.length ∨ W.countP (· == []) ≠ e
  · rw [if_pos hc]
    by_cases h1 : 1 < D.length
    · rw [decide_eq_true h1] at hD
      rw [ex_ret ((ex_ite_t (ev_boolE (ev_or_t hD))).trans ex_retNone)]; rfl
    · have h2 := hc.resolve_left h1
      rw [decide_eq_false h1] at hD
      rw [decide_eq_false h2] at hE
      rw [ex_ret ((ex_ite_t (ev_boolE (ev_or_f hD (ev_or_t hE)))).trans ex_retNone)]; rfl
  · rw [if_neg hc]
    simp only [not_or, Nat.not_lt, Classical.not_not] at hc
    obtain ⟨c1, c2⟩ := hc
    rw [decide_eq_false (by omega)] at hD
    rw [decide_eq_true c2] at hE
    rw [ex_next (ex_skip (ev_boolE (ev_or_f hD (ev_or_f hE ev_bnil)))), ex_next (ex_assign (show ev Φ (.list .nil) _ = some (.list []) by rw [ev, evs]; rfl)), ex_next (ex_assign ev_int)]
    simp only [set]
    obtain ⟨ρ', hgo, hR⟩ : ∃ ρ', enumGo (fun k a ρ => ex Φ lLawRead62 (set (set ρ 6 (.a (.int k))) 7 (.a a))) ((0 : Nat) : Int) (W.map .str) [some (.a (.str l)), some (.list (W.map .str)), some (.list (nL D)), some (.a (.int (e : Int))), some (.list []), some (.a (.int 9)), none, none, none, none, none, none] =
        some (outO (.a .none) (foldOi (lawSt W.length) 0 ([], 9) W) ρ') ∧ okO' (fun (st : List Int × Nat) ρ => ∃ o6 o7 o8, ρ = [some (.a (.str l)), some (.list (W.map .str)), some (.list (nL D)), some (.a (.int (e : Int))), some (.list (st.1.map .int)), some (.a (.int (st.2 : Int))), o6, o7, o8, none, none, none] ∧ st.1.length ≤ 2 * (0 + W.length)) (foldOi (lawSt W.length) 0 ([], 9) W) ρ' := by
      refine enumGo_K (R := fun k (st : List Int × Nat) ρ => ∃ o6 o7 o8, ρ = [some (.a (.str l)), some (.list (W.map .str)), some (.list (nL D)), some (.a (.int (e : Int))), some (.list (st.1.map .int)), some (.a (.int (st.2 : Int))), o6, o7, o8, none, none, none] ∧ st.1.length ≤ 2 * k) (.a .none) W 0 ([], 9) _ ?_ ⟨none, none, none, rfl, by simp⟩
      rintro st ρ k w hw _ hk ⟨o6, o7, o8, rfl, hG⟩
      exact l6_step h19 h20 (by omega) st k w (hsub w hw) (by omega) hG o6 o7 o8
    have hfor : ∀ t, ex Φ (.seq (.forEnum 6 7 (.var 1) lLawRead62) t) [some (.a (.str l)), some (.list (W.map .str)), some (.list (nL D)), some (.a (.int (e : Int))), some (.list []), some (.a (.int 9)), none, none, none, none, none, none] =
        (some (outO (.a .none) (foldOi (lawSt W.length) 0 ([], 9) W) ρ')).bind fun p => match p.1 with | .next => ex Φ t p.2 | .ret v => some (.ret v, p.2) := fun t => by
      rw [ex, ex, ev]
      simp only [get, Option.bind_some]
      have : (fun k a ρ => ex Φ lLawRead62 (set (set ρ 6 (.a (.int k))) 7 (.a a))) = (fun k a ρ => ex Φ lLawRead62 (set (set ρ 6 (.a (.int k))) 7 (.a a))) := rfl
      rw [show (0 : Int) = ((0 : Nat) : Int) from rfl, hgo]
      rfl
    rw [hfor]
    cases hf : foldOi (lawSt W.length) 0 ([], 9) W with
    | none => rfl
    | some st =>
      rw [hf] at hR
      obtain ⟨o6, o7, o8, rfl, hlen⟩ := hR
      have hclean := hcl st hf
      obtain ⟨G, gap⟩ := st
      dsimp only [outO] at hclean hlen ⊢
      simp only [Option.bind_some]
      have t1 : ev Φ (.cmp .In (.int (-1)) (.var 4)) [some (.a (.str l)), some (.list (W.map .str)), some (.list (nL D)), some (.a (.int (e : Int))), some (.list (G.map .int)), some (.a (.int (gap : Int))), o6, o7, o8, none, none, none] = some (.a (.bool (decide ((-1 : Int) ∈ G)))) := ev_cmp ev_int (ev_var rfl) (c_in_int _ _)
      have t2 : ev Φ (.cmp .Gt (.bi .len (.cons (.var 4) .nil)) (.bin .Sub (.int 8) (.bi .len (.cons (.var 2) .nil)))) [some (.a (.str l)), some (.list (W.map .str)), some (.list (nL D)), some (.a (.int (e : Int))), some (.list (G.map .int)), some (.a (.int (gap : Int))), o6, o7, o8, none, none, none] = some (.a (.bool (decide (8 < G.length + D.length)))) := by
        have := ev_cmp (Φ := Φ) (ρ := [some (.a (.str l)), some (.list (W.map .str)), some (.list (nL D)), some (.a (.int (e : Int))), some (.list (G.map .int)), some (.a (.int (gap : Int))), o6, o7, o8, none, none, none]) (l := .bi .len (.cons (.var 4) .nil)) (r := .bin .Sub (.int 8) (.bi .len (.cons (.var 2) .nil))) (ev_bi (evs_one (ev_var rfl)) (f_lenL _)) (ev_bin ev_int (ev_bi (evs_one (ev_var rfl)) (f_lenL _)) (b_sub _ _)) (c_gt _ _)
        rw [this, nL_len, List.length_map]
        congr 4
        exact propext ⟨fun h => by omega, fun h => by omega⟩
      have t3 : ev Φ (.cmp .Lt (.bi .len (.cons (.var 4) .nil)) (.int 8)) [some (.a (.str l)), some (.list (W.map .str)), some (.list (nL D)), some (.a (.int (e : Int))), some (.list (G.map .int)), some (.a (.int (gap : Int))), o6, o7, o8, none, none, none] = some (.a (.bool (decide (G.length < 8)))) := by
        have := ev_cmp (Φ := Φ) (ρ := [some (.a (.str l)), some (.list (W.map .str)), some (.list (nL D)), some (.a (.int (e : Int))), some (.list (G.map .int)), some (.a (.int (gap : Int))), o6, o7, o8, none, none, none]) (l := .bi .len (.cons (.var 4) .nil)) (r := .int 8) (ev_bi (evs_one (ev_var rfl)) (f_lenL _)) ev_int (c_lt _ _)
        rw [this, List.length_map]
        congr 4
        exact propext ⟨fun h => by omega, fun h => by omega⟩
      have t4 : ev Φ (.cmp .Eq (.var 5) (.int 9)) [some (.a (.str l)), some (.list (W.map .str)), some (.list (nL D)), some (.a (.int (e : Int))), some (.list (G.map .int)), some (.a (.int (gap : Int))), o6, o7, o8, none, none, none] = some (.a (.bool (decide (gap = 9)))) := by
        rw [ev_cmp (ev_var rfl) ev_int (c_eq_int _ _)]
        congr 4
        exact propext ⟨fun h => by omega, fun h => by omega⟩
      have t5 : ev Φ (.boolE true (.cons (.cmp .Lt (.bi .len (.cons (.var 4) .nil)) (.int 8)) (.cons (.cmp .Eq (.var 5) (.int 9)) .nil))) [some (.a (.str l)), some (.list (W.map .str)), some (.list (nL D)), some (.a (.int (e : Int))), some (.list (G.map .int)), some (.a (.int (gap : Int))), o6, o7, o8, none, none, none] = some (.a (.bool (decide (G.length < 8 ∧ gap = 9)))) := by
        by_cases a1 : G.length < 8
        · rw [decide_eq_true a1] at t3
          by_cases a2 : gap = 9
          · rw [decide_eq_true a2] at t4
            rw [decide_eq_true ⟨a1, a2⟩]
            exact ev_boolE (ev_and_t t3 (ev_and_t t4 ev_bnil))
          · rw [decide_eq_false a2] at t4
            rw [decide_eq_false fun q => a2 q.2]
            exact ev_boolE (ev_and_t t3 (ev_and_f t4))
        · rw [decide_eq_false a1] at t3
          rw [decide_eq_false fun q => a1 q.1]
          exact ev_boolE (ev_and_f t3)
      have tt : ev Φ (.boolE false (.cons (.cmp .In (.int (-1)) (.var 4)) (.cons (.cmp .Gt (.bi .len (.cons (.var 4) .nil)) (.bin .Sub (.int 8) (.bi .len (.cons (.var 2) .nil)))) (.cons (.boolE true (.cons (.cmp .Lt (.bi .len (.cons (.var 4) .nil)) (.int 8)) (.cons (.cmp .Eq (.var 5) (.int 9)) .nil))) .nil)))) [some (.a (.str l)), some (.list (W.map .str)), some (.list (nL D)), some (.a (.int (e : Int))), some (.list (G.map .int)), some (.a (.int (gap : Int))), o6, o7, o8, none, none, none] =
          some (.a (.bool (decide ((-1 : Int) ∈ G ∨ 8 < G.length + D.length ∨ (G.length < 8 ∧ gap = 9))))) := by
        by_cases a1 : (-1 : Int) ∈ G
        · rw [decide_eq_true a1] at t1
          rw [decide_eq_true (.inl a1)]
          exact ev_boolE (ev_or_t t1)
        · rw [decide_eq_false a1] at t1
          by_cases a2 : 8 < G.length + D.length
          · rw [decide_eq_true a2] at t2
            rw [decide_eq_true (.inr (.inl a2))]
            exact ev_boolE (ev_or_f t1 (ev_or_t t2))
          · rw [decide_eq_false a2] at t2
            by_cases a3 : G.length < 8 ∧ gap = 9
            · rw [decide_eq_true a3] at t5
              rw [decide_eq_true (.inr (.inr a3))]
              exact ev_boolE (ev_or_f t1 (ev_or_f t2 (ev_or_t t5)))
            · rw [decide_eq_false a3] at t5
              rw [decide_eq_false fun q => q.elim a1 fun q => q.elim a2 a3]
              exact ev_boolE (ev_or_f t1 (ev_or_f t2 (ev_or_f t5 ev_bnil)))
      by_cases hbad : (-1 : Int) ∈ G ∨ 8 < G.length + D.length ∨ (G.length < 8 ∧ gap = 9)
      · rw [decide_eq_true hbad] at tt
        rw [if_pos hbad, ex_ret ((ex_ite_t tt).trans ex_retNone)]; rfl
      · rw [decide_eq_false hbad] at tt
        rw [if_neg hbad, ex_next (ex_skip tt), ex_next (ex_assign ev_int)]
        simp only [not_or, Nat.not_lt] at hbad
        obtain ⟨gs, hgs, hlt⟩ := hclean.resolve_left hbad.1
        dsimp only at hgs
        subst hgs
        rw [iL_nL, toN_iL]
        have hl8 : gs.length ≤ 8 := by have := hbad.2.1; rw [iL_len] at this; omega
        obtain ⟨ρ2, hn, hget⟩ := l6_num (Φ := Φ) (o0 := some (.a (.str l))) (o1 := some (.list (W.map .str))) (o2 := some (.list (nL D))) (o3 := some (.a (.int (e : Int)))) (o7 := o7) (o8 := o8) (o11 := none) (gap := gap) hl8 hlt o6 none
        simp only [set]
        rw [ex_next hn, ex_one, ex_retF (ev_var hget) rfl]
        rfl
end Mine
end
section
open PySem PySem.Calls
set_option maxRecDepth 100000
namespace Mine
/-! what was written is read back -/
theorem hx_dg : ∀ k, k < 16 → hx (dg k) = some k ∧ dg k ≠ 58 ∧ dg k ≠ 46 := by decide +kernel
theorem hexG_dg {n k : Nat} (h : k < 16) : hexG n (dg k) = some (n * 16 + k) := by unfold hexG; rw [(hx_dg k h).1]; rfl
theorem hexW_back {g : Nat} (h : g < 65536) : hexOf (hexW g) 4 = some g := by
  unfold hexOf
  rw [if_pos (hexW_len g)]
  unfold hexW
  split
  · simp only [foldO, hexG_dg (show g < 16 by assumption), Option.bind_some]
    congr 1; omega
  · split
    · simp only [foldO, hexG_dg (show g / 16 < 16 by omega), hexG_dg (show g % 16 < 16 by omega), Option.bind_some]
      congr 1; omega
    · split
      · simp only [foldO, hexG_dg (show g / 256 < 16 by omega), hexG_dg (show g / 16 % 16 < 16 by omega), hexG_dg (show g % 16 < 16 by omega), Option.bind_some]
        congr 1; omega
      · simp only [foldO, hexG_dg (show g / 4096 < 16 by omega), hexG_dg (show g / 256 % 16 < 16 by omega), hexG_dg (show g / 16 % 16 < 16 by omega), hexG_dg (show g % 16 < 16 by omega), Option.bind_some]
        congr 1; omega
theorem hexW_mem {g c : Nat} (h : g < 65536) (hc : c ∈ hexW g) : ∃ k, k < 16 ∧ c = dg k := by
  unfold hexW at hc
  split at hc
  · simp only [List.mem_cons, List.not_mem_nil, or_false] at hc
    exact ⟨g, by omega, hc⟩
  · split at hc
    · simp only [List.mem_cons, List.not_mem_nil, or_false] at hc
      rcases hc with rfl | rfl
      · exact ⟨_, by omega, rfl⟩
      · exact ⟨_, by omega, rfl⟩
    · split at hc
      · simp only [List.mem_cons, List.not_mem_nil, or_false] at hc
        rcases hc with rfl | rfl | rfl
        · exact ⟨_, by omega, rfl⟩
        · exact ⟨_, by omega, rfl⟩
        · exact ⟨_, by omega, rfl⟩
      · simp only [List.mem_cons, List.not_mem_nil, or_false] at hc
        rcases hc with rfl | rfl | rfl | rfl
        · exact ⟨_, by omega, rfl⟩
        · exact ⟨_, by omega, rfl⟩
        · exact ⟨_, by omega, rfl⟩
        · exact ⟨_, by omega, rfl⟩
theorem hexW_not {g : Nat} (h : g < 65536) : 58 ∉ hexW g ∧ 46 ∉ hexW g := by
  constructor
  · intro hc
    obtain ⟨k, hk, e⟩ := hexW_mem h hc
    exact (hx_dg k hk).2.1 e.symm
  · intro hc
    obtain ⟨k, hk, e⟩ := hexW_mem h hc
    exact (hx_dg k hk).2.2 e.symm
theorem hexW_ne (g : Nat) : hexW g ≠ [] := fun e => by
  have := (hexW_len g).1
  rw [e] at this
  simp at this
/-! texts with no two colons abreast -/
def nd : L → Prop
  | [] => True
  | [_] => True
  | x :: y :: r => ¬ (x = 58 ∧ y = 58) ∧ nd (y :: r)
theorem nd_split2 : ∀ {l : L}, nd l → split2 l = [l]
  | [], _ => rfl
  | [_], _ => rfl
  | x :: y :: r, h => by rw [split2, if_neg h.1, nd_split2 h.2]; rfl
theorem nd_two : ∀ {x : L} (y : L), nd x → x.getLast? ≠ some 58 → split2 (x ++ 58 :: 58 :: y) = x :: split2 y
  | [], y, _, _ => by rw [List.nil_append, split2, if_pos ⟨rfl, rfl⟩]
  | [a], y, _, h => by
    have ha : a ≠ 58 := fun e => h (by simp [e])
    rw [List.cons_append, List.nil_append, split2, if_neg (fun q => ha q.1), split2, if_pos ⟨rfl, rfl⟩]; rfl
  | a :: b :: r, y, h1, h2 => by
    have ih := nd_two (x := b :: r) y h1.2 (by simpa using h2)
    rw [List.cons_append, List.cons_append, split2, if_neg h1.1]
    rw [List.cons_append] at ih
    rw [ih]; rfl
theorem nd_word : ∀ {w : L} (z : L), 58 ∉ w → nd z → z.head? ≠ some 58 → w ≠ [] → nd (w ++ 58 :: z)
  | [], z, _, _, _, h => absurd rfl h
  | [a], z, h1, h2, h3, _ => by
    have ha : ¬ a = 58 := fun e => h1 (by simp [e])
    refine ⟨fun q => ha q.1, ?_⟩
    cases z with
    | nil => trivial
    | cons c r => exact ⟨fun q => h3 (by simp [q.2]), h2⟩
  | a :: b :: r, z, h1, h2, h3, _ => by
    have ha : ¬ a = 58 := fun e => h1 (by simp [e])
    exact ⟨fun q => ha q.1, nd_word (w := b :: r) z (fun q => h1 (List.mem_cons_of_mem _ q)) h2 h3 (by simp)⟩
theorem nd_plain : ∀ {w : L}, 58 ∉ w → nd w
  | [], _ => trivial
  | [_], _ => trivial
  | a :: b :: r, h => ⟨fun q => h (by simp [q.1]), nd_plain (w := b :: r) fun q => h (List.mem_cons_of_mem _ q)⟩
def GoodW' (ws : List L) : Prop := ∀ w ∈ ws, w ≠ [] ∧ 58 ∉ w
theorem join_nd : ∀ {ws : List L}, GoodW' ws → nd (joinL [58] ws) ∧ (joinL [58] ws).head? ≠ some 58 ∧ (joinL [58] ws).getLast? ≠ some 58
  | [], _ => ⟨trivial, by simp [joinL], by simp [joinL]⟩
  | [w], h => by
    obtain ⟨h1, h2⟩ := h w (by simp)
    refine ⟨nd_plain h2, fun e => ?_, fun e => ?_⟩
    · exact h2 (List.mem_of_mem_head? (by rw [show joinL [58] [w] = w from rfl] at e; exact e))
    · exact h2 (List.mem_of_getLast? (by rw [show joinL [58] [w] = w from rfl] at e; exact e))
  | w :: v :: r, h => by
    obtain ⟨h1, h2⟩ := h w (by simp)
    obtain ⟨i1, i2, i3⟩ := join_nd (ws := v :: r) fun u hu => h u (List.mem_cons_of_mem _ hu)
    have e : joinL [58] (w :: v :: r) = w ++ 58 :: joinL [58] (v :: r) := rfl
    rw [e]
    refine ⟨nd_word _ h2 i1 i2 h1, fun q => ?_, fun q => ?_⟩
    · cases w with
      | nil => exact h1 rfl
      | cons a t => exact h2 (by simp at q; simp [q])
    · rw [List.getLast?_append, List.getLast?_cons] at q
      have hv := h v (by simp)
      have hne : joinL [58] (v :: r) ≠ [] := by
        cases r with
        | nil => exact hv.1
        | cons u t =>
          show v ++ _ ≠ []
          simp [hv.1]
      cases hz : (joinL [58] (v :: r)).getLast? with
      | none => exact hne (List.getLast?_eq_none_iff.mp hz)
      | some a =>
        rw [hz] at q i3
        exact i3 (by simpa using q)
theorem goodW_hex {gs : List Nat} (h : ∀ g ∈ gs, g < 65536) : GoodW' (gs.map hexW) := fun w hw => by
  obtain ⟨g, hg, rfl⟩ := List.mem_map.mp hw
  exact ⟨hexW_ne g, (hexW_not (h g hg)).1⟩
theorem fold_hex {isEnd : Bool} {m : Nat} : ∀ (gs : List Nat) (j : Nat) (gs0 : List Nat), (∀ g ∈ gs, g < 65536) → foldOi (grG isEnd m) j gs0 (gs.map hexW) = some (gs0 ++ gs)
  | [], j, gs0, _ => by simp [foldOi]
  | g :: r, j, gs0, h => by
    have hg := h g (by simp)
    have hs : grG isEnd m gs0 j (hexW g) = some (gs0 ++ [g]) := by
      unfold grG
      rw [if_neg fun q => (hexW_not hg).2 q.2.2, hexW_back hg]; rfl
    simp only [List.map_cons, foldOi, hs, Option.bind_some]
    rw [fold_hex r (j + 1) _ fun x hx => h x (by simp [hx])]
    simp
theorem join_ne {ws : List L} (h : GoodW' ws) (hne : ws ≠ []) : joinL [58] ws ≠ [] := by
  cases ws with
  | nil => exact absurd rfl hne
  | cons w r =>
    have hw := (h w (by simp)).1
    cases r with
    | nil => exact hw
    | cons v t =>
      show w ++ _ ≠ []
      simp [hw]
theorem side_hex {isEnd : Bool} {gs : List Nat} (h : ∀ g ∈ gs, g < 65536) : sideOf isEnd (joinL [58] (gs.map hexW)) = some gs := by
  cases gs with
  | nil => rfl
  | cons g r =>
    have hg := goodW_hex h
    rw [sideOf_ne (join_ne hg (by simp)), split_join (by simp) (fun w hw => (hg w hw).2), fold_hex _ _ _ h]
    rfl
theorem text4_mem {n : Nat} : 46 ∈ text4 n ∧ 58 ∉ text4 n ∧ text4 n ≠ [] := by
  have hd : ∀ k : Nat, 58 ∉ dec (n / 2 ^ k % 256) := fun k => dec_not (by omega) (.inr (by decide))
  unfold text4 oct4
  simp only [List.map_cons, List.map_nil, joinL]
  refine ⟨by simp, ?_, by simp⟩
  simp only [List.mem_append, List.mem_singleton, not_or]
  have a := hd 24
  have b := hd 16
  have c := hd 8
  have d := hd 0
  refine ⟨a, by decide, b, by decide, c, by decide, d⟩
theorem side_v4 {gs : List Nat} {g h : Nat} (hlt : ∀ x ∈ gs, x < 65536) (hg : g < 65536) (hh : h < 65536) : sideOf true (joinL [58] (gs.map hexW ++ [text4 (g * 65536 + h)])) = some (gs ++ [g, h]) := by
  have hgood : GoodW' (gs.map hexW ++ [text4 (g * 65536 + h)]) := fun w hw => by
    rcases List.mem_append.mp hw with hw | hw
    · exact goodW_hex hlt w hw
    · simp only [List.mem_singleton] at hw
      subst hw
      exact ⟨text4_mem.2.2, text4_mem.2.1⟩
  rw [sideOf_ne (join_ne hgood (by simp)), split_join (by simp) (fun w hw => (hgood w hw).2), foldOi_app, fold_hex _ _ _ hlt, Option.bind_some]
  have hs : grG true (gs.map hexW ++ [text4 (g * 65536 + h)]).length ([] ++ gs) (0 + (gs.map hexW).length) (text4 (g * 65536 + h)) = some (gs ++ [g, h]) := by
    unfold grG
    rw [if_pos ⟨rfl, by simp, text4_mem.1⟩, ip4_text4 (by omega), Option.map_some]
    rw [show (g * 65536 + h) / 65536 = g by omega, show (g * 65536 + h) % 65536 = h by omega]
    rfl
  simp only [foldOi, hs, Option.bind_some]
theorem search_some {p : Nat → Nat → Bool} : ∀ {l : List Nat} {b m : Nat}, searchBy p l = some (b, m) → m ∈ l ∧ p m b = true ∧ b < 9 - m
  | k :: r, b, m, h => by
    unfold searchBy at h
    split at h
    · rename_i b' hf
      cases h
      exact ⟨by simp, List.find?_some hf, List.mem_range.mp (List.mem_of_find?_eq_some hf)⟩
    · obtain ⟨h1, h2, h3⟩ := search_some h
      exact ⟨List.mem_cons_of_mem _ h1, h2, h3⟩
theorem nr_spec {gs : List Nat} (h : gs.length = 8) (hm : ¬ (nr gs).2 < 2) : pz gs (nr gs).2 (nr gs).1 = true ∧ (nr gs).1 + (nr gs).2 ≤ 8 := by
  match gs, h with
  | [a, b, c, d, e, f, g, i], _ =>
    have hp : pz [a, b, c, d, e, f, g, i] = pB (zs [a, b, c, d, e, f, g, i]) := by funext m k; exact pz_B _ _ _
    have hz : zs [a, b, c, d, e, f, g, i] = [decide (a = 0), decide (b = 0), decide (c = 0), decide (d = 0), decide (e = 0), decide (f = 0), decide (g = 0), decide (i = 0)] := rfl
    have hs := search_B (decide (a = 0)) (decide (b = 0)) (decide (c = 0)) (decide (d = 0)) (decide (e = 0)) (decide (f = 0)) (decide (g = 0)) (decide (i = 0))
    have hm' : ¬ (nrF 0 (0, 0, 0) [a, b, c, d, e, f, g, i]).2.1 < 2 := hm
    rw [← hz, ← nrF_B, ← hp, if_neg hm'] at hs
    obtain ⟨h1, h2, h3⟩ := search_some hs
    refine ⟨h2, ?_⟩
    have := nr_le [a, b, c, d, e, f, g, i]
    simpa using this
theorem ip6_back {gs : List Nat} (hlen : gs.length = 8) (hlt : ∀ g ∈ gs, g < 65536) : ip6Of (text6 gs) = some (num16 0 gs) := by
  unfold text6
  by_cases hm : (nr gs).2 < 2
  · rw [if_pos hm]
    unfold ip6Of
    rw [nd_split2 (join_nd (goodW_hex hlt)).1]
    dsimp only
    rw [side_hex hlt, Option.bind_some, if_pos hlen]
  · rw [if_neg hm]
    obtain ⟨hz, hle⟩ := nr_spec hlen hm
    generalize (nr gs).1 = b at *
    generalize (nr gs).2 = m at *
    have hz : (gs.take (b + m)).drop b = List.replicate m 0 := of_decide_eq_true hz
    have hgs : gs = gs.take b ++ List.replicate m 0 ++ gs.drop (b + m) := by
      rw [← hz, List.append_assoc, List.drop_take]
      rw [show b + m - b = m by omega]
      rw [← List.drop_drop, List.take_append_drop, List.take_append_drop]
    have hla : (gs.take b).length = b := by simp; omega
    have hlb : (gs.drop (b + m)).length = 8 - (b + m) := by simp; omega
    have hta : ∀ g ∈ gs.take b, g < 65536 := fun g hg => hlt g (List.mem_of_mem_take hg)
    have htb : ∀ g ∈ gs.drop (b + m), g < 65536 := fun g hg => hlt g (List.mem_of_mem_drop hg)
    have hend : (if 7 < (gs.take b).length + (gs.drop (b + m)).length then none else some (num16 0 (gs.take b ++ List.replicate (8 - (gs.take b).length - (gs.drop (b + m)).length) 0 ++ gs.drop (b + m)))) = some (num16 0 gs) := by
      rw [if_neg (by omega), hla, hlb, show 8 - b - (8 - (b + m)) = m by omega, ← hgs]
    have hfin : ∀ ws : List L, ws.take b = (gs.take b).map hexW → sideOf true (joinL [58] (ws.drop (b + m))) = some (gs.drop (b + m)) → GoodW' (ws.drop (b + m)) → ip6Of (txt ws b m) = some (num16 0 gs) := fun ws h1 h2 h3 => by
      have ha := join_nd (goodW_hex hta)
      have hsp : split2 (txt ws b m) = [joinL [58] ((gs.take b).map hexW), joinL [58] (ws.drop (b + m))] := by
        unfold txt
        rw [h1, List.append_assoc]
        show split2 (joinL [58] ((gs.take b).map hexW) ++ 58 :: 58 :: joinL [58] (ws.drop (b + m))) = _
        rw [nd_two _ ha.1 ha.2.2, nd_split2 (join_nd h3).1]
      unfold ip6Of
      rw [hsp]
      dsimp only
      rw [side_hex hta, h2, Option.bind_some, Option.bind_some, hend]
    cases hv : v4at gs b m with
    | false =>
      refine hfin _ (by rw [words_false, List.map_take]) ?_ ?_
      · rw [words_false, ← List.map_drop]; exact side_hex htb
      · rw [words_false, ← List.map_drop]; exact goodW_hex htb
    | true =>
      have hb0 : b = 0 ∧ m ≤ 6 := by
        unfold v4at at hv
        simp only [Bool.and_eq_true, Bool.or_eq_true, decide_eq_true_eq] at hv
        refine ⟨hv.1, ?_⟩
        rcases hv.2 with h | h <;> omega
      obtain ⟨rfl, hm6⟩ := hb0
      have hw : words6 gs true = (gs.take 6).map hexW ++ [text4 (gs.getD 6 0 * 65536 + gs.getD 7 0)] := by
        unfold words6; rw [if_pos rfl, List.map_take]
      have h6 : (gs.take 6).length = 6 := by simp; omega
      have hdrop : (words6 gs true).drop (0 + m) = ((gs.take 6).drop m).map hexW ++ [text4 (gs.getD 6 0 * 65536 + gs.getD 7 0)] := by
        rw [hw, Nat.zero_add, List.drop_append_of_le_length (by rw [List.length_map]; omega), List.map_drop]
      have h67 : gs.drop 6 = [gs.getD 6 0, gs.getD 7 0] := by
        match gs, hlen with
        | [_, _, _, _, _, _, _, _], _ => rfl
      have hgd : (gs.take 6).drop m ++ [gs.getD 6 0, gs.getD 7 0] = gs.drop (0 + m) := by
        rw [← h67, Nat.zero_add]
        conv => rhs; rw [← List.take_append_drop 6 gs, List.drop_append_of_le_length (by omega)]
      have hin : ∀ g ∈ (gs.take 6).drop m, g < 65536 := fun g hg => hlt g (List.mem_of_mem_take (List.mem_of_mem_drop hg))
      have hmem : ∀ k, k < 8 → gs.getD k 0 < 65536 := fun k hk => by
        simp only [List.getD, List.getElem?_eq_getElem (show k < gs.length by omega), Option.getD_some]
        exact hlt _ (List.getElem_mem _)
      refine hfin _ (by simp) ?_ ?_
      · rw [hdrop, side_v4 hin (hmem 6 (by decide)) (hmem 7 (by decide)), hgd]
      · rw [hdrop]
        intro w hw'
        rcases List.mem_append.mp hw' with hw' | hw'
        · exact goodW_hex hin w hw'
        · simp only [List.mem_singleton] at hw'
          subst hw'
          exact ⟨text4_mem.2.2, text4_mem.2.1⟩
theorem gs8_num {gs : List Nat} (hlen : gs.length = 8) (hlt : ∀ g ∈ gs, g < 65536) : gs8 (num16 0 gs) = gs := by
  match gs, hlen with
  | [a, b, c, d, e, f, g, h], _ =>
    have ha := hlt a (by simp)
    have hb := hlt b (by simp)
    have hc := hlt c (by simp)
    have hd := hlt d (by simp)
    have he := hlt e (by simp)
    have hf := hlt f (by simp)
    have hg := hlt g (by simp)
    have hh := hlt h (by simp)
    show [_, _, _, _, _, _, _, _] = _
    simp only [num16, List.foldl_cons, List.foldl_nil]
    congr 1
    · omega
    congr 1
    · omega
    congr 1
    · omega
    congr 1
    · omega
    congr 1
    · omega
    congr 1
    · omega
    congr 1
    · omega
    congr 1
    omega
end Mine
end
section
open PySem PySem.Calls
set_option maxRecDepth 100000
namespace Mine
/-! the tables of edges -/
def tab27 : List L := [[58, 58], [58, 58, 58], [49, 58, 58], [58, 58, 49], [49, 58, 50, 58, 51, 58, 52, 58, 53, 58, 54, 58, 55, 58, 56], [49, 58, 50, 58, 51, 58, 52, 58, 53, 58, 54, 58, 55], [49, 58, 50, 58, 51, 58, 52, 58, 53, 58, 54, 58, 55, 58, 58], [58, 58, 50, 58, 51, 58, 52, 58, 53, 58, 54, 58, 55, 58, 56], [49, 58, 58, 51, 58, 52, 58, 53, 58, 54, 58, 55, 58, 56], [49, 58, 50, 58, 51, 58, 52, 58, 58, 53, 58, 54, 58, 55, 58, 56], [49, 58, 58, 50, 58, 58, 51], [58, 49, 58, 50, 58, 51, 58, 52, 58, 53, 58, 54, 58, 55], [49, 58, 50, 58, 51, 58, 52, 58, 53, 58, 54, 58, 55, 58], [58, 49, 58, 58, 50], [49, 58, 58, 50, 58], [58, 58, 102, 102, 102, 102, 58, 49, 46, 50, 46, 51, 46, 52], [49, 58, 50, 58, 51, 58, 52, 58, 53, 58, 54, 58, 49, 46, 50, 46, 51, 46, 52], [49, 58, 50, 58, 51, 58, 52, 58, 53, 58, 54, 58, 55, 58, 49, 46, 50, 46, 51, 46, 52], [49, 58, 50, 58, 51, 58, 52, 58, 53, 58, 58, 49, 46, 50, 46, 51, 46, 52], [49, 58, 50, 58, 51, 58, 52, 58, 53, 58, 54, 58, 58, 49, 46, 50, 46, 51, 46, 52], [58, 58, 49, 46, 50, 46, 51, 46, 52, 58, 53], [49, 46, 50, 46, 51, 46, 52, 58, 58], [49, 46, 50, 46, 51, 46, 52], [58, 58, 49, 46, 50, 46, 51], [58, 58, 49, 46, 50, 46, 51, 46, 50, 53, 54], [58, 58, 48, 49, 46, 50, 46, 51, 46, 52], [49, 50, 51, 52, 53, 58, 58], [58, 58, 103], [58, 58, 65, 66, 67, 68, 58, 101, 102, 48, 49], [58, 58, 48, 48, 48, 49], [58, 58, 48, 48, 48, 48, 49], [58], [49], [58, 58, 49, 47, 54, 52], [58, 58, 49, 46, 50, 46, 51, 46, 52, 46, 53], [49, 58, 50, 58, 51, 58, 52, 58, 53, 58, 54, 58, 55, 58, 56, 58, 57], [49, 58, 50, 58, 51, 58, 52, 58, 53, 58, 54, 58, 55, 58, 56, 58, 58, 57, 58, 58], [49, 58, 58, 58, 50], [58, 58, 48, 120, 49], []]
theorem x27 (Φ : Nat → List PV → Option PV) : run Φ 1 bLawEdges6 [] = some (.list (tab27.map .str)) := by kernel_rfl
theorem tab27_ok : tab27.length = 40 ∧ ∀ w ∈ tab27, w.length ≤ 100 ∧ short w = true := by decide +kernel
def tab28 : List L := [[49, 46, 50, 46, 51, 46, 52], [48, 46, 48, 46, 48, 46, 48], [50, 53, 53, 46, 50, 53, 53, 46, 50, 53, 53, 46, 50, 53, 53], [50, 53, 54, 46, 48, 46, 48, 46, 49], [49, 46, 50, 46, 51], [49, 46, 50, 46, 51, 46, 52, 46, 53], [48, 49, 46, 50, 46, 51, 46, 52], [49, 46, 46, 51, 46, 52], [49, 46, 50, 46, 51, 46], [49, 46, 50, 46, 51, 46, 52, 120], [49, 48, 48, 48, 46, 48, 46, 48, 46, 49], [97, 46, 98, 46, 99, 46, 100], [48, 48, 46, 48, 46, 48, 46, 48], [49, 46, 50, 46, 51, 46, 45, 52], [49, 46, 50, 46, 51, 46, 43, 52], [49, 44, 50, 44, 51, 44, 52], [50, 52, 57, 46, 57, 57, 46, 49, 48, 48, 46, 49, 48], [46, 49, 46, 50, 46, 51], [49, 46, 50, 46, 51, 46, 52, 32], []]
theorem x28 (Φ : Nat → List PV → Option PV) : run Φ 1 bLawEdges4 [] = some (.list (tab28.map .str)) := by kernel_rfl
theorem tab28_ok : tab28.length = 20 ∧ ∀ w ∈ tab28, w.length ≤ 100 ∧ short w = true := by decide +kernel
def tab29 : List L := [[47, 48], [47, 51, 50], [47, 50, 52], [47, 56], [47, 49], [47, 51, 49], [47, 51, 51], [47, 54, 52], [47, 49, 50, 55], [47, 49, 50, 56], [47, 49, 50, 57], [47], [47, 48, 56], [47, 45, 49], [47, 49, 47, 50], [], [47, 32, 56], [47, 50, 53, 54]]
theorem x29 (Φ : Nat → List PV → Option PV) : run Φ 1 bLawLengths [] = some (.list (tab29.map .str)) := by kernel_rfl
theorem tab29_ok : tab29.length = 18 ∧ ∀ w ∈ tab29, w.length ≤ 100 ∧ short w = true := by decide +kernel
def tab30 : List L := [[48, 58, 49, 58, 50, 58, 51, 58, 52, 58, 53], [48, 48, 58, 49, 98, 58, 50, 67, 58, 102, 70, 58, 65, 48, 58, 57, 97], [48, 58, 49, 58, 50, 58, 51, 58, 52], [48, 58, 49, 58, 50, 58, 51, 58, 52, 58, 53, 58, 54], [48, 58, 49, 58, 50, 58, 51, 58, 52, 58, 49, 48, 48], [48, 58, 49, 58, 50, 58, 51, 58, 52, 58], [48, 58, 49, 58, 50, 58, 51, 58, 52, 58, 103], [48, 48, 49, 58, 50, 58, 51, 58, 52, 58, 53, 58, 54], [], [48, 45, 49, 45, 50, 45, 51, 45, 52, 45, 53], [97, 58, 66, 58, 99, 58, 68, 58, 101, 58, 70], [58, 49, 58, 50, 58, 51, 58, 52, 58, 53]]
theorem x30 (Φ : Nat → List PV → Option PV) : run Φ 1 bLawEdgesmac [] = some (.list (tab30.map .str)) := by kernel_rfl
theorem tab30_ok : tab30.length = 12 ∧ ∀ w ∈ tab30, w.length ≤ 100 ∧ short w = true := by decide +kernel
end Mine
end
section
open PySem PySem.Calls
set_option maxRecDepth 100000
namespace Mine
/-! drawn things: what is asked of them is their form alone -/
theorem b_modI (n : Int) (b : Nat) (h : 0 < b) : ∃ i : Nat, i < b ∧ binop .Mod (.a (.int n)) (.a (.int (b : Int))) = some (.a (.int (i : Int))) := by
  have h1 := Int.emod_nonneg n (show (b : Int) ≠ 0 by omega)
  have h2 := Int.emod_lt_of_pos n (show (0 : Int) < b by omega)
  refine ⟨(n % (b : Int)).toNat, by omega, ?_⟩
  rw [b_mod _ _ (by omega), Int.toNat_of_nonneg h1]
theorem idx_strs {ws : List L} {i : Nat} (h : i < ws.length) : ∃ w ∈ ws, index (.list (ws.map .str)) (.a (.int (i : Int))) = some (.a (.str w)) := by
  refine ⟨ws[i], List.getElem_mem _, ?_⟩
  rw [i_list _ _ (by omega), Int.toNat_natCast, List.getElem?_map, List.getElem?_eq_getElem h]; rfl
theorem forGo_range {n : Nat} {R : Nat → Store → Prop} {body : At → Store → Option (Fl × Store)} (h : ∀ p ρ, p < n → R p ρ → ∃ ρ', body (.int (p : Int)) ρ = some (.next, ρ') ∧ R (p + 1) ρ') :
    ∀ ρ, R 0 ρ → ∃ ρ', forGo body ((List.range n).map fun k : Nat => .int (k : Int)) ρ = some (.next, ρ') ∧ R n ρ' := by
  have gen : ∀ m s ρ, s + m = n → R s ρ → ∃ ρ', forGo body ((List.range' s m).map fun k : Nat => .int (k : Int)) ρ = some (.next, ρ') ∧ R n ρ' := by
    intro m
    induction m with
    | zero => intro s ρ e r; exact ⟨ρ, rfl, by rw [← e]; exact r⟩
    | succ m ih =>
      intro s ρ e r
      obtain ⟨ρ', h1, h2⟩ := h s ρ (by omega) r
      obtain ⟨ρ'', h3, h4⟩ := ih (s + 1) ρ' (by omega) h2
      refine ⟨ρ'', ?_, h4⟩
      rw [List.range'_succ, List.map_cons, forGo, h1, Option.bind_some]
      exact h3
  intro ρ r
  rw [List.range_eq_range']
  exact gen n 0 ρ (by omega) r
def Asc (l : L) : Prop := ∀ c ∈ l, c < 128
theorem asc_app {a b : L} (h : Asc a) (k : Asc b) : Asc (a ++ b) := fun c hc => (List.mem_append.mp hc).elim (h c) (k c)
theorem asc_short {l : L} (h : Asc l) (hl : l.length ≤ 1000) : short l = true := short_iff.mpr ⟨hl, h⟩
theorem catS {a b : L} (h : a.length + b.length ≤ 1000) : binop .Add (.a (.str a)) (.a (.str b)) = some (.a (.str (a ++ b))) := b_cat a b (by rw [sizeLine_eq]; omega)
/-! _law_changed -/
def signs : List L := [[], [58], [46], [48], [70], [53], [120]]
theorem signs_ok : signs.length = 7 ∧ ∀ w ∈ signs, w.length ≤ 1 ∧ ∀ c ∈ w, c < 128 := by decide +kernel
theorem ev_signs (Φ : Nat → List PV → Option PV) (ρ : Store) : ev Φ (.list (.cons (.str []) (.cons (.str [58]) (.cons (.str [46]) (.cons (.str [48]) (.cons (.str [70]) (.cons (.str [53]) (.cons (.str [120]) .nil)))))))) ρ = some (.list (signs.map .str)) := by
  kernel_rfl
theorem slice_mem {l : L} {lo hi : Option Int} {c : Nat} (h : c ∈ pySlice l lo hi) : c ∈ l := by
  unfold pySlice at h
  exact List.mem_of_mem_take (List.mem_of_mem_drop h)
theorem x26 (Φ : Nat → List PV → Option PV) (l : L) (n : Int) (hl : l.length ≤ 900) (ha : Asc l) : ∃ t, run Φ 5 bLawChanged [S1 l, .a (.int n)] = some (S1 t) ∧ t.length ≤ l.length + 1 ∧ Asc t := by
  obtain ⟨i, hi, m7⟩ := b_modI n 7 (by decide)
  obtain ⟨w, hw, hidx⟩ := idx_strs (ws := signs) (i := i) (by rw [signs_ok.1]; exact hi)
  obtain ⟨hw1, hw2⟩ := signs_ok.2 w hw
  have d7 : binop .FloorDiv (.a (.int n)) (.a (.int 7)) = some (.a (.int (n / 7))) := b_div n 7 (by decide) (by decide)
  have hlen1 : binop .Add (.a (.int (l.length : Int))) (.a (.int 1)) = some (.a (.int ((l.length + 1 : Nat) : Int))) := rfl
  obtain ⟨p, hp, mp⟩ := b_modI (n / 7) (l.length + 1) (by omega)
  have dl : binop .FloorDiv (.a (.int (n / 7))) (.a (.int ((l.length + 1 : Nat) : Int))) = some (.a (.int (n / 7 / ((l.length + 1 : Nat) : Int)))) := b_div _ _ (by omega) (by omega)
  obtain ⟨q, hq, m2⟩ := b_modI (n / 7 / ((l.length + 1 : Nat) : Int)) 2 (by decide)
  have s0 : ex Φ (.assign 2 (.idx (.list (.cons (.str []) (.cons (.str [58]) (.cons (.str [46]) (.cons (.str [48]) (.cons (.str [70]) (.cons (.str [53]) (.cons (.str [120]) .nil)))))))) (.bin .Mod (.var 1) (.int 7)))) (initS 5 [S1 l, .a (.int n)]) = some (.next, [some (.a (.str l)), some (.a (.int n)), some (.a (.str w)), none, none]) :=
    ex_assign (ev_idx (ev_signs Φ _) (ev_bin (ev_var rfl) ev_int m7) hidx)
  have el : ∀ o2 o3 o4, ev Φ (.bin .Add (.bi .len (.cons (.var 0) .nil)) (.int 1)) [some (.a (.str l)), some (.a (.int n)), o2, o3, o4] = some (.a (.int ((l.length + 1 : Nat) : Int))) := fun _ _ _ => ev_bin (ev_bi (evs_one (ev_var rfl)) (f_len l)) ev_int hlen1
  have s1 : ex Φ (.assign 3 (.bin .Mod (.bin .FloorDiv (.var 1) (.int 7)) (.bin .Add (.bi .len (.cons (.var 0) .nil)) (.int 1)))) [some (.a (.str l)), some (.a (.int n)), some (.a (.str w)), none, none] = some (.next, [some (.a (.str l)), some (.a (.int n)), some (.a (.str w)), some (.a (.int (p : Int))), none]) :=
    ex_assign (ev_bin (ev_bin (ev_var rfl) ev_int d7) (el _ _ _) mp)
  obtain ⟨k, s2⟩ : ∃ k : Nat, ex Φ (.assign 4 (.ite (.cmp .Eq (.var 2) (.str [])) (.int 1) (.bin .Mod (.bin .FloorDiv (.bin .FloorDiv (.var 1) (.int 7)) (.bin .Add (.bi .len (.cons (.var 0) .nil)) (.int 1))) (.int 2)))) [some (.a (.str l)), some (.a (.int n)), some (.a (.str w)), some (.a (.int (p : Int))), none] =
      some (.next, [some (.a (.str l)), some (.a (.int n)), some (.a (.str w)), some (.a (.int (p : Int))), some (.a (.int (k : Int)))]) := by
    have ht : ev Φ (.cmp .Eq (.var 2) (.str [])) [some (.a (.str l)), some (.a (.int n)), some (.a (.str w)), some (.a (.int (p : Int))), none] = some (.a (.bool (decide (w = [])))) := ev_cmp (ev_var rfl) (ev_str (by decide)) (c_eq_str _ _)
    by_cases h : w = []
    · rw [decide_eq_true h] at ht
      exact ⟨1, ex_assign (ev_iteT ht ev_int)⟩
    · rw [decide_eq_false h] at ht
      exact ⟨q, ex_assign (ev_iteF ht (ev_bin (ev_bin (ev_bin (ev_var rfl) ev_int d7) (el _ _ _) dl) ev_int m2))⟩
  have c1 := catS (a := pySlice l none (some (p : Int))) (b := w) (by have := pySlice_len l none (some (p : Int)); omega)
  have hpk : binop .Add (.a (.int (p : Int))) (.a (.int (k : Int))) = some (.a (.int ((p + k : Nat) : Int))) := by rw [b_add, ← Int.natCast_add]
  have hsum : (l.take p).length + (l.drop (p + k)).length ≤ l.length := by simp; omega
  rw [slice_take] at c1
  have c2 := catS (a := l.take p ++ w) (b := l.drop (p + k)) (by rw [List.length_append]; omega)
  have s3 : ev Φ (.bin .Add (.bin .Add (.slice (.var 0) .none (.var 3)) (.var 2)) (.slice (.var 0) (.bin .Add (.var 3) (.var 4)) .none)) [some (.a (.str l)), some (.a (.int n)), some (.a (.str w)), some (.a (.int (p : Int))), some (.a (.int (k : Int)))] = some (.a (.str (l.take p ++ w ++ l.drop (p + k)))) := by
    have a1 : ev Φ (.slice (.var 0) .none (.var 3)) [some (.a (.str l)), some (.a (.int n)), some (.a (.str w)), some (.a (.int (p : Int))), some (.a (.int (k : Int)))] = some (.a (.str (l.take p))) := by
      show some (PV.a (.str (pySlice l none (some (p : Int))))) = _
      rw [slice_take]
    have a2 : ev Φ (.slice (.var 0) (.bin .Add (.var 3) (.var 4)) .none) [some (.a (.str l)), some (.a (.int n)), some (.a (.str w)), some (.a (.int (p : Int))), some (.a (.int (k : Int)))] = some (.a (.str (l.drop (p + k)))) := by
      show some (PV.a (.str (pySlice l (some ((p + k : Nat) : Int)) none))) = _
      rw [slice_drop]
    exact ev_bin (ev_bin a1 (ev_var rfl) c1) a2 c2
  refine ⟨l.take p ++ w ++ l.drop (p + k), ?_, by rw [List.length_append, List.length_append]; omega, asc_app (asc_app (fun c hc => ha c (List.mem_of_mem_take hc)) hw2) fun c hc => ha c (List.mem_of_mem_drop hc)⟩
  unfold run bLawChanged
  rw [ex_next s0, ex_next s1, ex_next s2, ex_one, ex_retF s3 rfl]
  rfl
end Mine
end
section
open PySem PySem.Calls
set_option maxRecDepth 100000
namespace Mine
/-! _law_groups -/
def shpA : L := [120, 48, 48, 120, 120, 48, 48, 120, 32, 48, 48, 48, 48, 48, 48, 120, 120, 32, 48, 48, 48, 48, 48, 102, 120, 120, 32, 120, 48, 120, 120, 120, 120, 120, 120, 32, 120, 120, 120, 120, 120, 120, 120, 120, 32, 48, 48, 48, 48, 48, 120, 120, 120, 32, 48, 48, 48, 48, 48, 48, 48, 120, 32, 48, 48, 48, 48, 48, 48, 48, 48, 32, 120, 48, 48, 48, 48, 48, 48, 120, 32, 120, 120, 48, 48, 48, 48, 48, 48, 32, 48, 48, 48, 120, 120, 48, 48, 48]
def shpB : L := [32, 48, 120, 120, 120, 120, 120, 120, 48, 32, 48, 48, 120, 48, 48, 48, 120, 48, 32, 120, 48, 120, 48, 120, 48, 120, 48, 32, 48, 48, 48, 48, 48, 102, 48, 48, 32, 48, 48, 48, 48, 48, 48, 120, 48, 32, 120, 120, 120, 120, 120, 120, 48, 48, 32, 48, 48, 120, 120, 120, 120, 48, 48]
def shp : List L := splitC 32 (shpA ++ shpB)
theorem shp_ok : shp.length = 18 ∧ ∀ w ∈ shp, w.length = 8 ∧ ∀ c ∈ w, c = 48 ∨ c = 102 ∨ c = 120 := by decide +kernel
def marks : List Nat := [8193, 3512, 1, 65535, 160, 4096, 15, 16]
theorem marks_ok : marks.length = 8 ∧ ∀ m ∈ marks, m < 65536 := by decide +kernel
theorem ev_marks (Φ : Nat → List PV → Option PV) (ρ : Store) : ev Φ (.list (.cons (.int 8193) (.cons (.int 3512) (.cons (.int 1) (.cons (.int 65535) (.cons (.int 160) (.cons (.int 4096) (.cons (.int 15) (.cons (.int 16) .nil))))))))) ρ = some (.list (nL marks)) := by
  kernel_rfl
theorem b_powS {a k : Nat} (h : k ≤ 8) (h' : a ≤ 65536) : binop .Pow (.a (.int (a : Int))) (.a (.int (k : Int))) = some (.a (.int ((a ^ k : Nat) : Int))) := b_powN a k (by omega) (by omega)
theorem pow_bd {a k : Nat} (h : k ≤ 8) (h' : a ≤ 65536) (h0 : 0 < a) : 0 < a ^ k ∧ a ^ k < 2 ^ 200 :=
  ⟨Nat.pow_pos h0, Nat.lt_of_le_of_lt (Nat.le_trans (Nat.pow_le_pow_left h' k) (Nat.pow_le_pow_right (by decide) h)) (by decide)⟩
theorem b_divI (n : Int) (b : Nat) (h : 0 < b) (h' : b < 2 ^ 200) : ∃ q : Int, binop .FloorDiv (.a (.int n)) (.a (.int (b : Int))) = some (.a (.int q)) := ⟨_, b_div n b (by omega) (by omega)⟩
theorem lg_step {Φ : Nat → List PV → Option PV} {o0 o1 o2 : Option PV} {sh : L} {rest : Int} (hs : sh.length = 8 ∧ ∀ c ∈ sh, c = 48 ∨ c = 102 ∨ c = 120) {gs : List Nat} {p : Nat} (hp : p < 8) (hg : gs.length = p ∧ ∀ g ∈ gs, g < 65536) (o8 o9 : Option PV) :
    ∃ ρ', ex Φ lLawGroups1 [o0, o1, o2, some (.a (.str sh)), some (.a (.int rest)), some (.list (nL marks)), some (.list (nL gs)), some (.a (.int (p : Int))), o8, o9] = some (.next, ρ') ∧
      ∃ gs' o7 o8 o9, ρ' = [o0, o1, o2, some (.a (.str sh)), some (.a (.int rest)), some (.list (nL marks)), some (.list (nL gs')), o7, o8, o9] ∧ gs'.length = p + 1 ∧ ∀ g ∈ gs', g < 65536 := by
  obtain ⟨p7, p7'⟩ := pow_bd (a := 7) (k := p) (by omega) (by decide) (by decide)
  obtain ⟨p6, p6'⟩ := pow_bd (a := 65536) (k := p) (by omega) (by decide) (by decide)
  have w7 : binop .Pow (.a (.int 7)) (.a (.int (p : Int))) = some (.a (.int ((7 ^ p : Nat) : Int))) := b_powS (a := 7) (by omega) (by decide)
  have w6 : binop .Pow (.a (.int 65536)) (.a (.int (p : Int))) = some (.a (.int ((65536 ^ p : Nat) : Int))) := b_powS (a := 65536) (by omega) (by decide)
  obtain ⟨q7, d7⟩ := b_divI rest (7 ^ p) p7 p7'
  obtain ⟨q6, d6⟩ := b_divI rest (65536 ^ p) p6 p6'
  obtain ⟨i16, hi16, m16⟩ := b_modI (q7 + (p : Int)) 16 (by decide)
  obtain ⟨i8, hi8, m8⟩ := b_modI (q7 + (p : Int)) 8 (by decide)
  obtain ⟨i5, hi5, m5⟩ := b_modI q6 65535 (by decide)
  have s0 : ex Φ (.assign 8 (.bin .Add (.bin .FloorDiv (.var 4) (.bin .Pow (.int 7) (.var 7))) (.var 7))) [o0, o1, o2, some (.a (.str sh)), some (.a (.int rest)), some (.list (nL marks)), some (.list (nL gs)), some (.a (.int (p : Int))), o8, o9] =
      some (.next, [o0, o1, o2, some (.a (.str sh)), some (.a (.int rest)), some (.list (nL marks)), some (.list (nL gs)), some (.a (.int (p : Int))), some (.a (.int (q7 + (p : Int)))), o9]) :=
    ex_assign (ev_bin (ev_bin (ev_var rfl) (ev_bin ev_int (ev_var rfl) w7) d7) (ev_var rfl) (b_add _ _))
  obtain ⟨dr, hdr, s1⟩ : ∃ dr : Nat, dr < 65536 ∧ ex Φ (.assign 9 (.ite (.cmp .Lt (.bin .Mod (.var 8) (.int 16)) (.int 8)) (.idx (.var 5) (.bin .Mod (.var 8) (.int 8))) (.bin .Add (.int 1) (.bin .Mod (.bin .FloorDiv (.var 4) (.bin .Pow (.int 65536) (.var 7))) (.int 65535)))))
      [o0, o1, o2, some (.a (.str sh)), some (.a (.int rest)), some (.list (nL marks)), some (.list (nL gs)), some (.a (.int (p : Int))), some (.a (.int (q7 + (p : Int)))), o9] =
      some (.next, [o0, o1, o2, some (.a (.str sh)), some (.a (.int rest)), some (.list (nL marks)), some (.list (nL gs)), some (.a (.int (p : Int))), some (.a (.int (q7 + (p : Int)))), some (.a (.int (dr : Int)))]) := by
    have ht : ev Φ (.cmp .Lt (.bin .Mod (.var 8) (.int 16)) (.int 8)) [o0, o1, o2, some (.a (.str sh)), some (.a (.int rest)), some (.list (nL marks)), some (.list (nL gs)), some (.a (.int (p : Int))), some (.a (.int (q7 + (p : Int)))), o9] = some (.a (.bool (decide ((i16 : Int) < 8)))) :=
      ev_cmp (ev_bin (ev_var rfl) ev_int m16) ev_int (c_lt _ _)
    by_cases h : (i16 : Int) < 8
    · rw [decide_eq_true h] at ht
      have hlt : i8 < marks.length := by rw [marks_ok.1]; exact hi8
      have hidx := nL_get marks i8 hlt
      refine ⟨marks.getD i8 0, ?_, ex_assign (ev_iteT ht (ev_idx (ev_var rfl) (ev_bin (ev_var rfl) ev_int m8) hidx))⟩
      simp only [List.getD, List.getElem?_eq_getElem hlt, Option.getD_some]
      exact marks_ok.2 _ (List.getElem_mem _)
    · rw [decide_eq_false h] at ht
      have ha : binop .Add (.a (.int 1)) (.a (.int (i5 : Int))) = some (.a (.int ((1 + i5 : Nat) : Int))) := by rw [b_add]; rfl
      exact ⟨1 + i5, by omega, ex_assign (ev_iteF ht (ev_bin ev_int (ev_bin (ev_bin (ev_var rfl) (ev_bin ev_int (ev_var rfl) w6) d6) ev_int m5) ha))⟩
  obtain ⟨g, hglt, s2⟩ : ∃ g : Nat, g < 65536 ∧ ev Φ (.dictIdx [[48], [102], [120]] (.cons (.int 0) (.cons (.int 65535) (.cons (.var 9) .nil))) (.idx (.var 3) (.var 7))) [o0, o1, o2, some (.a (.str sh)), some (.a (.int rest)), some (.list (nL marks)), some (.list (nL gs)), some (.a (.int (p : Int))), some (.a (.int (q7 + (p : Int)))), some (.a (.int (dr : Int)))] = some (.a (.int (g : Int))) := by
    have hpl : p < sh.length := by omega
    have hi : index (.a (.str sh)) (.a (.int (p : Int))) = some (.a (.str [sh[p]])) := by
      rw [i_str _ _ (by omega), Int.toNat_natCast, List.getElem?_eq_getElem hpl]; rfl
    have hev : ∀ g : At, dictGet [[48], [102], [120]] [.int 0, .int 65535, .int (dr : Int)] [sh[p]] = some g → ev Φ (.dictIdx [[48], [102], [120]] (.cons (.int 0) (.cons (.int 65535) (.cons (.var 9) .nil))) (.idx (.var 3) (.var 7))) [o0, o1, o2, some (.a (.str sh)), some (.a (.int rest)), some (.list (nL marks)), some (.list (nL gs)), some (.a (.int (p : Int))), some (.a (.int (q7 + (p : Int)))), some (.a (.int (dr : Int)))] = some (.a g) := fun g hg => by
      rw [ev, evs_cons ev_int (evs_cons ev_int (evs_one (ev_var rfl))), Option.bind_some]
      show (some [At.int 0, .int 65535, .int (dr : Int)]).bind _ = _
      rw [Option.bind_some, ev_idx (ev_var rfl) (ev_var rfl) hi, Option.bind_some]
      dsimp only
      rw [hg]; rfl
    rcases hs.2 sh[p] (List.getElem_mem _) with e | e | e
    · exact ⟨0, by decide, hev (.int 0) (by rw [e]; rfl)⟩
    · exact ⟨65535, by decide, hev (.int 65535) (by rw [e]; rfl)⟩
    · exact ⟨dr, hdr, hev (.int (dr : Int)) (by rw [e]; rfl)⟩
  unfold lLawGroups1
  rw [ex_next s0, ex_next s1, ex_one, x_append (gs := gs) rfl s2 (by omega)]
  refine ⟨_, rfl, gs ++ [g], _, _, _, rfl, by simp; omega, fun x hx => ?_⟩
  simp only [List.mem_append, List.mem_cons, List.not_mem_nil, or_false] at hx
  rcases hx with hx | rfl
  · exact hg.2 x hx
  · exact hglt
theorem x24 (Φ : Nat → List PV → Option PV) (n : Int) (k : Nat) : ∃ gs : List Nat, run Φ 10 bLawGroups [.a (.int n), I1 k] = some (.list (nL gs)) ∧ gs.length = 8 ∧ ∀ g ∈ gs, g < 65536 := by
  have hcat := catS (a := shpA) (b := shpB) (by decide)
  have hsp : me .split (.a (.str (shpA ++ shpB))) [.a (.str [32])] = some (.list (shp.map .str)) := m_split _ 32 (by decide) (by decide)
  obtain ⟨i, hi, m18⟩ := b_modI (n + (k : Int)) 18 (by decide)
  obtain ⟨sh, hsh, hidx⟩ := idx_strs (ws := shp) (i := i) (by rw [shp_ok.1]; exact hi)
  have d18 : binop .FloorDiv (.a (.int n)) (.a (.int 18)) = some (.a (.int (n / 18))) := b_div n 18 (by decide) (by decide)
  have s0 : ex Φ (.assign 2 (.str shpA)) (initS 10 [.a (.int n), I1 k]) = some (.next, [some (.a (.int n)), some (.a (.int (k : Int))), some (.a (.str shpA)), none, none, none, none, none, none, none]) := ex_assign (ev_str (by decide))
  have s1 : ex Φ (.assign 3 (.idx (.me .split (.bin .Add (.var 2) (.str shpB)) (.cons (.str [32]) .nil)) (.bin .Mod (.bin .Add (.var 0) (.var 1)) (.int 18)))) [some (.a (.int n)), some (.a (.int (k : Int))), some (.a (.str shpA)), none, none, none, none, none, none, none] =
      some (.next, [some (.a (.int n)), some (.a (.int (k : Int))), some (.a (.str shpA)), some (.a (.str sh)), none, none, none, none, none, none]) :=
    ex_assign (ev_idx (ev_me (ev_bin (ev_var rfl) (ev_str (by decide)) hcat) (evs_one (ev_str (by decide))) hsp) (ev_bin (ev_bin (ev_var rfl) (ev_var rfl) (b_add _ _)) ev_int m18) hidx)
  have s2 : ex Φ (.assign 4 (.bin .FloorDiv (.var 0) (.int 18))) [some (.a (.int n)), some (.a (.int (k : Int))), some (.a (.str shpA)), some (.a (.str sh)), none, none, none, none, none, none] =
      some (.next, [some (.a (.int n)), some (.a (.int (k : Int))), some (.a (.str shpA)), some (.a (.str sh)), some (.a (.int (n / 18))), none, none, none, none, none]) := ex_assign (ev_bin (ev_var rfl) ev_int d18)
  have s3 : ex Φ (.assign 5 (.list (.cons (.int 8193) (.cons (.int 3512) (.cons (.int 1) (.cons (.int 65535) (.cons (.int 160) (.cons (.int 4096) (.cons (.int 15) (.cons (.int 16) .nil)))))))))) [some (.a (.int n)), some (.a (.int (k : Int))), some (.a (.str shpA)), some (.a (.str sh)), some (.a (.int (n / 18))), none, none, none, none, none] =
      some (.next, [some (.a (.int n)), some (.a (.int (k : Int))), some (.a (.str shpA)), some (.a (.str sh)), some (.a (.int (n / 18))), some (.list (nL marks)), none, none, none, none]) := ex_assign (ev_marks Φ _)
  have s4 : ex Φ (.assign 6 (.list .nil)) [some (.a (.int n)), some (.a (.int (k : Int))), some (.a (.str shpA)), some (.a (.str sh)), some (.a (.int (n / 18))), some (.list (nL marks)), none, none, none, none] =
      some (.next, [some (.a (.int n)), some (.a (.int (k : Int))), some (.a (.str shpA)), some (.a (.str sh)), some (.a (.int (n / 18))), some (.list (nL marks)), some (.list (nL [])), none, none, none]) := ex_assign (show ev Φ (.list .nil) _ = some (.list []) by rw [ev, evs]; rfl)
  obtain ⟨ρ', hgo, gs, o7, o8, o9, rfl, h8, hlt⟩ := forGo_range (n := 8) (body := fun a ρ => ex Φ lLawGroups1 (set ρ 7 (.a a)))
    (R := fun p ρ => ∃ gs o7 o8 o9, ρ = [some (.a (.int n)), some (.a (.int (k : Int))), some (.a (.str shpA)), some (.a (.str sh)), some (.a (.int (n / 18))), some (.list (nL marks)), some (.list (nL gs)), o7, o8, o9] ∧ gs.length = p ∧ ∀ g ∈ gs, g < 65536)
    (fun p ρ hp ⟨gs, o7, o8, o9, e, h1, h2⟩ => by subst e; exact lg_step (shp_ok.2 sh hsh) hp ⟨h1, h2⟩ o8 o9) [some (.a (.int n)), some (.a (.int (k : Int))), some (.a (.str shpA)), some (.a (.str sh)), some (.a (.int (n / 18))), some (.list (nL marks)), some (.list (nL [])), none, none, none] ⟨[], none, none, none, rfl, rfl, by simp⟩
  have s5 := (ex_for (Φ := Φ) (x := 7) (k := .range) (it := .cons (.int 8) .nil) (body := lLawGroups1) (evs_one ev_int) (it_range 8 (by decide))).trans hgo
  have s6 : ex Φ (.retD 6) [some (.a (.int n)), some (.a (.int (k : Int))), some (.a (.str shpA)), some (.a (.str sh)), some (.a (.int (n / 18))), some (.list (nL marks)), some (.list (nL gs)), o7, o8, o9] = some (.ret (.list (nL gs)), [some (.a (.int n)), some (.a (.int (k : Int))), some (.a (.str shpA)), some (.a (.str sh)), some (.a (.int (n / 18))), some (.list (nL marks)), some (.list (nL gs)), o7, o8, o9]) := by
    rw [ex]; rfl
  refine ⟨gs, ?_, h8, hlt⟩
  have hb : bLawGroups = .seq (.assign 2 (.str shpA)) (.seq (.assign 3 (.idx (.me .split (.bin .Add (.var 2) (.str shpB)) (.cons (.str [32]) .nil)) (.bin .Mod (.bin .Add (.var 0) (.var 1)) (.int 18)))) (.seq (.assign 4 (.bin .FloorDiv (.var 0) (.int 18)))
      (.seq (.assign 5 (.list (.cons (.int 8193) (.cons (.int 3512) (.cons (.int 1) (.cons (.int 65535) (.cons (.int 160) (.cons (.int 4096) (.cons (.int 15) (.cons (.int 16) .nil)))))))))) (.seq (.assign 6 (.list .nil)) (.seq (.forS 7 .range (.cons (.int 8) .nil) lLawGroups1) (.seq (.retD 6) .nil)))))) := rfl
  unfold run
  rw [hb, ex_next s0, ex_next s1, ex_next s2, ex_next s3, ex_next s4, ex_next s5, ex_ret s6]
  rfl
/-! _law_built -/
def bWords : List L := [[48], [49], [97, 48], [70, 70, 70, 70], [100, 66, 56], [48, 48, 48, 48], [69, 102, 49], [57]]
def bTails : List L := [[], [], [49, 46, 50, 46, 51, 46, 52], [49, 57, 57, 46, 50, 53, 53, 46, 48, 46, 50, 53, 48], [49, 50, 51, 52, 53], [49, 46, 50, 46, 51, 46, 50, 53, 54], [103], []]
theorem bWords_ok : bWords.length = 8 ∧ ∀ w ∈ bWords, w.length ≤ 4 ∧ ∀ c ∈ w, c < 128 := by decide +kernel
theorem bTails_ok : bTails.length = 8 ∧ ∀ w ∈ bTails, w.length ≤ 20 ∧ ∀ c ∈ w, c < 128 := by decide +kernel
theorem ev_words (Φ : Nat → List PV → Option PV) (ρ : Store) : ev Φ (.list (.cons (.str [48]) (.cons (.str [49]) (.cons (.str [97, 48]) (.cons (.str [70, 70, 70, 70]) (.cons (.str [100, 66, 56]) (.cons (.str [48, 48, 48, 48]) (.cons (.str [69, 102, 49]) (.cons (.str [57]) .nil))))))))) ρ = some (.list (bWords.map .str)) := by kernel_rfl
theorem ev_tails (Φ : Nat → List PV → Option PV) (ρ : Store) : ev Φ (.list (.cons (.str []) (.cons (.str []) (.cons (.str [49, 46, 50, 46, 51, 46, 52]) (.cons (.str [49, 57, 57, 46, 50, 53, 53, 46, 48, 46, 50, 53, 48]) (.cons (.str [49, 50, 51, 52, 53]) (.cons (.str [49, 46, 50, 46, 51, 46, 50, 53, 54]) (.cons (.str [103]) (.cons (.str []) .nil))))))))) ρ = some (.list (bTails.map .str)) := by kernel_rfl
theorem asc_58 : Asc [58] := by unfold Asc; simp
theorem asc_5858 : Asc [58, 58] := by unfold Asc; simp
theorem lb_step {Φ : Nat → List PV → Option PV} {o0 o2 o4 : Option PV} {gap p : Nat} {rest : Int} {t : L} (hp : p < 9) (ht : t.length ≤ 6 * p ∧ Asc t) :
    ∃ ρ', ex Φ lLawBuilt1 [o0, some (.list (bWords.map .str)), o2, some (.a (.int (gap : Int))), o4, some (.a (.int rest)), some (.a (.str t)), some (.a (.int (p : Int)))] = some (.next, ρ') ∧
      ∃ t' o7, ρ' = [o0, some (.list (bWords.map .str)), o2, some (.a (.int (gap : Int))), o4, some (.a (.int rest)), some (.a (.str t')), o7] ∧ t'.length ≤ 6 * (p + 1) ∧ Asc t' := by
  obtain ⟨t1, h1, h2, s0⟩ : ∃ t1 : L, t1.length ≤ 6 * p + 2 ∧ Asc t1 ∧ ex Φ (.ite (.cmp .Eq (.var 7) (.var 3)) (.seq (.assign 6 (.bin .Add (.var 6) (.str [58, 58]))) .nil) (.seq (.ite (.cmp .Gt (.var 7) (.int 0)) (.seq (.assign 6 (.bin .Add (.var 6) (.str [58]))) .nil) .nil) .nil))
      [o0, some (.list (bWords.map .str)), o2, some (.a (.int (gap : Int))), o4, some (.a (.int rest)), some (.a (.str t)), some (.a (.int (p : Int)))] =
      some (.next, [o0, some (.list (bWords.map .str)), o2, some (.a (.int (gap : Int))), o4, some (.a (.int rest)), some (.a (.str t1)), some (.a (.int (p : Int)))]) := by
    have a1 : ev Φ (.cmp .Eq (.var 7) (.var 3)) [o0, some (.list (bWords.map .str)), o2, some (.a (.int (gap : Int))), o4, some (.a (.int rest)), some (.a (.str t)), some (.a (.int (p : Int)))] = some (.a (.bool (decide ((p : Int) = (gap : Int))))) := ev_cmp (ev_var rfl) (ev_var rfl) (c_eq_int _ _)
    have a2 : ev Φ (.cmp .Gt (.var 7) (.int 0)) [o0, some (.list (bWords.map .str)), o2, some (.a (.int (gap : Int))), o4, some (.a (.int rest)), some (.a (.str t)), some (.a (.int (p : Int)))] = some (.a (.bool (decide ((0 : Int) < (p : Int))))) := ev_cmp (ev_var rfl) ev_int (c_gt _ _)
    have hlen := ht.1
    by_cases q1 : (p : Int) = (gap : Int)
    · rw [decide_eq_true q1] at a1
      refine ⟨t ++ [58, 58], by simp; omega, asc_app ht.2 asc_5858, ?_⟩
      rw [ex_ite_t a1, ex_one]
      exact ex_assign (ev_bin (ev_var rfl) (ev_str (by decide)) (catS (by simp; omega)))
    · rw [decide_eq_false q1] at a1
      by_cases q2 : (0 : Int) < (p : Int)
      · rw [decide_eq_true q2] at a2
        refine ⟨t ++ [58], by simp; omega, asc_app ht.2 asc_58, ?_⟩
        rw [ex_ite_f a1, ex_one, ex_ite_t a2, ex_one]
        exact ex_assign (ev_bin (ev_var rfl) (ev_str (by decide)) (catS (by simp; omega)))
      · rw [decide_eq_false q2] at a2
        refine ⟨t, by omega, ht.2, ?_⟩
        rw [ex_ite_f a1, ex_one]
        exact ex_skip a2
  obtain ⟨p8, p8'⟩ := pow_bd (a := 8) (k := p) (by omega) (by decide) (by decide)
  have w8 : binop .Pow (.a (.int 8)) (.a (.int (p : Int))) = some (.a (.int ((8 ^ p : Nat) : Int))) := b_powS (a := 8) (by omega) (by decide)
  obtain ⟨q8, d8⟩ := b_divI rest (8 ^ p) p8 p8'
  obtain ⟨i, hi, m8⟩ := b_modI (q8 + (p : Int)) 8 (by decide)
  obtain ⟨w, hw, hidx⟩ := idx_strs (ws := bWords) (i := i) (by rw [bWords_ok.1]; exact hi)
  obtain ⟨hw1, hw2⟩ := bWords_ok.2 w hw
  have s1 : ex Φ (.assign 6 (.bin .Add (.var 6) (.idx (.var 1) (.bin .Mod (.bin .Add (.bin .FloorDiv (.var 5) (.bin .Pow (.int 8) (.var 7))) (.var 7)) (.int 8))))) [o0, some (.list (bWords.map .str)), o2, some (.a (.int (gap : Int))), o4, some (.a (.int rest)), some (.a (.str t1)), some (.a (.int (p : Int)))] =
      some (.next, [o0, some (.list (bWords.map .str)), o2, some (.a (.int (gap : Int))), o4, some (.a (.int rest)), some (.a (.str (t1 ++ w))), some (.a (.int (p : Int)))]) :=
    ex_assign (ev_bin (ev_var rfl) (ev_idx (ev_var rfl) (ev_bin (ev_bin (ev_bin (ev_var rfl) (ev_bin ev_int (ev_var rfl) w8) d8) (ev_var rfl) (b_add _ _)) ev_int m8) hidx) (catS (a := t1) (b := w) (by omega)))
  unfold lLawBuilt1
  rw [ex_next s0, ex_one, s1]
  exact ⟨_, rfl, t1 ++ w, _, rfl, by rw [List.length_append]; omega, asc_app h2 hw2⟩
theorem x25 (Φ : Nat → List PV → Option PV) (n : Int) : ∃ t, run Φ 8 bLawBuilt [.a (.int n)] = some (S1 t) ∧ t.length ≤ 200 ∧ Asc t := by
  have d90 : binop .FloorDiv (.a (.int n)) (.a (.int 90)) = some (.a (.int (n / 90))) := b_div n 90 (by decide) (by decide)
  have d10 : binop .FloorDiv (.a (.int n)) (.a (.int 10)) = some (.a (.int (n / 10))) := b_div n 10 (by decide) (by decide)
  have d72 : binop .FloorDiv (.a (.int n)) (.a (.int 720)) = some (.a (.int (n / 720))) := b_div n 720 (by decide) (by decide)
  obtain ⟨i, hi, m8⟩ := b_modI (n / 90) 8 (by decide)
  obtain ⟨gap, hgap, m10⟩ := b_modI n 10 (by decide)
  obtain ⟨many, hmany, m9⟩ := b_modI (n / 10) 9 (by decide)
  obtain ⟨tl, htl, hidx⟩ := idx_strs (ws := bTails) (i := i) (by rw [bTails_ok.1]; exact hi)
  obtain ⟨ht1, ht2⟩ := bTails_ok.2 tl htl
  have s1 : ex Φ (.assign 1 (.list (.cons (.str [48]) (.cons (.str [49]) (.cons (.str [97, 48]) (.cons (.str [70, 70, 70, 70]) (.cons (.str [100, 66, 56]) (.cons (.str [48, 48, 48, 48]) (.cons (.str [69, 102, 49]) (.cons (.str [57]) .nil)))))))))) (initS 8 [.a (.int n)]) = some (.next, [some (.a (.int n)), some (.list (bWords.map .str)), none, none, none, none, none, none]) := ex_assign (ev_words Φ _)
  have s2 : ex Φ (.assign 2 (.idx (.list (.cons (.str []) (.cons (.str []) (.cons (.str [49, 46, 50, 46, 51, 46, 52]) (.cons (.str [49, 57, 57, 46, 50, 53, 53, 46, 48, 46, 50, 53, 48]) (.cons (.str [49, 50, 51, 52, 53]) (.cons (.str [49, 46, 50, 46, 51, 46, 50, 53, 54]) (.cons (.str [103]) (.cons (.str []) .nil))))))))) (.bin .Mod (.bin .FloorDiv (.var 0) (.int 90)) (.int 8)))) [some (.a (.int n)), some (.list (bWords.map .str)), none, none, none, none, none, none] = some (.next, [some (.a (.int n)), some (.list (bWords.map .str)), some (.a (.str tl)), none, none, none, none, none]) :=
    ex_assign (ev_idx (ev_tails Φ _) (ev_bin (ev_bin (ev_var rfl) ev_int d90) ev_int m8) hidx)
  have s3 : ex Φ (.assign 3 (.bin .Mod (.var 0) (.int 10))) [some (.a (.int n)), some (.list (bWords.map .str)), some (.a (.str tl)), none, none, none, none, none] = some (.next, [some (.a (.int n)), some (.list (bWords.map .str)), some (.a (.str tl)), some (.a (.int (gap : Int))), none, none, none, none]) := ex_assign (ev_bin (ev_var rfl) ev_int m10)
  have s4 : ex Φ (.assign 4 (.bin .Mod (.bin .FloorDiv (.var 0) (.int 10)) (.int 9))) [some (.a (.int n)), some (.list (bWords.map .str)), some (.a (.str tl)), some (.a (.int (gap : Int))), none, none, none, none] = some (.next, [some (.a (.int n)), some (.list (bWords.map .str)), some (.a (.str tl)), some (.a (.int (gap : Int))), some (.a (.int (many : Int))), none, none, none]) := ex_assign (ev_bin (ev_bin (ev_var rfl) ev_int d10) ev_int m9)
  have s5 : ex Φ (.assign 5 (.bin .FloorDiv (.var 0) (.int 720))) [some (.a (.int n)), some (.list (bWords.map .str)), some (.a (.str tl)), some (.a (.int (gap : Int))), some (.a (.int (many : Int))), none, none, none] = some (.next, [some (.a (.int n)), some (.list (bWords.map .str)), some (.a (.str tl)), some (.a (.int (gap : Int))), some (.a (.int (many : Int))), some (.a (.int (n / 720))), none, none]) := ex_assign (ev_bin (ev_var rfl) ev_int d72)
  have s6 : ex Φ (.assign 6 (.str [])) [some (.a (.int n)), some (.list (bWords.map .str)), some (.a (.str tl)), some (.a (.int (gap : Int))), some (.a (.int (many : Int))), some (.a (.int (n / 720))), none, none] = some (.next, [some (.a (.int n)), some (.list (bWords.map .str)), some (.a (.str tl)), some (.a (.int (gap : Int))), some (.a (.int (many : Int))), some (.a (.int (n / 720))), some (.a (.str [])), none]) := ex_assign (ev_str (by decide))
  obtain ⟨ρ', hgo, t, o7, rfl, hl, ha⟩ := forGo_range (n := many) (body := fun a ρ => ex Φ lLawBuilt1 (set ρ 7 (.a a)))
    (R := fun p ρ => ∃ t o7, ρ = [some (.a (.int n)), some (.list (bWords.map .str)), some (.a (.str tl)), some (.a (.int (gap : Int))), some (.a (.int (many : Int))), some (.a (.int (n / 720))), some (.a (.str t)), o7] ∧ t.length ≤ 6 * p ∧ Asc t)
    (fun p ρ hp ⟨t, o7, e, h1, h2⟩ => by subst e; exact lb_step (by omega) ⟨h1, h2⟩) [some (.a (.int n)), some (.list (bWords.map .str)), some (.a (.str tl)), some (.a (.int (gap : Int))), some (.a (.int (many : Int))), some (.a (.int (n / 720))), some (.a (.str [])), none] ⟨[], none, rfl, by simp, fun c hc => (by cases hc)⟩
  have s7 := (ex_for (Φ := Φ) (x := 7) (k := .range) (it := .cons (.var 4) .nil) (body := lLawBuilt1) (ρ := [some (.a (.int n)), some (.list (bWords.map .str)), some (.a (.str tl)), some (.a (.int (gap : Int))), some (.a (.int (many : Int))), some (.a (.int (n / 720))), some (.a (.str [])), none]) (evs_one (ev_var rfl)) (it_range many (by omega))).trans hgo
  obtain ⟨t1, hl1, ha1, s8⟩ : ∃ t1 : L, t1.length ≤ 6 * many + 2 ∧ Asc t1 ∧ ex Φ (.ite (.cmp .Eq (.var 3) (.var 4)) (.seq (.assign 6 (.bin .Add (.var 6) (.str [58, 58]))) .nil) .nil) [some (.a (.int n)), some (.list (bWords.map .str)), some (.a (.str tl)), some (.a (.int (gap : Int))), some (.a (.int (many : Int))), some (.a (.int (n / 720))), some (.a (.str t)), o7] =
      some (.next, [some (.a (.int n)), some (.list (bWords.map .str)), some (.a (.str tl)), some (.a (.int (gap : Int))), some (.a (.int (many : Int))), some (.a (.int (n / 720))), some (.a (.str t1)), o7]) := by
    have a1 : ev Φ (.cmp .Eq (.var 3) (.var 4)) [some (.a (.int n)), some (.list (bWords.map .str)), some (.a (.str tl)), some (.a (.int (gap : Int))), some (.a (.int (many : Int))), some (.a (.int (n / 720))), some (.a (.str t)), o7] = some (.a (.bool (decide ((gap : Int) = (many : Int))))) := ev_cmp (ev_var rfl) (ev_var rfl) (c_eq_int _ _)
    by_cases q : (gap : Int) = (many : Int)
    · rw [decide_eq_true q] at a1
      refine ⟨t ++ [58, 58], by simp; omega, asc_app ha asc_5858, ?_⟩
      rw [ex_ite_t a1, ex_one]
      exact ex_assign (ev_bin (ev_var rfl) (ev_str (by decide)) (catS (by simp; omega)))
    · rw [decide_eq_false q] at a1
      exact ⟨t, by omega, ha, ex_skip a1⟩
  obtain ⟨t2, hl2, ha2, s9⟩ : ∃ t2 : L, t2.length ≤ 6 * many + 3 ∧ Asc t2 ∧ ex Φ (.ite (.boolE true (.cons (.cmp .NotEq (.var 2) (.str [])) (.cons (.cmp .NotEq (.var 6) (.str [])) (.cons (.cmp .NotEq (.slice (.var 6) (.int (-1)) .none) (.str [58])) .nil)))) (.seq (.assign 6 (.bin .Add (.var 6) (.str [58]))) .nil) .nil) [some (.a (.int n)), some (.list (bWords.map .str)), some (.a (.str tl)), some (.a (.int (gap : Int))), some (.a (.int (many : Int))), some (.a (.int (n / 720))), some (.a (.str t1)), o7] =
      some (.next, [some (.a (.int n)), some (.list (bWords.map .str)), some (.a (.str tl)), some (.a (.int (gap : Int))), some (.a (.int (many : Int))), some (.a (.int (n / 720))), some (.a (.str t2)), o7]) := by
    obtain ⟨b, a1⟩ : ∃ b : Bool, ev Φ (.boolE true (.cons (.cmp .NotEq (.var 2) (.str [])) (.cons (.cmp .NotEq (.var 6) (.str [])) (.cons (.cmp .NotEq (.slice (.var 6) (.int (-1)) .none) (.str [58])) .nil)))) [some (.a (.int n)), some (.list (bWords.map .str)), some (.a (.str tl)), some (.a (.int (gap : Int))), some (.a (.int (many : Int))), some (.a (.int (n / 720))), some (.a (.str t1)), o7] = some (.a (.bool b)) := by
      have e1 : ev Φ (.cmp .NotEq (.var 2) (.str [])) [some (.a (.int n)), some (.list (bWords.map .str)), some (.a (.str tl)), some (.a (.int (gap : Int))), some (.a (.int (many : Int))), some (.a (.int (n / 720))), some (.a (.str t1)), o7] = some (.a (.bool (!decide (tl = [])))) := ev_cmp (ev_var rfl) (ev_str (by decide)) (c_ne_str _ _)
      have e2 : ev Φ (.cmp .NotEq (.var 6) (.str [])) [some (.a (.int n)), some (.list (bWords.map .str)), some (.a (.str tl)), some (.a (.int (gap : Int))), some (.a (.int (many : Int))), some (.a (.int (n / 720))), some (.a (.str t1)), o7] = some (.a (.bool (!decide (t1 = [])))) := ev_cmp (ev_var rfl) (ev_str (by decide)) (c_ne_str _ _)
      have e0 : ev Φ (.slice (.var 6) (.int (-1)) .none) [some (.a (.int n)), some (.list (bWords.map .str)), some (.a (.str tl)), some (.a (.int (gap : Int))), some (.a (.int (many : Int))), some (.a (.int (n / 720))), some (.a (.str t1)), o7] = some (.a (.str (pySlice t1 (some (-1)) none))) := rfl
      have e3 : ev Φ (.cmp .NotEq (.slice (.var 6) (.int (-1)) .none) (.str [58])) [some (.a (.int n)), some (.list (bWords.map .str)), some (.a (.str tl)), some (.a (.int (gap : Int))), some (.a (.int (many : Int))), some (.a (.int (n / 720))), some (.a (.str t1)), o7] = some (.a (.bool (!decide (pySlice t1 (some (-1)) none = [58])))) := ev_cmp e0 (ev_str (by decide)) (c_ne_str _ _)
      cases h1 : (!decide (tl = [])) with
      | false => rw [h1] at e1; exact ⟨_, ev_boolE (ev_and_f e1)⟩
      | true =>
        rw [h1] at e1
        cases h2 : (!decide (t1 = [])) with
        | false => rw [h2] at e2; exact ⟨_, ev_boolE (ev_and_t e1 (ev_and_f e2))⟩
        | true =>
          rw [h2] at e2
          cases h3 : (!decide (pySlice t1 (some (-1)) none = [58])) with
          | false => rw [h3] at e3; exact ⟨_, ev_boolE (ev_and_t e1 (ev_and_t e2 (ev_and_f e3)))⟩
          | true => rw [h3] at e3; exact ⟨_, ev_boolE (ev_and_t e1 (ev_and_t e2 (ev_and_t e3 ev_bnil)))⟩
    cases b with
    | true =>
      refine ⟨t1 ++ [58], by simp; omega, asc_app ha1 asc_58, ?_⟩
      rw [ex_ite_t a1, ex_one]
      exact ex_assign (ev_bin (ev_var rfl) (ev_str (by decide)) (catS (by simp; omega)))
    | false => exact ⟨t1, by omega, ha1, ex_skip a1⟩
  refine ⟨t2 ++ tl, ?_, by rw [List.length_append]; omega, asc_app ha2 ht2⟩
  unfold run bLawBuilt
  rw [ex_next s1, ex_next s2, ex_next s3, ex_next s4, ex_next s5, ex_next s6, ex_next s7, ex_next s8, ex_next s9, ex_one, ex_retF (ev_bin (ev_var rfl) (ev_var rfl) (catS (a := t2) (b := tl) (by omega))) rfl]
  rfl
end Mine
end
section
open PySem PySem.Calls
set_option maxRecDepth 100000
namespace Mine
/-! the texts that the law writes are short and of plain signs -/
theorem asc_join {sep : L} (hs : Asc sep) : ∀ {ws : List L}, (∀ w ∈ ws, Asc w) → Asc (joinL sep ws)
  | [], _ => fun c hc => by cases hc
  | [w], h => h w (by simp)
  | w :: v :: r, h => asc_app (h w (by simp)) (asc_app hs (asc_join (ws := v :: r) hs fun u hu => h u (List.mem_cons_of_mem _ hu)))
theorem dg_lt : ∀ k, k < 16 → dg k < 128 := by decide +kernel
theorem asc_hexW {g : Nat} (h : g < 65536) : Asc (hexW g) := fun c hc => by
  obtain ⟨k, hk, rfl⟩ := hexW_mem h hc
  exact dg_lt k hk
theorem asc_dec {k : Nat} (h : k < 1000) : Asc (dec k) := fun c hc => by
  refine Classical.byContradiction fun hn => dec_not (k := k) (c := c) h (.inr (by omega)) hc
theorem asc_text4 (n : Nat) : Asc (text4 n) := by
  unfold text4
  refine asc_join (by unfold Asc; simp) fun w hw => ?_
  simp only [oct4, List.map_cons, List.map_nil, List.mem_cons, List.not_mem_nil, or_false] at hw
  rcases hw with rfl | rfl | rfl | rfl <;> exact asc_dec (by omega)
theorem asc_words6 {gs : List Nat} (hlt : ∀ g ∈ gs, g < 65536) (v : Bool) : ∀ w ∈ words6 gs v, Asc w := by
  intro w hw
  unfold words6 at hw
  split at hw
  · rcases List.mem_append.mp hw with hw | hw
    · obtain ⟨g, hg, rfl⟩ := List.mem_map.mp (List.mem_of_mem_take hw)
      exact asc_hexW (hlt g hg)
    · simp only [List.mem_singleton] at hw
      subst hw; exact asc_text4 _
  · obtain ⟨g, hg, rfl⟩ := List.mem_map.mp hw
    exact asc_hexW (hlt g hg)
theorem text6_asc {gs : List Nat} (hlen : gs.length = 8) (hlt : ∀ g ∈ gs, g < 65536) : Asc (text6 gs) ∧ (text6 gs).length ≤ 500 := by
  unfold text6
  split
  · have hf := few_words hlen false
    rw [words_false] at hf
    exact ⟨asc_join asc_58 (asc_words6 hlt false), by have := (few_join hf).2; omega⟩
  · have hf := few_words hlen (v4at gs (nr gs).1 (nr gs).2)
    have ha := asc_words6 hlt (v4at gs (nr gs).1 (nr gs).2)
    unfold txt
    refine ⟨asc_app (asc_app (asc_join asc_58 fun w hw => ha w (List.mem_of_mem_take hw)) asc_5858) (asc_join asc_58 fun w hw => ha w (List.mem_of_mem_drop hw)), ?_⟩
    have h1 := (few_join (hf.take (nr gs).1)).2
    have h2 := (few_join (hf.drop ((nr gs).1 + (nr gs).2))).2
    simp only [List.length_append, List.length_cons, List.length_nil]
    omega
theorem text6_short {gs : List Nat} (hlen : gs.length = 8) (hlt : ∀ g ∈ gs, g < 65536) : short (text6 gs) = true := by
  obtain ⟨h1, h2⟩ := text6_asc hlen hlt
  exact asc_short h1 (by omega)
theorem macW_len (n : Nat) : (macW n).length ≤ 1000 := by
  have := joinL_len [58] ((oct6 n).map mac2)
  rw [sumLen_mac] at this
  unfold macW
  simp [oct6] at this ⊢
  omega
/-! the sum of the groups -/
theorem sum_nL (l : List Nat) : bi .sum [.list (nL l)] = some (.a (.int ((l.sum : Nat) : Int))) := by
  have h : ∀ l : List Nat, (l.map fun k : Nat => (k : Int)).sum = ((l.sum : Nat) : Int) := by
    intro l
    induction l with
    | nil => rfl
    | cons a r ih => rw [List.map_cons, List.sum_cons, List.sum_cons, ih, ← Int.natCast_add]
  unfold bi nL
  simp only [ints_map, Option.map_some, h]
def prods (gs : List Nat) : List Nat := (List.range 8).map fun j => gs.getD j 0 * 65536 ^ (7 - j)
theorem prods_to (gs : List Nat) : ∀ k, k ≤ 8 → ((List.range k).map fun j => gs.getD j 0 * 65536 ^ (7 - j)).sum = numTo gs 8 9 k
  | 0, _ => rfl
  | k + 1, h => by
    have hp : pw 8 9 k = 7 - k := by unfold pw; rw [if_pos (by omega)]
    rw [List.range_succ, List.map_append, List.sum_append, prods_to gs k (by omega), numTo_succ, hp, List.map_cons, List.map_nil, List.sum_cons, List.sum_nil, Nat.add_zero]
theorem prods_sum {gs : List Nat} (h : gs.length = 8) : (prods gs).sum = num16 0 gs := by
  unfold prods
  have := lawNum_whole h
  unfold lawNum at this
  rw [h] at this
  rw [prods_to gs 8 (Nat.le_refl _), this]
theorem ev_prods {Φ : Nat → List PV → Option PV} {o0 o1 o3 o4 : Option PV} {gs : List Nat} (hlen : gs.length = 8) (hlt : ∀ g ∈ gs, g < 65536) : ev Φ cLawIsWritten1 [o0, o1, some (.list (nL gs)), o3, o4, none] = some (.list (nL (prods gs))) := by
  unfold prods nL
  rw [List.map_map]
  refine ev_comp_map (vs := [.a (.int 8)]) (fun k : Nat => .int (k : Int)) _ (List.range 8) (evs_one ev_int) (it_range 8 (by decide)) fun j hj => ?_
  have hj := List.mem_range.mp hj
  have hget := nL_get gs j (by omega)
  have hglt : gs.getD j 0 < 65536 := by
    simp only [List.getD, List.getElem?_eq_getElem (show j < gs.length by omega), Option.getD_some]
    exact hlt _ (List.getElem_mem _)
  have hsub : binop .Sub (.a (.int 7)) (.a (.int (j : Int))) = some (.a (.int ((7 - j : Nat) : Int))) := b_subN 7 j (by omega)
  have hpow : binop .Pow (.a (.int 65536)) (.a (.int ((7 - j : Nat) : Int))) = some (.a (.int ((65536 ^ (7 - j) : Nat) : Int))) := b_powN 65536 (7 - j) (by omega) (by decide)
  show ev Φ _ _ = some (.a (.int ((gs.getD j 0 * 65536 ^ (7 - j) : Nat) : Int)))
  generalize gs.getD j 0 = g at hget hglt ⊢
  generalize 65536 ^ (7 - j) = P at hpow ⊢
  have hmul : binop .Mult (.a (.int (g : Int))) (.a (.int (P : Int))) = some (.a (.int ((g * P : Nat) : Int))) := by
    rw [b_mulL _ _ (by rw [Int.natAbs_natCast]; omega), ← Int.natCast_mul]
  exact ev_bin (ev_idx (ev_var rfl) (ev_var rfl) hget) (ev_bin ev_int (ev_bin ev_int (ev_var rfl) hsub) hpow) hmul
def sc (xs : List Int) : PV := .list (xs.map .int)
theorem ne_same {o : Option Nat} : cmpop .NotEq (optI o) (optI o) = some false := by
  cases o with
  | none => rfl
  | some n => show cmpop .NotEq (.a (.int (n : Int))) (.a (.int (n : Int))) = _; rw [c_ne_int]; simp
theorem ne_str (l : L) : cmpop .NotEq (.a (.str l)) (.a (.str l)) = some false := by rw [c_ne_str]; simp
theorem eq_str (l : L) : cmpop .Eq (.a (.str l)) (.a (.str l)) = some true := by rw [c_eq_str]; simp
theorem ne_int (i : Int) : cmpop .NotEq (.a (.int i)) (.a (.int i)) = some false := by rw [c_ne_int]; simp
theorem eq_int (i : Int) : cmpop .Eq (.a (.int i)) (.a (.int i)) = some true := by rw [c_eq_int]; simp
/-- what the calls of _law_is_written give -/
structure HW (Φ : Nat → List PV → Option PV) : Prop where
  h14 : ∀ xs k, Φ 14 [sc xs, I1 k] = some (.a (.int (digit xs k)))
  h24 : ∀ (n : Int) (k : Nat), ∃ gs : List Nat, Φ 24 [.a (.int n), I1 k] = some (.list (nL gs)) ∧ gs.length = 8 ∧ ∀ g ∈ gs, g < 65536
  h17 : ∀ gs : List Nat, gs.length = 8 → (∀ g ∈ gs, g < 65536) → Φ 17 [.list (nL gs)] = some (S1 (text6 gs))
  h9 : ∀ n : Nat, Φ 9 [I1 n] = some (S1 (text6 (gs8 n)))
  h7 : ∀ l, short l = true → Φ 7 [S1 l] = some (optI (ip6Of l))
  h16 : ∀ n : Nat, Φ 16 [I1 n] = some (S1 (text4 n))
  h5 : ∀ n : Nat, Φ 5 [I1 n] = some (S1 (text4 n))
  h4 : ∀ l, short l = true → Φ 4 [S1 l] = some (optI (ip4Of l))
  h18 : ∀ n : Nat, n < 2 ^ 48 → Φ 18 [I1 n] = some (S1 (macW n))
  h11 : ∀ n : Nat, n < 2 ^ 48 → Φ 11 [I1 n] = some (S1 (macW n))
  h10 : ∀ l : L, l.length ≤ 1000 → Φ 10 [S1 l] = some (optI (macOf l))
theorem w_step {Φ : Nat → List PV → Option PV} (H : HW Φ) (xs : List Int) (k : Nat) (o2 o3 o4 : Option PV) :
    ∃ ρ', ex Φ lLawIsWritten1 [some (sc xs), some (.a (.int (k : Int))), o2, o3, o4, none] = some (.next, ρ') ∧ ∃ o1 o2 o3 o4, ρ' = [some (sc xs), o1, o2, o3, o4, none] := by
  have c14 := H.h14 xs k
  obtain ⟨gs, c24, hlen, hlt⟩ := H.h24 (digit xs k) k
  have c17 := H.h17 gs hlen hlt
  have c9 := H.h9 (num16 0 gs)
  rw [gs8_num hlen hlt] at c9
  have c7 := H.h7 _ (text6_short hlen hlt)
  rw [ip6_back hlen hlt] at c7
  have s0 : ex Φ (.assign 2 (.call 24 (.cons (.call 14 (.cons (.var 0) (.cons (.var 1) .nil))) (.cons (.var 1) .nil)))) [some (sc xs), some (.a (.int (k : Int))), o2, o3, o4, none] = some (.next, [some (sc xs), some (.a (.int (k : Int))), some (.list (nL gs)), o3, o4, none]) :=
    ex_assign (ev_call (evs_cons (ev_call (evs_cons (ev_var rfl) (evs_one (ev_var rfl))) c14) (evs_one (ev_var rfl))) c24)
  have hsum := sum_nL (prods gs)
  rw [prods_sum hlen] at hsum
  have s1 : ex Φ (.assign 3 (.bi .sum (.cons cLawIsWritten1 .nil))) [some (sc xs), some (.a (.int (k : Int))), some (.list (nL gs)), o3, o4, none] = some (.next, [some (sc xs), some (.a (.int (k : Int))), some (.list (nL gs)), some (I1 (num16 0 gs)), o4, none]) :=
    ex_assign (ev_bi (evs_one (ev_prods hlen hlt)) hsum)
  have s2 : ex Φ (.assign 4 (.call 17 (.cons (.var 2) .nil))) [some (sc xs), some (.a (.int (k : Int))), some (.list (nL gs)), some (I1 (num16 0 gs)), o4, none] = some (.next, [some (sc xs), some (.a (.int (k : Int))), some (.list (nL gs)), some (I1 (num16 0 gs)), some (S1 (text6 gs)), none]) :=
    ex_assign (ev_call (evs_one (ev_var rfl)) c17)
  have t1 : ev Φ (.cmp .NotEq (.call 9 (.cons (.var 3) .nil)) (.var 4)) [some (sc xs), some (.a (.int (k : Int))), some (.list (nL gs)), some (I1 (num16 0 gs)), some (S1 (text6 gs)), none] = some (.a (.bool false)) := ev_cmp (ev_call (evs_one (ev_var rfl)) c9) (ev_var rfl) (ne_str _)
  have t2 : ev Φ (.cmp .NotEq (.call 7 (.cons (.var 4) .nil)) (.var 3)) [some (sc xs), some (.a (.int (k : Int))), some (.list (nL gs)), some (I1 (num16 0 gs)), some (S1 (text6 gs)), none] = some (.a (.bool false)) := ev_cmp (ev_call (evs_one (ev_var rfl)) c7) (ev_var rfl) (ne_int _)
  unfold lLawIsWritten1
  rw [ex_next s0, ex_next s1, ex_next s2, ex_one, ex_skip (ev_boolE (ev_or_f t1 (ev_or_f t2 ev_bnil)))]
  exact ⟨_, rfl, _, _, _, _, rfl⟩
theorem x31 {Φ : Nat → List PV → Option PV} (H : HW Φ) (xs : List Int) : run Φ 6 bLawIsWritten [sc xs] = some (.a (.bool true)) := by
  obtain ⟨ρ', hgo, o1, o2, o3, o4, rfl⟩ := forGo_range (n := 3) (body := fun a ρ => ex Φ lLawIsWritten1 (set ρ 1 (.a a))) (R := fun _ ρ => ∃ o1 o2 o3 o4, ρ = [some (sc xs), o1, o2, o3, o4, none])
    (fun p ρ _ ⟨o1, o2, o3, o4, e⟩ => by subst e; exact w_step H xs p o2 o3 o4) [some (sc xs), none, none, none, none, none] ⟨none, none, none, none, rfl⟩
  have s0 := (ex_for (Φ := Φ) (x := 1) (k := .range) (it := .cons (.int 3) .nil) (body := lLawIsWritten1) (ρ := [some (sc xs), none, none, none, none, none]) (evs_one ev_int) (it_range 3 (by decide))).trans hgo
  have p32 : binop .Pow (.a (.int 2)) (.a (.int 32)) = some (.a (.int ((2 ^ 32 : Nat) : Int))) := b_powN 2 32 (by decide) (by decide)
  have p48 : binop .Pow (.a (.int 2)) (.a (.int 48)) = some (.a (.int ((2 ^ 48 : Nat) : Int))) := b_powN 2 48 (by decide) (by decide)
  obtain ⟨n, hn, m32⟩ := b_modI (digit xs 3 + 3221226239) (2 ^ 32) (by decide)
  obtain ⟨m, hm, m48⟩ := b_modI (digit xs 4 * 257 + 116703297696) (2 ^ 48) (by decide)
  have c3 : Φ 14 [sc xs, .a (.int 3)] = some (.a (.int (digit xs 3))) := H.h14 xs 3
  have c4 : Φ 14 [sc xs, .a (.int 4)] = some (.a (.int (digit xs 4))) := H.h14 xs 4
  have c16 := H.h16 n
  have c5 := H.h5 n
  have cr4 := H.h4 (text4 n) (asc_short (asc_text4 n) (by have := text4_len n; omega))
  rw [ip4_text4 hn] at cr4
  have c18 := H.h18 m hm
  have c11 := H.h11 m hm
  have c10 := H.h10 (macW m) (macW_len m)
  rw [mac_back hm] at c10
  have s1 : ex Φ (.assign 3 (.bin .Mod (.bin .Add (.call 14 (.cons (.var 0) (.cons (.int 3) .nil))) (.int 3221226239)) (.bin .Pow (.int 2) (.int 32)))) [some (sc xs), o1, o2, o3, o4, none] = some (.next, [some (sc xs), o1, o2, some (I1 n), o4, none]) :=
    ex_assign (ev_bin (ev_bin (ev_call (evs_cons (ev_var rfl) (evs_one ev_int)) c3) ev_int (b_add _ _)) (ev_bin ev_int ev_int p32) m32)
  have s2 : ex Φ (.assign 4 (.call 16 (.cons (.var 3) .nil))) [some (sc xs), o1, o2, some (I1 n), o4, none] = some (.next, [some (sc xs), o1, o2, some (I1 n), some (S1 (text4 n)), none]) := ex_assign (ev_call (evs_one (ev_var rfl)) c16)
  have t1 : ev Φ (.cmp .NotEq (.call 5 (.cons (.var 3) .nil)) (.var 4)) [some (sc xs), o1, o2, some (I1 n), some (S1 (text4 n)), none] = some (.a (.bool false)) := ev_cmp (ev_call (evs_one (ev_var rfl)) c5) (ev_var rfl) (ne_str _)
  have t2 : ev Φ (.cmp .NotEq (.call 4 (.cons (.var 4) .nil)) (.var 3)) [some (sc xs), o1, o2, some (I1 n), some (S1 (text4 n)), none] = some (.a (.bool false)) := ev_cmp (ev_call (evs_one (ev_var rfl)) cr4) (ev_var rfl) (ne_int _)
  have s4 : ex Φ (.assign 3 (.bin .Mod (.bin .Add (.bin .Mult (.call 14 (.cons (.var 0) (.cons (.int 4) .nil))) (.int 257)) (.int 116703297696)) (.bin .Pow (.int 2) (.int 48)))) [some (sc xs), o1, o2, some (I1 n), some (S1 (text4 n)), none] = some (.next, [some (sc xs), o1, o2, some (I1 m), some (S1 (text4 n)), none]) :=
    ex_assign (ev_bin (ev_bin (ev_bin (ev_call (evs_cons (ev_var rfl) (evs_one ev_int)) c4) ev_int (b_mulR _ 257 (by decide))) ev_int (b_add _ _)) (ev_bin ev_int ev_int p48) m48)
  have s5 : ex Φ (.assign 4 (.call 18 (.cons (.var 3) .nil))) [some (sc xs), o1, o2, some (I1 m), some (S1 (text4 n)), none] = some (.next, [some (sc xs), o1, o2, some (I1 m), some (S1 (macW m)), none]) := ex_assign (ev_call (evs_one (ev_var rfl)) c18)
  have t3 : ev Φ (.cmp .Eq (.call 11 (.cons (.var 3) .nil)) (.var 4)) [some (sc xs), o1, o2, some (I1 m), some (S1 (macW m)), none] = some (.a (.bool true)) := ev_cmp (ev_call (evs_one (ev_var rfl)) c11) (ev_var rfl) (eq_str _)
  have t4 : ev Φ (.cmp .Eq (.call 10 (.cons (.var 4) .nil)) (.var 3)) [some (sc xs), o1, o2, some (I1 m), some (S1 (macW m)), none] = some (.a (.bool true)) := ev_cmp (ev_call (evs_one (ev_var rfl)) c10) (ev_var rfl) (eq_int _)
  unfold run bLawIsWritten
  have e0 : initS 6 [sc xs] = [some (sc xs), none, none, none, none, none] := rfl
  rw [e0, ex_next s0, ex_next s1, ex_next s2, ex_next (ex_skip (ev_boolE (ev_or_f t1 (ev_or_f t2 ev_bnil)))), ex_next s4, ex_next s5, ex_one, ex_retF (ev_boolE (ev_and_t t3 (ev_and_t t4 ev_bnil))) rfl]
  rfl
end Mine
end
section
open PySem PySem.Calls
set_option maxRecDepth 100000
namespace Mine
/-! _law_is_read6 -/
structure H6 (Φ : Nat → List PV → Option PV) : Prop where
  h14 : ∀ xs k, Φ 14 [sc xs, I1 k] = some (.a (.int (digit xs k)))
  h25 : ∀ n : Int, ∃ t, Φ 25 [.a (.int n)] = some (S1 t) ∧ t.length ≤ 200 ∧ Asc t
  h26 : ∀ (l : L) (n : Int), l.length ≤ 900 → Asc l → ∃ t, Φ 26 [S1 l, .a (.int n)] = some (S1 t) ∧ t.length ≤ l.length + 1 ∧ Asc t
  h27 : Φ 27 [] = some (.list (tab27.map .str))
  h7 : ∀ l, short l = true → Φ 7 [S1 l] = some (optI (ip6Of l))
  h21 : ∀ l, short l = true → Φ 21 [S1 l] = some (optI (ip6Of l))
def Shorts (ts : List L) (k : Nat) : Prop := ts.length ≤ k ∧ ∀ t ∈ ts, short t = true
theorem shorts_app {a b : List L} {i j : Nat} (h : Shorts a i) (k : Shorts b j) : Shorts (a ++ b) (i + j) :=
  ⟨by rw [List.length_append]; have := h.1; have := k.1; omega, fun t ht => (List.mem_append.mp ht).elim (h.2 t) (k.2 t)⟩
theorem ev_two {Φ : Nat → List PV → Option PV} {ρ : Store} {e1 e2 : E} {a b : At} (h1 : ev Φ e1 ρ = some (.a a)) (h2 : ev Φ e2 ρ = some (.a b)) : ev Φ (.list (.cons e1 (.cons e2 .nil))) ρ = some (.list [a, b]) := by
  rw [ev, evs_cons h1 (evs_one h2), Option.bind_some, if_pos (by rw [sizeLine_eq]; simp)]
  rfl
theorem b_addN (a b : Nat) : binop .Add (.a (.int (a : Int))) (.a (.int (b : Int))) = some (.a (.int ((a + b : Nat) : Int))) := by rw [b_add, ← Int.natCast_add]
theorem r6_step3 {Φ : Nat → List PV → Option PV} (H : H6 Φ) (xs : List Int) {k : Nat} (hk : k < 2) {ts : List L} (ht : Shorts ts (2 * k)) (o3 o4 : Option PV) :
    ∃ ρ', ex Φ lLawIsRead63 [some (sc xs), some (.list (ts.map .str)), some (.a (.int (k : Int))), o3, o4] = some (.next, ρ') ∧ ∃ ts' o2 o3 o4, ρ' = [some (sc xs), some (.list (ts'.map .str)), o2, o3, o4] ∧ Shorts ts' (2 * (k + 1)) := by
  have c14 := H.h14 xs (5 + k)
  have c14' := H.h14 xs (7 + k)
  obtain ⟨d, hd⟩ : ∃ d : Int, index (.list [.int 222, .int 89]) (.a (.int (k : Int))) = some (.a (.int d)) := by
    have : k = 0 ∨ k = 1 := by omega
    rcases this with rfl | rfl
    · exact ⟨222, rfl⟩
    · exact ⟨89, rfl⟩
  obtain ⟨t, c25, ht1, ht2⟩ := H.h25 (digit xs (5 + k) + d)
  obtain ⟨u, c26, hu1, hu2⟩ := H.h26 t (digit xs (7 + k) + 61 * (k : Int)) (by omega) ht2
  have a5 : binop .Add (.a (.int 5)) (.a (.int (k : Int))) = some (I1 (5 + k)) := b_addN 5 k
  have a7 : binop .Add (.a (.int 7)) (.a (.int (k : Int))) = some (I1 (7 + k)) := b_addN 7 k
  have e2 : ∀ o1 o3 o4, ev Φ (.list (.cons (.int 222) (.cons (.int 89) .nil))) [some (sc xs), o1, some (.a (.int (k : Int))), o3, o4] = some (.list [.int 222, .int 89]) := fun _ _ _ => ev_two ev_int ev_int
  have s0 : ex Φ (.assign 3 (.call 25 (.cons (.bin .Add (.call 14 (.cons (.var 0) (.cons (.bin .Add (.int 5) (.var 2)) .nil))) (.idx (.list (.cons (.int 222) (.cons (.int 89) .nil))) (.var 2))) .nil))) [some (sc xs), some (.list (ts.map .str)), some (.a (.int (k : Int))), o3, o4] =
      some (.next, [some (sc xs), some (.list (ts.map .str)), some (.a (.int (k : Int))), some (S1 t), o4]) :=
    ex_assign (ev_call (evs_one (ev_bin (ev_call (evs_cons (ev_var rfl) (evs_one (ev_bin ev_int (ev_var rfl) a5))) c14) (ev_idx (e2 _ _ _) (ev_var rfl) hd) (b_add _ _))) c25)
  have eu : ev Φ (.call 26 (.cons (.var 3) (.cons (.bin .Add (.call 14 (.cons (.var 0) (.cons (.bin .Add (.int 7) (.var 2)) .nil))) (.bin .Mult (.int 61) (.var 2))) .nil))) [some (sc xs), some (.list (ts.map .str)), some (.a (.int (k : Int))), some (S1 t), o4] = some (S1 u) :=
    ev_call (evs_cons (ev_var rfl) (evs_one (ev_bin (ev_call (evs_cons (ev_var rfl) (evs_one (ev_bin ev_int (ev_var rfl) a7))) c14') (ev_bin ev_int (ev_var rfl) (b_mulL 61 _ (by decide))) (b_add _ _)))) c26
  have hcat := b_app (ts.map .str) [.str t, .str u] (by rw [sizeLine_eq, List.length_map]; have := ht.1; simp; omega)
  have hm : ts.map At.str ++ [.str t, .str u] = (ts ++ [t, u]).map .str := by simp
  rw [hm] at hcat
  have s1 : ex Φ (.assign 1 (.bin .Add (.var 1) (.list (.cons (.var 3) (.cons (.call 26 (.cons (.var 3) (.cons (.bin .Add (.call 14 (.cons (.var 0) (.cons (.bin .Add (.int 7) (.var 2)) .nil))) (.bin .Mult (.int 61) (.var 2))) .nil))) .nil))))) [some (sc xs), some (.list (ts.map .str)), some (.a (.int (k : Int))), some (S1 t), o4] =
      some (.next, [some (sc xs), some (.list ((ts ++ [t, u]).map .str)), some (.a (.int (k : Int))), some (S1 t), o4]) :=
    ex_assign (ev_bin (ev_var rfl) (ev_two (ev_var rfl) eu) hcat)
  unfold lLawIsRead63
  rw [ex_next s0, ex_one, s1]
  refine ⟨_, rfl, _, _, _, _, rfl, ?_⟩
  refine shorts_app (j := 2) ht ⟨by simp, fun v hv => ?_⟩
  simp only [List.mem_cons, List.not_mem_nil, or_false] at hv
  rcases hv with rfl | rfl
  · exact asc_short ht2 (by omega)
  · exact asc_short hu2 (by omega)
theorem r6_step2 {Φ : Nat → List PV → Option PV} (H : H6 Φ) (xs : List Int) {k : Nat} (hk : k < 8) {ts : List L} (ht : Shorts ts (4 + k)) (o3 : Option PV) :
    ∃ ρ', ex Φ lLawIsRead62 [some (sc xs), some (.list (ts.map .str)), some (.a (.int (k : Int))), o3, some (.list (tab27.map .str))] = some (.next, ρ') ∧ ∃ ts' o2 o3, ρ' = [some (sc xs), some (.list (ts'.map .str)), o2, o3, some (.list (tab27.map .str))] ∧ Shorts ts' (4 + (k + 1)) := by
  have c14 : Φ 14 [sc xs, .a (.int 9)] = some (.a (.int (digit xs 9))) := H.h14 xs 9
  obtain ⟨i, hi, m40⟩ := b_modI (digit xs 9 + 5 * (k : Int)) 40 (by decide)
  obtain ⟨w, hw, hidx⟩ := idx_strs (ws := tab27) (i := i) (by rw [tab27_ok.1]; exact hi)
  have he : ev Φ (.idx (.var 4) (.bin .Mod (.bin .Add (.call 14 (.cons (.var 0) (.cons (.int 9) .nil))) (.bin .Mult (.int 5) (.var 2))) (.int 40))) [some (sc xs), some (.list (ts.map .str)), some (.a (.int (k : Int))), o3, some (.list (tab27.map .str))] = some (.a (.str w)) :=
    ev_idx (ev_var rfl) (ev_bin (ev_bin (ev_call (evs_cons (ev_var rfl) (evs_one ev_int)) c14) (ev_bin ev_int (ev_var rfl) (b_mulL 5 _ (by decide))) (b_add _ _)) ev_int m40) hidx
  have s0 : ex Φ (.append 1 (.idx (.var 4) (.bin .Mod (.bin .Add (.call 14 (.cons (.var 0) (.cons (.int 9) .nil))) (.bin .Mult (.int 5) (.var 2))) (.int 40)))) [some (sc xs), some (.list (ts.map .str)), some (.a (.int (k : Int))), o3, some (.list (tab27.map .str))] =
      some (.next, [some (sc xs), some (.list ((ts ++ [w]).map .str)), some (.a (.int (k : Int))), o3, some (.list (tab27.map .str))]) := by
    rw [ex, he]
    simp only [Option.bind_some, get]
    rw [if_pos (by rw [sizeLine_eq, List.length_map]; have := ht.1; omega)]
    simp [set]
  unfold lLawIsRead62
  rw [ex_one, s0]
  refine ⟨_, rfl, _, _, _, rfl, ?_⟩
  refine shorts_app (j := 1) ht ⟨by simp, fun v hv => ?_⟩
  simp only [List.mem_cons, List.not_mem_nil, or_false] at hv
  subst hv
  exact (tab27_ok.2 _ hw).2
theorem x32 {Φ : Nat → List PV → Option PV} (H : H6 Φ) (xs : List Int) : run Φ 5 bLawIsRead6 [sc xs] = some (.a (.bool true)) := by
  have s0 : ex Φ (.assign 1 (.list .nil)) (initS 5 [sc xs]) = some (.next, [some (sc xs), some (.list (([] : List L).map .str)), none, none, none]) := ex_assign (show ev Φ (.list .nil) _ = some (.list []) by rw [ev, evs]; rfl)
  obtain ⟨ρ', hgo, ts, o2, o3, o4, rfl, hts⟩ := forGo_range (n := 2) (body := fun a ρ => ex Φ lLawIsRead63 (set ρ 2 (.a a))) (R := fun k ρ => ∃ ts o2 o3 o4, ρ = [some (sc xs), some (.list ((ts : List L).map .str)), o2, o3, o4] ∧ Shorts ts (2 * k))
    (fun p ρ hp ⟨ts, o2, o3, o4, e, h⟩ => by subst e; exact r6_step3 H xs hp h o3 o4) [some (sc xs), some (.list (([] : List L).map .str)), none, none, none] ⟨[], none, none, none, rfl, ⟨by simp, by simp⟩⟩
  have s1 := (ex_for (Φ := Φ) (x := 2) (k := .range) (it := .cons (.int 2) .nil) (body := lLawIsRead63) (ρ := [some (sc xs), some (.list (([] : List L).map .str)), none, none, none]) (evs_one ev_int) (it_range 2 (by decide))).trans hgo
  have c27 := H.h27
  have s2 : ex Φ (.assign 4 (.call 27 .nil)) [some (sc xs), some (.list (ts.map .str)), o2, o3, o4] = some (.next, [some (sc xs), some (.list (ts.map .str)), o2, o3, some (.list (tab27.map .str))]) := ex_assign (ev_call (by rw [evs]) c27)
  obtain ⟨ρ2, hgo2, us, p2, p3, rfl, hus⟩ := forGo_range (n := 8) (body := fun a ρ => ex Φ lLawIsRead62 (set ρ 2 (.a a))) (R := fun k ρ => ∃ ts o2 o3, ρ = [some (sc xs), some (.list ((ts : List L).map .str)), o2, o3, some (.list (tab27.map .str))] ∧ Shorts ts (4 + k))
    (fun p ρ hp ⟨ts, o2, o3, e, h⟩ => by subst e; exact r6_step2 H xs hp h o3) [some (sc xs), some (.list (ts.map .str)), o2, o3, some (.list (tab27.map .str))] ⟨ts, o2, o3, rfl, hts⟩
  have s3 := (ex_for (Φ := Φ) (x := 2) (k := .range) (it := .cons (.int 8) .nil) (body := lLawIsRead62) (ρ := [some (sc xs), some (.list (ts.map .str)), o2, o3, some (.list (tab27.map .str))]) (evs_one ev_int) (it_range 8 (by decide))).trans hgo2
  obtain ⟨ρ3, hgo3, hR⟩ := forGo_O (R := fun (_ : Unit) ρ => ∃ o3, ρ = [some (sc xs), some (.list (us.map .str)), p2, o3, some (.list (tab27.map .str))]) (enc := fun t : L => .str t) (body := fun a ρ => ex Φ lLawIsRead61 (set ρ 3 (.a a))) (f := fun _ _ => some ()) (.a .none) us () [some (sc xs), some (.list (us.map .str)), p2, p3, some (.list (tab27.map .str))]
    (fun _ ρ t ht ⟨o3, e⟩ => by
      subst e
      have c7 := H.h7 t (hus.2 t ht)
      have c21 := H.h21 t (hus.2 t ht)
      have tt : ev Φ (.cmp .NotEq (.call 7 (.cons (.var 3) .nil)) (.call 21 (.cons (.var 3) .nil))) [some (sc xs), some (.list (us.map .str)), p2, some (S1 t), some (.list (tab27.map .str))] = some (.a (.bool false)) :=
        ev_cmp (ev_call (evs_one (ev_var rfl)) c7) (ev_call (evs_one (ev_var rfl)) c21) ne_same
      refine ⟨[some (sc xs), some (.list (us.map .str)), p2, some (S1 t), some (.list (tab27.map .str))], ?_, _, rfl⟩
      show ex Φ lLawIsRead61 [some (sc xs), some (.list (us.map .str)), p2, some (S1 t), some (.list (tab27.map .str))] = _
      unfold lLawIsRead61
      rw [ex_one, ex_skip tt]; rfl) ⟨p3, rfl⟩
  rw [foldO_some] at hgo3
  have s4 : ex Φ (.forS 3 .val (.cons (.var 1) .nil) lLawIsRead61) [some (sc xs), some (.list (us.map .str)), p2, p3, some (.list (tab27.map .str))] = some (.next, ρ3) :=
    (ex_for (Φ := Φ) (x := 3) (k := .val) (it := .cons (.var 1) .nil) (body := lLawIsRead61) (evs_one (ev_var rfl)) (it_list _)).trans hgo3
  have s5 : ex Φ (.freeze (.seq (.forS 3 .val (.cons (.var 1) .nil) lLawIsRead61) (.seq (.ret (.bool true)) .nil))) [some (sc xs), some (.list (us.map .str)), p2, p3, some (.list (tab27.map .str))] = some (.ret (.a (.bool true)), ρ3) := by
    rw [ex, ex_next s4, ex_retBool]; rfl
  unfold run bLawIsRead6
  rw [ex_next s0, ex_next s1, ex_next s2, ex_next s3, s5]
  rfl
/-! _law_is_read4 -/
structure H4 (Φ : Nat → List PV → Option PV) : Prop where
  h14 : ∀ xs k, Φ 14 [sc xs, I1 k] = some (.a (.int (digit xs k)))
  h24 : ∀ (n : Int) (k : Nat), ∃ gs : List Nat, Φ 24 [.a (.int n), I1 k] = some (.list (nL gs)) ∧ gs.length = 8 ∧ ∀ g ∈ gs, g < 65536
  h17 : ∀ gs : List Nat, gs.length = 8 → (∀ g ∈ gs, g < 65536) → Φ 17 [.list (nL gs)] = some (S1 (text6 gs))
  h28 : Φ 28 [] = some (.list (tab28.map .str))
  h29 : Φ 29 [] = some (.list (tab29.map .str))
  h4 : ∀ l, short l = true → Φ 4 [S1 l] = some (optI (ip4Of l))
  h19 : ∀ l, Φ 19 [S1 l] = some (optI (ip4Of l))
  h13 : ∀ l, short l = true → Φ 13 [S1 l] = some (optT (prefOf l))
  h23 : ∀ l, short l = true → Φ 23 [S1 l] = some (optT (prefOf l))
theorem ne_sameT {o : Option (Nat × Nat × Nat)} : cmpop .NotEq (optT o) (optT o) = some false := by
  have pl : (optT o).plain = true := by
    cases o with
    | none => rfl
    | some x => rfl
  have : cmpop .NotEq (optT o) (optT o) = if (optT o).plain && (optT o).plain then some (!decide (optT o = optT o)) else none := by
    cases o <;> rfl
  rw [this, pl]
  simp
theorem r4_inner {Φ : Nat → List PV → Option PV} (H : H4 Φ) {o0 o1 o2 o3 o4 o5 : Option PV} {a b : L} (ha : short a = true) (hb : short b = true) (o6 : Option PV) {e : E} (he : ev Φ e [o0, o1, o2, o3, o4, o5, o6] = some (.list [.str a, .str b])) :
    ∃ o6', ex Φ (.forS 6 .val (.cons e .nil) lLawIsRead41) [o0, o1, o2, o3, o4, o5, o6] = some (.next, [o0, o1, o2, o3, o4, o5, o6']) := by
  have one : ∀ (w : L) (o : Option PV), short w = true → ex Φ lLawIsRead41 (set [o0, o1, o2, o3, o4, o5, o] 6 (.a (.str w))) = some (.next, [o0, o1, o2, o3, o4, o5, some (S1 w)]) := fun w o hw => by
    have c13 := H.h13 w hw
    have c23 := H.h23 w hw
    have tt : ev Φ (.cmp .NotEq (.call 13 (.cons (.var 6) .nil)) (.call 23 (.cons (.var 6) .nil))) [o0, o1, o2, o3, o4, o5, some (S1 w)] = some (.a (.bool false)) :=
      ev_cmp (ev_call (evs_one (ev_var rfl)) c13) (ev_call (evs_one (ev_var rfl)) c23) ne_sameT
    show ex Φ lLawIsRead41 [o0, o1, o2, o3, o4, o5, some (S1 w)] = _
    unfold lLawIsRead41
    rw [ex_one, ex_skip tt]
  refine ⟨some (S1 b), ?_⟩
  rw [ex_for (evs_one he) (it_list _)]
  simp only [forGo, one a _ ha, one b _ hb, Option.bind_some]
theorem r4_step {Φ : Nat → List PV → Option PV} (H : H4 Φ) (xs : List Int) {first : Int} {six : L} (h6 : Asc six ∧ six.length ≤ 500) {k : Nat} (hk : k < 4) (o5 o6 : Option PV) :
    ∃ ρ', ex Φ lLawIsRead42 [some (sc xs), some (.a (.int first)), some (.list (tab29.map .str)), some (S1 six), some (.a (.int (k : Int))), o5, o6] = some (.next, ρ') ∧ ∃ o4 o5 o6, ρ' = [some (sc xs), some (.a (.int first)), some (.list (tab29.map .str)), some (S1 six), o4, o5, o6] := by
  obtain ⟨i, hi, m20⟩ := b_modI (first + 5 * (k : Int)) 20 (by decide)
  obtain ⟨t, ht, hidx⟩ := idx_strs (ws := tab28) (i := i) (by rw [tab28_ok.1]; exact hi)
  obtain ⟨htl, hts⟩ := tab28_ok.2 t ht
  obtain ⟨j, hj, m18⟩ := b_modI (first + 7 * (k : Int)) 18 (by decide)
  obtain ⟨u, hu, hidu⟩ := idx_strs (ws := tab29) (i := j) (by rw [tab29_ok.1]; exact hj)
  obtain ⟨hul, hus⟩ := tab29_ok.2 u hu
  obtain ⟨q, hq, m18'⟩ := b_modI (first + 7 * (k : Int) + 9) 18 (by decide)
  obtain ⟨v, hv, hidv⟩ := idx_strs (ws := tab29) (i := q) (by rw [tab29_ok.1]; exact hq)
  obtain ⟨hvl, hvs⟩ := tab29_ok.2 v hv
  have c28 := H.h28
  have s0 : ex Φ (.assign 5 (.idx (.call 28 .nil) (.bin .Mod (.bin .Add (.var 1) (.bin .Mult (.int 5) (.var 4))) (.int 20)))) [some (sc xs), some (.a (.int first)), some (.list (tab29.map .str)), some (S1 six), some (.a (.int (k : Int))), o5, o6] =
      some (.next, [some (sc xs), some (.a (.int first)), some (.list (tab29.map .str)), some (S1 six), some (.a (.int (k : Int))), some (S1 t), o6]) :=
    ex_assign (ev_idx (ev_call (by rw [evs]) c28) (ev_bin (ev_bin (ev_var rfl) (ev_bin ev_int (ev_var rfl) (b_mulL 5 _ (by decide))) (b_add _ _)) ev_int m20) hidx)
  have c4 := H.h4 t hts
  have c19 := H.h19 t
  have t1 : ev Φ (.cmp .NotEq (.call 4 (.cons (.var 5) .nil)) (.call 19 (.cons (.var 5) .nil))) [some (sc xs), some (.a (.int first)), some (.list (tab29.map .str)), some (S1 six), some (.a (.int (k : Int))), some (S1 t), o6] = some (.a (.bool false)) :=
    ev_cmp (ev_call (evs_one (ev_var rfl)) c4) (ev_call (evs_one (ev_var rfl)) c19) ne_same
  have hat := (short_iff.mp hts).2
  have hau := (short_iff.mp hus).2
  have hav := (short_iff.mp hvs).2
  have he : ev Φ (.list (.cons (.bin .Add (.var 5) (.idx (.var 2) (.bin .Mod (.bin .Add (.var 1) (.bin .Mult (.int 7) (.var 4))) (.int 18)))) (.cons (.bin .Add (.var 3) (.idx (.var 2) (.bin .Mod (.bin .Add (.bin .Add (.var 1) (.bin .Mult (.int 7) (.var 4))) (.int 9)) (.int 18)))) .nil))) [some (sc xs), some (.a (.int first)), some (.list (tab29.map .str)), some (S1 six), some (.a (.int (k : Int))), some (S1 t), o6] =
      some (.list [.str (t ++ u), .str (six ++ v)]) :=
    ev_two (ev_bin (ev_var rfl) (ev_idx (ev_var rfl) (ev_bin (ev_bin (ev_var rfl) (ev_bin ev_int (ev_var rfl) (b_mulL 7 _ (by decide))) (b_add _ _)) ev_int m18) hidu) (catS (a := t) (b := u) (by omega)))
      (ev_bin (ev_var rfl) (ev_idx (ev_var rfl) (ev_bin (ev_bin (ev_bin (ev_var rfl) (ev_bin ev_int (ev_var rfl) (b_mulL 7 _ (by decide))) (b_add _ _)) ev_int (b_add _ _)) ev_int m18') hidv) (catS (a := six) (b := v) (by have := h6.2; omega)))
  obtain ⟨o6', s2⟩ := r4_inner H (asc_short (asc_app hat hau) (by rw [List.length_append]; omega)) (asc_short (asc_app h6.1 hav) (by rw [List.length_append]; have := h6.2; omega)) o6 he
  unfold lLawIsRead42
  rw [ex_next s0, ex_next (ex_skip t1), ex_one, s2]
  exact ⟨_, rfl, _, _, _, rfl⟩
theorem x33 {Φ : Nat → List PV → Option PV} (H : H4 Φ) (xs : List Int) : run Φ 7 bLawIsRead4 [sc xs] = some (.a (.bool true)) := by
  have c14 : Φ 14 [sc xs, .a (.int 10)] = some (.a (.int (digit xs 10))) := H.h14 xs 10
  have s0 : ex Φ (.assign 1 (.call 14 (.cons (.var 0) (.cons (.int 10) .nil)))) (initS 7 [sc xs]) = some (.next, [some (sc xs), some (.a (.int (digit xs 10))), none, none, none, none, none]) := ex_assign (ev_call (evs_cons (ev_var rfl) (evs_one ev_int)) c14)
  generalize digit xs 10 = first at *
  have s1 : ex Φ (.assign 2 (.call 29 .nil)) [some (sc xs), some (.a (.int first)), none, none, none, none, none] = some (.next, [some (sc xs), some (.a (.int first)), some (.list (tab29.map .str)), none, none, none, none]) := ex_assign (ev_call (by rw [evs]) H.h29)
  have d18 : binop .FloorDiv (.a (.int first)) (.a (.int 18)) = some (.a (.int (first / 18))) := b_div first 18 (by decide) (by decide)
  obtain ⟨gs, c24, hlen, hlt⟩ := H.h24 (first / 18) 0
  have c17 := H.h17 gs hlen hlt
  have s2 : ex Φ (.assign 3 (.call 17 (.cons (.call 24 (.cons (.bin .FloorDiv (.var 1) (.int 18)) (.cons (.int 0) .nil))) .nil))) [some (sc xs), some (.a (.int first)), some (.list (tab29.map .str)), none, none, none, none] = some (.next, [some (sc xs), some (.a (.int first)), some (.list (tab29.map .str)), some (S1 (text6 gs)), none, none, none]) :=
    ex_assign (ev_call (evs_one (ev_call (evs_cons (ev_bin (ev_var rfl) ev_int d18) (evs_one ev_int)) c24)) c17)
  have h6 := text6_asc hlen hlt
  obtain ⟨ρ', hgo, o4, o5, o6, rfl⟩ := forGo_range (n := 4) (body := fun a ρ => ex Φ lLawIsRead42 (set ρ 4 (.a a))) (R := fun _ ρ => ∃ o4 o5 o6, ρ = [some (sc xs), some (.a (.int first)), some (.list (tab29.map .str)), some (S1 (text6 gs)), o4, o5, o6])
    (fun p ρ hp ⟨o4, o5, o6, e⟩ => by subst e; exact r4_step H xs h6 hp o5 o6) [some (sc xs), some (.a (.int first)), some (.list (tab29.map .str)), some (S1 (text6 gs)), none, none, none] ⟨none, none, none, rfl⟩
  have s3 := (ex_for (Φ := Φ) (x := 4) (k := .range) (it := .cons (.int 4) .nil) (body := lLawIsRead42) (ρ := [some (sc xs), some (.a (.int first)), some (.list (tab29.map .str)), some (S1 (text6 gs)), none, none, none]) (evs_one ev_int) (it_range 4 (by decide))).trans hgo
  unfold run bLawIsRead4
  rw [ex_next s0, ex_next s1, ex_next s2, ex_next s3, ex_retBool]
  rfl
/-! law -/
structure HL (Φ : Nat → List PV → Option PV) : Prop where
  h14 : ∀ xs k, Φ 14 [sc xs, I1 k] = some (.a (.int (digit xs k)))
  h30 : Φ 30 [] = some (.list (tab30.map .str))
  h10 : ∀ l : L, l.length ≤ 1000 → Φ 10 [S1 l] = some (optI (macOf l))
  h22 : ∀ l, short l = true → Φ 22 [S1 l] = some (optI (macOf l))
  h31 : ∀ xs, Φ 31 [sc xs] = some (.a (.bool true))
  h32 : ∀ xs, Φ 32 [sc xs] = some (.a (.bool true))
  h33 : ∀ xs, Φ 33 [sc xs] = some (.a (.bool true))
theorem x34 {Φ : Nat → List PV → Option PV} (H : HL Φ) (xs : List Int) : run Φ 3 bLaw [sc xs] = some (.a (.bool true)) := by
  have t0 : ev Φ (.boolE false (.cons (.notE (.call 31 (.cons (.var 0) .nil))) (.cons (.notE (.call 32 (.cons (.var 0) .nil))) (.cons (.notE (.call 33 (.cons (.var 0) .nil))) .nil)))) (initS 3 [sc xs]) = some (.a (.bool false)) :=
    ev_boolE (ev_or_f (ev_notE (ev_call (evs_one (ev_var rfl)) (H.h31 xs))) (ev_or_f (ev_notE (ev_call (evs_one (ev_var rfl)) (H.h32 xs))) (ev_or_f (ev_notE (ev_call (evs_one (ev_var rfl)) (H.h33 xs))) ev_bnil)))
  have c14 : Φ 14 [sc xs, .a (.int 11)] = some (.a (.int (digit xs 11))) := H.h14 xs 11
  obtain ⟨ρ', hgo, o1, o2, rfl⟩ := forGo_range (n := 4) (body := fun a ρ => ex Φ lLaw1 (set ρ 1 (.a a))) (R := fun _ ρ => ∃ o1 o2, ρ = [some (sc xs), o1, o2])
    (fun k ρ _ ⟨o1, o2, e⟩ => by
      subst e
      obtain ⟨i, hi, m12⟩ := b_modI (digit xs 11 + 3 * (k : Int)) 12 (by decide)
      obtain ⟨t, ht, hidx⟩ := idx_strs (ws := tab30) (i := i) (by rw [tab30_ok.1]; exact hi)
      obtain ⟨htl, hts⟩ := tab30_ok.2 t ht
      have c10 := H.h10 t (by omega)
      have c22 := H.h22 t hts
      have s0 : ex Φ (.assign 2 (.idx (.call 30 .nil) (.bin .Mod (.bin .Add (.call 14 (.cons (.var 0) (.cons (.int 11) .nil))) (.bin .Mult (.int 3) (.var 1))) (.int 12)))) [some (sc xs), some (.a (.int (k : Int))), o2] = some (.next, [some (sc xs), some (.a (.int (k : Int))), some (S1 t)]) :=
        ex_assign (ev_idx (ev_call (by rw [evs]) H.h30) (ev_bin (ev_bin (ev_call (evs_cons (ev_var rfl) (evs_one ev_int)) c14) (ev_bin ev_int (ev_var rfl) (b_mulL 3 _ (by decide))) (b_add _ _)) ev_int m12) hidx)
      have t1 : ev Φ (.cmp .NotEq (.call 10 (.cons (.var 2) .nil)) (.call 22 (.cons (.var 2) .nil))) [some (sc xs), some (.a (.int (k : Int))), some (S1 t)] = some (.a (.bool false)) :=
        ev_cmp (ev_call (evs_one (ev_var rfl)) c10) (ev_call (evs_one (ev_var rfl)) c22) ne_same
      refine ⟨[some (sc xs), some (.a (.int (k : Int))), some (S1 t)], ?_, _, _, rfl⟩
      show ex Φ lLaw1 [some (sc xs), some (.a (.int (k : Int))), o2] = _
      unfold lLaw1
      rw [ex_next s0, ex_one, ex_skip t1]) [some (sc xs), none, none] ⟨none, none, rfl⟩
  have s1 := (ex_for (Φ := Φ) (x := 1) (k := .range) (it := .cons (.int 4) .nil) (body := lLaw1) (ρ := [some (sc xs), none, none]) (evs_one ev_int) (it_range 4 (by decide))).trans hgo
  unfold run bLaw
  have e0 : initS 3 [sc xs] = [some (sc xs), none, none] := rfl
  rw [e0] at t0 ⊢
  rw [ex_next (ex_skip t0), ex_next s1, ex_retBool]
  rfl
end Mine
end
section
open PySem PySem.Calls PySem.W PyProof.Rows
set_option maxRecDepth 100000
namespace Mine
noncomputable section
structure Plan where
  nm : Str
  sl : List (Option Str)
  ps : List Str
  D : Option Nat
  st : S
def plan : Nat → Option Plan
  | 0 => some ⟨Str.ofString "octets_of", slOctetsOf, psOctetsOf, dOctetsOf, bOctetsOf⟩
  | 1 => some ⟨Str.ofString "decimal_of", slDecimalOf, psDecimalOf, dDecimalOf, bDecimalOf⟩
  | 2 => some ⟨Str.ofString "hex_of", slHexOf, psHexOf, dHexOf, bHexOf⟩
  | 3 => some ⟨Str.ofString "hex_text", slHexText, psHexText, dHexText, bHexText⟩
  | 4 => some ⟨Str.ofString "ip4_of", slIp4Of, psIp4Of, dIp4Of, bIp4Of⟩
  | 5 => some ⟨Str.ofString "ip4_text", slIp4Text, psIp4Text, dIp4Text, bIp4Text⟩
  | 6 => some ⟨Str.ofString "groups_of", slGroupsOf, psGroupsOf, dGroupsOf, bGroupsOf⟩
  | 7 => some ⟨Str.ofString "ip6_of", slIp6Of, psIp6Of, dIp6Of, bIp6Of⟩
  | 8 => some ⟨Str.ofString "nought_run", slNoughtRun, psNoughtRun, dNoughtRun, bNoughtRun⟩
  | 9 => some ⟨Str.ofString "ip6_text", slIp6Text, psIp6Text, dIp6Text, bIp6Text⟩
  | 10 => some ⟨Str.ofString "mac_of", slMacOf, psMacOf, dMacOf, bMacOf⟩
  | 11 => some ⟨Str.ofString "mac_text", slMacText, psMacText, dMacText, bMacText⟩
  | 12 => some ⟨Str.ofString "mask_of", slMaskOf, psMaskOf, dMaskOf, bMaskOf⟩
  | 13 => some ⟨Str.ofString "prefix_of", slPrefixOf, psPrefixOf, dPrefixOf, bPrefixOf⟩
  | 14 => some ⟨Str.ofString "_law_digit", slLawDigit, psLawDigit, dLawDigit, bLawDigit⟩
  | 15 => some ⟨Str.ofString "_law_hex", slLawHex, psLawHex, dLawHex, bLawHex⟩
  | 16 => some ⟨Str.ofString "_law_text4", slLawText4, psLawText4, dLawText4, bLawText4⟩
  | 17 => some ⟨Str.ofString "_law_text6", slLawText6, psLawText6, dLawText6, bLawText6⟩
  | 18 => some ⟨Str.ofString "_law_textmac", slLawTextmac, psLawTextmac, dLawTextmac, bLawTextmac⟩
  | 19 => some ⟨Str.ofString "_law_read4", slLawRead4, psLawRead4, dLawRead4, bLawRead4⟩
  | 20 => some ⟨Str.ofString "_law_group", slLawGroup, psLawGroup, dLawGroup, bLawGroup⟩
  | 21 => some ⟨Str.ofString "_law_read6", slLawRead6, psLawRead6, dLawRead6, bLawRead6⟩
  | 22 => some ⟨Str.ofString "_law_readmac", slLawReadmac, psLawReadmac, dLawReadmac, bLawReadmac⟩
  | 23 => some ⟨Str.ofString "_law_prefix", slLawPrefix, psLawPrefix, dLawPrefix, bLawPrefix⟩
  | 24 => some ⟨Str.ofString "_law_groups", slLawGroups, psLawGroups, dLawGroups, bLawGroups⟩
  | 25 => some ⟨Str.ofString "_law_built", slLawBuilt, psLawBuilt, dLawBuilt, bLawBuilt⟩
  | 26 => some ⟨Str.ofString "_law_changed", slLawChanged, psLawChanged, dLawChanged, bLawChanged⟩
  | 27 => some ⟨Str.ofString "_law_edges6", slLawEdges6, psLawEdges6, dLawEdges6, bLawEdges6⟩
  | 28 => some ⟨Str.ofString "_law_edges4", slLawEdges4, psLawEdges4, dLawEdges4, bLawEdges4⟩
  | 29 => some ⟨Str.ofString "_law_lengths", slLawLengths, psLawLengths, dLawLengths, bLawLengths⟩
  | 30 => some ⟨Str.ofString "_law_edgesmac", slLawEdgesmac, psLawEdgesmac, dLawEdgesmac, bLawEdgesmac⟩
  | 31 => some ⟨Str.ofString "_law_is_written", slLawIsWritten, psLawIsWritten, dLawIsWritten, bLawIsWritten⟩
  | 32 => some ⟨Str.ofString "_law_is_read6", slLawIsRead6, psLawIsRead6, dLawIsRead6, bLawIsRead6⟩
  | 33 => some ⟨Str.ofString "_law_is_read4", slLawIsRead4, psLawIsRead4, dLawIsRead4, bLawIsRead4⟩
  | 34 => some ⟨Str.ofString "law", slLaw, psLaw, dLaw, bLaw⟩
  | _ => none
def Plan.ok (q : Plan) (d : DefRec) : Bool :=
  planB ⟨q.sl, d.scope.names, fnName, true⟩ q.ps q.D && okSs ⟨q.sl, d.scope.names, fnName, true⟩ q.D q.st d.body && d.scope.kind == .function && !d.scope.isCoroutine && !d.scope.isGenerator && plainArgs d.params q.ps && d.name == q.nm
noncomputable def recAt (q : Plan) : Option DefRec := (recsOf hd.view_39).find? (fun d => d.name == q.nm)
noncomputable def chkR (q : Plan) : Bool := match recAt q with
  | some d => q.ok d
  | none => false
noncomputable def one1 (K : Frag) : Value → Bool
  | .ref T => match K.lookup T with
    | some ⟨_, _, .seq items _, _⟩ => match items.toList with
      | [.int 1 _] => true
      | _ => false
    | _ => false
  | _ => false
noncomputable def fdOk (q : Plan) (K : Frag) (fd : FuncData) : Bool :=
  (match fd.body with
    | .stmts b => okSs ⟨q.sl, fd.scope.names, fnName, true⟩ q.D q.st b
    | _ => false) &&
  planB ⟨q.sl, fd.scope.names, fnName, true⟩ q.ps q.D && fd.scope.kind == .function && !fd.scope.isCoroutine && !fd.scope.isGenerator && plainArgs fd.params q.ps &&
  fd.closure.isEmpty && fd.globals == mainGlobals && fd.builtins == builtinsNs && codeIn K fd.code fd.qualname && one1 K fd.defaults
noncomputable def chkF (q : Plan) (K : Frag) : Bool := match nsIn K mainGlobals q.nm with
  | some (some (.ref f)) => match K.lookup f with
    | some ⟨_, _, .func fd, _⟩ => fdOk q K fd
    | _ => false
  | _ => false
noncomputable def chkK (k : Nat) : Bool := match plan k with
  | some q => (k == 3 || chkR q) && (fnName k == some q.nm)
  | none => false

theorem ck0 : chkK 0 = true := by decide +kernel
theorem ck1 : chkK 1 = true := by decide +kernel
theorem ck2 : chkK 2 = true := by decide +kernel
theorem ck3 : chkK 3 = true := by decide +kernel
theorem ck4 : chkK 4 = true := by decide +kernel
theorem ck5 : chkK 5 = true := by decide +kernel
theorem ck6 : chkK 6 = true := by decide +kernel
theorem ck7 : chkK 7 = true := by decide +kernel
theorem ck8 : chkK 8 = true := by decide +kernel
theorem ck9 : chkK 9 = true := by decide +kernel
theorem ck10 : chkK 10 = true := by decide +kernel
theorem ck11 : chkK 11 = true := by decide +kernel
theorem ck12 : chkK 12 = true := by decide +kernel
theorem ck13 : chkK 13 = true := by decide +kernel
theorem ck14 : chkK 14 = true := by decide +kernel
theorem ck15 : chkK 15 = true := by decide +kernel
theorem ck16 : chkK 16 = true := by decide +kernel
theorem ck17 : chkK 17 = true := by decide +kernel
theorem ck18 : chkK 18 = true := by decide +kernel
theorem ck19 : chkK 19 = true := by decide +kernel
theorem ck20 : chkK 20 = true := by decide +kernel
theorem ck21 : chkK 21 = true := by decide +kernel
theorem ck22 : chkK 22 = true := by decide +kernel
theorem ck23 : chkK 23 = true := by decide +kernel
theorem ck24 : chkK 24 = true := by decide +kernel
theorem ck25 : chkK 25 = true := by decide +kernel
theorem ck26 : chkK 26 = true := by decide +kernel
theorem ck27 : chkK 27 = true := by decide +kernel
theorem ck28 : chkK 28 = true := by decide +kernel
theorem ck29 : chkK 29 = true := by decide +kernel
theorem ck30 : chkK 30 = true := by decide +kernel
theorem ck31 : chkK 31 = true := by decide +kernel
theorem ck32 : chkK 32 = true := by decide +kernel
theorem ck33 : chkK 33 = true := by decide +kernel
theorem ck34 : chkK 34 = true := by decide +kernel
def hexPlan : Plan := ⟨Str.ofString "hex_text", slHexText, psHexText, dHexText, bHexText⟩
theorem ckF : ∀ P : Params, chkF hexPlan (hd.heap_39 P) = true := fun P => by kernel_rfl
end
end Mine
end
section
open PySem PySem.Calls PySem.W PyProof.Rows
set_option maxRecDepth 100000
namespace Mine

theorem bindArgs_plain {fd : FuncData} {vals : List Value} {ps : List Str} (hp : plainArgs fd.params ps = true) (hdf : fd.defaults = .none) (hl : vals.length = ps.length) (hs : ps.length ≤ 2) (hnd : ps.Nodup) : bindArgs fd ⟨vals, []⟩ = pure (ps.zip vals) := by
  unfold plainArgs at hp
  simp only [Bool.and_eq_true, List.isEmpty_iff, Option.isNone_iff_eq_none, beq_iff_eq] at hp
  obtain ⟨⟨⟨⟨⟨h1, h2⟩, h3⟩, h4⟩, h5⟩, h6⟩ := hp
  unfold bindArgs
  simp only [h1, h2, h3, h4, h6, hdf]
  match ps, vals, hl, hs with
  | [], [], _, _ => rfl
  | [a], [v], _, _ => simp [seqItems?, List.lookup]; rfl
  | [a, b], [v, u], _, _ =>
    have hab : ¬ a = b := by simpa using hnd
    have hba : (b == a) = false := by simpa using fun e : b = a => hab e.symm
    simp [seqItems?, List.lookup, hba]; rfl
/-- with one default for the second of two -/
theorem bindsTo_dflt {s : Shared} {fd : FuncData} {vals : List Value} {a b : Str} {T : Addr} {o : Obj} {items : Array Value} {n : Nat} {d : Value} (hp : plainArgs fd.params [a, b] = true) (hd : fd.defaults = .ref T)
    (ho : s.heap.get? T = some o) (hs : o.data = .seq items n) (hi : items.toList = [d]) (hab : a ≠ b) :
    (∀ v, vals = [v] → BindsTo s fd ⟨vals, []⟩ ([a, b].zip [v, d])) ∧ (∀ v u, vals = [v, u] → BindsTo s fd ⟨vals, []⟩ ([a, b].zip [v, u])) := by
  unfold plainArgs at hp
  simp only [Bool.and_eq_true, List.isEmpty_iff, Option.isNone_iff_eq_none, beq_iff_eq] at hp
  obtain ⟨⟨⟨⟨⟨h1, h2⟩, h3⟩, h4⟩, h5⟩, h6⟩ := hp
  have hba : (b == a) = false := by simpa using fun e : b = a => hab e.symm
  refine ⟨?_, ?_⟩
  · rintro v rfl
    intro M A E Q hq
    unfold bindArgs
    simp only [h1, h2, h3, h4, h6, hd]
    show wpAny M A (seqItems? (.ref T) >>= _) Q E s
    refine wpAny_bind (wpAny_seqItems ho hs ?_)
    simp [hi, List.lookup, hba]
    exact wpAny_pure hq
  · rintro v u rfl
    intro M A E Q hq
    unfold bindArgs
    simp only [h1, h2, h3, h4, h6, hd]
    show wpAny M A (seqItems? (.ref T) >>= _) Q E s
    refine wpAny_bind (wpAny_seqItems ho hs ?_)
    simp [hi, List.lookup, hba]
    exact wpAny_pure hq
end Mine
end
section
open PySem PySem.Calls PySem.W PyProof.Rows
set_option maxRecDepth 100000
namespace Mine
def tabRun (Φ : Nat → List PV → Option PV) (k : Nat) (q : Plan) (args : List PV) : Option PV :=
  if k = 3 ∧ args.length = 1 then run Φ q.sl.length q.st (args ++ [.a (.int 1)]) else if args.length = q.ps.length then run Φ q.sl.length q.st args else none
def Tab : Nat → Nat → List PV → Option PV
  | 0, _, _ => none
  | k + 1, f, args => if f = k then (match plan k with
      | some q => tabRun (Tab k) k q args
      | none => none) else Tab k f args
theorem ckAll : ∀ k, k < 35 → chkK k = true
  | 0, _ => ck0
  | 1, _ => ck1
  | 2, _ => ck2
  | 3, _ => ck3
  | 4, _ => ck4
  | 5, _ => ck5
  | 6, _ => ck6
  | 7, _ => ck7
  | 8, _ => ck8
  | 9, _ => ck9
  | 10, _ => ck10
  | 11, _ => ck11
  | 12, _ => ck12
  | 13, _ => ck13
  | 14, _ => ck14
  | 15, _ => ck15
  | 16, _ => ck16
  | 17, _ => ck17
  | 18, _ => ck18
  | 19, _ => ck19
  | 20, _ => ck20
  | 21, _ => ck21
  | 22, _ => ck22
  | 23, _ => ck23
  | 24, _ => ck24
  | 25, _ => ck25
  | 26, _ => ck26
  | 27, _ => ck27
  | 28, _ => ck28
  | 29, _ => ck29
  | 30, _ => ck30
  | 31, _ => ck31
  | 32, _ => ck32
  | 33, _ => ck33
  | 34, _ => ck34
  | k + 35, h => absurd h (by omega)
def Has (mg : Str → Option Value) (H : Heap) (nm : Str) : Prop := ∃ a o fd, mg nm = some (.ref a) ∧ H.get? a = some o ∧ o.data = .func fd
section
variable {prog : Program} {w : World} {mg mb : Str → Option Value} {H : Heap} {n : Nat} {Φ : Nat → List PV → Option PV} {p : Program} {loose : List Str} {mean : ExcName → Option Value}
theorem FnOk.nil {nm : Str} (h : Has mg H nm) : FnOk prog w mg H n nm (fun _ => none) := by
  obtain ⟨a, o, fd, h1, h2, h3⟩ := h
  exact ⟨a, o, fd, h1, h2, h3, fun A s vals args r _ _ _ e => nomatch e⟩
theorem ok_parts {q : Plan} {d : DefRec} (ok : q.ok d = true) : planB ⟨q.sl, d.scope.names, fnName, true⟩ q.ps q.D = true ∧ okSs ⟨q.sl, d.scope.names, fnName, true⟩ q.D q.st d.body = true ∧ d.scope.kind = .function ∧ d.scope.isCoroutine = false ∧ d.scope.isGenerator = false ∧ plainArgs d.params q.ps = true ∧ d.name = q.nm := by
  unfold Plan.ok at ok
  simp only [Bool.and_eq_true, beq_iff_eq, Bool.not_eq_true'] at ok
  obtain ⟨⟨⟨⟨⟨⟨h1, h2⟩, h3⟩, h4⟩, h5⟩, h6⟩, h7⟩ := ok
  exact ⟨h1, h2, h3, h4, h5, h6, h7⟩
theorem fn_top (T : Top p loose mean mg mb H) (G : Gd mg mb H) (fns : ∀ f nm, fnName f = some nm → FnOk prog w mg H n nm (Φ f)) {q : Plan} {d : DefRec} (hd : d ∈ recsOf p) (ok : q.ok d = true) (hs : q.ps.length ≤ 2) :
    FnOk prog w mg H (n + 1) q.nm (fun args => if args.length = q.ps.length then run Φ q.sl.length q.st args else none) := by
  obtain ⟨h1, h2, h3, h4, h5, h6, h7⟩ := ok_parts ok
  obtain ⟨a, o, pm, code, doc, g1, g2, g3, g4⟩ := T.fn d hd
  rw [h7] at g1
  have P := planB_spec h1
  refine fnOk_of G (c := ⟨q.sl, d.scope.names, fnName, true⟩) g1 g2 g3 g4 rfl rfl rfl rfl h3 rfl h4 h5 P h2 fns ?_
  intro s vals args r hsub hv hr
  have hl := hv.length
  split at hr
  · rename_i hlen
    obtain ⟨ρ', e⟩ := run_ex hr
    exact ⟨vals, args, ρ', BindsTo.of_eq (bindArgs_plain h6 rfl (by omega) hs P.nd), hv, by omega, e⟩
  · cases hr
theorem has_top (T : Top p loose mean mg mb H) {q : Plan} {d : DefRec} (hd : d ∈ recsOf p) (ok : q.ok d = true) : Has mg H q.nm := by
  obtain ⟨h1, h2, h3, h4, h5, h6, h7⟩ := ok_parts ok
  obtain ⟨a, o, pm, code, doc, g1, g2, g3, g4⟩ := T.fn d hd
  rw [h7] at g1
  exact ⟨a, o, _, g1, g2, g3⟩
theorem chkF_spec {K : Frag} {q : Plan} (X : K.In H) (g : H.Ns mainGlobals mg) (h : chkF q K = true) : ∃ a o fd, mg q.nm = some (.ref a) ∧ H.get? a = some o ∧ o.data = .func fd ∧ fdOk q K fd = true := by
  unfold chkF at h
  split at h
  · rename_i f hf
    split at h
    · rename_i fd _ ho
      exact ⟨f, _, fd, mg_of X g hf, X _ _ ho, rfl, h⟩
    · cases h
  · cases h
theorem one1_spec {K : Frag} {v : Value} (X : K.In H) (h : one1 K v = true) : ∃ T o items n t, v = .ref T ∧ H.get? T = some o ∧ o.data = .seq items n ∧ items.toList = [.int 1 t] := by
  unfold one1 at h
  split at h
  · rename_i T
    split at h
    · rename_i items n _ ho
      split at h
      · rename_i t hi
        exact ⟨T, _, items, n, t, rfl, X _ _ ho, rfl, hi⟩
      · cases h
    · cases h
  · cases h
theorem fn_hex {K : Frag} (X : K.In H) (G : Gd mg mb H) (h : chkF hexPlan K = true) (fns : ∀ f nm, fnName f = some nm → FnOk prog w mg H n nm (Φ f)) : FnOk prog w mg H (n + 1) hexPlan.nm (tabRun Φ 3 hexPlan) := by
  obtain ⟨a, o, fd, g1, g2, g3, ok⟩ := chkF_spec X G.g h
  unfold fdOk at ok
  simp only [Bool.and_eq_true, beq_iff_eq, Bool.not_eq_true', List.isEmpty_iff] at ok
  obtain ⟨⟨⟨⟨⟨⟨⟨⟨⟨⟨k1, k2⟩, k3⟩, k4⟩, k5⟩, k6⟩, k7⟩, k8⟩, k9⟩, k10⟩, k11⟩ := ok
  obtain ⟨T, oT, items, m, t, e1, e2, e3, e4⟩ := one1_spec X k11
  split at k1
  · rename_i b hb
    have P := planB_spec k2
    refine fnOk_of G (c := ⟨hexPlan.sl, fd.scope.names, fnName, true⟩) g1 g2 g3 (codeRec_of X k10) hb k7 k8 k9 k3 rfl k4 k5 P k1 fns ?_
    intro s vals args r hsub hv hr
    have hl := hv.length
    have hps : hexPlan.ps = [Str.ofString "number", Str.ofString "least"] := rfl
    rw [hps] at k6
    obtain ⟨b1, b2⟩ := bindsTo_dflt (s := s) (vals := vals) k6 e1 (hsub _ _ e2) e3 e4 (by decide)
    unfold tabRun at hr
    rw [hps]
    split at hr
    · rename_i hc
      obtain ⟨ρ', e⟩ := run_ex hr
      obtain ⟨x, rfl⟩ := List.length_eq_one_iff.mp hc.2
      obtain ⟨v, rfl, hvx⟩ := paired1 hv
      exact ⟨[v, .int 1 t], [x, .a (.int 1)], ρ', b1 v rfl, .cons hvx (.cons ⟨t, rfl⟩ .nil), rfl, e⟩
    · split at hr
      · rename_i hlen
        obtain ⟨ρ', e⟩ := run_ex hr
        rw [hps] at hlen
        obtain ⟨x, r, rfl⟩ := List.exists_cons_of_length_eq_add_one hlen
        obtain ⟨y, rfl⟩ := List.length_eq_one_iff.mp (show r.length = 1 by simpa using hlen)
        cases hv with
        | cons hvx hv' =>
          obtain ⟨u, rfl, hu⟩ := paired1 hv'
          exact ⟨_, _, ρ', b2 _ u rfl, .cons hvx (.cons hu .nil), rfl, e⟩
      · cases hr
  · cases k1
theorem has_hex {K : Frag} (X : K.In H) (G : Gd mg mb H) (h : chkF hexPlan K = true) : Has mg H hexPlan.nm := by
  obtain ⟨a, o, fd, g1, g2, g3, ok⟩ := chkF_spec X G.g h
  exact ⟨a, o, fd, g1, g2, g3⟩
theorem chkK_spec {k : Nat} (h : chkK k = true) : ∃ q, plan k = some q ∧ fnName k = some q.nm ∧ (k = 3 ∨ ∃ d ∈ recsOf hd.view_39, q.ok d = true) := by
  unfold chkK at h
  split at h
  · rename_i q hq
    simp only [Bool.and_eq_true, Bool.or_eq_true, beq_iff_eq] at h
    refine ⟨q, hq, h.2, h.1.imp id fun h => ?_⟩
    unfold chkR at h
    split at h
    · rename_i d hd
      exact ⟨d, List.mem_of_find?_eq_some hd, h⟩
    · cases h
  · cases h
theorem fnName_lt {f : Nat} {nm : Str} (h : fnName f = some nm) : f < 35 := by
  refine Nat.lt_of_not_le fun hf => ?_
  obtain ⟨m, rfl⟩ := Nat.exists_eq_add_of_le hf
  rw [Nat.add_comm] at h
  cases h
theorem psLen {k : Nat} {q : Plan} (h : plan k = some q) : q.ps.length ≤ 2 := by
  unfold plan at h
  split at h <;> cases h <;> decide
theorem tab_none : ∀ {k f : Nat}, k ≤ f → Tab k f = fun _ => none
  | 0, f, _ => rfl
  | k + 1, f, h => by
    funext args
    rw [Tab, if_neg (by omega), tab_none (by omega)]
theorem tab_fn {K : Frag} (T : Top hd.view_39 loose mean mg mb H) (X : K.In H) (hx : chkF hexPlan K = true) (G : Gd mg mb H) : ∀ k, k ≤ 35 → ∀ f nm, fnName f = some nm → FnOk prog w mg H k nm (Tab k f) := by
  have has : ∀ f nm, fnName f = some nm → Has mg H nm := by
    intro f nm hf
    obtain ⟨q, h1, h2, h3⟩ := chkK_spec (ckAll f (fnName_lt hf))
    rw [hf] at h2
    cases h2
    rcases h3 with rfl | ⟨d, hd, ok⟩
    · have : q = hexPlan := (Option.some.inj h1).symm
      rw [this]
      exact has_hex X G hx
    · exact has_top T hd ok
  intro k
  induction k with
  | zero => intro _ f nm hf; exact FnOk.nil (has f nm hf)
  | succ k ih =>
    intro hk f nm hf
    have ih := ih (by omega)
    by_cases e : f = k
    · subst e
      obtain ⟨q, h1, h2, h3⟩ := chkK_spec (ckAll f (by omega))
      rw [hf] at h2
      cases h2
      have e2 : Tab (f + 1) f = tabRun (Tab f) f q := by
        funext args
        rw [Tab, if_pos rfl, h1]
      rw [e2]
      by_cases e3 : f = 3
      · subst e3
        have : q = hexPlan := (Option.some.inj h1).symm
        subst this
        exact fn_hex X G hx ih
      · rcases h3 with h3 | ⟨d, hd, ok⟩
        · exact absurd h3 e3
        · have := fn_top T G ih hd ok (psLen h1)
          have e4 : tabRun (Tab f) f q = fun args => if args.length = q.ps.length then run (Tab f) q.sl.length q.st args else none := by
            funext args
            unfold tabRun
            rw [if_neg (fun h => e3 h.1)]
          rw [e4]
          exact this
    · have e2 : Tab (k + 1) f = Tab k f := by
        funext args
        rw [Tab, if_neg e]
      rw [e2]
      exact FnOk.mono (ih f nm hf) (Nat.le_succ k)
end
end Mine
end
section
open PySem PySem.Calls
set_option maxRecDepth 100000
namespace Mine
theorem tab_lt : ∀ {k f : Nat}, f < k → Tab k f = Tab (f + 1) f
  | 0, f, h => absurd h (Nat.not_lt_zero _)
  | k + 1, f, h => by
    by_cases e : f = k
    · rw [e]
    · have : Tab (k + 1) f = Tab k f := by
        funext args
        rw [Tab, if_neg e]
      rw [this, tab_lt (show f < k by omega)]
theorem tab_eq {k f : Nat} (h : f < k) (hf : f ≠ 3) {q : Plan} (hq : plan f = some q) {args : List PV} (ha : args.length = q.ps.length) : Tab k f args = run (Tab f) q.sl.length q.st args := by
  rw [tab_lt h, Tab, if_pos rfl, hq]
  dsimp only
  unfold tabRun
  rw [if_neg (fun e => hf e.1), if_pos ha]
theorem tab_3 {k : Nat} (h : 3 < k) {g least : Nat} (hg : g < 65536) (h1 : least = 1 ∨ least = 2) : Tab k 3 [I1 g, I1 least] = some (S1 (hexT g least)) := by
  rw [tab_lt h, Tab, if_pos rfl]
  show tabRun (Tab 3) 3 hexPlan _ = _
  unfold tabRun
  rw [if_neg (by simp), if_pos (show [I1 g, I1 least].length = hexPlan.ps.length from rfl)]
  exact x3 _ hg h1
theorem tab_3d {k : Nat} (h : 3 < k) {g : Nat} (hg : g < 65536) : Tab k 3 [I1 g] = some (S1 (hexW g)) := by
  rw [tab_lt h, Tab, if_pos rfl]
  show tabRun (Tab 3) 3 hexPlan _ = _
  unfold tabRun
  rw [if_pos ⟨rfl, rfl⟩, ← hexT_one]
  exact x3 _ hg (.inl rfl)
section
variable {k : Nat}
theorem f0 (h : 0 < k) (n : Nat) (hn : n < 2 ^ 48) : Tab k 0 [I1 n, I1 6] = some (.bytes ((oct6 n).map fun o => o.toUInt8)) := (tab_eq h (by decide) rfl rfl).trans (x0 _ hn)
theorem f1 (h : 1 < k) (l : L) (m : Nat) : Tab k 1 [S1 l, I1 m] = some (optI (decOf l m)) := (tab_eq h (by decide) rfl rfl).trans (x1 _ l m)
theorem f2 (h : 2 < k) (l : L) (m : Nat) : Tab k 2 [S1 l, I1 m] = some (optI (hexOf l m)) := (tab_eq h (by decide) rfl rfl).trans (x2 _ l m)
theorem f4 (h : 4 < k) (l : L) (hl : short l = true) : Tab k 4 [S1 l] = some (optI (ip4Of l)) := (tab_eq h (by decide) rfl rfl).trans (x4 (f1 (by decide)) l (short_iff.mp hl).1)
theorem f5 (h : 5 < k) (n : Nat) : Tab k 5 [I1 n] = some (S1 (text4 n)) := (tab_eq h (by decide) rfl rfl).trans (x5 _ n)
theorem f6 (h : 6 < k) (t : L) (e : Bool) (ht : short t = true) : Tab k 6 [S1 t, .a (.bool e)] = some (optL (sideOf e t)) := (tab_eq h (by decide) rfl rfl).trans (x6 (f4 (by decide)) (f2 (by decide)) ht e)
theorem f7 (h : 7 < k) (l : L) (hl : short l = true) : Tab k 7 [S1 l] = some (optI (ip6Of l)) := (tab_eq h (by decide) rfl rfl).trans (x7 (f6 (by decide)) hl)
theorem f8 (h : 8 < k) (gs : List Nat) : Tab k 8 [.list (nL gs)] = some (.tup [.int ((nr gs).1 : Int), .int ((nr gs).2 : Int)]) := (tab_eq h (by decide) rfl rfl).trans (x8 _ gs)
theorem f9 (h : 9 < k) (n : Nat) : Tab k 9 [I1 n] = some (S1 (text6 (gs8 n))) := (tab_eq h (by decide) rfl rfl).trans (x9 (f8 (by decide)) (fun g hg => tab_3d (by decide) hg) (f5 (by decide)) n)
theorem f10 (h : 10 < k) (l : L) (hl : l.length ≤ 1000) : Tab k 10 [S1 l] = some (optI (macOf l)) := (tab_eq h (by decide) rfl rfl).trans (x10 (f2 (by decide)) l hl)
theorem f11 (h : 11 < k) (n : Nat) (hn : n < 2 ^ 48) : Tab k 11 [I1 n] = some (S1 (macW n)) := (tab_eq h (by decide) rfl rfl).trans (x11 (f0 (by decide)) (fun g least hg hl => tab_3 (by decide) hg hl) hn)
theorem f12 (h : 12 < k) (len bits : Nat) (h1 : len ≤ bits) (h2 : bits ≤ 128) : Tab k 12 [I1 len, I1 bits] = some (I1 (2 ^ bits - 2 ^ (bits - len))) := (tab_eq h (by decide) rfl rfl).trans (x12 _ h1 h2)
theorem f13 (h : 13 < k) (l : L) (hl : short l = true) : Tab k 13 [S1 l] = some (optT (prefOf l)) := (tab_eq h (by decide) rfl rfl).trans (x13 (f4 (by decide)) (f7 (by decide)) (f1 (by decide)) (f12 (by decide)) hl)
theorem f14 (h : 14 < k) (xs : List Int) (i : Nat) : Tab k 14 [sc xs, I1 i] = some (.a (.int (digit xs i))) := (tab_eq h (by decide) rfl rfl).trans (x14 _ xs i)
theorem f15 (h : 15 < k) (g : Nat) (hg : g < 65536) : Tab k 15 [I1 g] = some (S1 (hexW g)) := (tab_eq h (by decide) rfl rfl).trans (x15 _ hg)
theorem f16 (h : 16 < k) (n : Nat) : Tab k 16 [I1 n] = some (S1 (text4 n)) := (tab_eq h (by decide) rfl rfl).trans (x16 _ n)
theorem f17 (h : 17 < k) (gs : List Nat) (hl : gs.length = 8) (hg : ∀ g ∈ gs, g < 65536) : Tab k 17 [.list (nL gs)] = some (S1 (text6 gs)) := (tab_eq h (by decide) rfl rfl).trans (x17 (f15 (by decide)) (f16 (by decide)) hl hg)
theorem f18 (h : 18 < k) (n : Nat) (hn : n < 2 ^ 48) : Tab k 18 [I1 n] = some (S1 (macW n)) := (tab_eq h (by decide) rfl rfl).trans (x18 _ hn)
theorem f19 (h : 19 < k) (l : L) : Tab k 19 [S1 l] = some (optI (ip4Of l)) := (tab_eq h (by decide) rfl rfl).trans (x19 (f16 (by decide)) l)
theorem f20 (h : 20 < k) (l : L) (hl : short l = true) : Tab k 20 [S1 l] = some (.a (.int (lawGroup l))) := (tab_eq h (by decide) rfl rfl).trans (x20 _ l (short_iff.mp hl).2)
theorem f21 (h : 21 < k) (l : L) (hl : short l = true) : Tab k 21 [S1 l] = some (optI (ip6Of l)) := (tab_eq h (by decide) rfl rfl).trans (x21 (f19 (by decide)) (f20 (by decide)) hl)
theorem f22 (h : 22 < k) (l : L) (hl : short l = true) : Tab k 22 [S1 l] = some (optI (macOf l)) := (tab_eq h (by decide) rfl rfl).trans (x22 (f20 (by decide)) hl)
theorem f23 (h : 23 < k) (l : L) (hl : short l = true) : Tab k 23 [S1 l] = some (optT (prefOf l)) := (tab_eq h (by decide) rfl rfl).trans (x23 (f19 (by decide)) (f21 (by decide)) hl)
theorem f24 (h : 24 < k) (n : Int) (j : Nat) : ∃ gs : List Nat, Tab k 24 [.a (.int n), I1 j] = some (.list (nL gs)) ∧ gs.length = 8 ∧ ∀ g ∈ gs, g < 65536 := by
  obtain ⟨gs, h1, h2, h3⟩ := x24 (Tab 24) n j
  exact ⟨gs, (tab_eq h (by decide) rfl rfl).trans h1, h2, h3⟩
theorem f25 (h : 25 < k) (n : Int) : ∃ t, Tab k 25 [.a (.int n)] = some (S1 t) ∧ t.length ≤ 200 ∧ Asc t := by
  obtain ⟨t, h1, h2, h3⟩ := x25 (Tab 25) n
  exact ⟨t, (tab_eq h (by decide) rfl rfl).trans h1, h2, h3⟩
theorem f26 (h : 26 < k) (l : L) (n : Int) (hl : l.length ≤ 900) (ha : Asc l) : ∃ t, Tab k 26 [S1 l, .a (.int n)] = some (S1 t) ∧ t.length ≤ l.length + 1 ∧ Asc t := by
  obtain ⟨t, h1, h2, h3⟩ := x26 (Tab 26) l n hl ha
  exact ⟨t, (tab_eq h (by decide) rfl rfl).trans h1, h2, h3⟩
theorem f27 (h : 27 < k) : Tab k 27 [] = some (.list (tab27.map .str)) := (tab_eq h (by decide) rfl rfl).trans (x27 _)
theorem f28 (h : 28 < k) : Tab k 28 [] = some (.list (tab28.map .str)) := (tab_eq h (by decide) rfl rfl).trans (x28 _)
theorem f29 (h : 29 < k) : Tab k 29 [] = some (.list (tab29.map .str)) := (tab_eq h (by decide) rfl rfl).trans (x29 _)
theorem f30 (h : 30 < k) : Tab k 30 [] = some (.list (tab30.map .str)) := (tab_eq h (by decide) rfl rfl).trans (x30 _)
theorem f31 (h : 31 < k) (xs : List Int) : Tab k 31 [sc xs] = some (.a (.bool true)) := (tab_eq h (by decide) rfl rfl).trans
  (x31 ⟨f14 (by decide), f24 (by decide), f17 (by decide), f9 (by decide), f7 (by decide), f16 (by decide), f5 (by decide), f4 (by decide), f18 (by decide), f11 (by decide), f10 (by decide)⟩ xs)
theorem f32 (h : 32 < k) (xs : List Int) : Tab k 32 [sc xs] = some (.a (.bool true)) := (tab_eq h (by decide) rfl rfl).trans
  (x32 ⟨f14 (by decide), f25 (by decide), f26 (by decide), f27 (by decide), f7 (by decide), f21 (by decide)⟩ xs)
theorem f33 (h : 33 < k) (xs : List Int) : Tab k 33 [sc xs] = some (.a (.bool true)) := (tab_eq h (by decide) rfl rfl).trans
  (x33 ⟨f14 (by decide), f24 (by decide), f17 (by decide), f28 (by decide), f29 (by decide), f4 (by decide), f19 (by decide), f13 (by decide), f23 (by decide)⟩ xs)
end
theorem law_true (xs : List Int) : Tab 35 34 [.list (xs.map .int)] = some (.a (.bool true)) := (tab_eq (by decide) (by decide) rfl rfl).trans
  (x34 ⟨f14 (by decide), f30 (by decide), f10 (by decide), f22 (by decide), f31 (by decide), f32 (by decide), f33 (by decide)⟩ xs)
end Mine
end
section
open PySem PySem.Calls PySem.W PyProof.Rows
set_option maxRecDepth 100000
namespace Mine
theorem nob_of {loose : List Str} {mean : ExcName → Option Value} {mg mb : Str → Option Value} {H : Heap} {p : Program} (T : Top p loose mean mg mb H)
    (h : (usedNames.all fun x => !startupNames.contains x && !loose.contains x && !((recsOf p).map (·.name)).contains x && !((litsOf p).map (·.1)).contains x && !((clssOf p loose).map (·.name)).contains x) = true) : ∀ x ∈ usedNames, mg x = none := by
  intro x hx
  have := List.all_eq_true.mp h x hx
  simp only [Bool.and_eq_true, Bool.not_eq_true', ← Bool.not_eq_true, List.contains_iff_mem] at this
  obtain ⟨⟨⟨⟨a, b⟩, c⟩, d⟩, e⟩ := this
  exact T.free x a b c d e
theorem gd_of {loose : List Str} {mean : ExcName → Option Value} {mg mb : Str → Option Value} {H : Heap} {p : Program} (T : Top p loose mean mg mb H)
    (h : (usedNames.all fun x => !startupNames.contains x && !loose.contains x && !((recsOf p).map (·.name)).contains x && !((litsOf p).map (·.1)).contains x && !((clssOf p loose).map (·.name)).contains x) = true) : Gd mg mb H :=
  ⟨T.g, T.b, T.builtins, T.nolimit, nob_of T h⟩
theorem caller_ok : AOk 35 callerA := ⟨rfl, by decide, by decide⟩
theorem names_ok : (usedNames.all fun x => !startupNames.contains x && !(looseW hd.view_39 [Str.ofString "hex_text"]).contains x && !((recsOf hd.view_39).map (·.name)).contains x && !((litsOf hd.view_39).map (·.1)).contains x && !((clssOf hd.view_39 (looseW hd.view_39 [Str.ofString "hex_text"])).map (·.name)).contains x) = true := by decide +kernel
theorem well_ints {P : Params} {h : Heap} : ∀ {xs : List Int} {vs : List Value}, WellAll P h vs (ofPys (xs.map PyData.int)) → Paired RepA vs (xs.map .int)
  | [], _, x => by cases x; exact .nil
  | i :: r, _, x => by
    cases x with
    | cons a b =>
      cases a
      exact .cons ⟨_, rfl⟩ (well_ints b)
theorem rep_script {P : Params} {h : Heap} {L : Addr} {xs : List Int} (hw : Well P h (.ref L) (ofPy (.list (xs.map PyData.int)))) (hl : xs.length ≤ 63) : Rep h (.ref L) (.list (xs.map .int)) := by
  rw [ofPy] at hw
  cases hw with
  | list ho hv =>
    have := well_ints hv
    refine ⟨L, _, rfl, ⟨_, ho⟩, this, ?_⟩
    have := this.length
    rw [sizeLine_eq]
    simp at this
    omega
set_option maxHeartbeats 8000000 in
theorem whole : PySem.Challenge.rw_pf0341_01.Holds := hd (by
  intro w s₀ s₁ mg mb G Y fa o pm cd doc dV kV ho hd hcd hD hmg hg args vals as hpre hlay hrd hwl hlo
  have KX := kIn_of Y
  have T := Ground.T G
  clear hcd hD ho hd Y G
  wrow_args hpre hlay hrd hwl hlo
  have w1 := ‹Well _ _ _ _›
  refine enter_call ?_
  have Gd := Mine.gd_of T Mine.names_ok
  obtain ⟨a, o', fd, m1, m2, m3, call⟩ := Mine.tab_fn (prog := PySem.Challenge.rw_pf0341_01.row.prog) (w := w) T KX (Mine.ckF _) Gd 35 (Nat.le_refl _) 34 (PySem.Str.ofString "law") rfl
  have e : fa = a := by
    have := hmg.symm.trans m1
    cases this
    rfl
  subst e
  refine codeAny_mono (call callerA s₁ _ [_] _ Mine.caller_ok (fun _ _ x => x) (.cons (Mine.rep_script w1 (by omega)) .nil) (law_true _)) ?_
  rintro res s' ⟨v, rfl, k, r, f⟩
  have r' : v = .bool true := r
  subst r'
  have hK := Mine.keeps_sub k
  obtain ⟨h', tk, rfl, _⟩ := k
  refine GoodW.toG ⟨.inl ⟨_, .bool true, [], rfl, raisesW_false (by wrow_none_raised), ReadsW.bool true, ?_, fun _ => ⟨List.nodup_nil, nofun⟩⟩, hK, rfl, hg⟩
  kernel_rfl)
end Mine
end
theorem PySem.Challenge.cw_pf0341_01_holds : PySem.Challenge.rw_pf0341_01.Holds :=
  Mine.whole
