import PyProof.Rows.All
import Wide.All
import OpenK.AllK
import Wide.FinOn
import Lean
import PySem.Challenge.RW_pc0174_02
open PySem PySem.W PyProof.Rows
set_option Elab.async false
set_option maxRecDepth 100000
set_option compiler.extract_closed false
set_option linter.all false
local macro_rules | `(tactic| omega) => `(tactic| lia)
local macro_rules | `(tactic| k_all) => `(tactic| assumption)
local macro_rules | `(tactic| walk_at "z8") => `(tactic| (k_asm; k_asm; k_asm; k_asm; k_asm; (first | exact rfl | assumption); (first | assumption | ktr_room); (first | assumption | ktr_units)))
local macro_rules | `(tactic| walk_at "zq") => `(tactic| first | assumption | exact rfl | exact ⟨by assumption, by assumption⟩ | (refine And.intro ?_ ?_ <;> first | decide | assumption | omega) | k_mem | k_updF | l_fact | omega)
local macro_rules | `(tactic| walk_at "z9") => `(tactic| (intros; (try k_sweep)))
namespace Mine
end Mine
open Mine
section
open PySem PySem.W PyProof.Rows PySem.Calls
namespace Mine
inductive RV where | none | bool (b : Bool) | int (i : Int) | bytes (b : Array UInt8)
deriving DecidableEq
def RV.Is : RV → Value → Prop
  | .none, v => v = .none
  | .bool b, v => v = .bool b
  | .int i, v => ∃ t, v = .int i t
  | .bytes b, v => ∃ t, v = .bytes b t
def RVs : List RV → List Value → Prop
  | [], [] => True
  | x :: xs, v :: vs => x.Is v ∧ RVs xs vs
  | _, _ => False
theorem RVs.length : ∀ {xs : List RV} {vs : List Value}, RVs xs vs → vs.length = xs.length
  | [], [], _ => rfl
  | _ :: _, _ :: _, h => by simp [RVs.length h.2]
  | [], _ :: _, h => h.elim
  | _ :: _, [], h => h.elim
theorem RVs.getD : ∀ {xs : List RV} {vs : List Value} (i : Nat), RVs xs vs → (xs.getD i .none).Is (vs.getD i .none)
  | [], [], _, _ => rfl
  | _ :: _, _ :: _, 0, h => h.1
  | _ :: _, _ :: _, i + 1, h => by simpa using RVs.getD i h.2
  | [], _ :: _, _, h => h.elim
  | _ :: _, [], _, h => h.elim
theorem RVs.set : ∀ {xs : List RV} {vs : List Value} (i : Nat) {x : RV} {v : Value}, RVs xs vs → x.Is v → RVs (xs.set i x) (vs.set i v)
  | [], [], _, _, _, _, _ => trivial
  | _ :: _, _ :: _, 0, _, _, h, hx => ⟨hx, h.2⟩
  | _ :: _, _ :: _, i + 1, _, _, h, hx => ⟨h.1, RVs.set i h.2 hx⟩
  | [], _ :: _, _, _, _, h, _ => h.elim
  | _ :: _, [], _, _, _, h, _ => h.elim
theorem RVs.append : ∀ {xs ys : List RV} {vs us : List Value}, RVs xs vs → RVs ys us → RVs (xs ++ ys) (vs ++ us)
  | [], _, [], _, _, h => h
  | _ :: _, _, _ :: _, _, h, k => ⟨h.1, RVs.append h.2 k⟩
  | [], _, _ :: _, _, h, _ => h.elim
  | _ :: _, _, [], _, h, _ => h.elim
theorem RVs.take : ∀ {xs : List RV} {vs : List Value} (i : Nat), RVs xs vs → RVs (xs.take i) (vs.take i)
  | [], [], _, _ => by simp [RVs]
  | _ :: _, _ :: _, 0, _ => trivial
  | _ :: _, _ :: _, i + 1, h => ⟨h.1, RVs.take i h.2⟩
  | [], _ :: _, _, h => h.elim
  | _ :: _, [], _, h => h.elim
def isFalse : RV → Bool
  | .none => true
  | .bool b => !b
  | _ => false
theorem q_int {Q : Value → Shared → Prop} {x y : Int} {t : Tok} {s : Shared} (e : y = x) (h : Q (.int x t) s) : Q (.int y t) s := e ▸ h
theorem q_bool {Q : Value → Shared → Prop} {x y : Bool} {s : Shared} (e : y = x) (h : Q (.bool x) s) : Q (.bool y) s := e ▸ h
theorem and511 (x : Int) : Builtin.bitAnd x 511 = x % 512 := by
  by_cases hx : 0 ≤ x
  · rw [bitAnd_pp hx (by decide)]
    have h : x.toNat &&& (511 : Int).toNat = x.toNat % 512 := Nat.and_two_pow_sub_one_eq_mod x.toNat 9
    rw [h]
    omega
  · rw [bitAnd_np hx (by decide)]
    have h : (511 : Int).toNat &&& (Builtin.bitNot x).toNat = (Builtin.bitNot x).toNat % 512 := by
      rw [Nat.and_comm]
      exact Nat.and_two_pow_sub_one_eq_mod (Builtin.bitNot x).toNat 9
    rw [h]
    unfold Builtin.bitNot
    omega
theorem fdivK (x k : Int) (hk : 0 ≤ k) : Int.fdiv x k = x / k := Int.fdiv_eq_ediv_of_nonneg x hk
theorem fmodK (x k : Int) (hk : 0 ≤ k) : Int.fmod x k = x % k := Int.fmod_eq_emod_of_nonneg x hk
theorem p6 : (2 : Int) ^ Int.toNat 6 = 64 := by decide
theorem p14 : (2 : Int) ^ Int.toNat 14 = 16384 := by decide
theorem p23 : (2 : Int) ^ Int.toNat 23 = 8388608 := by decide
theorem and256s (x : Int) (h0 : 0 ≤ x) (h1 : x < 256) : Builtin.bitAnd x 256 = 0 := by
  rw [bitAnd_pp h0 (by decide)]
  have h : ∀ n : Fin 256, n.val &&& 256 = 0 := by decide +kernel
  have := h ⟨x.toNat, by omega⟩
  show ((x.toNat &&& 256 : Nat) : Int) = 0
  rw [this]; rfl
theorem and256b (x : Int) (h0 : 256 ≤ x) (h1 : x < 512) : Builtin.bitAnd x 256 = 256 := by
  rw [bitAnd_pp (by omega) (by decide)]
  have h : ∀ n : Fin 256, (n.val + 256) &&& 256 = 256 := by decide +kernel
  have := h ⟨x.toNat - 256, by omega⟩
  have e : x.toNat - 256 + 256 = x.toNat := by omega
  simp only [e] at this
  show ((x.toNat &&& 256 : Nat) : Int) = 256
  rw [this]; rfl
section
variable {prog : Program} {w : World} {A : Around} {E : Value → Shared → Prop} {s : Shared} {h₀ : Heap} {L D : Addr} {m : Str → Option Value} {news news' : List (Addr × Obj)} {vs : List Value} {n : Nat} {k : Int} {t u : Tok} {v : Value}
theorem kv_set {Q : Unit → Shared → Prop} (F : Fr h₀ L s.heap m) (N : News h₀ L s.heap news) (U : Upd D (listOf vs.toArray n) (listOf (vs.set k.toNat v).toArray n) news news') (h0 : 0 ≤ k) (h1 : k < vs.length) (hfit : k < 2 ^ 63)
    (h : ∀ h', Fr h₀ L h' m → News h₀ L h' news' → Q () { s with heap := h' }) : wpAny (model prog w) A (setItem (.ref D) (.int k t) v) Q E s := by
  obtain ⟨pre, post, rfl, rfl, a, b⟩ := U.split
  have z := N (D, listOf vs.toArray n) (List.mem_append.mpr (.inr (.head _)))
  have hs : vs.toArray.size = vs.length := by rw [List.size_toArray]
  refine ki_setAt z.1 h0 hfit (by omega) (h _ (F.change (Heap.SameBut.update ..) z.2.1 z.2.2) (ki_turn _ N a b ?_ ?_))
  · show vs.toArray.setIfInBounds k.toNat v = (vs.set k.toNat v).toArray
    apply Array.toList_inj.mp
    simp
  · simp
theorem kv_at (h0 : 0 ≤ k) (h1 : k < vs.length) : vs.toArray[k.toNat]? = some (vs.getD k.toNat .none) := by
  have : k.toNat < vs.length := by omega
  simp [this]
theorem kv_get {Q : Value → Shared → Prop} (N : News h₀ L s.heap news) (hm : (D, listOf vs.toArray n) ∈ news) (h0 : 0 ≤ k) (h1 : k < vs.length) (hfit : k < 2 ^ 63) (h : Q (vs.getD k.toNat .none) s) :
    wpAny (model prog w) A (getItem (.ref D) (.int k u)) Q E s := wpAny_getItem_list (PySem.IsL.isList (n := n) (N _ hm).1) h0 hfit (kv_at h0 h1) h
theorem kv_sub {value slice : PySem.Expr} {Q : Value → Shared → Prop} (N : News h₀ L s.heap news) (hm : (D, listOf vs.toArray n) ∈ news) (h0 : 0 ≤ k) (h1 : k < vs.length) (hfit : k < 2 ^ 63) (h : Q (vs.getD k.toNat .none) s)
    (hs : subscripted slice false (.ref D) (.int k u) = operate [.ref D, .int k u] (getItem (.ref D) (.int k u)) := by with_unfolding_all rfl) :
    wpAny (model prog w) A (subscriptTail value slice (.ref D) (.int k u)) Q E s :=
  tail_any (PySem.IsL.isList (n := n) (N _ hm).1).typeIs slot_list_getitem.lookup (kv_get N hm h0 h1 hfit h) hs
theorem kv_type {x : Value} {Tx : String} {Q : Value → Shared → Prop} (hx : s.TypeIs x Tx) (hnb : (Value.type Tx == Value.type "builtin_function_or_method") = false) (hq : Q (.type Tx) s) : wpAny (model prog w) A (call (.type "type") [x]) Q E s := by
  first | exact call_type_of hx hnb hq | exact PySem.call_type_of hx hnb hq
end
section
variable {prog : Program} {w : World} {A : Around} {E : Value → Shared → Prop} {s : Shared} {env : Env} {h₀ : Heap} {x : Str} {body : List Stmt} {Q : Flow → Shared → Prop} {I : Addr}
theorem unrPost_mono {L : Addr} {s₁ : Shared} {it : Obj} {r r' : (Str → Option Value) → List (Addr × Obj) → Prop} (h : ∀ m n, r m n → r' m n) (f : Flow) (s₂ : Shared) (k : UnrPost h₀ L s₁ I it r Q f s₂) : UnrPost h₀ L s₁ I it r' Q f s₂ := by
  have e : UnrEnd h₀ L s₁ I it r s₂ → UnrEnd h₀ L s₁ I it r' s₂ := fun ⟨h', tk, m', n', a, b, c, d, e⟩ => ⟨h', tk, m', n', a, b, c, d, h _ _ e⟩
  cases f with
  | ret v => exact k
  | brk => exact k
  | next => exact e k
  | cont => exact e k
theorem rangeRest_of {a : Int} {n : Nat} (J : Nat → (Str → Option Value) → List (Addr × Obj) → Prop)
    (turn : ∀ i m news t h tk, i < n → J i m news → Fr h₀ env.locals h (fun y => if y = x then some (.int (a + (i : Int)) t) else m y) → News h₀ env.locals h ((I, itR (a + ((i + 1 : Nat) : Int)) ((n : Int) - ((i + 1 : Nat) : Int))) :: news) →
      wpAny (model prog w) A (execs body env) (UnrPost h₀ env.locals { s with heap := h, toks := tk } I (itR (a + ((i + 1 : Nat) : Int)) ((n : Int) - ((i + 1 : Nat) : Int))) (J (i + 1)) Q) E { s with heap := h, toks := tk })
    (done : ∀ m news h tk, J n m news → Fr h₀ env.locals h m → News h₀ env.locals h news → Q .next { s with heap := h, toks := tk }) :
    ∀ (k i : Nat) (m : Str → Option Value) (news : List (Addr × Obj)), i + k = n → J i m news → RangeRest prog w A E h₀ env x body Q s I a n k i m news
  | 0, i, m, news, e, hj => fun h tk F N => done m news h tk (by rw [Nat.add_zero] at e; exact e ▸ hj) F N
  | k + 1, i, m, news, e, hj => fun t h tk F N => wpAny_mono (turn i m news t h tk (by omega) hj F N) (fun f s₂ p => unrPost_mono (fun m' n' q => rangeRest_of J turn done k (i + 1) m' n' (by omega) q) f s₂ p) fun _ _ e => e
theorem listRest_of {lp : Addr × Obj} (J : List Value → (Str → Option Value) → List (Addr × Obj) → Prop)
    (turn : ∀ v r m news it h tk, it.cls = .type "list_iterator" → J (v :: r) m news → Fr h₀ env.locals h (fun y => if y = x then some v else m y) → News h₀ env.locals h ((I, it) :: news) →
      wpAny (model prog w) A (execs body env) (UnrPost h₀ env.locals { s with heap := h, toks := tk } I it (fun m' n' => lp ∈ n' ∧ J r m' n') Q) E { s with heap := h, toks := tk })
    (done : ∀ m news h tk, J [] m news → Fr h₀ env.locals h m → News h₀ env.locals h news → Q .next { s with heap := h, toks := tk }) :
    ∀ (vs : List Value) (m : Str → Option Value) (news : List (Addr × Obj)), J vs m news → ListRest prog w A E h₀ env x body Q s I lp vs m news
  | [], m, news, hj => fun h tk F N => done m news h tk hj F N
  | v :: r, m, news, hj => fun it h tk hit F N => wpAny_mono (turn v r m news it h tk hit hj F N) (fun f s₂ p => unrPost_mono (fun m' n' q => ⟨q.1, listRest_of J turn done r m' n' q.2⟩) f s₂ p) fun _ _ e => e
end
end Mine
end
section
open PySem PySem.W PyProof.Rows
namespace Mine
def stm (i : Nat) : Stmt := (PySem.Challenge.pw_pc0174_02).main.body.getD i (.Pass ⟨0, 0, 0, 0⟩)
def sub (j : Nat) : Stmt → Stmt
  | .ClassDef _ _ _ bd _ _ _ _ _ _ _ => bd.getD j (.Pass ⟨0, 0, 0, 0⟩)
  | s => s
abbrev fnO {n : Str} {ar : Arguments} {bd : List Stmt} {ds : List PySem.Expr} {re : Option PySem.Expr} {tp : List TypeParam} {sc : Scope} {ts : Option Scope} {bi : Str} {ps : Pos} (st : Stmt) (_ : st = Stmt.FunctionDef n ar bd ds re tp sc ts bi ps) (f : Arguments → List Stmt → Scope → Obj) : Obj := f ar bd sc
noncomputable def o2 (P : Params) : Obj := Obj.mk Value.none none (Data.dict #[DictEntry.mk (PyData.keyHash P (Str.ofString "type.__subclasses__.Exception.0")) (Value.str (Str.ofString "type.__subclasses__.Exception.0") 353) (Value.int 116 0), DictEntry.mk (PyData.keyHash P (Str.ofString "type.__subclasses__.Exception.n")) (Value.str (Str.ofString "type.__subclasses__.Exception.n") 354) (Value.int 2 0), DictEntry.mk (PyData.keyHash P (Str.ofString "type.__subclasses__.Exception.1")) (Value.str (Str.ofString "type.__subclasses__.Exception.1") 382) (Value.int 136 0)] 3) #[]
noncomputable def o3 (P : Params) : Obj := Obj.mk (Value.type "dict") none (Data.dict #[DictEntry.mk (PyData.keyHash P (Str.ofString "__name__")) (Value.str (Str.ofString "__name__") 165) (Value.str (Str.ofString "law_pc0174_02") 980), DictEntry.mk (PyData.keyHash P (Str.ofString "__doc__")) (Value.str (Str.ofString "__doc__") 166) Value.none, DictEntry.mk (PyData.keyHash P (Str.ofString "__package__")) (Value.str (Str.ofString "__package__") 167) Value.none, DictEntry.mk (PyData.keyHash P (Str.ofString "__loader__")) (Value.str (Str.ofString "__loader__") 168) (Value.builtin "__main__.__loader__#opaque"), DictEntry.mk (PyData.keyHash P (Str.ofString "__spec__")) (Value.str (Str.ofString "__spec__") 169) Value.none, DictEntry.mk (PyData.keyHash P (Str.ofString "__annotations__")) (Value.str (Str.ofString "__annotations__") 170) (Value.ref 6), DictEntry.mk (PyData.keyHash P (Str.ofString "__builtins__")) (Value.str (Str.ofString "__builtins__") 171) (Value.ref 4), DictEntry.mk (PyData.keyHash P (Str.ofString "__file__")) (Value.str (Str.ofString "__file__") 173) (Value.str (Str.ofString "/claim/cut.py") 172), DictEntry.mk (PyData.keyHash P (Str.ofString "__cached__")) (Value.str (Str.ofString "__cached__") 174) Value.none, DictEntry.mk (PyData.keyHash P (Str.ofString "_wall")) (Value.str (Str.ofString "_wall") 193) (Value.ref 21), DictEntry.mk (PyData.keyHash P (Str.ofString "A_AT")) (Value.str (Str.ofString "A_AT") 197) (Value.int 6 196), DictEntry.mk (PyData.keyHash P (Str.ofString "C_AT")) (Value.str (Str.ofString "C_AT") 199) (Value.int 14 198), DictEntry.mk (PyData.keyHash P (Str.ofString "B_AT")) (Value.str (Str.ofString "B_AT") 201) (Value.int 23 200), DictEntry.mk (PyData.keyHash P (Str.ofString "A_MASK")) (Value.str (Str.ofString "A_MASK") 203) (Value.int 255 202), DictEntry.mk (PyData.keyHash P (Str.ofString "C_MASK")) (Value.str (Str.ofString "C_MASK") 205) (Value.int 511 204), DictEntry.mk (PyData.keyHash P (Str.ofString "JUMP_ZERO")) (Value.str (Str.ofString "JUMP_ZERO") 207) (Value.int 131071 206), DictEntry.mk (PyData.keyHash P (Str.ofString "CONSTANT_BIT")) (Value.str (Str.ofString "CONSTANT_BIT") 209) (Value.int 256 208), DictEntry.mk (PyData.keyHash P (Str.ofString "op_of")) (Value.str (Str.ofString "op_of") 216) (Value.ref 28), DictEntry.mk (PyData.keyHash P (Str.ofString "a_of")) (Value.str (Str.ofString "a_of") 223) (Value.ref 35), DictEntry.mk (PyData.keyHash P (Str.ofString "b_of")) (Value.str (Str.ofString "b_of") 230) (Value.ref 42), DictEntry.mk (PyData.keyHash P (Str.ofString "c_of")) (Value.str (Str.ofString "c_of") 237) (Value.ref 49), DictEntry.mk (PyData.keyHash P (Str.ofString "wide_of")) (Value.str (Str.ofString "wide_of") 244) (Value.ref 56), DictEntry.mk (PyData.keyHash P (Str.ofString "jump_of")) (Value.str (Str.ofString "jump_of") 251) (Value.ref 63), DictEntry.mk (PyData.keyHash P (Str.ofString "BLANKS")) (Value.str (Str.ofString "BLANKS") 255) (Value.bytes #[32, 9, 10, 11, 12, 13] 254), DictEntry.mk (PyData.keyHash P (Str.ofString "Limits")) (Value.str (Str.ofString "Limits") 326) (Value.ref 95), DictEntry.mk (PyData.keyHash P (Str.ofString "LuaError")) (Value.str (Str.ofString "LuaError") 356) (Value.ref 116), DictEntry.mk (PyData.keyHash P (Str.ofString "ApiError")) (Value.str (Str.ofString "ApiError") 385) (Value.ref 136), DictEntry.mk (PyData.keyHash P (Str.ofString "is_number")) (Value.str (Str.ofString "is_number") 392) (Value.ref 146), DictEntry.mk (PyData.keyHash P (Str.ofString "is_false")) (Value.str (Str.ofString "is_false") 399) (Value.ref 153), DictEntry.mk (PyData.keyHash P (Str.ofString "wrap")) (Value.str (Str.ofString "wrap") 408) (Value.ref 160), DictEntry.mk (PyData.keyHash P (Str.ofString "divide")) (Value.str (Str.ofString "divide") 417) (Value.ref 167), DictEntry.mk (PyData.keyHash P (Str.ofString "power")) (Value.str (Str.ofString "power") 428) (Value.ref 174), DictEntry.mk (PyData.keyHash P (Str.ofString "arith")) (Value.str (Str.ofString "arith") 439) (Value.ref 181), DictEntry.mk (PyData.keyHash P (Str.ofString "is_blank")) (Value.str (Str.ofString "is_blank") 446) (Value.ref 188), DictEntry.mk (PyData.keyHash P (Str.ofString "digit_of")) (Value.str (Str.ofString "digit_of") 453) (Value.ref 195), DictEntry.mk (PyData.keyHash P (Str.ofString "read_digits")) (Value.str (Str.ofString "read_digits") 464) (Value.ref 202), DictEntry.mk (PyData.keyHash P (Str.ofString "skip_blanks")) (Value.str (Str.ofString "skip_blanks") 472) (Value.ref 209), DictEntry.mk (PyData.keyHash P (Str.ofString "str_to_number")) (Value.str (Str.ofString "str_to_number") 480) (Value.ref 216), DictEntry.mk (PyData.keyHash P (Str.ofString "text_in_base")) (Value.str (Str.ofString "text_in_base") 494) (Value.ref 223), DictEntry.mk (PyData.keyHash P (Str.ofString "to_number")) (Value.str (Str.ofString "to_number") 502) (Value.ref 230), DictEntry.mk (PyData.keyHash P (Str.ofString "number_text")) (Value.str (Str.ofString "number_text") 511) (Value.ref 237), DictEntry.mk (PyData.keyHash P (Str.ofString "to_text")) (Value.str (Str.ofString "to_text") 518) (Value.ref 244), DictEntry.mk (PyData.keyHash P (Str.ofString "byte_float")) (Value.str (Str.ofString "byte_float") 526) (Value.ref 251), DictEntry.mk (PyData.keyHash P (Str.ofString "MADE")) (Value.str (Str.ofString "MADE") 530) (Value.int 0 529), DictEntry.mk (PyData.keyHash P (Str.ofString "NO_TEXTS")) (Value.str (Str.ofString "NO_TEXTS") 532) (Value.int 1 531), DictEntry.mk (PyData.keyHash P (Str.ofString "TOO_LONG")) (Value.str (Str.ofString "TOO_LONG") 534) (Value.int 2 533), DictEntry.mk (PyData.keyHash P (Str.ofString "texts_below")) (Value.str (Str.ofString "texts_below") 546) (Value.ref 258), DictEntry.mk (PyData.keyHash P (Str.ofString "join_below")) (Value.str (Str.ofString "join_below") 552) (Value.ref 263), DictEntry.mk (PyData.keyHash P (Str.ofString "loop_numbers")) (Value.str (Str.ofString "loop_numbers") 560) (Value.ref 268), DictEntry.mk (PyData.keyHash P (Str.ofString "wrong_place")) (Value.str (Str.ofString "wrong_place") 569) (Value.ref 275), DictEntry.mk (PyData.keyHash P (Str.ofString "before_first")) (Value.str (Str.ofString "before_first") 578) (Value.ref 282), DictEntry.mk (PyData.keyHash P (Str.ofString "goes_on")) (Value.str (Str.ofString "goes_on") 587) (Value.ref 289), DictEntry.mk (PyData.keyHash P (Str.ofString "next_number")) (Value.str (Str.ofString "next_number") 598) (Value.ref 296), DictEntry.mk (PyData.keyHash P (Str.ofString "load")) (Value.str (Str.ofString "load") 613) (Value.ref 303), DictEntry.mk (PyData.keyHash P (Str.ofString "operand")) (Value.str (Str.ofString "operand") 623) (Value.ref 310), DictEntry.mk (PyData.keyHash P (Str.ofString "two_operands")) (Value.str (Str.ofString "two_operands") 634) (Value.ref 317), DictEntry.mk (PyData.keyHash P (Str.ofString "is_compared")) (Value.str (Str.ofString "is_compared") 642) (Value.ref 324), DictEntry.mk (PyData.keyHash P (Str.ofString "is_tested")) (Value.str (Str.ofString "is_tested") 650) (Value.ref 331), DictEntry.mk (PyData.keyHash P (Str.ofString "place_behind")) (Value.str (Str.ofString "place_behind") 659) (Value.ref 338), DictEntry.mk (PyData.keyHash P (Str.ofString "table_room")) (Value.str (Str.ofString "table_room") 666) (Value.ref 345), DictEntry.mk (PyData.keyHash P (Str.ofString "list_block")) (Value.str (Str.ofString "list_block") 679) (Value.ref 352), DictEntry.mk (PyData.keyHash P (Str.ofString "round_begun")) (Value.str (Str.ofString "round_begun") 690) (Value.ref 359), DictEntry.mk (PyData.keyHash P (Str.ofString "round_gone")) (Value.str (Str.ofString "round_gone") 700) (Value.ref 366), DictEntry.mk (PyData.keyHash P (Str.ofString "round_asked")) (Value.str (Str.ofString "round_asked") 709) (Value.ref 373), DictEntry.mk (PyData.keyHash P (Str.ofString "round_told")) (Value.str (Str.ofString "round_told") 717) (Value.ref 380), DictEntry.mk (PyData.keyHash P (Str.ofString "RECKONINGS")) (Value.str (Str.ofString "RECKONINGS") 727) (Value.ref 381), DictEntry.mk (PyData.keyHash P (Str.ofString "DIVIDING")) (Value.str (Str.ofString "DIVIDING") 729) (Value.int 3 728), DictEntry.mk (PyData.keyHash P (Str.ofString "RESTING")) (Value.str (Str.ofString "RESTING") 731) (Value.int 4 730), DictEntry.mk (PyData.keyHash P (Str.ofString "RAISING")) (Value.str (Str.ofString "RAISING") 733) (Value.int 5 732), DictEntry.mk (PyData.keyHash P (Str.ofString "DONE")) (Value.str (Str.ofString "DONE") 735) (Value.int 0 734), DictEntry.mk (PyData.keyHash P (Str.ofString "NO_NUMBERS")) (Value.str (Str.ofString "NO_NUMBERS") 737) (Value.int 1 736), DictEntry.mk (PyData.keyHash P (Str.ofString "BY_ZERO")) (Value.str (Str.ofString "BY_ZERO") 739) (Value.int 2 738), DictEntry.mk (PyData.keyHash P (Str.ofString "has_no_result")) (Value.str (Str.ofString "has_no_result") 748) (Value.ref 388), DictEntry.mk (PyData.keyHash P (Str.ofString "reckon")) (Value.str (Str.ofString "reckon") 760) (Value.ref 395), DictEntry.mk (PyData.keyHash P (Str.ofString "BACK")) (Value.str (Str.ofString "BACK") 764) (Value.str (Str.ofString "back") 763), DictEntry.mk (PyData.keyHash P (Str.ofString "STOPPED")) (Value.str (Str.ofString "STOPPED") 766) (Value.str (Str.ofString "stopped") 765), DictEntry.mk (PyData.keyHash P (Str.ofString "STEPS")) (Value.str (Str.ofString "STEPS") 768) (Value.str (Str.ofString "steps") 767), DictEntry.mk (PyData.keyHash P (Str.ofString "Works")) (Value.str (Str.ofString "Works") 807) (Value.ref 412), DictEntry.mk (PyData.keyHash P (Str.ofString "Stepper")) (Value.str (Str.ofString "Stepper") 979) (Value.ref 503), DictEntry.mk (PyData.keyHash P (Str.ofString "_law_numbers")) (Value.str (Str.ofString "_law_numbers") 1009) (Value.ref 508), DictEntry.mk (PyData.keyHash P (Str.ofString "_law_pool")) (Value.str (Str.ofString "_law_pool") 1014) (Value.ref 509), DictEntry.mk (PyData.keyHash P (Str.ofString "_law_constants")) (Value.str (Str.ofString "_law_constants") 1018) (Value.ref 510), DictEntry.mk (PyData.keyHash P (Str.ofString "_law_take")) (Value.str (Str.ofString "_law_take") 1027) (Value.ref 517), DictEntry.mk (PyData.keyHash P (Str.ofString "_law_grand")) (Value.str (Str.ofString "_law_grand") 1036) (Value.ref 524), DictEntry.mk (PyData.keyHash P (Str.ofString "_law_coded")) (Value.str (Str.ofString "_law_coded") 1049) (Value.ref 531), DictEntry.mk (PyData.keyHash P (Str.ofString "_law_works")) (Value.str (Str.ofString "_law_works") 1059) (Value.ref 538), DictEntry.mk (PyData.keyHash P (Str.ofString "_law_compared")) (Value.str (Str.ofString "_law_compared") 1065) (Value.ref 543), DictEntry.mk (PyData.keyHash P (Str.ofString "_law_run")) (Value.str (Str.ofString "_law_run") 1071) (Value.ref 548), DictEntry.mk (PyData.keyHash P (Str.ofString "_law_program")) (Value.str (Str.ofString "_law_program") 1086) (Value.ref 555), DictEntry.mk (PyData.keyHash P (Str.ofString "law")) (Value.str (Str.ofString "law") 1092) (Value.ref 560)] 90) #[]
noncomputable def o15 (_ : Params) : Obj := Obj.mk (Value.type "tuple") none (Data.seq #[]) #[]
noncomputable def o17 (_ : Params) : Obj := Obj.mk (Value.type "tuple") none (Data.seq #[Value.str (Str.ofString "k") 190]) #[]
noncomputable def o18 (_ : Params) : Obj := Obj.mk (Value.type "tuple") none (Data.seq #[]) #[]
noncomputable def o20 (_ : Params) : Obj := Obj.mk (Value.type "code") none (Data.fields #[Value.str (Str.ofString "_wall") 187, Value.str (Str.ofString "_wall") 188, Value.str (Str.ofString "/claim/cut.py") 189, Value.int 1 0, Value.int 1 0, Value.int 0 0, Value.int 0 0, Value.int 3 0, Value.ref 15, Value.bool true, Value.int 181 0, Value.ref 16, Value.none, Value.ref 17, Value.ref 18, Value.ref 19, Value.int 191 0, Value.int 1 0, Value.str (Str.ofString "/claim/cut.py") 192]) #[]
noncomputable def o21 (_ : Params) : Obj := fnO (stm 0) (by with_unfolding_all rfl) fun ar bd sc => Obj.mk (Value.type "function") none (Data.func (FuncData.mk (Str.ofString "_wall") (Str.ofString "_wall") ar (FuncBody.stmts bd) sc 3 [] Value.none Value.none Value.none (Value.str (Str.ofString "__main__") 164) none (Value.ref 20) Value.none 0)) #[]
noncomputable def o22 (_ : Params) : Obj := Obj.mk (Value.type "tuple") none (Data.seq #[]) #[]
noncomputable def o24 (_ : Params) : Obj := Obj.mk (Value.type "tuple") none (Data.seq #[Value.str (Str.ofString "instruction") 213]) #[]
noncomputable def o25 (_ : Params) : Obj := Obj.mk (Value.type "tuple") none (Data.seq #[]) #[]
noncomputable def o27 (_ : Params) : Obj := Obj.mk (Value.type "code") none (Data.fields #[Value.str (Str.ofString "op_of") 210, Value.str (Str.ofString "op_of") 211, Value.str (Str.ofString "/claim/cut.py") 212, Value.int 12 0, Value.int 1 0, Value.int 0 0, Value.int 0 0, Value.int 3 0, Value.ref 22, Value.bool true, Value.int 181 0, Value.ref 23, Value.none, Value.ref 24, Value.ref 25, Value.ref 26, Value.int 214 0, Value.int 12 0, Value.str (Str.ofString "/claim/cut.py") 215]) #[]
noncomputable def o28 (_ : Params) : Obj := fnO (stm 9) (by with_unfolding_all rfl) fun ar bd sc => Obj.mk (Value.type "function") none (Data.func (FuncData.mk (Str.ofString "op_of") (Str.ofString "op_of") ar (FuncBody.stmts bd) sc 3 [] Value.none Value.none Value.none (Value.str (Str.ofString "lua.fields") 194) none (Value.ref 27) Value.none 0)) #[]
noncomputable def o29 (_ : Params) : Obj := Obj.mk (Value.type "tuple") none (Data.seq #[]) #[]
noncomputable def o31 (_ : Params) : Obj := Obj.mk (Value.type "tuple") none (Data.seq #[Value.str (Str.ofString "instruction") 220]) #[]
noncomputable def o32 (_ : Params) : Obj := Obj.mk (Value.type "tuple") none (Data.seq #[]) #[]
noncomputable def o34 (_ : Params) : Obj := Obj.mk (Value.type "code") none (Data.fields #[Value.str (Str.ofString "a_of") 217, Value.str (Str.ofString "a_of") 218, Value.str (Str.ofString "/claim/cut.py") 219, Value.int 14 0, Value.int 1 0, Value.int 0 0, Value.int 0 0, Value.int 3 0, Value.ref 29, Value.bool true, Value.int 181 0, Value.ref 30, Value.none, Value.ref 31, Value.ref 32, Value.ref 33, Value.int 221 0, Value.int 14 0, Value.str (Str.ofString "/claim/cut.py") 222]) #[]
noncomputable def o35 (_ : Params) : Obj := fnO (stm 10) (by with_unfolding_all rfl) fun ar bd sc => Obj.mk (Value.type "function") none (Data.func (FuncData.mk (Str.ofString "a_of") (Str.ofString "a_of") ar (FuncBody.stmts bd) sc 3 [] Value.none Value.none Value.none (Value.str (Str.ofString "lua.fields") 194) none (Value.ref 34) Value.none 0)) #[]
noncomputable def o36 (_ : Params) : Obj := Obj.mk (Value.type "tuple") none (Data.seq #[]) #[]
noncomputable def o38 (_ : Params) : Obj := Obj.mk (Value.type "tuple") none (Data.seq #[Value.str (Str.ofString "instruction") 227]) #[]
noncomputable def o39 (_ : Params) : Obj := Obj.mk (Value.type "tuple") none (Data.seq #[]) #[]
noncomputable def o41 (_ : Params) : Obj := Obj.mk (Value.type "code") none (Data.fields #[Value.str (Str.ofString "b_of") 224, Value.str (Str.ofString "b_of") 225, Value.str (Str.ofString "/claim/cut.py") 226, Value.int 16 0, Value.int 1 0, Value.int 0 0, Value.int 0 0, Value.int 3 0, Value.ref 36, Value.bool true, Value.int 181 0, Value.ref 37, Value.none, Value.ref 38, Value.ref 39, Value.ref 40, Value.int 228 0, Value.int 16 0, Value.str (Str.ofString "/claim/cut.py") 229]) #[]
noncomputable def o42 (_ : Params) : Obj := fnO (stm 11) (by with_unfolding_all rfl) fun ar bd sc => Obj.mk (Value.type "function") none (Data.func (FuncData.mk (Str.ofString "b_of") (Str.ofString "b_of") ar (FuncBody.stmts bd) sc 3 [] Value.none Value.none Value.none (Value.str (Str.ofString "lua.fields") 194) none (Value.ref 41) Value.none 0)) #[]
noncomputable def o43 (_ : Params) : Obj := Obj.mk (Value.type "tuple") none (Data.seq #[]) #[]
noncomputable def o45 (_ : Params) : Obj := Obj.mk (Value.type "tuple") none (Data.seq #[Value.str (Str.ofString "instruction") 234]) #[]
noncomputable def o46 (_ : Params) : Obj := Obj.mk (Value.type "tuple") none (Data.seq #[]) #[]
noncomputable def o48 (_ : Params) : Obj := Obj.mk (Value.type "code") none (Data.fields #[Value.str (Str.ofString "c_of") 231, Value.str (Str.ofString "c_of") 232, Value.str (Str.ofString "/claim/cut.py") 233, Value.int 18 0, Value.int 1 0, Value.int 0 0, Value.int 0 0, Value.int 3 0, Value.ref 43, Value.bool true, Value.int 181 0, Value.ref 44, Value.none, Value.ref 45, Value.ref 46, Value.ref 47, Value.int 235 0, Value.int 18 0, Value.str (Str.ofString "/claim/cut.py") 236]) #[]
noncomputable def o49 (_ : Params) : Obj := fnO (stm 12) (by with_unfolding_all rfl) fun ar bd sc => Obj.mk (Value.type "function") none (Data.func (FuncData.mk (Str.ofString "c_of") (Str.ofString "c_of") ar (FuncBody.stmts bd) sc 3 [] Value.none Value.none Value.none (Value.str (Str.ofString "lua.fields") 194) none (Value.ref 48) Value.none 0)) #[]
noncomputable def o50 (_ : Params) : Obj := Obj.mk (Value.type "tuple") none (Data.seq #[]) #[]
noncomputable def o52 (_ : Params) : Obj := Obj.mk (Value.type "tuple") none (Data.seq #[Value.str (Str.ofString "instruction") 241]) #[]
noncomputable def o53 (_ : Params) : Obj := Obj.mk (Value.type "tuple") none (Data.seq #[]) #[]
noncomputable def o55 (_ : Params) : Obj := Obj.mk (Value.type "code") none (Data.fields #[Value.str (Str.ofString "wide_of") 238, Value.str (Str.ofString "wide_of") 239, Value.str (Str.ofString "/claim/cut.py") 240, Value.int 20 0, Value.int 1 0, Value.int 0 0, Value.int 0 0, Value.int 3 0, Value.ref 50, Value.bool true, Value.int 181 0, Value.ref 51, Value.none, Value.ref 52, Value.ref 53, Value.ref 54, Value.int 242 0, Value.int 20 0, Value.str (Str.ofString "/claim/cut.py") 243]) #[]
noncomputable def o56 (_ : Params) : Obj := fnO (stm 13) (by with_unfolding_all rfl) fun ar bd sc => Obj.mk (Value.type "function") none (Data.func (FuncData.mk (Str.ofString "wide_of") (Str.ofString "wide_of") ar (FuncBody.stmts bd) sc 3 [] Value.none Value.none Value.none (Value.str (Str.ofString "lua.fields") 194) none (Value.ref 55) Value.none 0)) #[]
noncomputable def o57 (_ : Params) : Obj := Obj.mk (Value.type "tuple") none (Data.seq #[]) #[]
noncomputable def o59 (_ : Params) : Obj := Obj.mk (Value.type "tuple") none (Data.seq #[Value.str (Str.ofString "instruction") 248]) #[]
noncomputable def o60 (_ : Params) : Obj := Obj.mk (Value.type "tuple") none (Data.seq #[]) #[]
noncomputable def o62 (_ : Params) : Obj := Obj.mk (Value.type "code") none (Data.fields #[Value.str (Str.ofString "jump_of") 245, Value.str (Str.ofString "jump_of") 246, Value.str (Str.ofString "/claim/cut.py") 247, Value.int 22 0, Value.int 1 0, Value.int 0 0, Value.int 0 0, Value.int 3 0, Value.ref 57, Value.bool true, Value.int 181 0, Value.ref 58, Value.none, Value.ref 59, Value.ref 60, Value.ref 61, Value.int 249 0, Value.int 22 0, Value.str (Str.ofString "/claim/cut.py") 250]) #[]
noncomputable def o63 (_ : Params) : Obj := fnO (stm 14) (by with_unfolding_all rfl) fun ar bd sc => Obj.mk (Value.type "function") none (Data.func (FuncData.mk (Str.ofString "jump_of") (Str.ofString "jump_of") ar (FuncBody.stmts bd) sc 3 [] Value.none Value.none Value.none (Value.str (Str.ofString "lua.fields") 194) none (Value.ref 62) Value.none 0)) #[]
noncomputable def o71 (_ : Params) : Obj := Obj.mk (Value.type "tuple") none (Data.seq #[Value.int 64 268, Value.int 250 269, Value.int 60 270, Value.int 200 271, Value.int 40 272, Value.int 200 273, Value.int 2000 274, Value.int 50 275, Value.int 1000000000 276, Value.int 1000000 277]) #[]
noncomputable def o72 (_ : Params) : Obj := Obj.mk (Value.type "tuple") none (Data.seq #[]) #[]
noncomputable def o74 (_ : Params) : Obj := Obj.mk (Value.type "tuple") none (Data.seq #[Value.str (Str.ofString "self") 281, Value.str (Str.ofString "width") 282, Value.str (Str.ofString "registers") 283, Value.str (Str.ofString "upvalues") 284, Value.str (Str.ofString "local_names") 285, Value.str (Str.ofString "ccalls") 286, Value.str (Str.ofString "frames") 287, Value.str (Str.ofString "stack") 288, Value.str (Str.ofString "flush") 289, Value.str (Str.ofString "steps") 290, Value.str (Str.ofString "text") 291]) #[]
noncomputable def o75 (_ : Params) : Obj := Obj.mk (Value.type "tuple") none (Data.seq #[]) #[]
noncomputable def o77 (_ : Params) : Obj := Obj.mk (Value.type "code") none (Data.fields #[Value.str (Str.ofString "__init__") 278, Value.str (Str.ofString "Limits.__init__") 279, Value.str (Str.ofString "/claim/cut.py") 280, Value.int 28 0, Value.int 11 0, Value.int 0 0, Value.int 0 0, Value.int 3 0, Value.ref 72, Value.bool true, Value.int 181 0, Value.ref 73, Value.none, Value.ref 74, Value.ref 75, Value.ref 76, Value.int 292 0, Value.int 28 0, Value.str (Str.ofString "/claim/cut.py") 293]) #[]
noncomputable def o78 (_ : Params) : Obj := fnO (sub 0 (stm 17)) (by with_unfolding_all rfl) fun ar bd sc => Obj.mk (Value.type "function") none (Data.func (FuncData.mk (Str.ofString "__init__") (Str.ofString "Limits.__init__") ar (FuncBody.stmts bd) sc 3 [] (Value.ref 71) Value.none Value.none (Value.str (Str.ofString "lua.values") 252) none (Value.ref 77) Value.none 0)) #[]
noncomputable def o79 (_ : Params) : Obj := Obj.mk (Value.type "tuple") none (Data.seq #[]) #[]
noncomputable def o81 (_ : Params) : Obj := Obj.mk (Value.type "tuple") none (Data.seq #[Value.str (Str.ofString "self") 298]) #[]
noncomputable def o82 (_ : Params) : Obj := Obj.mk (Value.type "tuple") none (Data.seq #[]) #[]
noncomputable def o84 (_ : Params) : Obj := Obj.mk (Value.type "code") none (Data.fields #[Value.str (Str.ofString "greatest") 295, Value.str (Str.ofString "Limits.greatest") 296, Value.str (Str.ofString "/claim/cut.py") 297, Value.int 40 0, Value.int 1 0, Value.int 0 0, Value.int 0 0, Value.int 3 0, Value.ref 79, Value.bool true, Value.int 181 0, Value.ref 80, Value.none, Value.ref 81, Value.ref 82, Value.ref 83, Value.int 299 0, Value.int 40 0, Value.str (Str.ofString "/claim/cut.py") 300]) #[]
noncomputable def o85 (_ : Params) : Obj := fnO (sub 1 (stm 17)) (by with_unfolding_all rfl) fun ar bd sc => Obj.mk (Value.type "function") none (Data.func (FuncData.mk (Str.ofString "greatest") (Str.ofString "Limits.greatest") ar (FuncBody.stmts bd) sc 3 [] Value.none Value.none Value.none (Value.str (Str.ofString "lua.values") 252) none (Value.ref 84) Value.none 0)) #[]
noncomputable def o86 (_ : Params) : Obj := Obj.mk (Value.type "tuple") none (Data.seq #[]) #[]
noncomputable def o88 (_ : Params) : Obj := Obj.mk (Value.type "tuple") none (Data.seq #[Value.str (Str.ofString "self") 305]) #[]
noncomputable def o89 (_ : Params) : Obj := Obj.mk (Value.type "tuple") none (Data.seq #[]) #[]
noncomputable def o91 (_ : Params) : Obj := Obj.mk (Value.type "code") none (Data.fields #[Value.str (Str.ofString "least") 302, Value.str (Str.ofString "Limits.least") 303, Value.str (Str.ofString "/claim/cut.py") 304, Value.int 43 0, Value.int 1 0, Value.int 0 0, Value.int 0 0, Value.int 3 0, Value.ref 86, Value.bool true, Value.int 181 0, Value.ref 87, Value.none, Value.ref 88, Value.ref 89, Value.ref 90, Value.int 306 0, Value.int 43 0, Value.str (Str.ofString "/claim/cut.py") 307]) #[]
noncomputable def o92 (_ : Params) : Obj := fnO (sub 2 (stm 17)) (by with_unfolding_all rfl) fun ar bd sc => Obj.mk (Value.type "function") none (Data.func (FuncData.mk (Str.ofString "least") (Str.ofString "Limits.least") ar (FuncBody.stmts bd) sc 3 [] Value.none Value.none Value.none (Value.str (Str.ofString "lua.values") 252) none (Value.ref 91) Value.none 0)) #[]
noncomputable def o93 (_ : Params) : Obj := Obj.mk (Value.type "tuple") none (Data.seq #[Value.str (Str.ofString "ccalls") 309, Value.str (Str.ofString "flush") 310, Value.str (Str.ofString "frames") 311, Value.str (Str.ofString "local_names") 312, Value.str (Str.ofString "registers") 313, Value.str (Str.ofString "stack") 314, Value.str (Str.ofString "steps") 315, Value.str (Str.ofString "text") 316, Value.str (Str.ofString "upvalues") 317, Value.str (Str.ofString "width") 318]) #[]
noncomputable def o94 (P : Params) : Obj := Obj.mk (Value.type "dict") none (Data.dict #[DictEntry.mk (PyData.keyHash P (Str.ofString "__module__")) (Value.str (Str.ofString "__module__") 263) (Value.str (Str.ofString "lua.values") 252), DictEntry.mk (PyData.keyHash P (Str.ofString "__firstlineno__")) (Value.str (Str.ofString "__firstlineno__") 267) (Value.int 26 266), DictEntry.mk (PyData.keyHash P (Str.ofString "__init__")) (Value.str (Str.ofString "__init__") 294) (Value.ref 78), DictEntry.mk (PyData.keyHash P (Str.ofString "greatest")) (Value.str (Str.ofString "greatest") 301) (Value.ref 85), DictEntry.mk (PyData.keyHash P (Str.ofString "least")) (Value.str (Str.ofString "least") 308) (Value.ref 92), DictEntry.mk (PyData.keyHash P (Str.ofString "__static_attributes__")) (Value.str (Str.ofString "__static_attributes__") 319) (Value.ref 93), DictEntry.mk (PyData.keyHash P (Str.ofString "__dict__")) (Value.str (Str.ofString "__dict__") 321) (Value.ref 96), DictEntry.mk (PyData.keyHash P (Str.ofString "__weakref__")) (Value.str (Str.ofString "__weakref__") 323) (Value.ref 97), DictEntry.mk (PyData.keyHash P (Str.ofString "__doc__")) (Value.str (Str.ofString "__doc__") 324) Value.none] 4) #[]
noncomputable def o95 (_ : Params) : Obj := Obj.mk (Value.type "type") none (Data.cls (ClassData.mk (Str.ofString "Limits") [Value.type "object"] [Value.ref 95, Value.type "object"] 94 (Str.ofString "Limits") true [] [] false none false)) #[none, none, some (Value.str (Str.ofString "Limits") 256), some (Value.str (Str.ofString "Limits") 264), some (Value.builtin "object.__new__"), some (Value.bool true)]
noncomputable def o96 (_ : Params) : Obj := Obj.mk (Value.type "getset_descriptor") none (Data.fields #[Value.str (Str.ofString "__dict__") 320, Value.ref 95, Value.builtin "function.__dict__", Value.builtin "function.__dict__#set"]) #[]
noncomputable def o97 (_ : Params) : Obj := Obj.mk (Value.type "getset_descriptor") none (Data.fields #[Value.str (Str.ofString "__weakref__") 322, Value.ref 95, Value.builtin "ExceptionGroup.__weakref__", Value.none]) #[]
noncomputable def o100 (_ : Params) : Obj := Obj.mk (Value.type "tuple") none (Data.seq #[Value.type "Exception"]) #[]
noncomputable def o107 (_ : Params) : Obj := Obj.mk (Value.type "tuple") none (Data.seq #[]) #[]
noncomputable def o109 (_ : Params) : Obj := Obj.mk (Value.type "tuple") none (Data.seq #[Value.str (Str.ofString "self") 342, Value.str (Str.ofString "value") 343]) #[]
noncomputable def o110 (_ : Params) : Obj := Obj.mk (Value.type "tuple") none (Data.seq #[]) #[]
noncomputable def o112 (_ : Params) : Obj := Obj.mk (Value.type "code") none (Data.fields #[Value.str (Str.ofString "__init__") 339, Value.str (Str.ofString "LuaError.__init__") 340, Value.str (Str.ofString "/claim/cut.py") 341, Value.int 47 0, Value.int 2 0, Value.int 0 0, Value.int 0 0, Value.int 3 0, Value.ref 107, Value.bool true, Value.int 181 0, Value.ref 108, Value.none, Value.ref 109, Value.ref 110, Value.ref 111, Value.int 344 0, Value.int 47 0, Value.str (Str.ofString "/claim/cut.py") 345]) #[]
noncomputable def o113 (_ : Params) : Obj := fnO (sub 0 (stm 18)) (by with_unfolding_all rfl) fun ar bd sc => Obj.mk (Value.type "function") none (Data.func (FuncData.mk (Str.ofString "__init__") (Str.ofString "LuaError.__init__") ar (FuncBody.stmts bd) sc 3 [] Value.none Value.none Value.none (Value.str (Str.ofString "lua.values") 252) none (Value.ref 112) Value.none 0)) #[]
noncomputable def o114 (_ : Params) : Obj := Obj.mk (Value.type "tuple") none (Data.seq #[Value.str (Str.ofString "trace") 347, Value.str (Str.ofString "value") 348]) #[]
noncomputable def o115 (P : Params) : Obj := Obj.mk (Value.type "dict") none (Data.dict #[DictEntry.mk (PyData.keyHash P (Str.ofString "__module__")) (Value.str (Str.ofString "__module__") 334) (Value.str (Str.ofString "lua.values") 252), DictEntry.mk (PyData.keyHash P (Str.ofString "__firstlineno__")) (Value.str (Str.ofString "__firstlineno__") 338) (Value.int 45 337), DictEntry.mk (PyData.keyHash P (Str.ofString "__init__")) (Value.str (Str.ofString "__init__") 346) (Value.ref 113), DictEntry.mk (PyData.keyHash P (Str.ofString "__static_attributes__")) (Value.str (Str.ofString "__static_attributes__") 349) (Value.ref 114), DictEntry.mk (PyData.keyHash P (Str.ofString "__weakref__")) (Value.str (Str.ofString "__weakref__") 351) (Value.ref 117), DictEntry.mk (PyData.keyHash P (Str.ofString "__doc__")) (Value.str (Str.ofString "__doc__") 352) Value.none] 3) #[]
noncomputable def o116 (_ : Params) : Obj := Obj.mk (Value.type "type") none (Data.cls (ClassData.mk (Str.ofString "LuaError") [Value.type "Exception"] [Value.ref 116, Value.type "Exception", Value.type "BaseException", Value.type "object"] 115 (Str.ofString "LuaError") true [] [] false none false)) #[some (Value.ref 100), none, some (Value.str (Str.ofString "LuaError") 327), some (Value.str (Str.ofString "LuaError") 335), some (Value.builtin "Exception.__new__"), some (Value.bool true)]
noncomputable def o117 (_ : Params) : Obj := Obj.mk (Value.type "getset_descriptor") none (Data.fields #[Value.str (Str.ofString "__weakref__") 350, Value.ref 116, Value.builtin "ExceptionGroup.__weakref__", Value.none]) #[]
noncomputable def o120 (_ : Params) : Obj := Obj.mk (Value.type "tuple") none (Data.seq #[Value.type "Exception"]) #[]
noncomputable def o127 (_ : Params) : Obj := Obj.mk (Value.type "tuple") none (Data.seq #[]) #[]
noncomputable def o129 (_ : Params) : Obj := Obj.mk (Value.type "tuple") none (Data.seq #[Value.str (Str.ofString "self") 372, Value.str (Str.ofString "text") 373]) #[]
noncomputable def o130 (_ : Params) : Obj := Obj.mk (Value.type "tuple") none (Data.seq #[]) #[]
noncomputable def o132 (_ : Params) : Obj := Obj.mk (Value.type "code") none (Data.fields #[Value.str (Str.ofString "__init__") 369, Value.str (Str.ofString "ApiError.__init__") 370, Value.str (Str.ofString "/claim/cut.py") 371, Value.int 52 0, Value.int 2 0, Value.int 0 0, Value.int 0 0, Value.int 3 0, Value.ref 127, Value.bool true, Value.int 181 0, Value.ref 128, Value.none, Value.ref 129, Value.ref 130, Value.ref 131, Value.int 374 0, Value.int 52 0, Value.str (Str.ofString "/claim/cut.py") 375]) #[]
noncomputable def o133 (_ : Params) : Obj := fnO (sub 0 (stm 19)) (by with_unfolding_all rfl) fun ar bd sc => Obj.mk (Value.type "function") none (Data.func (FuncData.mk (Str.ofString "__init__") (Str.ofString "ApiError.__init__") ar (FuncBody.stmts bd) sc 3 [] Value.none Value.none Value.none (Value.str (Str.ofString "lua.values") 252) none (Value.ref 132) Value.none 0)) #[]
noncomputable def o134 (_ : Params) : Obj := Obj.mk (Value.type "tuple") none (Data.seq #[Value.str (Str.ofString "text") 377]) #[]
noncomputable def o135 (P : Params) : Obj := Obj.mk (Value.type "dict") none (Data.dict #[DictEntry.mk (PyData.keyHash P (Str.ofString "__module__")) (Value.str (Str.ofString "__module__") 364) (Value.str (Str.ofString "lua.values") 252), DictEntry.mk (PyData.keyHash P (Str.ofString "__firstlineno__")) (Value.str (Str.ofString "__firstlineno__") 368) (Value.int 50 367), DictEntry.mk (PyData.keyHash P (Str.ofString "__init__")) (Value.str (Str.ofString "__init__") 376) (Value.ref 133), DictEntry.mk (PyData.keyHash P (Str.ofString "__static_attributes__")) (Value.str (Str.ofString "__static_attributes__") 378) (Value.ref 134), DictEntry.mk (PyData.keyHash P (Str.ofString "__weakref__")) (Value.str (Str.ofString "__weakref__") 380) (Value.ref 137), DictEntry.mk (PyData.keyHash P (Str.ofString "__doc__")) (Value.str (Str.ofString "__doc__") 381) Value.none] 3) #[]
noncomputable def o136 (_ : Params) : Obj := Obj.mk (Value.type "type") none (Data.cls (ClassData.mk (Str.ofString "ApiError") [Value.type "Exception"] [Value.ref 136, Value.type "Exception", Value.type "BaseException", Value.type "object"] 135 (Str.ofString "ApiError") true [] [] false none false)) #[some (Value.ref 120), none, some (Value.str (Str.ofString "ApiError") 357), some (Value.str (Str.ofString "ApiError") 365), some (Value.builtin "Exception.__new__"), some (Value.bool true)]
noncomputable def o137 (_ : Params) : Obj := Obj.mk (Value.type "getset_descriptor") none (Data.fields #[Value.str (Str.ofString "__weakref__") 379, Value.ref 136, Value.builtin "ExceptionGroup.__weakref__", Value.none]) #[]
noncomputable def o140 (_ : Params) : Obj := Obj.mk (Value.type "tuple") none (Data.seq #[]) #[]
noncomputable def o142 (_ : Params) : Obj := Obj.mk (Value.type "tuple") none (Data.seq #[Value.str (Str.ofString "value") 389]) #[]
noncomputable def o143 (_ : Params) : Obj := Obj.mk (Value.type "tuple") none (Data.seq #[]) #[]
noncomputable def o145 (_ : Params) : Obj := Obj.mk (Value.type "code") none (Data.fields #[Value.str (Str.ofString "is_number") 386, Value.str (Str.ofString "is_number") 387, Value.str (Str.ofString "/claim/cut.py") 388, Value.int 54 0, Value.int 1 0, Value.int 0 0, Value.int 0 0, Value.int 3 0, Value.ref 140, Value.bool true, Value.int 181 0, Value.ref 141, Value.none, Value.ref 142, Value.ref 143, Value.ref 144, Value.int 390 0, Value.int 54 0, Value.str (Str.ofString "/claim/cut.py") 391]) #[]
noncomputable def o146 (_ : Params) : Obj := fnO (stm 20) (by with_unfolding_all rfl) fun ar bd sc => Obj.mk (Value.type "function") none (Data.func (FuncData.mk (Str.ofString "is_number") (Str.ofString "is_number") ar (FuncBody.stmts bd) sc 3 [] Value.none Value.none Value.none (Value.str (Str.ofString "lua.values") 252) none (Value.ref 145) Value.none 0)) #[]
noncomputable def o147 (_ : Params) : Obj := Obj.mk (Value.type "tuple") none (Data.seq #[]) #[]
noncomputable def o149 (_ : Params) : Obj := Obj.mk (Value.type "tuple") none (Data.seq #[Value.str (Str.ofString "value") 396]) #[]
noncomputable def o150 (_ : Params) : Obj := Obj.mk (Value.type "tuple") none (Data.seq #[]) #[]
noncomputable def o152 (_ : Params) : Obj := Obj.mk (Value.type "code") none (Data.fields #[Value.str (Str.ofString "is_false") 393, Value.str (Str.ofString "is_false") 394, Value.str (Str.ofString "/claim/cut.py") 395, Value.int 56 0, Value.int 1 0, Value.int 0 0, Value.int 0 0, Value.int 3 0, Value.ref 147, Value.bool true, Value.int 181 0, Value.ref 148, Value.none, Value.ref 149, Value.ref 150, Value.ref 151, Value.int 397 0, Value.int 56 0, Value.str (Str.ofString "/claim/cut.py") 398]) #[]
noncomputable def o153 (_ : Params) : Obj := fnO (stm 21) (by with_unfolding_all rfl) fun ar bd sc => Obj.mk (Value.type "function") none (Data.func (FuncData.mk (Str.ofString "is_false") (Str.ofString "is_false") ar (FuncBody.stmts bd) sc 3 [] Value.none Value.none Value.none (Value.str (Str.ofString "lua.values") 252) none (Value.ref 152) Value.none 0)) #[]
noncomputable def o154 (_ : Params) : Obj := Obj.mk (Value.type "tuple") none (Data.seq #[]) #[]
noncomputable def o156 (_ : Params) : Obj := Obj.mk (Value.type "tuple") none (Data.seq #[Value.str (Str.ofString "n") 403, Value.str (Str.ofString "width") 404, Value.str (Str.ofString "low") 405]) #[]
noncomputable def o157 (_ : Params) : Obj := Obj.mk (Value.type "tuple") none (Data.seq #[]) #[]
noncomputable def o159 (_ : Params) : Obj := Obj.mk (Value.type "code") none (Data.fields #[Value.str (Str.ofString "wrap") 400, Value.str (Str.ofString "wrap") 401, Value.str (Str.ofString "/claim/cut.py") 402, Value.int 60 0, Value.int 2 0, Value.int 0 0, Value.int 0 0, Value.int 3 0, Value.ref 154, Value.bool true, Value.int 181 0, Value.ref 155, Value.none, Value.ref 156, Value.ref 157, Value.ref 158, Value.int 406 0, Value.int 60 0, Value.str (Str.ofString "/claim/cut.py") 407]) #[]
noncomputable def o160 (_ : Params) : Obj := fnO (stm 22) (by with_unfolding_all rfl) fun ar bd sc => Obj.mk (Value.type "function") none (Data.func (FuncData.mk (Str.ofString "wrap") (Str.ofString "wrap") ar (FuncBody.stmts bd) sc 3 [] Value.none Value.none Value.none (Value.str (Str.ofString "lua.values") 252) none (Value.ref 159) Value.none 0)) #[]
noncomputable def o161 (_ : Params) : Obj := Obj.mk (Value.type "tuple") none (Data.seq #[]) #[]
noncomputable def o163 (_ : Params) : Obj := Obj.mk (Value.type "tuple") none (Data.seq #[Value.str (Str.ofString "a") 412, Value.str (Str.ofString "b") 413, Value.str (Str.ofString "found") 414]) #[]
noncomputable def o164 (_ : Params) : Obj := Obj.mk (Value.type "tuple") none (Data.seq #[]) #[]
noncomputable def o166 (_ : Params) : Obj := Obj.mk (Value.type "code") none (Data.fields #[Value.str (Str.ofString "divide") 409, Value.str (Str.ofString "divide") 410, Value.str (Str.ofString "/claim/cut.py") 411, Value.int 65 0, Value.int 2 0, Value.int 0 0, Value.int 0 0, Value.int 3 0, Value.ref 161, Value.bool true, Value.int 181 0, Value.ref 162, Value.none, Value.ref 163, Value.ref 164, Value.ref 165, Value.int 415 0, Value.int 65 0, Value.str (Str.ofString "/claim/cut.py") 416]) #[]
noncomputable def o167 (_ : Params) : Obj := fnO (stm 23) (by with_unfolding_all rfl) fun ar bd sc => Obj.mk (Value.type "function") none (Data.func (FuncData.mk (Str.ofString "divide") (Str.ofString "divide") ar (FuncBody.stmts bd) sc 3 [] Value.none Value.none Value.none (Value.str (Str.ofString "lua.values") 252) none (Value.ref 166) Value.none 0)) #[]
noncomputable def o168 (_ : Params) : Obj := Obj.mk (Value.type "tuple") none (Data.seq #[]) #[]
noncomputable def o170 (_ : Params) : Obj := Obj.mk (Value.type "tuple") none (Data.seq #[Value.str (Str.ofString "a") 421, Value.str (Str.ofString "b") 422, Value.str (Str.ofString "width") 423, Value.str (Str.ofString "found") 424, Value.str (Str.ofString "base") 425]) #[]
noncomputable def o171 (_ : Params) : Obj := Obj.mk (Value.type "tuple") none (Data.seq #[]) #[]
noncomputable def o173 (_ : Params) : Obj := Obj.mk (Value.type "code") none (Data.fields #[Value.str (Str.ofString "power") 418, Value.str (Str.ofString "power") 419, Value.str (Str.ofString "/claim/cut.py") 420, Value.int 68 0, Value.int 3 0, Value.int 0 0, Value.int 0 0, Value.int 3 0, Value.ref 168, Value.bool true, Value.int 181 0, Value.ref 169, Value.none, Value.ref 170, Value.ref 171, Value.ref 172, Value.int 426 0, Value.int 68 0, Value.str (Str.ofString "/claim/cut.py") 427]) #[]
noncomputable def o174 (_ : Params) : Obj := fnO (stm 24) (by with_unfolding_all rfl) fun ar bd sc => Obj.mk (Value.type "function") none (Data.func (FuncData.mk (Str.ofString "power") (Str.ofString "power") ar (FuncBody.stmts bd) sc 3 [] Value.none Value.none Value.none (Value.str (Str.ofString "lua.values") 252) none (Value.ref 173) Value.none 0)) #[]
noncomputable def o175 (_ : Params) : Obj := Obj.mk (Value.type "tuple") none (Data.seq #[]) #[]
noncomputable def o177 (_ : Params) : Obj := Obj.mk (Value.type "tuple") none (Data.seq #[Value.str (Str.ofString "op") 432, Value.str (Str.ofString "a") 433, Value.str (Str.ofString "b") 434, Value.str (Str.ofString "limits") 435, Value.str (Str.ofString "width") 436]) #[]
noncomputable def o178 (_ : Params) : Obj := Obj.mk (Value.type "tuple") none (Data.seq #[]) #[]
noncomputable def o180 (_ : Params) : Obj := Obj.mk (Value.type "code") none (Data.fields #[Value.str (Str.ofString "arith") 429, Value.str (Str.ofString "arith") 430, Value.str (Str.ofString "/claim/cut.py") 431, Value.int 82 0, Value.int 4 0, Value.int 0 0, Value.int 0 0, Value.int 3 0, Value.ref 175, Value.bool true, Value.int 181 0, Value.ref 176, Value.none, Value.ref 177, Value.ref 178, Value.ref 179, Value.int 437 0, Value.int 82 0, Value.str (Str.ofString "/claim/cut.py") 438]) #[]
noncomputable def o181 (_ : Params) : Obj := fnO (stm 25) (by with_unfolding_all rfl) fun ar bd sc => Obj.mk (Value.type "function") none (Data.func (FuncData.mk (Str.ofString "arith") (Str.ofString "arith") ar (FuncBody.stmts bd) sc 3 [] Value.none Value.none Value.none (Value.str (Str.ofString "lua.values") 252) none (Value.ref 180) Value.none 0)) #[]
noncomputable def o182 (_ : Params) : Obj := Obj.mk (Value.type "tuple") none (Data.seq #[]) #[]
noncomputable def o184 (_ : Params) : Obj := Obj.mk (Value.type "tuple") none (Data.seq #[Value.str (Str.ofString "octet") 443]) #[]
noncomputable def o185 (_ : Params) : Obj := Obj.mk (Value.type "tuple") none (Data.seq #[]) #[]
noncomputable def o187 (_ : Params) : Obj := Obj.mk (Value.type "code") none (Data.fields #[Value.str (Str.ofString "is_blank") 440, Value.str (Str.ofString "is_blank") 441, Value.str (Str.ofString "/claim/cut.py") 442, Value.int 101 0, Value.int 1 0, Value.int 0 0, Value.int 0 0, Value.int 3 0, Value.ref 182, Value.bool true, Value.int 181 0, Value.ref 183, Value.none, Value.ref 184, Value.ref 185, Value.ref 186, Value.int 444 0, Value.int 101 0, Value.str (Str.ofString "/claim/cut.py") 445]) #[]
noncomputable def o188 (_ : Params) : Obj := fnO (stm 26) (by with_unfolding_all rfl) fun ar bd sc => Obj.mk (Value.type "function") none (Data.func (FuncData.mk (Str.ofString "is_blank") (Str.ofString "is_blank") ar (FuncBody.stmts bd) sc 3 [] Value.none Value.none Value.none (Value.str (Str.ofString "lua.values") 252) none (Value.ref 187) Value.none 0)) #[]
noncomputable def o189 (_ : Params) : Obj := Obj.mk (Value.type "tuple") none (Data.seq #[]) #[]
noncomputable def o191 (_ : Params) : Obj := Obj.mk (Value.type "tuple") none (Data.seq #[Value.str (Str.ofString "octet") 450]) #[]
noncomputable def o192 (_ : Params) : Obj := Obj.mk (Value.type "tuple") none (Data.seq #[]) #[]
noncomputable def o194 (_ : Params) : Obj := Obj.mk (Value.type "code") none (Data.fields #[Value.str (Str.ofString "digit_of") 447, Value.str (Str.ofString "digit_of") 448, Value.str (Str.ofString "/claim/cut.py") 449, Value.int 103 0, Value.int 1 0, Value.int 0 0, Value.int 0 0, Value.int 3 0, Value.ref 189, Value.bool true, Value.int 181 0, Value.ref 190, Value.none, Value.ref 191, Value.ref 192, Value.ref 193, Value.int 451 0, Value.int 103 0, Value.str (Str.ofString "/claim/cut.py") 452]) #[]
noncomputable def o195 (_ : Params) : Obj := fnO (stm 27) (by with_unfolding_all rfl) fun ar bd sc => Obj.mk (Value.type "function") none (Data.func (FuncData.mk (Str.ofString "digit_of") (Str.ofString "digit_of") ar (FuncBody.stmts bd) sc 3 [] Value.none Value.none Value.none (Value.str (Str.ofString "lua.values") 252) none (Value.ref 194) Value.none 0)) #[]
noncomputable def o196 (_ : Params) : Obj := Obj.mk (Value.type "tuple") none (Data.seq #[]) #[]
noncomputable def o198 (_ : Params) : Obj := Obj.mk (Value.type "tuple") none (Data.seq #[Value.str (Str.ofString "text") 457, Value.str (Str.ofString "at") 458, Value.str (Str.ofString "base") 459, Value.str (Str.ofString "found") 460, Value.str (Str.ofString "digit") 461]) #[]
noncomputable def o199 (_ : Params) : Obj := Obj.mk (Value.type "tuple") none (Data.seq #[]) #[]
noncomputable def o201 (_ : Params) : Obj := Obj.mk (Value.type "code") none (Data.fields #[Value.str (Str.ofString "read_digits") 454, Value.str (Str.ofString "read_digits") 455, Value.str (Str.ofString "/claim/cut.py") 456, Value.int 111 0, Value.int 3 0, Value.int 0 0, Value.int 0 0, Value.int 3 0, Value.ref 196, Value.bool true, Value.int 181 0, Value.ref 197, Value.none, Value.ref 198, Value.ref 199, Value.ref 200, Value.int 462 0, Value.int 111 0, Value.str (Str.ofString "/claim/cut.py") 463]) #[]
noncomputable def o202 (_ : Params) : Obj := fnO (stm 28) (by with_unfolding_all rfl) fun ar bd sc => Obj.mk (Value.type "function") none (Data.func (FuncData.mk (Str.ofString "read_digits") (Str.ofString "read_digits") ar (FuncBody.stmts bd) sc 3 [] Value.none Value.none Value.none (Value.str (Str.ofString "lua.values") 252) none (Value.ref 201) Value.none 0)) #[]
noncomputable def o203 (_ : Params) : Obj := Obj.mk (Value.type "tuple") none (Data.seq #[]) #[]
noncomputable def o205 (_ : Params) : Obj := Obj.mk (Value.type "tuple") none (Data.seq #[Value.str (Str.ofString "text") 468, Value.str (Str.ofString "at") 469]) #[]
noncomputable def o206 (_ : Params) : Obj := Obj.mk (Value.type "tuple") none (Data.seq #[]) #[]
noncomputable def o208 (_ : Params) : Obj := Obj.mk (Value.type "code") none (Data.fields #[Value.str (Str.ofString "skip_blanks") 465, Value.str (Str.ofString "skip_blanks") 466, Value.str (Str.ofString "/claim/cut.py") 467, Value.int 120 0, Value.int 2 0, Value.int 0 0, Value.int 0 0, Value.int 3 0, Value.ref 203, Value.bool true, Value.int 181 0, Value.ref 204, Value.none, Value.ref 205, Value.ref 206, Value.ref 207, Value.int 470 0, Value.int 120 0, Value.str (Str.ofString "/claim/cut.py") 471]) #[]
noncomputable def o209 (_ : Params) : Obj := fnO (stm 29) (by with_unfolding_all rfl) fun ar bd sc => Obj.mk (Value.type "function") none (Data.func (FuncData.mk (Str.ofString "skip_blanks") (Str.ofString "skip_blanks") ar (FuncBody.stmts bd) sc 3 [] Value.none Value.none Value.none (Value.str (Str.ofString "lua.values") 252) none (Value.ref 208) Value.none 0)) #[]
noncomputable def o210 (_ : Params) : Obj := Obj.mk (Value.type "tuple") none (Data.seq #[]) #[]
noncomputable def o212 (_ : Params) : Obj := Obj.mk (Value.type "tuple") none (Data.seq #[Value.str (Str.ofString "text") 476, Value.str (Str.ofString "limits") 477]) #[]
noncomputable def o213 (_ : Params) : Obj := Obj.mk (Value.type "tuple") none (Data.seq #[]) #[]
noncomputable def o215 (_ : Params) : Obj := Obj.mk (Value.type "code") none (Data.fields #[Value.str (Str.ofString "str_to_number") 473, Value.str (Str.ofString "str_to_number") 474, Value.str (Str.ofString "/claim/cut.py") 475, Value.int 124 0, Value.int 2 0, Value.int 0 0, Value.int 0 0, Value.int 3 0, Value.ref 210, Value.bool true, Value.int 181 0, Value.ref 211, Value.none, Value.ref 212, Value.ref 213, Value.ref 214, Value.int 478 0, Value.int 124 0, Value.str (Str.ofString "/claim/cut.py") 479]) #[]
noncomputable def o216 (_ : Params) : Obj := fnO (stm 30) (by with_unfolding_all rfl) fun ar bd sc => Obj.mk (Value.type "function") none (Data.func (FuncData.mk (Str.ofString "str_to_number") (Str.ofString "str_to_number") ar (FuncBody.stmts bd) sc 3 [] Value.none Value.none Value.none (Value.str (Str.ofString "lua.values") 252) none (Value.ref 215) Value.none 0)) #[]
noncomputable def o217 (_ : Params) : Obj := Obj.mk (Value.type "tuple") none (Data.seq #[]) #[]
noncomputable def o219 (_ : Params) : Obj := Obj.mk (Value.type "tuple") none (Data.seq #[Value.str (Str.ofString "text") 484, Value.str (Str.ofString "base") 485, Value.str (Str.ofString "limits") 486, Value.str (Str.ofString "at") 487, Value.str (Str.ofString "is_below") 488, Value.str (Str.ofString "is_marked") 489, Value.str (Str.ofString "found") 490, Value.str (Str.ofString "end") 491]) #[]
noncomputable def o220 (_ : Params) : Obj := Obj.mk (Value.type "tuple") none (Data.seq #[]) #[]
noncomputable def o222 (_ : Params) : Obj := Obj.mk (Value.type "code") none (Data.fields #[Value.str (Str.ofString "text_in_base") 481, Value.str (Str.ofString "text_in_base") 482, Value.str (Str.ofString "/claim/cut.py") 483, Value.int 126 0, Value.int 3 0, Value.int 0 0, Value.int 0 0, Value.int 3 0, Value.ref 217, Value.bool true, Value.int 181 0, Value.ref 218, Value.none, Value.ref 219, Value.ref 220, Value.ref 221, Value.int 492 0, Value.int 126 0, Value.str (Str.ofString "/claim/cut.py") 493]) #[]
noncomputable def o223 (_ : Params) : Obj := fnO (stm 31) (by with_unfolding_all rfl) fun ar bd sc => Obj.mk (Value.type "function") none (Data.func (FuncData.mk (Str.ofString "text_in_base") (Str.ofString "text_in_base") ar (FuncBody.stmts bd) sc 3 [] Value.none Value.none Value.none (Value.str (Str.ofString "lua.values") 252) none (Value.ref 222) Value.none 0)) #[]
noncomputable def o224 (_ : Params) : Obj := Obj.mk (Value.type "tuple") none (Data.seq #[]) #[]
noncomputable def o226 (_ : Params) : Obj := Obj.mk (Value.type "tuple") none (Data.seq #[Value.str (Str.ofString "value") 498, Value.str (Str.ofString "limits") 499]) #[]
noncomputable def o227 (_ : Params) : Obj := Obj.mk (Value.type "tuple") none (Data.seq #[]) #[]
noncomputable def o229 (_ : Params) : Obj := Obj.mk (Value.type "code") none (Data.fields #[Value.str (Str.ofString "to_number") 495, Value.str (Str.ofString "to_number") 496, Value.str (Str.ofString "/claim/cut.py") 497, Value.int 138 0, Value.int 2 0, Value.int 0 0, Value.int 0 0, Value.int 3 0, Value.ref 224, Value.bool true, Value.int 181 0, Value.ref 225, Value.none, Value.ref 226, Value.ref 227, Value.ref 228, Value.int 500 0, Value.int 138 0, Value.str (Str.ofString "/claim/cut.py") 501]) #[]
noncomputable def o230 (_ : Params) : Obj := fnO (stm 32) (by with_unfolding_all rfl) fun ar bd sc => Obj.mk (Value.type "function") none (Data.func (FuncData.mk (Str.ofString "to_number") (Str.ofString "to_number") ar (FuncBody.stmts bd) sc 3 [] Value.none Value.none Value.none (Value.str (Str.ofString "lua.values") 252) none (Value.ref 229) Value.none 0)) #[]
noncomputable def o231 (_ : Params) : Obj := Obj.mk (Value.type "tuple") none (Data.seq #[]) #[]
noncomputable def o233 (_ : Params) : Obj := Obj.mk (Value.type "tuple") none (Data.seq #[Value.str (Str.ofString "n") 506, Value.str (Str.ofString "left") 507, Value.str (Str.ofString "found") 508]) #[]
noncomputable def o234 (_ : Params) : Obj := Obj.mk (Value.type "tuple") none (Data.seq #[]) #[]
noncomputable def o236 (_ : Params) : Obj := Obj.mk (Value.type "code") none (Data.fields #[Value.str (Str.ofString "number_text") 503, Value.str (Str.ofString "number_text") 504, Value.str (Str.ofString "/claim/cut.py") 505, Value.int 144 0, Value.int 1 0, Value.int 0 0, Value.int 0 0, Value.int 3 0, Value.ref 231, Value.bool true, Value.int 181 0, Value.ref 232, Value.none, Value.ref 233, Value.ref 234, Value.ref 235, Value.int 509 0, Value.int 144 0, Value.str (Str.ofString "/claim/cut.py") 510]) #[]
noncomputable def o237 (_ : Params) : Obj := fnO (stm 33) (by with_unfolding_all rfl) fun ar bd sc => Obj.mk (Value.type "function") none (Data.func (FuncData.mk (Str.ofString "number_text") (Str.ofString "number_text") ar (FuncBody.stmts bd) sc 3 [] Value.none Value.none Value.none (Value.str (Str.ofString "lua.values") 252) none (Value.ref 236) Value.none 0)) #[]
noncomputable def o238 (_ : Params) : Obj := Obj.mk (Value.type "tuple") none (Data.seq #[]) #[]
noncomputable def o240 (_ : Params) : Obj := Obj.mk (Value.type "tuple") none (Data.seq #[Value.str (Str.ofString "value") 515]) #[]
noncomputable def o241 (_ : Params) : Obj := Obj.mk (Value.type "tuple") none (Data.seq #[]) #[]
noncomputable def o243 (_ : Params) : Obj := Obj.mk (Value.type "code") none (Data.fields #[Value.str (Str.ofString "to_text") 512, Value.str (Str.ofString "to_text") 513, Value.str (Str.ofString "/claim/cut.py") 514, Value.int 154 0, Value.int 1 0, Value.int 0 0, Value.int 0 0, Value.int 3 0, Value.ref 238, Value.bool true, Value.int 181 0, Value.ref 239, Value.none, Value.ref 240, Value.ref 241, Value.ref 242, Value.int 516 0, Value.int 154 0, Value.str (Str.ofString "/claim/cut.py") 517]) #[]
noncomputable def o244 (_ : Params) : Obj := fnO (stm 34) (by with_unfolding_all rfl) fun ar bd sc => Obj.mk (Value.type "function") none (Data.func (FuncData.mk (Str.ofString "to_text") (Str.ofString "to_text") ar (FuncBody.stmts bd) sc 3 [] Value.none Value.none Value.none (Value.str (Str.ofString "lua.values") 252) none (Value.ref 243) Value.none 0)) #[]
noncomputable def o245 (_ : Params) : Obj := Obj.mk (Value.type "tuple") none (Data.seq #[]) #[]
noncomputable def o247 (_ : Params) : Obj := Obj.mk (Value.type "tuple") none (Data.seq #[Value.str (Str.ofString "x") 522, Value.str (Str.ofString "shift") 523]) #[]
noncomputable def o248 (_ : Params) : Obj := Obj.mk (Value.type "tuple") none (Data.seq #[]) #[]
noncomputable def o250 (_ : Params) : Obj := Obj.mk (Value.type "code") none (Data.fields #[Value.str (Str.ofString "byte_float") 519, Value.str (Str.ofString "byte_float") 520, Value.str (Str.ofString "/claim/cut.py") 521, Value.int 160 0, Value.int 1 0, Value.int 0 0, Value.int 0 0, Value.int 3 0, Value.ref 245, Value.bool true, Value.int 181 0, Value.ref 246, Value.none, Value.ref 247, Value.ref 248, Value.ref 249, Value.int 524 0, Value.int 160 0, Value.str (Str.ofString "/claim/cut.py") 525]) #[]
noncomputable def o251 (_ : Params) : Obj := fnO (stm 35) (by with_unfolding_all rfl) fun ar bd sc => Obj.mk (Value.type "function") none (Data.func (FuncData.mk (Str.ofString "byte_float") (Str.ofString "byte_float") ar (FuncBody.stmts bd) sc 3 [] Value.none Value.none Value.none (Value.str (Str.ofString "lua.values") 252) none (Value.ref 250) Value.none 0)) #[]
noncomputable def o252 (_ : Params) : Obj := Obj.mk (Value.type "tuple") none (Data.seq #[]) #[]
noncomputable def o254 (_ : Params) : Obj := Obj.mk (Value.type "tuple") none (Data.seq #[Value.str (Str.ofString "values") 538, Value.str (Str.ofString "top") 539, Value.str (Str.ofString "most") 540, Value.str (Str.ofString "found") 541, Value.str (Str.ofString "turn") 542, Value.str (Str.ofString "text") 543]) #[]
noncomputable def o255 (_ : Params) : Obj := Obj.mk (Value.type "tuple") none (Data.seq #[]) #[]
noncomputable def o257 (_ : Params) : Obj := Obj.mk (Value.type "code") none (Data.fields #[Value.str (Str.ofString "texts_below") 535, Value.str (Str.ofString "texts_below") 536, Value.str (Str.ofString "/claim/cut.py") 537, Value.int 169 0, Value.int 3 0, Value.int 0 0, Value.int 0 0, Value.int 3 0, Value.ref 252, Value.bool true, Value.int 181 0, Value.ref 253, Value.none, Value.ref 254, Value.ref 255, Value.ref 256, Value.int 544 0, Value.int 169 0, Value.str (Str.ofString "/claim/cut.py") 545]) #[]
noncomputable def o258 (_ : Params) : Obj := fnO (stm 40) (by with_unfolding_all rfl) fun ar bd sc => Obj.mk (Value.type "function") none (Data.func (FuncData.mk (Str.ofString "texts_below") (Str.ofString "texts_below") ar (FuncBody.stmts bd) sc 3 [] Value.none Value.none Value.none (Value.str (Str.ofString "lua.joins") 527) none (Value.ref 257) Value.none 0)) #[]
noncomputable def o259 (_ : Params) : Obj := Obj.mk (Value.type "tuple") none (Data.seq #[]) #[]
noncomputable def o262 (_ : Params) : Obj := Obj.mk (Value.type "code") none (Data.fields #[Value.str (Str.ofString "join_below") 547, Value.str (Str.ofString "join_below") 548, Value.str (Str.ofString "/claim/cut.py") 549, Value.int 177 0, Value.int 4 0, Value.int 0 0, Value.int 0 0, Value.int 3 0, Value.ref 259, Value.bool true, Value.int 181 0, Value.ref 260, Value.none, Value.none, Value.none, Value.ref 261, Value.int 550 0, Value.int 177 0, Value.str (Str.ofString "/claim/cut.py") 551]) #[]
noncomputable def o263 (_ : Params) : Obj := fnO (stm 41) (by with_unfolding_all rfl) fun ar bd sc => Obj.mk (Value.type "function") none (Data.func (FuncData.mk (Str.ofString "join_below") (Str.ofString "join_below") ar (FuncBody.stmts bd) sc 3 [] Value.none Value.none Value.none (Value.str (Str.ofString "lua.joins") 527) none (Value.ref 262) Value.none 0)) #[]
noncomputable def o264 (_ : Params) : Obj := Obj.mk (Value.type "tuple") none (Data.seq #[]) #[]
noncomputable def o267 (_ : Params) : Obj := Obj.mk (Value.type "code") none (Data.fields #[Value.str (Str.ofString "loop_numbers") 555, Value.str (Str.ofString "loop_numbers") 556, Value.str (Str.ofString "/claim/cut.py") 557, Value.int 188 0, Value.int 2 0, Value.int 0 0, Value.int 0 0, Value.int 3 0, Value.ref 264, Value.bool true, Value.int 181 0, Value.ref 265, Value.none, Value.none, Value.none, Value.ref 266, Value.int 558 0, Value.int 188 0, Value.str (Str.ofString "/claim/cut.py") 559]) #[]
noncomputable def o268 (_ : Params) : Obj := fnO (stm 43) (by with_unfolding_all rfl) fun ar bd sc => Obj.mk (Value.type "function") none (Data.func (FuncData.mk (Str.ofString "loop_numbers") (Str.ofString "loop_numbers") ar (FuncBody.stmts bd) sc 3 [] Value.none Value.none Value.none (Value.str (Str.ofString "lua.loops") 553) none (Value.ref 267) Value.none 0)) #[]
noncomputable def o269 (_ : Params) : Obj := Obj.mk (Value.type "tuple") none (Data.seq #[]) #[]
noncomputable def o271 (_ : Params) : Obj := Obj.mk (Value.type "tuple") none (Data.seq #[Value.str (Str.ofString "numbers") 564, Value.str (Str.ofString "at") 565, Value.str (Str.ofString "number") 566]) #[]
noncomputable def o272 (_ : Params) : Obj := Obj.mk (Value.type "tuple") none (Data.seq #[]) #[]
noncomputable def o274 (_ : Params) : Obj := Obj.mk (Value.type "code") none (Data.fields #[Value.str (Str.ofString "wrong_place") 561, Value.str (Str.ofString "wrong_place") 562, Value.str (Str.ofString "/claim/cut.py") 563, Value.int 190 0, Value.int 1 0, Value.int 0 0, Value.int 0 0, Value.int 3 0, Value.ref 269, Value.bool true, Value.int 181 0, Value.ref 270, Value.none, Value.ref 271, Value.ref 272, Value.ref 273, Value.int 567 0, Value.int 190 0, Value.str (Str.ofString "/claim/cut.py") 568]) #[]
noncomputable def o275 (_ : Params) : Obj := fnO (stm 44) (by with_unfolding_all rfl) fun ar bd sc => Obj.mk (Value.type "function") none (Data.func (FuncData.mk (Str.ofString "wrong_place") (Str.ofString "wrong_place") ar (FuncBody.stmts bd) sc 3 [] Value.none Value.none Value.none (Value.str (Str.ofString "lua.loops") 553) none (Value.ref 274) Value.none 0)) #[]
noncomputable def o276 (_ : Params) : Obj := Obj.mk (Value.type "tuple") none (Data.seq #[]) #[]
noncomputable def o278 (_ : Params) : Obj := Obj.mk (Value.type "tuple") none (Data.seq #[Value.str (Str.ofString "first") 573, Value.str (Str.ofString "step") 574, Value.str (Str.ofString "width") 575]) #[]
noncomputable def o279 (_ : Params) : Obj := Obj.mk (Value.type "tuple") none (Data.seq #[]) #[]
noncomputable def o281 (_ : Params) : Obj := Obj.mk (Value.type "code") none (Data.fields #[Value.str (Str.ofString "before_first") 570, Value.str (Str.ofString "before_first") 571, Value.str (Str.ofString "/claim/cut.py") 572, Value.int 195 0, Value.int 3 0, Value.int 0 0, Value.int 0 0, Value.int 3 0, Value.ref 276, Value.bool true, Value.int 181 0, Value.ref 277, Value.none, Value.ref 278, Value.ref 279, Value.ref 280, Value.int 576 0, Value.int 195 0, Value.str (Str.ofString "/claim/cut.py") 577]) #[]
noncomputable def o282 (_ : Params) : Obj := fnO (stm 45) (by with_unfolding_all rfl) fun ar bd sc => Obj.mk (Value.type "function") none (Data.func (FuncData.mk (Str.ofString "before_first") (Str.ofString "before_first") ar (FuncBody.stmts bd) sc 3 [] Value.none Value.none Value.none (Value.str (Str.ofString "lua.loops") 553) none (Value.ref 281) Value.none 0)) #[]
noncomputable def o283 (_ : Params) : Obj := Obj.mk (Value.type "tuple") none (Data.seq #[]) #[]
noncomputable def o285 (_ : Params) : Obj := Obj.mk (Value.type "tuple") none (Data.seq #[Value.str (Str.ofString "number") 582, Value.str (Str.ofString "limit") 583, Value.str (Str.ofString "step") 584]) #[]
noncomputable def o286 (_ : Params) : Obj := Obj.mk (Value.type "tuple") none (Data.seq #[]) #[]
noncomputable def o288 (_ : Params) : Obj := Obj.mk (Value.type "code") none (Data.fields #[Value.str (Str.ofString "goes_on") 579, Value.str (Str.ofString "goes_on") 580, Value.str (Str.ofString "/claim/cut.py") 581, Value.int 197 0, Value.int 3 0, Value.int 0 0, Value.int 0 0, Value.int 3 0, Value.ref 283, Value.bool true, Value.int 181 0, Value.ref 284, Value.none, Value.ref 285, Value.ref 286, Value.ref 287, Value.int 585 0, Value.int 197 0, Value.str (Str.ofString "/claim/cut.py") 586]) #[]
noncomputable def o289 (_ : Params) : Obj := fnO (stm 46) (by with_unfolding_all rfl) fun ar bd sc => Obj.mk (Value.type "function") none (Data.func (FuncData.mk (Str.ofString "goes_on") (Str.ofString "goes_on") ar (FuncBody.stmts bd) sc 3 [] Value.none Value.none Value.none (Value.str (Str.ofString "lua.loops") 553) none (Value.ref 288) Value.none 0)) #[]
noncomputable def o290 (_ : Params) : Obj := Obj.mk (Value.type "tuple") none (Data.seq #[]) #[]
noncomputable def o292 (_ : Params) : Obj := Obj.mk (Value.type "tuple") none (Data.seq #[Value.str (Str.ofString "number") 591, Value.str (Str.ofString "limit") 592, Value.str (Str.ofString "step") 593, Value.str (Str.ofString "width") 594, Value.str (Str.ofString "later") 595]) #[]
noncomputable def o293 (_ : Params) : Obj := Obj.mk (Value.type "tuple") none (Data.seq #[]) #[]
noncomputable def o295 (_ : Params) : Obj := Obj.mk (Value.type "code") none (Data.fields #[Value.str (Str.ofString "next_number") 588, Value.str (Str.ofString "next_number") 589, Value.str (Str.ofString "/claim/cut.py") 590, Value.int 201 0, Value.int 4 0, Value.int 0 0, Value.int 0 0, Value.int 3 0, Value.ref 290, Value.bool true, Value.int 181 0, Value.ref 291, Value.none, Value.ref 292, Value.ref 293, Value.ref 294, Value.int 596 0, Value.int 201 0, Value.str (Str.ofString "/claim/cut.py") 597]) #[]
noncomputable def o296 (_ : Params) : Obj := fnO (stm 47) (by with_unfolding_all rfl) fun ar bd sc => Obj.mk (Value.type "function") none (Data.func (FuncData.mk (Str.ofString "next_number") (Str.ofString "next_number") ar (FuncBody.stmts bd) sc 3 [] Value.none Value.none Value.none (Value.str (Str.ofString "lua.loops") 553) none (Value.ref 295) Value.none 0)) #[]
noncomputable def o297 (_ : Params) : Obj := Obj.mk (Value.type "tuple") none (Data.seq #[]) #[]
noncomputable def o299 (_ : Params) : Obj := Obj.mk (Value.type "tuple") none (Data.seq #[Value.str (Str.ofString "op") 604, Value.str (Str.ofString "instruction") 605, Value.str (Str.ofString "stack") 606, Value.str (Str.ofString "base") 607, Value.str (Str.ofString "constants") 608, Value.str (Str.ofString "target") 609, Value.str (Str.ofString "at") 610]) #[]
noncomputable def o300 (_ : Params) : Obj := Obj.mk (Value.type "tuple") none (Data.seq #[]) #[]
noncomputable def o302 (_ : Params) : Obj := Obj.mk (Value.type "code") none (Data.fields #[Value.str (Str.ofString "load") 601, Value.str (Str.ofString "load") 602, Value.str (Str.ofString "/claim/cut.py") 603, Value.int 205 0, Value.int 5 0, Value.int 0 0, Value.int 0 0, Value.int 3 0, Value.ref 297, Value.bool true, Value.int 181 0, Value.ref 298, Value.none, Value.ref 299, Value.ref 300, Value.ref 301, Value.int 611 0, Value.int 205 0, Value.str (Str.ofString "/claim/cut.py") 612]) #[]
noncomputable def o303 (_ : Params) : Obj := fnO (stm 49) (by with_unfolding_all rfl) fun ar bd sc => Obj.mk (Value.type "function") none (Data.func (FuncData.mk (Str.ofString "load") (Str.ofString "load") ar (FuncBody.stmts bd) sc 3 [] Value.none Value.none Value.none (Value.str (Str.ofString "lua.orders") 599) none (Value.ref 302) Value.none 0)) #[]
noncomputable def o304 (_ : Params) : Obj := Obj.mk (Value.type "tuple") none (Data.seq #[]) #[]
noncomputable def o306 (_ : Params) : Obj := Obj.mk (Value.type "tuple") none (Data.seq #[Value.str (Str.ofString "stack") 617, Value.str (Str.ofString "base") 618, Value.str (Str.ofString "constants") 619, Value.str (Str.ofString "place") 620]) #[]
noncomputable def o307 (_ : Params) : Obj := Obj.mk (Value.type "tuple") none (Data.seq #[]) #[]
noncomputable def o309 (_ : Params) : Obj := Obj.mk (Value.type "code") none (Data.fields #[Value.str (Str.ofString "operand") 614, Value.str (Str.ofString "operand") 615, Value.str (Str.ofString "/claim/cut.py") 616, Value.int 218 0, Value.int 4 0, Value.int 0 0, Value.int 0 0, Value.int 3 0, Value.ref 304, Value.bool true, Value.int 181 0, Value.ref 305, Value.none, Value.ref 306, Value.ref 307, Value.ref 308, Value.int 621 0, Value.int 218 0, Value.str (Str.ofString "/claim/cut.py") 622]) #[]
noncomputable def o310 (_ : Params) : Obj := fnO (stm 50) (by with_unfolding_all rfl) fun ar bd sc => Obj.mk (Value.type "function") none (Data.func (FuncData.mk (Str.ofString "operand") (Str.ofString "operand") ar (FuncBody.stmts bd) sc 3 [] Value.none Value.none Value.none (Value.str (Str.ofString "lua.orders") 599) none (Value.ref 309) Value.none 0)) #[]
noncomputable def o311 (_ : Params) : Obj := Obj.mk (Value.type "tuple") none (Data.seq #[]) #[]
noncomputable def o313 (_ : Params) : Obj := Obj.mk (Value.type "tuple") none (Data.seq #[Value.str (Str.ofString "instruction") 627, Value.str (Str.ofString "stack") 628, Value.str (Str.ofString "base") 629, Value.str (Str.ofString "constants") 630, Value.str (Str.ofString "left") 631]) #[]
noncomputable def o314 (_ : Params) : Obj := Obj.mk (Value.type "tuple") none (Data.seq #[]) #[]
noncomputable def o316 (_ : Params) : Obj := Obj.mk (Value.type "code") none (Data.fields #[Value.str (Str.ofString "two_operands") 624, Value.str (Str.ofString "two_operands") 625, Value.str (Str.ofString "/claim/cut.py") 626, Value.int 222 0, Value.int 4 0, Value.int 0 0, Value.int 0 0, Value.int 3 0, Value.ref 311, Value.bool true, Value.int 181 0, Value.ref 312, Value.none, Value.ref 313, Value.ref 314, Value.ref 315, Value.int 632 0, Value.int 222 0, Value.str (Str.ofString "/claim/cut.py") 633]) #[]
noncomputable def o317 (_ : Params) : Obj := fnO (stm 51) (by with_unfolding_all rfl) fun ar bd sc => Obj.mk (Value.type "function") none (Data.func (FuncData.mk (Str.ofString "two_operands") (Str.ofString "two_operands") ar (FuncBody.stmts bd) sc 3 [] Value.none Value.none Value.none (Value.str (Str.ofString "lua.orders") 599) none (Value.ref 316) Value.none 0)) #[]
noncomputable def o318 (_ : Params) : Obj := Obj.mk (Value.type "tuple") none (Data.seq #[]) #[]
noncomputable def o320 (_ : Params) : Obj := Obj.mk (Value.type "tuple") none (Data.seq #[Value.str (Str.ofString "instruction") 638, Value.str (Str.ofString "found") 639]) #[]
noncomputable def o321 (_ : Params) : Obj := Obj.mk (Value.type "tuple") none (Data.seq #[]) #[]
noncomputable def o323 (_ : Params) : Obj := Obj.mk (Value.type "code") none (Data.fields #[Value.str (Str.ofString "is_compared") 635, Value.str (Str.ofString "is_compared") 636, Value.str (Str.ofString "/claim/cut.py") 637, Value.int 225 0, Value.int 2 0, Value.int 0 0, Value.int 0 0, Value.int 3 0, Value.ref 318, Value.bool true, Value.int 181 0, Value.ref 319, Value.none, Value.ref 320, Value.ref 321, Value.ref 322, Value.int 640 0, Value.int 225 0, Value.str (Str.ofString "/claim/cut.py") 641]) #[]
noncomputable def o324 (_ : Params) : Obj := fnO (stm 52) (by with_unfolding_all rfl) fun ar bd sc => Obj.mk (Value.type "function") none (Data.func (FuncData.mk (Str.ofString "is_compared") (Str.ofString "is_compared") ar (FuncBody.stmts bd) sc 3 [] Value.none Value.none Value.none (Value.str (Str.ofString "lua.orders") 599) none (Value.ref 323) Value.none 0)) #[]
noncomputable def o325 (_ : Params) : Obj := Obj.mk (Value.type "tuple") none (Data.seq #[]) #[]
noncomputable def o327 (_ : Params) : Obj := Obj.mk (Value.type "tuple") none (Data.seq #[Value.str (Str.ofString "instruction") 646, Value.str (Str.ofString "value") 647]) #[]
noncomputable def o328 (_ : Params) : Obj := Obj.mk (Value.type "tuple") none (Data.seq #[]) #[]
noncomputable def o330 (_ : Params) : Obj := Obj.mk (Value.type "code") none (Data.fields #[Value.str (Str.ofString "is_tested") 643, Value.str (Str.ofString "is_tested") 644, Value.str (Str.ofString "/claim/cut.py") 645, Value.int 227 0, Value.int 2 0, Value.int 0 0, Value.int 0 0, Value.int 3 0, Value.ref 325, Value.bool true, Value.int 181 0, Value.ref 326, Value.none, Value.ref 327, Value.ref 328, Value.ref 329, Value.int 648 0, Value.int 227 0, Value.str (Str.ofString "/claim/cut.py") 649]) #[]
noncomputable def o331 (_ : Params) : Obj := fnO (stm 53) (by with_unfolding_all rfl) fun ar bd sc => Obj.mk (Value.type "function") none (Data.func (FuncData.mk (Str.ofString "is_tested") (Str.ofString "is_tested") ar (FuncBody.stmts bd) sc 3 [] Value.none Value.none Value.none (Value.str (Str.ofString "lua.orders") 599) none (Value.ref 330) Value.none 0)) #[]
noncomputable def o332 (_ : Params) : Obj := Obj.mk (Value.type "tuple") none (Data.seq #[]) #[]
noncomputable def o334 (_ : Params) : Obj := Obj.mk (Value.type "tuple") none (Data.seq #[Value.str (Str.ofString "code") 654, Value.str (Str.ofString "pc") 655, Value.str (Str.ofString "goes") 656]) #[]
noncomputable def o335 (_ : Params) : Obj := Obj.mk (Value.type "tuple") none (Data.seq #[]) #[]
noncomputable def o337 (_ : Params) : Obj := Obj.mk (Value.type "code") none (Data.fields #[Value.str (Str.ofString "place_behind") 651, Value.str (Str.ofString "place_behind") 652, Value.str (Str.ofString "/claim/cut.py") 653, Value.int 229 0, Value.int 3 0, Value.int 0 0, Value.int 0 0, Value.int 3 0, Value.ref 332, Value.bool true, Value.int 181 0, Value.ref 333, Value.none, Value.ref 334, Value.ref 335, Value.ref 336, Value.int 657 0, Value.int 229 0, Value.str (Str.ofString "/claim/cut.py") 658]) #[]
noncomputable def o338 (_ : Params) : Obj := fnO (stm 54) (by with_unfolding_all rfl) fun ar bd sc => Obj.mk (Value.type "function") none (Data.func (FuncData.mk (Str.ofString "place_behind") (Str.ofString "place_behind") ar (FuncBody.stmts bd) sc 3 [] Value.none Value.none Value.none (Value.str (Str.ofString "lua.orders") 599) none (Value.ref 337) Value.none 0)) #[]
noncomputable def o339 (_ : Params) : Obj := Obj.mk (Value.type "tuple") none (Data.seq #[]) #[]
noncomputable def o341 (_ : Params) : Obj := Obj.mk (Value.type "tuple") none (Data.seq #[Value.str (Str.ofString "instruction") 663]) #[]
noncomputable def o342 (_ : Params) : Obj := Obj.mk (Value.type "tuple") none (Data.seq #[]) #[]
noncomputable def o344 (_ : Params) : Obj := Obj.mk (Value.type "code") none (Data.fields #[Value.str (Str.ofString "table_room") 660, Value.str (Str.ofString "table_room") 661, Value.str (Str.ofString "/claim/cut.py") 662, Value.int 231 0, Value.int 1 0, Value.int 0 0, Value.int 0 0, Value.int 3 0, Value.ref 339, Value.bool true, Value.int 181 0, Value.ref 340, Value.none, Value.ref 341, Value.ref 342, Value.ref 343, Value.int 664 0, Value.int 231 0, Value.str (Str.ofString "/claim/cut.py") 665]) #[]
noncomputable def o345 (_ : Params) : Obj := fnO (stm 55) (by with_unfolding_all rfl) fun ar bd sc => Obj.mk (Value.type "function") none (Data.func (FuncData.mk (Str.ofString "table_room") (Str.ofString "table_room") ar (FuncBody.stmts bd) sc 3 [] Value.none Value.none Value.none (Value.str (Str.ofString "lua.orders") 599) none (Value.ref 344) Value.none 0)) #[]
noncomputable def o346 (_ : Params) : Obj := Obj.mk (Value.type "tuple") none (Data.seq #[]) #[]
noncomputable def o348 (_ : Params) : Obj := Obj.mk (Value.type "tuple") none (Data.seq #[Value.str (Str.ofString "instruction") 670, Value.str (Str.ofString "code") 671, Value.str (Str.ofString "pc") 672, Value.str (Str.ofString "held") 673, Value.str (Str.ofString "flush") 674, Value.str (Str.ofString "many") 675, Value.str (Str.ofString "block") 676]) #[]
noncomputable def o349 (_ : Params) : Obj := Obj.mk (Value.type "tuple") none (Data.seq #[]) #[]
noncomputable def o351 (_ : Params) : Obj := Obj.mk (Value.type "code") none (Data.fields #[Value.str (Str.ofString "list_block") 667, Value.str (Str.ofString "list_block") 668, Value.str (Str.ofString "/claim/cut.py") 669, Value.int 233 0, Value.int 5 0, Value.int 0 0, Value.int 0 0, Value.int 3 0, Value.ref 346, Value.bool true, Value.int 181 0, Value.ref 347, Value.none, Value.ref 348, Value.ref 349, Value.ref 350, Value.int 677 0, Value.int 233 0, Value.str (Str.ofString "/claim/cut.py") 678]) #[]
noncomputable def o352 (_ : Params) : Obj := fnO (stm 56) (by with_unfolding_all rfl) fun ar bd sc => Obj.mk (Value.type "function") none (Data.func (FuncData.mk (Str.ofString "list_block") (Str.ofString "list_block") ar (FuncBody.stmts bd) sc 3 [] Value.none Value.none Value.none (Value.str (Str.ofString "lua.orders") 599) none (Value.ref 351) Value.none 0)) #[]
noncomputable def o353 (_ : Params) : Obj := Obj.mk (Value.type "tuple") none (Data.seq #[]) #[]
noncomputable def o355 (_ : Params) : Obj := Obj.mk (Value.type "tuple") none (Data.seq #[Value.str (Str.ofString "stack") 683, Value.str (Str.ofString "target") 684, Value.str (Str.ofString "limits") 685, Value.str (Str.ofString "numbers") 686, Value.str (Str.ofString "wrong") 687]) #[]
noncomputable def o356 (_ : Params) : Obj := Obj.mk (Value.type "tuple") none (Data.seq #[]) #[]
noncomputable def o358 (_ : Params) : Obj := Obj.mk (Value.type "code") none (Data.fields #[Value.str (Str.ofString "round_begun") 680, Value.str (Str.ofString "round_begun") 681, Value.str (Str.ofString "/claim/cut.py") 682, Value.int 240 0, Value.int 3 0, Value.int 0 0, Value.int 0 0, Value.int 3 0, Value.ref 353, Value.bool true, Value.int 181 0, Value.ref 354, Value.none, Value.ref 355, Value.ref 356, Value.ref 357, Value.int 688 0, Value.int 240 0, Value.str (Str.ofString "/claim/cut.py") 689]) #[]
noncomputable def o359 (_ : Params) : Obj := fnO (stm 57) (by with_unfolding_all rfl) fun ar bd sc => Obj.mk (Value.type "function") none (Data.func (FuncData.mk (Str.ofString "round_begun") (Str.ofString "round_begun") ar (FuncBody.stmts bd) sc 3 [] Value.none Value.none Value.none (Value.str (Str.ofString "lua.orders") 599) none (Value.ref 358) Value.none 0)) #[]
noncomputable def o360 (_ : Params) : Obj := Obj.mk (Value.type "tuple") none (Data.seq #[]) #[]
noncomputable def o362 (_ : Params) : Obj := Obj.mk (Value.type "tuple") none (Data.seq #[Value.str (Str.ofString "stack") 694, Value.str (Str.ofString "target") 695, Value.str (Str.ofString "limits") 696, Value.str (Str.ofString "found") 697]) #[]
noncomputable def o363 (_ : Params) : Obj := Obj.mk (Value.type "tuple") none (Data.seq #[]) #[]
noncomputable def o365 (_ : Params) : Obj := Obj.mk (Value.type "code") none (Data.fields #[Value.str (Str.ofString "round_gone") 691, Value.str (Str.ofString "round_gone") 692, Value.str (Str.ofString "/claim/cut.py") 693, Value.int 248 0, Value.int 3 0, Value.int 0 0, Value.int 0 0, Value.int 3 0, Value.ref 360, Value.bool true, Value.int 181 0, Value.ref 361, Value.none, Value.ref 362, Value.ref 363, Value.ref 364, Value.int 698 0, Value.int 248 0, Value.str (Str.ofString "/claim/cut.py") 699]) #[]
noncomputable def o366 (_ : Params) : Obj := fnO (stm 58) (by with_unfolding_all rfl) fun ar bd sc => Obj.mk (Value.type "function") none (Data.func (FuncData.mk (Str.ofString "round_gone") (Str.ofString "round_gone") ar (FuncBody.stmts bd) sc 3 [] Value.none Value.none Value.none (Value.str (Str.ofString "lua.orders") 599) none (Value.ref 365) Value.none 0)) #[]
noncomputable def o367 (_ : Params) : Obj := Obj.mk (Value.type "tuple") none (Data.seq #[]) #[]
noncomputable def o369 (_ : Params) : Obj := Obj.mk (Value.type "tuple") none (Data.seq #[Value.str (Str.ofString "stack") 704, Value.str (Str.ofString "target") 705, Value.str (Str.ofString "at") 706]) #[]
noncomputable def o370 (_ : Params) : Obj := Obj.mk (Value.type "tuple") none (Data.seq #[]) #[]
noncomputable def o372 (_ : Params) : Obj := Obj.mk (Value.type "code") none (Data.fields #[Value.str (Str.ofString "round_asked") 701, Value.str (Str.ofString "round_asked") 702, Value.str (Str.ofString "/claim/cut.py") 703, Value.int 255 0, Value.int 2 0, Value.int 0 0, Value.int 0 0, Value.int 3 0, Value.ref 367, Value.bool true, Value.int 181 0, Value.ref 368, Value.none, Value.ref 369, Value.ref 370, Value.ref 371, Value.int 707 0, Value.int 255 0, Value.str (Str.ofString "/claim/cut.py") 708]) #[]
noncomputable def o373 (_ : Params) : Obj := fnO (stm 59) (by with_unfolding_all rfl) fun ar bd sc => Obj.mk (Value.type "function") none (Data.func (FuncData.mk (Str.ofString "round_asked") (Str.ofString "round_asked") ar (FuncBody.stmts bd) sc 3 [] Value.none Value.none Value.none (Value.str (Str.ofString "lua.orders") 599) none (Value.ref 372) Value.none 0)) #[]
noncomputable def o374 (_ : Params) : Obj := Obj.mk (Value.type "tuple") none (Data.seq #[]) #[]
noncomputable def o376 (_ : Params) : Obj := Obj.mk (Value.type "tuple") none (Data.seq #[Value.str (Str.ofString "stack") 713, Value.str (Str.ofString "target") 714]) #[]
noncomputable def o377 (_ : Params) : Obj := Obj.mk (Value.type "tuple") none (Data.seq #[]) #[]
noncomputable def o379 (_ : Params) : Obj := Obj.mk (Value.type "code") none (Data.fields #[Value.str (Str.ofString "round_told") 710, Value.str (Str.ofString "round_told") 711, Value.str (Str.ofString "/claim/cut.py") 712, Value.int 259 0, Value.int 2 0, Value.int 0 0, Value.int 0 0, Value.int 3 0, Value.ref 374, Value.bool true, Value.int 181 0, Value.ref 375, Value.none, Value.ref 376, Value.ref 377, Value.ref 378, Value.int 715 0, Value.int 259 0, Value.str (Str.ofString "/claim/cut.py") 716]) #[]
noncomputable def o380 (_ : Params) : Obj := fnO (stm 60) (by with_unfolding_all rfl) fun ar bd sc => Obj.mk (Value.type "function") none (Data.func (FuncData.mk (Str.ofString "round_told") (Str.ofString "round_told") ar (FuncBody.stmts bd) sc 3 [] Value.none Value.none Value.none (Value.str (Str.ofString "lua.orders") 599) none (Value.ref 379) Value.none 0)) #[]
noncomputable def o381 (_ : Params) : Obj := Obj.mk (Value.type "list") none (Data.seq #[Value.bytes #[97, 100, 100] 720, Value.bytes #[115, 117, 98] 721, Value.bytes #[109, 117, 108] 722, Value.bytes #[100, 105, 118] 723, Value.bytes #[109, 111, 100] 724, Value.bytes #[112, 111, 119] 725, Value.bytes #[117, 110, 109] 726]) #[]
noncomputable def o382 (_ : Params) : Obj := Obj.mk (Value.type "tuple") none (Data.seq #[]) #[]
noncomputable def o384 (_ : Params) : Obj := Obj.mk (Value.type "tuple") none (Data.seq #[Value.str (Str.ofString "place") 743, Value.str (Str.ofString "one") 744, Value.str (Str.ofString "other") 745]) #[]
noncomputable def o385 (_ : Params) : Obj := Obj.mk (Value.type "tuple") none (Data.seq #[]) #[]
noncomputable def o387 (_ : Params) : Obj := Obj.mk (Value.type "code") none (Data.fields #[Value.str (Str.ofString "has_no_result") 740, Value.str (Str.ofString "has_no_result") 741, Value.str (Str.ofString "/claim/cut.py") 742, Value.int 272 0, Value.int 3 0, Value.int 0 0, Value.int 0 0, Value.int 3 0, Value.ref 382, Value.bool true, Value.int 181 0, Value.ref 383, Value.none, Value.ref 384, Value.ref 385, Value.ref 386, Value.int 746 0, Value.int 272 0, Value.str (Str.ofString "/claim/cut.py") 747]) #[]
noncomputable def o388 (_ : Params) : Obj := fnO (stm 69) (by with_unfolding_all rfl) fun ar bd sc => Obj.mk (Value.type "function") none (Data.func (FuncData.mk (Str.ofString "has_no_result") (Str.ofString "has_no_result") ar (FuncBody.stmts bd) sc 3 [] Value.none Value.none Value.none (Value.str (Str.ofString "lua.reckon") 718) none (Value.ref 387) Value.none 0)) #[]
noncomputable def o389 (_ : Params) : Obj := Obj.mk (Value.type "tuple") none (Data.seq #[]) #[]
noncomputable def o391 (_ : Params) : Obj := Obj.mk (Value.type "tuple") none (Data.seq #[Value.str (Str.ofString "place") 752, Value.str (Str.ofString "left") 753, Value.str (Str.ofString "right") 754, Value.str (Str.ofString "limits") 755, Value.str (Str.ofString "one") 756, Value.str (Str.ofString "other") 757]) #[]
noncomputable def o392 (_ : Params) : Obj := Obj.mk (Value.type "tuple") none (Data.seq #[]) #[]
noncomputable def o394 (_ : Params) : Obj := Obj.mk (Value.type "code") none (Data.fields #[Value.str (Str.ofString "reckon") 749, Value.str (Str.ofString "reckon") 750, Value.str (Str.ofString "/claim/cut.py") 751, Value.int 276 0, Value.int 4 0, Value.int 0 0, Value.int 0 0, Value.int 3 0, Value.ref 389, Value.bool true, Value.int 181 0, Value.ref 390, Value.none, Value.ref 391, Value.ref 392, Value.ref 393, Value.int 758 0, Value.int 276 0, Value.str (Str.ofString "/claim/cut.py") 759]) #[]
noncomputable def o395 (_ : Params) : Obj := fnO (stm 70) (by with_unfolding_all rfl) fun ar bd sc => Obj.mk (Value.type "function") none (Data.func (FuncData.mk (Str.ofString "reckon") (Str.ofString "reckon") ar (FuncBody.stmts bd) sc 3 [] Value.none Value.none Value.none (Value.str (Str.ofString "lua.reckon") 718) none (Value.ref 394) Value.none 0)) #[]
noncomputable def o403 (_ : Params) : Obj := Obj.mk (Value.type "tuple") none (Data.seq #[]) #[]
noncomputable def o405 (_ : Params) : Obj := Obj.mk (Value.type "tuple") none (Data.seq #[Value.str (Str.ofString "self") 784, Value.str (Str.ofString "new_table") 785, Value.str (Str.ofString "index") 786, Value.str (Str.ofString "put") 787, Value.str (Str.ofString "length") 788, Value.str (Str.ofString "compared") 789, Value.str (Str.ofString "called") 790]) #[]
noncomputable def o406 (_ : Params) : Obj := Obj.mk (Value.type "tuple") none (Data.seq #[]) #[]
noncomputable def o408 (_ : Params) : Obj := Obj.mk (Value.type "code") none (Data.fields #[Value.str (Str.ofString "__init__") 781, Value.str (Str.ofString "Works.__init__") 782, Value.str (Str.ofString "/claim/cut.py") 783, Value.int 289 0, Value.int 7 0, Value.int 0 0, Value.int 0 0, Value.int 3 0, Value.ref 403, Value.bool true, Value.int 181 0, Value.ref 404, Value.none, Value.ref 405, Value.ref 406, Value.ref 407, Value.int 791 0, Value.int 289 0, Value.str (Str.ofString "/claim/cut.py") 792]) #[]
noncomputable def o409 (_ : Params) : Obj := fnO (sub 0 (stm 75)) (by with_unfolding_all rfl) fun ar bd sc => Obj.mk (Value.type "function") none (Data.func (FuncData.mk (Str.ofString "__init__") (Str.ofString "Works.__init__") ar (FuncBody.stmts bd) sc 3 [] Value.none Value.none Value.none (Value.str (Str.ofString "lua.stepper") 761) none (Value.ref 408) Value.none 0)) #[]
noncomputable def o410 (_ : Params) : Obj := Obj.mk (Value.type "tuple") none (Data.seq #[Value.str (Str.ofString "called") 794, Value.str (Str.ofString "compared") 795, Value.str (Str.ofString "index") 796, Value.str (Str.ofString "length") 797, Value.str (Str.ofString "new_table") 798, Value.str (Str.ofString "put") 799]) #[]
noncomputable def o411 (P : Params) : Obj := Obj.mk (Value.type "dict") none (Data.dict #[DictEntry.mk (PyData.keyHash P (Str.ofString "__module__")) (Value.str (Str.ofString "__module__") 776) (Value.str (Str.ofString "lua.stepper") 761), DictEntry.mk (PyData.keyHash P (Str.ofString "__firstlineno__")) (Value.str (Str.ofString "__firstlineno__") 780) (Value.int 287 779), DictEntry.mk (PyData.keyHash P (Str.ofString "__init__")) (Value.str (Str.ofString "__init__") 793) (Value.ref 409), DictEntry.mk (PyData.keyHash P (Str.ofString "__static_attributes__")) (Value.str (Str.ofString "__static_attributes__") 800) (Value.ref 410), DictEntry.mk (PyData.keyHash P (Str.ofString "__dict__")) (Value.str (Str.ofString "__dict__") 802) (Value.ref 413), DictEntry.mk (PyData.keyHash P (Str.ofString "__weakref__")) (Value.str (Str.ofString "__weakref__") 804) (Value.ref 414), DictEntry.mk (PyData.keyHash P (Str.ofString "__doc__")) (Value.str (Str.ofString "__doc__") 805) Value.none] 4) #[]
noncomputable def o412 (_ : Params) : Obj := Obj.mk (Value.type "type") none (Data.cls (ClassData.mk (Str.ofString "Works") [Value.type "object"] [Value.ref 412, Value.type "object"] 411 (Str.ofString "Works") true [] [] false none false)) #[none, none, some (Value.str (Str.ofString "Works") 769), some (Value.str (Str.ofString "Works") 777), some (Value.builtin "object.__new__"), some (Value.bool true)]
noncomputable def o413 (_ : Params) : Obj := Obj.mk (Value.type "getset_descriptor") none (Data.fields #[Value.str (Str.ofString "__dict__") 801, Value.ref 412, Value.builtin "function.__dict__", Value.builtin "function.__dict__#set"]) #[]
noncomputable def o414 (_ : Params) : Obj := Obj.mk (Value.type "getset_descriptor") none (Data.fields #[Value.str (Str.ofString "__weakref__") 803, Value.ref 412, Value.builtin "ExceptionGroup.__weakref__", Value.none]) #[]
noncomputable def o424 (_ : Params) : Obj := Obj.mk (Value.type "tuple") none (Data.seq #[]) #[]
noncomputable def o426 (_ : Params) : Obj := Obj.mk (Value.type "tuple") none (Data.seq #[Value.str (Str.ofString "self") 823, Value.str (Str.ofString "code") 824, Value.str (Str.ofString "constants") 825, Value.str (Str.ofString "registers") 826, Value.str (Str.ofString "limits") 827, Value.str (Str.ofString "works") 828]) #[]
noncomputable def o427 (_ : Params) : Obj := Obj.mk (Value.type "tuple") none (Data.seq #[]) #[]
noncomputable def o429 (_ : Params) : Obj := Obj.mk (Value.type "code") none (Data.fields #[Value.str (Str.ofString "__init__") 820, Value.str (Str.ofString "Stepper.__init__") 821, Value.str (Str.ofString "/claim/cut.py") 822, Value.int 298 0, Value.int 6 0, Value.int 0 0, Value.int 0 0, Value.int 3 0, Value.ref 424, Value.bool true, Value.int 181 0, Value.ref 425, Value.none, Value.ref 426, Value.ref 427, Value.ref 428, Value.int 829 0, Value.int 298 0, Value.str (Str.ofString "/claim/cut.py") 830]) #[]
noncomputable def o430 (_ : Params) : Obj := fnO (sub 0 (stm 76)) (by with_unfolding_all rfl) fun ar bd sc => Obj.mk (Value.type "function") none (Data.func (FuncData.mk (Str.ofString "__init__") (Str.ofString "Stepper.__init__") ar (FuncBody.stmts bd) sc 3 [] Value.none Value.none Value.none (Value.str (Str.ofString "lua.stepper") 761) none (Value.ref 429) Value.none 0)) #[]
noncomputable def o431 (_ : Params) : Obj := Obj.mk (Value.type "tuple") none (Data.seq #[]) #[]
noncomputable def o433 (_ : Params) : Obj := Obj.mk (Value.type "tuple") none (Data.seq #[Value.str (Str.ofString "self") 835, Value.str (Str.ofString "most") 836, Value.str (Str.ofString "turn") 837, Value.str (Str.ofString "instruction") 838]) #[]
noncomputable def o434 (_ : Params) : Obj := Obj.mk (Value.type "tuple") none (Data.seq #[]) #[]
noncomputable def o436 (_ : Params) : Obj := Obj.mk (Value.type "code") none (Data.fields #[Value.str (Str.ofString "run") 832, Value.str (Str.ofString "Stepper.run") 833, Value.str (Str.ofString "/claim/cut.py") 834, Value.int 309 0, Value.int 2 0, Value.int 0 0, Value.int 0 0, Value.int 3 0, Value.ref 431, Value.bool true, Value.int 181 0, Value.ref 432, Value.none, Value.ref 433, Value.ref 434, Value.ref 435, Value.int 839 0, Value.int 309 0, Value.str (Str.ofString "/claim/cut.py") 840]) #[]
noncomputable def o437 (_ : Params) : Obj := fnO (sub 1 (stm 76)) (by with_unfolding_all rfl) fun ar bd sc => Obj.mk (Value.type "function") none (Data.func (FuncData.mk (Str.ofString "run") (Str.ofString "Stepper.run") ar (FuncBody.stmts bd) sc 3 [] Value.none Value.none Value.none (Value.str (Str.ofString "lua.stepper") 761) none (Value.ref 436) Value.none 0)) #[]
noncomputable def o438 (_ : Params) : Obj := Obj.mk (Value.type "tuple") none (Data.seq #[]) #[]
noncomputable def o440 (_ : Params) : Obj := Obj.mk (Value.type "tuple") none (Data.seq #[Value.str (Str.ofString "self") 845, Value.str (Str.ofString "op") 846, Value.str (Str.ofString "instruction") 847]) #[]
noncomputable def o441 (_ : Params) : Obj := Obj.mk (Value.type "tuple") none (Data.seq #[]) #[]
noncomputable def o443 (_ : Params) : Obj := Obj.mk (Value.type "code") none (Data.fields #[Value.str (Str.ofString "done") 842, Value.str (Str.ofString "Stepper.done") 843, Value.str (Str.ofString "/claim/cut.py") 844, Value.int 319 0, Value.int 3 0, Value.int 0 0, Value.int 0 0, Value.int 3 0, Value.ref 438, Value.bool true, Value.int 181 0, Value.ref 439, Value.none, Value.ref 440, Value.ref 441, Value.ref 442, Value.int 848 0, Value.int 319 0, Value.str (Str.ofString "/claim/cut.py") 849]) #[]
noncomputable def o444 (_ : Params) : Obj := fnO (sub 2 (stm 76)) (by with_unfolding_all rfl) fun ar bd sc => Obj.mk (Value.type "function") none (Data.func (FuncData.mk (Str.ofString "done") (Str.ofString "Stepper.done") ar (FuncBody.stmts bd) sc 3 [] Value.none Value.none Value.none (Value.str (Str.ofString "lua.stepper") 761) none (Value.ref 443) Value.none 0)) #[]
noncomputable def o445 (_ : Params) : Obj := Obj.mk (Value.type "tuple") none (Data.seq #[]) #[]
noncomputable def o447 (_ : Params) : Obj := Obj.mk (Value.type "tuple") none (Data.seq #[Value.str (Str.ofString "self") 854, Value.str (Str.ofString "op") 855, Value.str (Str.ofString "instruction") 856, Value.str (Str.ofString "works") 857, Value.str (Str.ofString "stack") 858, Value.str (Str.ofString "target") 859, Value.str (Str.ofString "work") 860, Value.str (Str.ofString "array") 861, Value.str (Str.ofString "others") 862, Value.str (Str.ofString "key") 863, Value.str (Str.ofString "value") 864, Value.str (Str.ofString "obj") 865]) #[]
noncomputable def o448 (_ : Params) : Obj := Obj.mk (Value.type "tuple") none (Data.seq #[]) #[]
noncomputable def o450 (_ : Params) : Obj := Obj.mk (Value.type "code") none (Data.fields #[Value.str (Str.ofString "done_table") 851, Value.str (Str.ofString "Stepper.done_table") 852, Value.str (Str.ofString "/claim/cut.py") 853, Value.int 333 0, Value.int 3 0, Value.int 0 0, Value.int 0 0, Value.int 3 0, Value.ref 445, Value.bool true, Value.int 181 0, Value.ref 446, Value.none, Value.ref 447, Value.ref 448, Value.ref 449, Value.int 866 0, Value.int 333 0, Value.str (Str.ofString "/claim/cut.py") 867]) #[]
noncomputable def o451 (_ : Params) : Obj := fnO (sub 3 (stm 76)) (by with_unfolding_all rfl) fun ar bd sc => Obj.mk (Value.type "function") none (Data.func (FuncData.mk (Str.ofString "done_table") (Str.ofString "Stepper.done_table") ar (FuncBody.stmts bd) sc 3 [] Value.none Value.none Value.none (Value.str (Str.ofString "lua.stepper") 761) none (Value.ref 450) Value.none 0)) #[]
noncomputable def o452 (_ : Params) : Obj := Obj.mk (Value.type "tuple") none (Data.seq #[]) #[]
noncomputable def o454 (_ : Params) : Obj := Obj.mk (Value.type "tuple") none (Data.seq #[Value.str (Str.ofString "self") 872, Value.str (Str.ofString "op") 873, Value.str (Str.ofString "instruction") 874, Value.str (Str.ofString "stack") 875, Value.str (Str.ofString "target") 876, Value.str (Str.ofString "left") 877, Value.str (Str.ofString "right") 878, Value.str (Str.ofString "work") 879, Value.str (Str.ofString "outcome") 880, Value.str (Str.ofString "found") 881]) #[]
noncomputable def o455 (_ : Params) : Obj := Obj.mk (Value.type "tuple") none (Data.seq #[]) #[]
noncomputable def o457 (_ : Params) : Obj := Obj.mk (Value.type "code") none (Data.fields #[Value.str (Str.ofString "done_reckoning") 869, Value.str (Str.ofString "Stepper.done_reckoning") 870, Value.str (Str.ofString "/claim/cut.py") 871, Value.int 353 0, Value.int 3 0, Value.int 0 0, Value.int 0 0, Value.int 3 0, Value.ref 452, Value.bool true, Value.int 181 0, Value.ref 453, Value.none, Value.ref 454, Value.ref 455, Value.ref 456, Value.int 882 0, Value.int 353 0, Value.str (Str.ofString "/claim/cut.py") 883]) #[]
noncomputable def o458 (_ : Params) : Obj := fnO (sub 4 (stm 76)) (by with_unfolding_all rfl) fun ar bd sc => Obj.mk (Value.type "function") none (Data.func (FuncData.mk (Str.ofString "done_reckoning") (Str.ofString "Stepper.done_reckoning") ar (FuncBody.stmts bd) sc 3 [] Value.none Value.none Value.none (Value.str (Str.ofString "lua.stepper") 761) none (Value.ref 457) Value.none 0)) #[]
noncomputable def o459 (_ : Params) : Obj := Obj.mk (Value.type "tuple") none (Data.seq #[]) #[]
noncomputable def o461 (_ : Params) : Obj := Obj.mk (Value.type "tuple") none (Data.seq #[Value.str (Str.ofString "self") 888, Value.str (Str.ofString "instruction") 889, Value.str (Str.ofString "first") 890, Value.str (Str.ofString "last") 891, Value.str (Str.ofString "outcome") 892, Value.str (Str.ofString "taken") 893, Value.str (Str.ofString "found") 894]) #[]
noncomputable def o462 (_ : Params) : Obj := Obj.mk (Value.type "tuple") none (Data.seq #[]) #[]
noncomputable def o464 (_ : Params) : Obj := Obj.mk (Value.type "code") none (Data.fields #[Value.str (Str.ofString "done_join") 885, Value.str (Str.ofString "Stepper.done_join") 886, Value.str (Str.ofString "/claim/cut.py") 887, Value.int 371 0, Value.int 2 0, Value.int 0 0, Value.int 0 0, Value.int 3 0, Value.ref 459, Value.bool true, Value.int 181 0, Value.ref 460, Value.none, Value.ref 461, Value.ref 462, Value.ref 463, Value.int 895 0, Value.int 371 0, Value.str (Str.ofString "/claim/cut.py") 896]) #[]
noncomputable def o465 (_ : Params) : Obj := fnO (sub 5 (stm 76)) (by with_unfolding_all rfl) fun ar bd sc => Obj.mk (Value.type "function") none (Data.func (FuncData.mk (Str.ofString "done_join") (Str.ofString "Stepper.done_join") ar (FuncBody.stmts bd) sc 3 [] Value.none Value.none Value.none (Value.str (Str.ofString "lua.stepper") 761) none (Value.ref 464) Value.none 0)) #[]
noncomputable def o466 (_ : Params) : Obj := Obj.mk (Value.type "tuple") none (Data.seq #[]) #[]
noncomputable def o468 (_ : Params) : Obj := Obj.mk (Value.type "tuple") none (Data.seq #[Value.str (Str.ofString "self") 901, Value.str (Str.ofString "op") 902, Value.str (Str.ofString "instruction") 903, Value.str (Str.ofString "left") 904, Value.str (Str.ofString "right") 905, Value.str (Str.ofString "work") 906, Value.str (Str.ofString "found") 907, Value.str (Str.ofString "goes") 908, Value.str (Str.ofString "value") 909]) #[]
noncomputable def o469 (_ : Params) : Obj := Obj.mk (Value.type "tuple") none (Data.seq #[]) #[]
noncomputable def o471 (_ : Params) : Obj := Obj.mk (Value.type "code") none (Data.fields #[Value.str (Str.ofString "done_jump") 898, Value.str (Str.ofString "Stepper.done_jump") 899, Value.str (Str.ofString "/claim/cut.py") 900, Value.int 382 0, Value.int 3 0, Value.int 0 0, Value.int 0 0, Value.int 3 0, Value.ref 466, Value.bool true, Value.int 181 0, Value.ref 467, Value.none, Value.ref 468, Value.ref 469, Value.ref 470, Value.int 910 0, Value.int 382 0, Value.str (Str.ofString "/claim/cut.py") 911]) #[]
noncomputable def o472 (_ : Params) : Obj := fnO (sub 6 (stm 76)) (by with_unfolding_all rfl) fun ar bd sc => Obj.mk (Value.type "function") none (Data.func (FuncData.mk (Str.ofString "done_jump") (Str.ofString "Stepper.done_jump") ar (FuncBody.stmts bd) sc 3 [] Value.none Value.none Value.none (Value.str (Str.ofString "lua.stepper") 761) none (Value.ref 471) Value.none 0)) #[]
noncomputable def o473 (_ : Params) : Obj := Obj.mk (Value.type "tuple") none (Data.seq #[]) #[]
noncomputable def o475 (_ : Params) : Obj := Obj.mk (Value.type "tuple") none (Data.seq #[Value.str (Str.ofString "self") 916, Value.str (Str.ofString "op") 917, Value.str (Str.ofString "instruction") 918, Value.str (Str.ofString "target") 919, Value.str (Str.ofString "many") 920, Value.str (Str.ofString "func") 921]) #[]
noncomputable def o476 (_ : Params) : Obj := Obj.mk (Value.type "tuple") none (Data.seq #[]) #[]
noncomputable def o478 (_ : Params) : Obj := Obj.mk (Value.type "code") none (Data.fields #[Value.str (Str.ofString "done_other") 913, Value.str (Str.ofString "Stepper.done_other") 914, Value.str (Str.ofString "/claim/cut.py") 915, Value.int 401 0, Value.int 3 0, Value.int 0 0, Value.int 0 0, Value.int 3 0, Value.ref 473, Value.bool true, Value.int 181 0, Value.ref 474, Value.none, Value.ref 475, Value.ref 476, Value.ref 477, Value.int 922 0, Value.int 401 0, Value.str (Str.ofString "/claim/cut.py") 923]) #[]
noncomputable def o479 (_ : Params) : Obj := fnO (sub 7 (stm 76)) (by with_unfolding_all rfl) fun ar bd sc => Obj.mk (Value.type "function") none (Data.func (FuncData.mk (Str.ofString "done_other") (Str.ofString "Stepper.done_other") ar (FuncBody.stmts bd) sc 3 [] Value.none Value.none Value.none (Value.str (Str.ofString "lua.stepper") 761) none (Value.ref 478) Value.none 0)) #[]
noncomputable def o480 (_ : Params) : Obj := Obj.mk (Value.type "tuple") none (Data.seq #[]) #[]
noncomputable def o482 (_ : Params) : Obj := Obj.mk (Value.type "tuple") none (Data.seq #[Value.str (Str.ofString "self") 928, Value.str (Str.ofString "func") 929, Value.str (Str.ofString "many") 930, Value.str (Str.ofString "wanted") 931, Value.str (Str.ofString "work") 932, Value.str (Str.ofString "found") 933, Value.str (Str.ofString "at") 934, Value.str (Str.ofString "value") 935]) #[]
noncomputable def o483 (_ : Params) : Obj := Obj.mk (Value.type "tuple") none (Data.seq #[]) #[]
noncomputable def o485 (_ : Params) : Obj := Obj.mk (Value.type "code") none (Data.fields #[Value.str (Str.ofString "call_at") 925, Value.str (Str.ofString "Stepper.call_at") 926, Value.str (Str.ofString "/claim/cut.py") 927, Value.int 424 0, Value.int 4 0, Value.int 0 0, Value.int 0 0, Value.int 3 0, Value.ref 480, Value.bool true, Value.int 181 0, Value.ref 481, Value.none, Value.ref 482, Value.ref 483, Value.ref 484, Value.int 936 0, Value.int 424 0, Value.str (Str.ofString "/claim/cut.py") 937]) #[]
noncomputable def o486 (_ : Params) : Obj := fnO (sub 8 (stm 76)) (by with_unfolding_all rfl) fun ar bd sc => Obj.mk (Value.type "function") none (Data.func (FuncData.mk (Str.ofString "call_at") (Str.ofString "Stepper.call_at") ar (FuncBody.stmts bd) sc 3 [] Value.none Value.none Value.none (Value.str (Str.ofString "lua.stepper") 761) none (Value.ref 485) Value.none 0)) #[]
noncomputable def o487 (_ : Params) : Obj := Obj.mk (Value.type "tuple") none (Data.seq #[]) #[]
noncomputable def o489 (_ : Params) : Obj := Obj.mk (Value.type "tuple") none (Data.seq #[Value.str (Str.ofString "self") 942, Value.str (Str.ofString "instruction") 943, Value.str (Str.ofString "func") 944, Value.str (Str.ofString "many") 945]) #[]
noncomputable def o490 (_ : Params) : Obj := Obj.mk (Value.type "tuple") none (Data.seq #[]) #[]
noncomputable def o492 (_ : Params) : Obj := Obj.mk (Value.type "code") none (Data.fields #[Value.str (Str.ofString "done_call") 939, Value.str (Str.ofString "Stepper.done_call") 940, Value.str (Str.ofString "/claim/cut.py") 941, Value.int 434 0, Value.int 2 0, Value.int 0 0, Value.int 0 0, Value.int 3 0, Value.ref 487, Value.bool true, Value.int 181 0, Value.ref 488, Value.none, Value.ref 489, Value.ref 490, Value.ref 491, Value.int 946 0, Value.int 434 0, Value.str (Str.ofString "/claim/cut.py") 947]) #[]
noncomputable def o493 (_ : Params) : Obj := fnO (sub 9 (stm 76)) (by with_unfolding_all rfl) fun ar bd sc => Obj.mk (Value.type "function") none (Data.func (FuncData.mk (Str.ofString "done_call") (Str.ofString "Stepper.done_call") ar (FuncBody.stmts bd) sc 3 [] Value.none Value.none Value.none (Value.str (Str.ofString "lua.stepper") 761) none (Value.ref 492) Value.none 0)) #[]
noncomputable def o494 (_ : Params) : Obj := Obj.mk (Value.type "tuple") none (Data.seq #[]) #[]
noncomputable def o496 (_ : Params) : Obj := Obj.mk (Value.type "tuple") none (Data.seq #[Value.str (Str.ofString "self") 952, Value.str (Str.ofString "instruction") 953, Value.str (Str.ofString "target") 954, Value.str (Str.ofString "held") 955, Value.str (Str.ofString "ahead") 956, Value.str (Str.ofString "many") 957, Value.str (Str.ofString "work") 958, Value.str (Str.ofString "at") 959]) #[]
noncomputable def o497 (_ : Params) : Obj := Obj.mk (Value.type "tuple") none (Data.seq #[]) #[]
noncomputable def o499 (_ : Params) : Obj := Obj.mk (Value.type "code") none (Data.fields #[Value.str (Str.ofString "done_list") 949, Value.str (Str.ofString "Stepper.done_list") 950, Value.str (Str.ofString "/claim/cut.py") 951, Value.int 440 0, Value.int 2 0, Value.int 0 0, Value.int 0 0, Value.int 3 0, Value.ref 494, Value.bool true, Value.int 181 0, Value.ref 495, Value.none, Value.ref 496, Value.ref 497, Value.ref 498, Value.int 960 0, Value.int 440 0, Value.str (Str.ofString "/claim/cut.py") 961]) #[]
noncomputable def o500 (_ : Params) : Obj := fnO (sub 10 (stm 76)) (by with_unfolding_all rfl) fun ar bd sc => Obj.mk (Value.type "function") none (Data.func (FuncData.mk (Str.ofString "done_list") (Str.ofString "Stepper.done_list") ar (FuncBody.stmts bd) sc 3 [] Value.none Value.none Value.none (Value.str (Str.ofString "lua.stepper") 761) none (Value.ref 499) Value.none 0)) #[]
noncomputable def o501 (_ : Params) : Obj := Obj.mk (Value.type "tuple") none (Data.seq #[Value.str (Str.ofString "code") 963, Value.str (Str.ofString "constants") 964, Value.str (Str.ofString "limits") 965, Value.str (Str.ofString "pc") 966, Value.str (Str.ofString "result") 967, Value.str (Str.ofString "room") 968, Value.str (Str.ofString "stack") 969, Value.str (Str.ofString "top") 970, Value.str (Str.ofString "works") 971]) #[]
noncomputable def o502 (P : Params) : Obj := Obj.mk (Value.type "dict") none (Data.dict #[DictEntry.mk (PyData.keyHash P (Str.ofString "__module__")) (Value.str (Str.ofString "__module__") 815) (Value.str (Str.ofString "lua.stepper") 761), DictEntry.mk (PyData.keyHash P (Str.ofString "__firstlineno__")) (Value.str (Str.ofString "__firstlineno__") 819) (Value.int 296 818), DictEntry.mk (PyData.keyHash P (Str.ofString "__init__")) (Value.str (Str.ofString "__init__") 831) (Value.ref 430), DictEntry.mk (PyData.keyHash P (Str.ofString "run")) (Value.str (Str.ofString "run") 841) (Value.ref 437), DictEntry.mk (PyData.keyHash P (Str.ofString "done")) (Value.str (Str.ofString "done") 850) (Value.ref 444), DictEntry.mk (PyData.keyHash P (Str.ofString "done_table")) (Value.str (Str.ofString "done_table") 868) (Value.ref 451), DictEntry.mk (PyData.keyHash P (Str.ofString "done_reckoning")) (Value.str (Str.ofString "done_reckoning") 884) (Value.ref 458), DictEntry.mk (PyData.keyHash P (Str.ofString "done_join")) (Value.str (Str.ofString "done_join") 897) (Value.ref 465), DictEntry.mk (PyData.keyHash P (Str.ofString "done_jump")) (Value.str (Str.ofString "done_jump") 912) (Value.ref 472), DictEntry.mk (PyData.keyHash P (Str.ofString "done_other")) (Value.str (Str.ofString "done_other") 924) (Value.ref 479), DictEntry.mk (PyData.keyHash P (Str.ofString "call_at")) (Value.str (Str.ofString "call_at") 938) (Value.ref 486), DictEntry.mk (PyData.keyHash P (Str.ofString "done_call")) (Value.str (Str.ofString "done_call") 948) (Value.ref 493), DictEntry.mk (PyData.keyHash P (Str.ofString "done_list")) (Value.str (Str.ofString "done_list") 962) (Value.ref 500), DictEntry.mk (PyData.keyHash P (Str.ofString "__static_attributes__")) (Value.str (Str.ofString "__static_attributes__") 972) (Value.ref 501), DictEntry.mk (PyData.keyHash P (Str.ofString "__dict__")) (Value.str (Str.ofString "__dict__") 974) (Value.ref 504), DictEntry.mk (PyData.keyHash P (Str.ofString "__weakref__")) (Value.str (Str.ofString "__weakref__") 976) (Value.ref 505), DictEntry.mk (PyData.keyHash P (Str.ofString "__doc__")) (Value.str (Str.ofString "__doc__") 977) Value.none] 4) #[]
noncomputable def o503 (_ : Params) : Obj := Obj.mk (Value.type "type") none (Data.cls (ClassData.mk (Str.ofString "Stepper") [Value.type "object"] [Value.ref 503, Value.type "object"] 502 (Str.ofString "Stepper") true [] [] false none false)) #[none, none, some (Value.str (Str.ofString "Stepper") 808), some (Value.str (Str.ofString "Stepper") 816), some (Value.builtin "object.__new__"), some (Value.bool true)]
noncomputable def o504 (_ : Params) : Obj := Obj.mk (Value.type "getset_descriptor") none (Data.fields #[Value.str (Str.ofString "__dict__") 973, Value.ref 503, Value.builtin "function.__dict__", Value.builtin "function.__dict__#set"]) #[]
noncomputable def o505 (_ : Params) : Obj := Obj.mk (Value.type "getset_descriptor") none (Data.fields #[Value.str (Str.ofString "__weakref__") 975, Value.ref 503, Value.builtin "ExceptionGroup.__weakref__", Value.none]) #[]
noncomputable def o508 (P : Params) : Obj := Obj.mk (Value.type "dict") none (Data.dict #[DictEntry.mk (PyData.keyHash P (Str.ofString "MOVE")) (Value.str (Str.ofString "MOVE") 982) (Value.int 0 983), DictEntry.mk (PyData.keyHash P (Str.ofString "LOADBOOL")) (Value.str (Str.ofString "LOADBOOL") 984) (Value.int 2 985), DictEntry.mk (PyData.keyHash P (Str.ofString "JMP")) (Value.str (Str.ofString "JMP") 986) (Value.int 22 987), DictEntry.mk (PyData.keyHash P (Str.ofString "EQ")) (Value.str (Str.ofString "EQ") 988) (Value.int 23 989), DictEntry.mk (PyData.keyHash P (Str.ofString "LT")) (Value.str (Str.ofString "LT") 990) (Value.int 24 991), DictEntry.mk (PyData.keyHash P (Str.ofString "LE")) (Value.str (Str.ofString "LE") 992) (Value.int 25 993), DictEntry.mk (PyData.keyHash P (Str.ofString "TEST")) (Value.str (Str.ofString "TEST") 994) (Value.int 26 995), DictEntry.mk (PyData.keyHash P (Str.ofString "TESTSET")) (Value.str (Str.ofString "TESTSET") 996) (Value.int 27 997), DictEntry.mk (PyData.keyHash P (Str.ofString "RETURN")) (Value.str (Str.ofString "RETURN") 998) (Value.int 30 999)] 9) #[]
noncomputable def o509 (_ : Params) : Obj := Obj.mk (Value.type "list") none (Data.seq #[Value.none, Value.bool true, Value.bool false, Value.int 0 1010, Value.int 1 1011, Value.bytes #[] 1012, Value.int 2 1013]) #[]
noncomputable def o510 (_ : Params) : Obj := Obj.mk (Value.type "list") none (Data.seq #[Value.int 1 1015, Value.int 2 1016, Value.bytes #[107] 1017]) #[]
noncomputable def o511 (_ : Params) : Obj := Obj.mk (Value.type "tuple") none (Data.seq #[]) #[]
noncomputable def o513 (_ : Params) : Obj := Obj.mk (Value.type "tuple") none (Data.seq #[Value.str (Str.ofString "box") 1022, Value.str (Str.ofString "many") 1023, Value.str (Str.ofString "digit") 1024]) #[]
noncomputable def o514 (_ : Params) : Obj := Obj.mk (Value.type "tuple") none (Data.seq #[]) #[]
noncomputable def o516 (_ : Params) : Obj := Obj.mk (Value.type "code") none (Data.fields #[Value.str (Str.ofString "_law_take") 1019, Value.str (Str.ofString "_law_take") 1020, Value.str (Str.ofString "/claim/cut.py") 1021, Value.int 454 0, Value.int 2 0, Value.int 0 0, Value.int 0 0, Value.int 3 0, Value.ref 511, Value.bool true, Value.int 181 0, Value.ref 512, Value.none, Value.ref 513, Value.ref 514, Value.ref 515, Value.int 1025 0, Value.int 454 0, Value.str (Str.ofString "/claim/cut.py") 1026]) #[]
noncomputable def o517 (_ : Params) : Obj := fnO (stm 81) (by with_unfolding_all rfl) fun ar bd sc => Obj.mk (Value.type "function") none (Data.func (FuncData.mk (Str.ofString "_law_take") (Str.ofString "_law_take") ar (FuncBody.stmts bd) sc 3 [] Value.none Value.none Value.none (Value.str (Str.ofString "law_pc0174_02") 980) none (Value.ref 516) Value.none 0)) #[]
noncomputable def o518 (_ : Params) : Obj := Obj.mk (Value.type "tuple") none (Data.seq #[]) #[]
noncomputable def o520 (_ : Params) : Obj := Obj.mk (Value.type "tuple") none (Data.seq #[Value.str (Str.ofString "script") 1031, Value.str (Str.ofString "grand") 1032, Value.str (Str.ofString "one") 1033]) #[]
noncomputable def o521 (_ : Params) : Obj := Obj.mk (Value.type "tuple") none (Data.seq #[]) #[]
noncomputable def o523 (_ : Params) : Obj := Obj.mk (Value.type "code") none (Data.fields #[Value.str (Str.ofString "_law_grand") 1028, Value.str (Str.ofString "_law_grand") 1029, Value.str (Str.ofString "/claim/cut.py") 1030, Value.int 461 0, Value.int 1 0, Value.int 0 0, Value.int 0 0, Value.int 3 0, Value.ref 518, Value.bool true, Value.int 181 0, Value.ref 519, Value.none, Value.ref 520, Value.ref 521, Value.ref 522, Value.int 1034 0, Value.int 461 0, Value.str (Str.ofString "/claim/cut.py") 1035]) #[]
noncomputable def o524 (_ : Params) : Obj := fnO (stm 82) (by with_unfolding_all rfl) fun ar bd sc => Obj.mk (Value.type "function") none (Data.func (FuncData.mk (Str.ofString "_law_grand") (Str.ofString "_law_grand") ar (FuncBody.stmts bd) sc 3 [] Value.none Value.none Value.none (Value.str (Str.ofString "law_pc0174_02") 980) none (Value.ref 523) Value.none 0)) #[]
noncomputable def o525 (_ : Params) : Obj := Obj.mk (Value.type "tuple") none (Data.seq #[]) #[]
noncomputable def o527 (_ : Params) : Obj := Obj.mk (Value.type "tuple") none (Data.seq #[Value.str (Str.ofString "rows") 1040, Value.str (Str.ofString "numbers") 1041, Value.str (Str.ofString "code") 1042, Value.str (Str.ofString "name") 1043, Value.str (Str.ofString "a") 1044, Value.str (Str.ofString "b") 1045, Value.str (Str.ofString "c") 1046]) #[]
noncomputable def o528 (_ : Params) : Obj := Obj.mk (Value.type "tuple") none (Data.seq #[]) #[]
noncomputable def o530 (_ : Params) : Obj := Obj.mk (Value.type "code") none (Data.fields #[Value.str (Str.ofString "_law_coded") 1037, Value.str (Str.ofString "_law_coded") 1038, Value.str (Str.ofString "/claim/cut.py") 1039, Value.int 466 0, Value.int 2 0, Value.int 0 0, Value.int 0 0, Value.int 3 0, Value.ref 525, Value.bool true, Value.int 181 0, Value.ref 526, Value.none, Value.ref 527, Value.ref 528, Value.ref 529, Value.int 1047 0, Value.int 466 0, Value.str (Str.ofString "/claim/cut.py") 1048]) #[]
noncomputable def o531 (_ : Params) : Obj := fnO (stm 83) (by with_unfolding_all rfl) fun ar bd sc => Obj.mk (Value.type "function") none (Data.func (FuncData.mk (Str.ofString "_law_coded") (Str.ofString "_law_coded") ar (FuncBody.stmts bd) sc 3 [] Value.none Value.none Value.none (Value.str (Str.ofString "law_pc0174_02") 980) none (Value.ref 530) Value.none 0)) #[]
noncomputable def o532 (_ : Params) : Obj := Obj.mk (Value.type "tuple") none (Data.seq #[]) #[]
noncomputable def o534 (_ : Params) : Obj := Obj.mk (Value.type "tuple") none (Data.seq #[Value.str (Str.ofString "length") 1053, Value.str (Str.ofString "compared") 1054, Value.str (Str.ofString "called") 1055, Value.str (Str.ofString "none") 1056]) #[]
noncomputable def o535 (_ : Params) : Obj := Obj.mk (Value.type "tuple") none (Data.seq #[]) #[]
noncomputable def o537 (_ : Params) : Obj := Obj.mk (Value.type "code") none (Data.fields #[Value.str (Str.ofString "_law_works") 1050, Value.str (Str.ofString "_law_works") 1051, Value.str (Str.ofString "/claim/cut.py") 1052, Value.int 478 0, Value.int 3 0, Value.int 0 0, Value.int 0 0, Value.int 3 0, Value.ref 532, Value.bool true, Value.int 181 0, Value.ref 533, Value.none, Value.ref 534, Value.ref 535, Value.ref 536, Value.int 1057 0, Value.int 478 0, Value.str (Str.ofString "/claim/cut.py") 1058]) #[]
noncomputable def o538 (_ : Params) : Obj := fnO (stm 84) (by with_unfolding_all rfl) fun ar bd sc => Obj.mk (Value.type "function") none (Data.func (FuncData.mk (Str.ofString "_law_works") (Str.ofString "_law_works") ar (FuncBody.stmts bd) sc 3 [] Value.none Value.none Value.none (Value.str (Str.ofString "law_pc0174_02") 980) none (Value.ref 537) Value.none 0)) #[]
noncomputable def o539 (_ : Params) : Obj := Obj.mk (Value.type "tuple") none (Data.seq #[]) #[]
noncomputable def o542 (_ : Params) : Obj := Obj.mk (Value.type "code") none (Data.fields #[Value.str (Str.ofString "_law_compared") 1060, Value.str (Str.ofString "_law_compared") 1061, Value.str (Str.ofString "/claim/cut.py") 1062, Value.int 481 0, Value.int 3 0, Value.int 0 0, Value.int 0 0, Value.int 3 0, Value.ref 539, Value.bool true, Value.int 181 0, Value.ref 540, Value.none, Value.none, Value.none, Value.ref 541, Value.int 1063 0, Value.int 481 0, Value.str (Str.ofString "/claim/cut.py") 1064]) #[]
noncomputable def o543 (_ : Params) : Obj := fnO (stm 85) (by with_unfolding_all rfl) fun ar bd sc => Obj.mk (Value.type "function") none (Data.func (FuncData.mk (Str.ofString "_law_compared") (Str.ofString "_law_compared") ar (FuncBody.stmts bd) sc 3 [] Value.none Value.none Value.none (Value.str (Str.ofString "law_pc0174_02") 980) none (Value.ref 542) Value.none 0)) #[]
noncomputable def o544 (_ : Params) : Obj := Obj.mk (Value.type "tuple") none (Data.seq #[]) #[]
noncomputable def o547 (_ : Params) : Obj := Obj.mk (Value.type "code") none (Data.fields #[Value.str (Str.ofString "_law_run") 1066, Value.str (Str.ofString "_law_run") 1067, Value.str (Str.ofString "/claim/cut.py") 1068, Value.int 487 0, Value.int 3 0, Value.int 0 0, Value.int 0 0, Value.int 3 0, Value.ref 544, Value.bool true, Value.int 181 0, Value.ref 545, Value.none, Value.none, Value.none, Value.ref 546, Value.int 1069 0, Value.int 487 0, Value.str (Str.ofString "/claim/cut.py") 1070]) #[]
noncomputable def o548 (_ : Params) : Obj := fnO (stm 86) (by with_unfolding_all rfl) fun ar bd sc => Obj.mk (Value.type "function") none (Data.func (FuncData.mk (Str.ofString "_law_run") (Str.ofString "_law_run") ar (FuncBody.stmts bd) sc 3 [] Value.none Value.none Value.none (Value.str (Str.ofString "law_pc0174_02") 980) none (Value.ref 547) Value.none 0)) #[]
noncomputable def o549 (_ : Params) : Obj := Obj.mk (Value.type "tuple") none (Data.seq #[]) #[]
noncomputable def o551 (_ : Params) : Obj := Obj.mk (Value.type "tuple") none (Data.seq #[Value.str (Str.ofString "box") 1075, Value.str (Str.ofString "rows") 1076, Value.str (Str.ofString "turn") 1077, Value.str (Str.ofString "form") 1078, Value.str (Str.ofString "a") 1079, Value.str (Str.ofString "one") 1080, Value.str (Str.ofString "other") 1081, Value.str (Str.ofString "b") 1082, Value.str (Str.ofString "c") 1083]) #[]
noncomputable def o552 (_ : Params) : Obj := Obj.mk (Value.type "tuple") none (Data.seq #[]) #[]
noncomputable def o554 (_ : Params) : Obj := Obj.mk (Value.type "code") none (Data.fields #[Value.str (Str.ofString "_law_program") 1072, Value.str (Str.ofString "_law_program") 1073, Value.str (Str.ofString "/claim/cut.py") 1074, Value.int 514 0, Value.int 1 0, Value.int 0 0, Value.int 0 0, Value.int 3 0, Value.ref 549, Value.bool true, Value.int 181 0, Value.ref 550, Value.none, Value.ref 551, Value.ref 552, Value.ref 553, Value.int 1084 0, Value.int 514 0, Value.str (Str.ofString "/claim/cut.py") 1085]) #[]
noncomputable def o555 (_ : Params) : Obj := fnO (stm 87) (by with_unfolding_all rfl) fun ar bd sc => Obj.mk (Value.type "function") none (Data.func (FuncData.mk (Str.ofString "_law_program") (Str.ofString "_law_program") ar (FuncBody.stmts bd) sc 3 [] Value.none Value.none Value.none (Value.str (Str.ofString "law_pc0174_02") 980) none (Value.ref 554) Value.none 0)) #[]
noncomputable def o556 (_ : Params) : Obj := Obj.mk (Value.type "tuple") none (Data.seq #[]) #[]
noncomputable def o559 (_ : Params) : Obj := Obj.mk (Value.type "code") none (Data.fields #[Value.str (Str.ofString "law") 1087, Value.str (Str.ofString "law") 1088, Value.str (Str.ofString "/claim/cut.py") 1089, Value.int 529 0, Value.int 1 0, Value.int 0 0, Value.int 0 0, Value.int 3 0, Value.ref 556, Value.bool true, Value.int 181 0, Value.ref 557, Value.none, Value.none, Value.none, Value.ref 558, Value.int 1090 0, Value.int 529 0, Value.str (Str.ofString "/claim/cut.py") 1091]) #[]
noncomputable def o560 (_ : Params) : Obj := fnO (stm 88) (by with_unfolding_all rfl) fun ar bd sc => Obj.mk (Value.type "function") none (Data.func (FuncData.mk (Str.ofString "law") (Str.ofString "law") ar (FuncBody.stmts bd) sc 3 [] Value.none Value.none Value.none (Value.str (Str.ofString "law_pc0174_02") 980) none (Value.ref 559) Value.none 0)) #[]
noncomputable def Kf (P : Params) : Frag := (nat_lit 2, o2 P) :: (nat_lit 3, o3 P) :: (nat_lit 15, o15 P) :: (nat_lit 17, o17 P) :: (nat_lit 18, o18 P) :: (nat_lit 20, o20 P) :: (nat_lit 21, o21 P) :: (nat_lit 22, o22 P) :: (nat_lit 24, o24 P) :: (nat_lit 25, o25 P) :: (nat_lit 27, o27 P) :: (nat_lit 28, o28 P) :: (nat_lit 29, o29 P) :: (nat_lit 31, o31 P) :: (nat_lit 32, o32 P) :: (nat_lit 34, o34 P) :: (nat_lit 35, o35 P) :: (nat_lit 36, o36 P) :: (nat_lit 38, o38 P) :: (nat_lit 39, o39 P) :: (nat_lit 41, o41 P) :: (nat_lit 42, o42 P) :: (nat_lit 43, o43 P) :: (nat_lit 45, o45 P) :: (nat_lit 46, o46 P) :: (nat_lit 48, o48 P) :: (nat_lit 49, o49 P) :: (nat_lit 50, o50 P) :: (nat_lit 52, o52 P) :: (nat_lit 53, o53 P) :: (nat_lit 55, o55 P) :: (nat_lit 56, o56 P) :: (nat_lit 57, o57 P) :: (nat_lit 59, o59 P) :: (nat_lit 60, o60 P) :: (nat_lit 62, o62 P) :: (nat_lit 63, o63 P) :: (nat_lit 71, o71 P) :: (nat_lit 72, o72 P) :: (nat_lit 74, o74 P) :: (nat_lit 75, o75 P) :: (nat_lit 77, o77 P) :: (nat_lit 78, o78 P) :: (nat_lit 79, o79 P) :: (nat_lit 81, o81 P) :: (nat_lit 82, o82 P) :: (nat_lit 84, o84 P) :: (nat_lit 85, o85 P) :: (nat_lit 86, o86 P) :: (nat_lit 88, o88 P) :: (nat_lit 89, o89 P) :: (nat_lit 91, o91 P) :: (nat_lit 92, o92 P) :: (nat_lit 93, o93 P) :: (nat_lit 94, o94 P) :: (nat_lit 95, o95 P) :: (nat_lit 96, o96 P) :: (nat_lit 97, o97 P) :: (nat_lit 100, o100 P) :: (nat_lit 107, o107 P) :: (nat_lit 109, o109 P) :: (nat_lit 110, o110 P) :: (nat_lit 112, o112 P) :: (nat_lit 113, o113 P) :: (nat_lit 114, o114 P) :: (nat_lit 115, o115 P) :: (nat_lit 116, o116 P) :: (nat_lit 117, o117 P) :: (nat_lit 120, o120 P) :: (nat_lit 127, o127 P) :: (nat_lit 129, o129 P) :: (nat_lit 130, o130 P) :: (nat_lit 132, o132 P) :: (nat_lit 133, o133 P) :: (nat_lit 134, o134 P) :: (nat_lit 135, o135 P) :: (nat_lit 136, o136 P) :: (nat_lit 137, o137 P) :: (nat_lit 140, o140 P) :: (nat_lit 142, o142 P) :: (nat_lit 143, o143 P) :: (nat_lit 145, o145 P) :: (nat_lit 146, o146 P) :: (nat_lit 147, o147 P) :: (nat_lit 149, o149 P) :: (nat_lit 150, o150 P) :: (nat_lit 152, o152 P) :: (nat_lit 153, o153 P) :: (nat_lit 154, o154 P) :: (nat_lit 156, o156 P) :: (nat_lit 157, o157 P) :: (nat_lit 159, o159 P) :: (nat_lit 160, o160 P) :: (nat_lit 161, o161 P) :: (nat_lit 163, o163 P) :: (nat_lit 164, o164 P) :: (nat_lit 166, o166 P) :: (nat_lit 167, o167 P) :: (nat_lit 168, o168 P) :: (nat_lit 170, o170 P) :: (nat_lit 171, o171 P) :: (nat_lit 173, o173 P) :: (nat_lit 174, o174 P) :: (nat_lit 175, o175 P) :: (nat_lit 177, o177 P) :: (nat_lit 178, o178 P) :: (nat_lit 180, o180 P) :: (nat_lit 181, o181 P) :: (nat_lit 182, o182 P) :: (nat_lit 184, o184 P) :: (nat_lit 185, o185 P) :: (nat_lit 187, o187 P) :: (nat_lit 188, o188 P) :: (nat_lit 189, o189 P) :: (nat_lit 191, o191 P) :: (nat_lit 192, o192 P) :: (nat_lit 194, o194 P) :: (nat_lit 195, o195 P) :: (nat_lit 196, o196 P) :: (nat_lit 198, o198 P) :: (nat_lit 199, o199 P) :: (nat_lit 201, o201 P) :: (nat_lit 202, o202 P) :: (nat_lit 203, o203 P) :: (nat_lit 205, o205 P) :: (nat_lit 206, o206 P) :: (nat_lit 208, o208 P) :: (nat_lit 209, o209 P) :: (nat_lit 210, o210 P) :: (nat_lit 212, o212 P) :: (nat_lit 213, o213 P) :: (nat_lit 215, o215 P) :: (nat_lit 216, o216 P) :: (nat_lit 217, o217 P) :: (nat_lit 219, o219 P) :: (nat_lit 220, o220 P) :: (nat_lit 222, o222 P) :: (nat_lit 223, o223 P) :: (nat_lit 224, o224 P) :: (nat_lit 226, o226 P) :: (nat_lit 227, o227 P) :: (nat_lit 229, o229 P) :: (nat_lit 230, o230 P) :: (nat_lit 231, o231 P) :: (nat_lit 233, o233 P) :: (nat_lit 234, o234 P) :: (nat_lit 236, o236 P) :: (nat_lit 237, o237 P) :: (nat_lit 238, o238 P) :: (nat_lit 240, o240 P) :: (nat_lit 241, o241 P) :: (nat_lit 243, o243 P) :: (nat_lit 244, o244 P) :: (nat_lit 245, o245 P) :: (nat_lit 247, o247 P) :: (nat_lit 248, o248 P) :: (nat_lit 250, o250 P) :: (nat_lit 251, o251 P) :: (nat_lit 252, o252 P) :: (nat_lit 254, o254 P) :: (nat_lit 255, o255 P) :: (nat_lit 257, o257 P) :: (nat_lit 258, o258 P) :: (nat_lit 259, o259 P) :: (nat_lit 262, o262 P) :: (nat_lit 263, o263 P) :: (nat_lit 264, o264 P) :: (nat_lit 267, o267 P) :: (nat_lit 268, o268 P) :: (nat_lit 269, o269 P) :: (nat_lit 271, o271 P) :: (nat_lit 272, o272 P) :: (nat_lit 274, o274 P) :: (nat_lit 275, o275 P) :: (nat_lit 276, o276 P) :: (nat_lit 278, o278 P) :: (nat_lit 279, o279 P) :: (nat_lit 281, o281 P) :: (nat_lit 282, o282 P) :: (nat_lit 283, o283 P) :: (nat_lit 285, o285 P) :: (nat_lit 286, o286 P) :: (nat_lit 288, o288 P) :: (nat_lit 289, o289 P) :: (nat_lit 290, o290 P) :: (nat_lit 292, o292 P) :: (nat_lit 293, o293 P) :: (nat_lit 295, o295 P) :: (nat_lit 296, o296 P) :: (nat_lit 297, o297 P) :: (nat_lit 299, o299 P) :: (nat_lit 300, o300 P) :: (nat_lit 302, o302 P) :: (nat_lit 303, o303 P) :: (nat_lit 304, o304 P) :: (nat_lit 306, o306 P) :: (nat_lit 307, o307 P) :: (nat_lit 309, o309 P) :: (nat_lit 310, o310 P) :: (nat_lit 311, o311 P) :: (nat_lit 313, o313 P) :: (nat_lit 314, o314 P) :: (nat_lit 316, o316 P) :: (nat_lit 317, o317 P) :: (nat_lit 318, o318 P) :: (nat_lit 320, o320 P) :: (nat_lit 321, o321 P) :: (nat_lit 323, o323 P) :: (nat_lit 324, o324 P) :: (nat_lit 325, o325 P) :: (nat_lit 327, o327 P) :: (nat_lit 328, o328 P) :: (nat_lit 330, o330 P) :: (nat_lit 331, o331 P) :: (nat_lit 332, o332 P) :: (nat_lit 334, o334 P) :: (nat_lit 335, o335 P) :: (nat_lit 337, o337 P) :: (nat_lit 338, o338 P) :: (nat_lit 339, o339 P) :: (nat_lit 341, o341 P) :: (nat_lit 342, o342 P) :: (nat_lit 344, o344 P) :: (nat_lit 345, o345 P) :: (nat_lit 346, o346 P) :: (nat_lit 348, o348 P) :: (nat_lit 349, o349 P) :: (nat_lit 351, o351 P) :: (nat_lit 352, o352 P) :: (nat_lit 353, o353 P) :: (nat_lit 355, o355 P) :: (nat_lit 356, o356 P) :: (nat_lit 358, o358 P) :: (nat_lit 359, o359 P) :: (nat_lit 360, o360 P) :: (nat_lit 362, o362 P) :: (nat_lit 363, o363 P) :: (nat_lit 365, o365 P) :: (nat_lit 366, o366 P) :: (nat_lit 367, o367 P) :: (nat_lit 369, o369 P) :: (nat_lit 370, o370 P) :: (nat_lit 372, o372 P) :: (nat_lit 373, o373 P) :: (nat_lit 374, o374 P) :: (nat_lit 376, o376 P) :: (nat_lit 377, o377 P) :: (nat_lit 379, o379 P) :: (nat_lit 380, o380 P) :: (nat_lit 381, o381 P) :: (nat_lit 382, o382 P) :: (nat_lit 384, o384 P) :: (nat_lit 385, o385 P) :: (nat_lit 387, o387 P) :: (nat_lit 388, o388 P) :: (nat_lit 389, o389 P) :: (nat_lit 391, o391 P) :: (nat_lit 392, o392 P) :: (nat_lit 394, o394 P) :: (nat_lit 395, o395 P) :: (nat_lit 403, o403 P) :: (nat_lit 405, o405 P) :: (nat_lit 406, o406 P) :: (nat_lit 408, o408 P) :: (nat_lit 409, o409 P) :: (nat_lit 410, o410 P) :: (nat_lit 411, o411 P) :: (nat_lit 412, o412 P) :: (nat_lit 413, o413 P) :: (nat_lit 414, o414 P) :: (nat_lit 424, o424 P) :: (nat_lit 426, o426 P) :: (nat_lit 427, o427 P) :: (nat_lit 429, o429 P) :: (nat_lit 430, o430 P) :: (nat_lit 431, o431 P) :: (nat_lit 433, o433 P) :: (nat_lit 434, o434 P) :: (nat_lit 436, o436 P) :: (nat_lit 437, o437 P) :: (nat_lit 438, o438 P) :: (nat_lit 440, o440 P) :: (nat_lit 441, o441 P) :: (nat_lit 443, o443 P) :: (nat_lit 444, o444 P) :: (nat_lit 445, o445 P) :: (nat_lit 447, o447 P) :: (nat_lit 448, o448 P) :: (nat_lit 450, o450 P) :: (nat_lit 451, o451 P) :: (nat_lit 452, o452 P) :: (nat_lit 454, o454 P) :: (nat_lit 455, o455 P) :: (nat_lit 457, o457 P) :: (nat_lit 458, o458 P) :: (nat_lit 459, o459 P) :: (nat_lit 461, o461 P) :: (nat_lit 462, o462 P) :: (nat_lit 464, o464 P) :: (nat_lit 465, o465 P) :: (nat_lit 466, o466 P) :: (nat_lit 468, o468 P) :: (nat_lit 469, o469 P) :: (nat_lit 471, o471 P) :: (nat_lit 472, o472 P) :: (nat_lit 473, o473 P) :: (nat_lit 475, o475 P) :: (nat_lit 476, o476 P) :: (nat_lit 478, o478 P) :: (nat_lit 479, o479 P) :: (nat_lit 480, o480 P) :: (nat_lit 482, o482 P) :: (nat_lit 483, o483 P) :: (nat_lit 485, o485 P) :: (nat_lit 486, o486 P) :: (nat_lit 487, o487 P) :: (nat_lit 489, o489 P) :: (nat_lit 490, o490 P) :: (nat_lit 492, o492 P) :: (nat_lit 493, o493 P) :: (nat_lit 494, o494 P) :: (nat_lit 496, o496 P) :: (nat_lit 497, o497 P) :: (nat_lit 499, o499 P) :: (nat_lit 500, o500 P) :: (nat_lit 501, o501 P) :: (nat_lit 502, o502 P) :: (nat_lit 503, o503 P) :: (nat_lit 504, o504 P) :: (nat_lit 505, o505 P) :: (nat_lit 508, o508 P) :: (nat_lit 509, o509 P) :: (nat_lit 510, o510 P) :: (nat_lit 511, o511 P) :: (nat_lit 513, o513 P) :: (nat_lit 514, o514 P) :: (nat_lit 516, o516 P) :: (nat_lit 517, o517 P) :: (nat_lit 518, o518 P) :: (nat_lit 520, o520 P) :: (nat_lit 521, o521 P) :: (nat_lit 523, o523 P) :: (nat_lit 524, o524 P) :: (nat_lit 525, o525 P) :: (nat_lit 527, o527 P) :: (nat_lit 528, o528 P) :: (nat_lit 530, o530 P) :: (nat_lit 531, o531 P) :: (nat_lit 532, o532 P) :: (nat_lit 534, o534 P) :: (nat_lit 535, o535 P) :: (nat_lit 537, o537 P) :: (nat_lit 538, o538 P) :: (nat_lit 539, o539 P) :: (nat_lit 542, o542 P) :: (nat_lit 543, o543 P) :: (nat_lit 544, o544 P) :: (nat_lit 547, o547 P) :: (nat_lit 548, o548 P) :: (nat_lit 549, o549 P) :: (nat_lit 551, o551 P) :: (nat_lit 552, o552 P) :: (nat_lit 554, o554 P) :: (nat_lit 555, o555 P) :: (nat_lit 556, o556 P) :: (nat_lit 559, o559 P) :: (nat_lit 560, o560 P) :: []
noncomputable def asL : List Nat := nat_lit 2 :: nat_lit 3 :: nat_lit 15 :: nat_lit 17 :: nat_lit 18 :: nat_lit 20 :: nat_lit 21 :: nat_lit 22 :: nat_lit 24 :: nat_lit 25 :: nat_lit 27 :: nat_lit 28 :: nat_lit 29 :: nat_lit 31 :: nat_lit 32 :: nat_lit 34 :: nat_lit 35 :: nat_lit 36 :: nat_lit 38 :: nat_lit 39 :: nat_lit 41 :: nat_lit 42 :: nat_lit 43 :: nat_lit 45 :: nat_lit 46 :: nat_lit 48 :: nat_lit 49 :: nat_lit 50 :: nat_lit 52 :: nat_lit 53 :: nat_lit 55 :: nat_lit 56 :: nat_lit 57 :: nat_lit 59 :: nat_lit 60 :: nat_lit 62 :: nat_lit 63 :: nat_lit 71 :: nat_lit 72 :: nat_lit 74 :: nat_lit 75 :: nat_lit 77 :: nat_lit 78 :: nat_lit 79 :: nat_lit 81 :: nat_lit 82 :: nat_lit 84 :: nat_lit 85 :: nat_lit 86 :: nat_lit 88 :: nat_lit 89 :: nat_lit 91 :: nat_lit 92 :: nat_lit 93 :: nat_lit 94 :: nat_lit 95 :: nat_lit 96 :: nat_lit 97 :: nat_lit 100 :: nat_lit 107 :: nat_lit 109 :: nat_lit 110 :: nat_lit 112 :: nat_lit 113 :: nat_lit 114 :: nat_lit 115 :: nat_lit 116 :: nat_lit 117 :: nat_lit 120 :: nat_lit 127 :: nat_lit 129 :: nat_lit 130 :: nat_lit 132 :: nat_lit 133 :: nat_lit 134 :: nat_lit 135 :: nat_lit 136 :: nat_lit 137 :: nat_lit 140 :: nat_lit 142 :: nat_lit 143 :: nat_lit 145 :: nat_lit 146 :: nat_lit 147 :: nat_lit 149 :: nat_lit 150 :: nat_lit 152 :: nat_lit 153 :: nat_lit 154 :: nat_lit 156 :: nat_lit 157 :: nat_lit 159 :: nat_lit 160 :: nat_lit 161 :: nat_lit 163 :: nat_lit 164 :: nat_lit 166 :: nat_lit 167 :: nat_lit 168 :: nat_lit 170 :: nat_lit 171 :: nat_lit 173 :: nat_lit 174 :: nat_lit 175 :: nat_lit 177 :: nat_lit 178 :: nat_lit 180 :: nat_lit 181 :: nat_lit 182 :: nat_lit 184 :: nat_lit 185 :: nat_lit 187 :: nat_lit 188 :: nat_lit 189 :: nat_lit 191 :: nat_lit 192 :: nat_lit 194 :: nat_lit 195 :: nat_lit 196 :: nat_lit 198 :: nat_lit 199 :: nat_lit 201 :: nat_lit 202 :: nat_lit 203 :: nat_lit 205 :: nat_lit 206 :: nat_lit 208 :: nat_lit 209 :: nat_lit 210 :: nat_lit 212 :: nat_lit 213 :: nat_lit 215 :: nat_lit 216 :: nat_lit 217 :: nat_lit 219 :: nat_lit 220 :: nat_lit 222 :: nat_lit 223 :: nat_lit 224 :: nat_lit 226 :: nat_lit 227 :: nat_lit 229 :: nat_lit 230 :: nat_lit 231 :: nat_lit 233 :: nat_lit 234 :: nat_lit 236 :: nat_lit 237 :: nat_lit 238 :: nat_lit 240 :: nat_lit 241 :: nat_lit 243 :: nat_lit 244 :: nat_lit 245 :: nat_lit 247 :: nat_lit 248 :: nat_lit 250 :: nat_lit 251 :: nat_lit 252 :: nat_lit 254 :: nat_lit 255 :: nat_lit 257 :: nat_lit 258 :: nat_lit 259 :: nat_lit 262 :: nat_lit 263 :: nat_lit 264 :: nat_lit 267 :: nat_lit 268 :: nat_lit 269 :: nat_lit 271 :: nat_lit 272 :: nat_lit 274 :: nat_lit 275 :: nat_lit 276 :: nat_lit 278 :: nat_lit 279 :: nat_lit 281 :: nat_lit 282 :: nat_lit 283 :: nat_lit 285 :: nat_lit 286 :: nat_lit 288 :: nat_lit 289 :: nat_lit 290 :: nat_lit 292 :: nat_lit 293 :: nat_lit 295 :: nat_lit 296 :: nat_lit 297 :: nat_lit 299 :: nat_lit 300 :: nat_lit 302 :: nat_lit 303 :: nat_lit 304 :: nat_lit 306 :: nat_lit 307 :: nat_lit 309 :: nat_lit 310 :: nat_lit 311 :: nat_lit 313 :: nat_lit 314 :: nat_lit 316 :: nat_lit 317 :: nat_lit 318 :: nat_lit 320 :: nat_lit 321 :: nat_lit 323 :: nat_lit 324 :: nat_lit 325 :: nat_lit 327 :: nat_lit 328 :: nat_lit 330 :: nat_lit 331 :: nat_lit 332 :: nat_lit 334 :: nat_lit 335 :: nat_lit 337 :: nat_lit 338 :: nat_lit 339 :: nat_lit 341 :: nat_lit 342 :: nat_lit 344 :: nat_lit 345 :: nat_lit 346 :: nat_lit 348 :: nat_lit 349 :: nat_lit 351 :: nat_lit 352 :: nat_lit 353 :: nat_lit 355 :: nat_lit 356 :: nat_lit 358 :: nat_lit 359 :: nat_lit 360 :: nat_lit 362 :: nat_lit 363 :: nat_lit 365 :: nat_lit 366 :: nat_lit 367 :: nat_lit 369 :: nat_lit 370 :: nat_lit 372 :: nat_lit 373 :: nat_lit 374 :: nat_lit 376 :: nat_lit 377 :: nat_lit 379 :: nat_lit 380 :: nat_lit 381 :: nat_lit 382 :: nat_lit 384 :: nat_lit 385 :: nat_lit 387 :: nat_lit 388 :: nat_lit 389 :: nat_lit 391 :: nat_lit 392 :: nat_lit 394 :: nat_lit 395 :: nat_lit 403 :: nat_lit 405 :: nat_lit 406 :: nat_lit 408 :: nat_lit 409 :: nat_lit 410 :: nat_lit 411 :: nat_lit 412 :: nat_lit 413 :: nat_lit 414 :: nat_lit 424 :: nat_lit 426 :: nat_lit 427 :: nat_lit 429 :: nat_lit 430 :: nat_lit 431 :: nat_lit 433 :: nat_lit 434 :: nat_lit 436 :: nat_lit 437 :: nat_lit 438 :: nat_lit 440 :: nat_lit 441 :: nat_lit 443 :: nat_lit 444 :: nat_lit 445 :: nat_lit 447 :: nat_lit 448 :: nat_lit 450 :: nat_lit 451 :: nat_lit 452 :: nat_lit 454 :: nat_lit 455 :: nat_lit 457 :: nat_lit 458 :: nat_lit 459 :: nat_lit 461 :: nat_lit 462 :: nat_lit 464 :: nat_lit 465 :: nat_lit 466 :: nat_lit 468 :: nat_lit 469 :: nat_lit 471 :: nat_lit 472 :: nat_lit 473 :: nat_lit 475 :: nat_lit 476 :: nat_lit 478 :: nat_lit 479 :: nat_lit 480 :: nat_lit 482 :: nat_lit 483 :: nat_lit 485 :: nat_lit 486 :: nat_lit 487 :: nat_lit 489 :: nat_lit 490 :: nat_lit 492 :: nat_lit 493 :: nat_lit 494 :: nat_lit 496 :: nat_lit 497 :: nat_lit 499 :: nat_lit 500 :: nat_lit 501 :: nat_lit 502 :: nat_lit 503 :: nat_lit 504 :: nat_lit 505 :: nat_lit 508 :: nat_lit 509 :: nat_lit 510 :: nat_lit 511 :: nat_lit 513 :: nat_lit 514 :: nat_lit 516 :: nat_lit 517 :: nat_lit 518 :: nat_lit 520 :: nat_lit 521 :: nat_lit 523 :: nat_lit 524 :: nat_lit 525 :: nat_lit 527 :: nat_lit 528 :: nat_lit 530 :: nat_lit 531 :: nat_lit 532 :: nat_lit 534 :: nat_lit 535 :: nat_lit 537 :: nat_lit 538 :: nat_lit 539 :: nat_lit 542 :: nat_lit 543 :: nat_lit 544 :: nat_lit 547 :: nat_lit 548 :: nat_lit 549 :: nat_lit 551 :: nat_lit 552 :: nat_lit 554 :: nat_lit 555 :: nat_lit 556 :: nat_lit 559 :: nat_lit 560 :: []
theorem as_ok : ∀ P, asL = (Kf P).map (·.1) := fun _ => by kernel_rfl
end Mine
end
section
open PySem PySem.W PyProof.Rows
namespace Mine
def topRunT (tb : String → Option Builtin) (p : Program) (w : World) (n₀ : Nat) (ann : Option Value) : Nat → SharedT → Thread → Option SharedT
  | 0, _, _ => none
  | n + 1, s, t => match through t with
    | true => some s
    | false => match stepOk n₀ ann t with
      | false => none
      | true => match stepT (denote tb) p w s t with
        | some (s', t') => topRunT tb p w n₀ ann n s' t'
        | none => none
theorem topRunT_spec {tb : String → Option Builtin} {p : Program} {w : World} {n₀ : Nat} {ann : Option Value} :
    ∀ (n : Nat) (s r : SharedT) (t : Thread), topRunT tb p w n₀ ann n s t = some r → topRun tb p w n₀ ann n s.abs t = some r.abs
  | 0, _, _, _, h => by cases h
  | n + 1, s, r, t, h => by
    unfold topRunT at h
    unfold topRun
    cases ht : through t with
    | true => rw [ht] at h; cases h; rfl
    | false =>
      rw [ht] at h
      cases hk : stepOk n₀ ann t with
      | false => rw [hk] at h; cases h
      | true =>
        rw [hk] at h
        cases hs : stepT (denote tb) p w s t with
        | none => rw [hs] at h; cases h
        | some x => obtain ⟨s₂, t₂⟩ := x; rw [hs] at h; rw [stepT_spec hs]; exact topRunT_spec n s₂ r t₂ h
noncomputable def bootT (P : Params) : BT := .node (boot_o_0 P) (.node (boot_o_1 P) (.node (boot_o_3 P) (.node (boot_o_7 P) .nil .nil) .nil) (.node (boot_o_5 P) (.node (boot_o_9 P) .nil .nil) .nil)) (.node (boot_o_2 P) (.node (boot_o_4 P) (.node (boot_o_8 P) .nil .nil) .nil) (.node (boot_o_6 P) (.node (boot_o_10 P) .nil .nil) .nil))
theorem boot_abs (P : Params) : absHeap (bootT P) 11 {} = boot_heap P := by kernel_rfl
noncomputable def runF (p : Program) (N : Nat) (w : World) (os : OsState) (T : BT) (dr : Drawn) (tk : Nat) : Option SharedT := topRunT treeTable p w 11 (some (.ref 6)) N ⟨T, 11, {}, #[], dr, tk, os⟩ (topStub p)
theorem size_ok (P : Params) : ((boot_heap P).isNs mainGlobals && (#[] : Array GenState).size == 0, (boot_heap P).objs.size, (boot_heap P).nsMap mainGlobals "__annotations__") = (true, 11, some (.ref 6)) := by kernel_rfl
theorem left_of {p q : Program} {loose : List Str} {Xt : Shared → Bool} {α : Type} {Yf : Shared → α} {Ya : World → α} {N M : Nat}
    (e : opening p = plainProg p.main.scope.names) (hN : Nat.ble 600 N = true) (f : ∀ s, fenceModules? p s = some s) (le : Nat.ble M N = true)
    (run : ∀ w : World, (fun os => (runF p M w os (bootT w.params) boot_drawn boot_toks).map (fun r => ((staticsOk (importedModules p.main.body) (boot_heap w.params) r.abs.heap && namesBound p r.abs.heap && gensDone r.abs && laidKept (boot_heap w.params) r.abs.heap), openSeen q loose (importedModules p.main.body) Xt true r.abs, Yf r.abs))) =
      fun _ => some (true, openGood q loose, Ya w)) : LeftO p q loose Xt Yf Ya N := fun w => by
  obtain ⟨⟨h, gs, d, k, os⟩, e1, e2⟩ := Option.map_eq_some_iff.mp (boot_open e hN f w)
  obtain ⟨rfl, rfl, rfl, rfl⟩ : h = boot_heap w.params ∧ gs = Array.mk [] ∧ d = boot_drawn ∧ k = boot_toks := by simpa using e2
  obtain ⟨r, hr, hs⟩ := Option.map_eq_some_iff.mp (congrFun (run w) os)
  obtain ⟨l1, l2⟩ := Prod.mk.inj hs
  obtain ⟨l2, l3⟩ := Prod.mk.inj l2
  have hr' := topRun_mono (N - M) _ _ _ _ (topRunT_spec _ _ _ _ hr)
  rw [show M + (N - M) = N by have := Nat.le_of_ble_eq_true le; omega] at hr'
  have hb : (⟨bootT w.params, 11, {}, #[], boot_drawn, boot_toks, os⟩ : SharedT).abs = ⟨boot_heap w.params, Array.mk [], boot_drawn, boot_toks, os⟩ := by
    show (⟨absHeap (bootT w.params) 11 {}, _, _, _, _⟩ : Shared) = _
    rw [boot_abs]
  rw [hb] at hr'
  obtain ⟨z1, z2⟩ := Prod.mk.inj (size_ok w.params)
  obtain ⟨z2, z3⟩ := Prod.mk.inj z2
  have t : topFrom treeTable p w N ⟨boot_heap w.params, Array.mk [], boot_drawn, boot_toks, os⟩ = some r.abs := by
    unfold topFrom
    dsimp only
    try dsimp only at z1 z2 z3
    rw [z1, z2, z3, hr']
    show (match staticsOk (importedModules p.main.body) (boot_heap w.params) r.abs.heap && namesBound p r.abs.heap && gensDone r.abs && laidKept (boot_heap w.params) r.abs.heap with | true => _ | false => _) = _
    rw [l1]
  unfold openEnds
  rw [e1]
  show (topFrom treeTable p w N _).map _ = _
  rw [t]
  exact congrArg some (Prod.ext l2 l3)

abbrev pw : Program := PySem.Challenge.pw_pc0174_02
def vw : Program := view pw [88]
noncomputable def lo : List Str := [Str.ofString "_wall", Str.ofString "A_AT", Str.ofString "C_AT", Str.ofString "B_AT", Str.ofString "A_MASK", Str.ofString "C_MASK", Str.ofString "JUMP_ZERO", Str.ofString "CONSTANT_BIT", Str.ofString "op_of", Str.ofString "a_of", Str.ofString "b_of", Str.ofString "c_of", Str.ofString "wide_of", Str.ofString "jump_of", Str.ofString "BLANKS", Str.ofString "Limits", Str.ofString "LuaError", Str.ofString "ApiError", Str.ofString "is_number", Str.ofString "is_false", Str.ofString "wrap", Str.ofString "divide", Str.ofString "power", Str.ofString "arith", Str.ofString "is_blank", Str.ofString "digit_of", Str.ofString "read_digits", Str.ofString "skip_blanks", Str.ofString "str_to_number", Str.ofString "text_in_base", Str.ofString "to_number", Str.ofString "number_text", Str.ofString "to_text", Str.ofString "byte_float", Str.ofString "MADE", Str.ofString "NO_TEXTS", Str.ofString "TOO_LONG", Str.ofString "texts_below", Str.ofString "join_below", Str.ofString "loop_numbers", Str.ofString "wrong_place", Str.ofString "before_first", Str.ofString "goes_on", Str.ofString "next_number", Str.ofString "load", Str.ofString "operand", Str.ofString "two_operands", Str.ofString "is_compared", Str.ofString "is_tested", Str.ofString "place_behind", Str.ofString "table_room", Str.ofString "list_block", Str.ofString "round_begun", Str.ofString "round_gone", Str.ofString "round_asked", Str.ofString "round_told", Str.ofString "RECKONINGS", Str.ofString "DIVIDING", Str.ofString "RESTING", Str.ofString "RAISING", Str.ofString "DONE", Str.ofString "NO_NUMBERS", Str.ofString "BY_ZERO", Str.ofString "has_no_result", Str.ofString "reckon", Str.ofString "BACK", Str.ofString "STOPPED", Str.ofString "STEPS", Str.ofString "Works", Str.ofString "Stepper", Str.ofString "_law_numbers", Str.ofString "_law_pool", Str.ofString "_law_constants", Str.ofString "_law_take", Str.ofString "_law_grand", Str.ofString "_law_coded", Str.ofString "_law_works", Str.ofString "_law_compared", Str.ofString "_law_run", Str.ofString "_law_program"]
noncomputable def H : Hook := kmHook Kf asL (fun _ => by kernel_rfl) [533]
noncomputable def Xt (q : Program) (s : Shared) : Bool := xlAt q [] s && recOk [] s
noncomputable def chainF (p q : Program) (loose : List Str) (as ts : List Addr) (w : World) (os : OsState) (T : BT) (dr : Drawn) (tk : Nat) (h : Heap) :=
  (runF p 3800 w os T dr tk).map (fun r => ((staticsOk (importedModules p.main.body) h r.abs.heap && namesBound p r.abs.heap && gensDone r.abs && laidKept h r.abs.heap), openSeen q loose (importedModules p.main.body) (Xt q) true r.abs, (as.map r.abs.heap.get?, ts.map r.abs.heap.get?)))
noncomputable def goodF (q : Program) (loose : List Str) := openGood q loose
set_option maxHeartbeats 40000000
lay_quick Mine.chainF Mine.goodF
end Mine
end
section
open PySem PySem.W PyProof.Rows
set_option maxHeartbeats 40000000
namespace Mine
theorem run1 (w : World) : (fun os => chainF pw vw lo asL [533] (w.withFollow "special-get-raises" false) os (bootT w.params) boot_drawn boot_toks (boot_heap w.params)) = fun _ => some (true, goodF vw lo, ((Kf w.params).map fun p => some p.2, [some (tabObj #[])])) := by
  rw [PySem.W.Fast.te9143291615776977538, PySem.W.Fast.te4208135344925943067]
  kernel_rfl
theorem run2 (w : World) : (fun os => chainF pw vw lo asL [533] (w.withFollow "special-get-raises" true) os (bootT w.params) boot_drawn boot_toks (boot_heap w.params)) = fun _ => some (true, goodF vw lo, ((Kf w.params).map fun p => some p.2, [some (tabObj #[])])) := by
  rw [PySem.W.Fast.te9143291615776977538, PySem.W.Fast.te4208135344925943067]
  kernel_rfl
theorem left : LeftO pw vw lo (Xt vw) H.obs H.val 7500 :=
  left_of (M := 3800) (by kernel_rfl) (by kernel_rfl) (fun s => by kernel_rfl) (by kernel_rfl) fun w => byRow2 "special-get-raises" (P := fun w => (fun os => chainF pw vw lo asL [533] w os (bootT w.params) boot_drawn boot_toks (boot_heap w.params)) = fun _ => some (true, goodF vw lo, ((Kf w.params).map fun p => some p.2, [some (tabObj #[])]))) run1 run2 w
theorem said : PySem.Challenge.rw_pc0174_02.wellSaid = true := by kernel_rfl
end Mine
end
section
open PySem PySem.W PyProof.Rows
namespace Mine
def Hold {α : Type} (P : α → Shared → Prop) : α → Shared → Prop := P
def HoldK {α : Type} (Q P : α → Shared → Prop) : Prop := ∀ v s, Q v s → Hold P v s
theorem hold_go {α : Type} {Q P : α → Shared → Prop} {v : α} {s : Shared} (k : HoldK Q P) (h : Q v s) : Hold P v s := k v s h
section
variable {M : Model} {A : Around} {E : Value → Shared → Prop} {env : Env} {st : Stmt} {rest : List Stmt} {Q : Flow → Shared → Prop}
theorem hold_cons {h : Heap} {g : Array GenState} {d : Drawn} {tk : Nat} {o : OsState}
    (k : ∀ (P : Flow → Shared → Prop) (tk : Nat), HoldK (fun f s' => match f with | .next => wpAny M A (execs rest env) Q E s' | f => Q f s') P → wpAny M A (exec st env) (Hold P) E ⟨h, g, d, tk, o⟩) : wpAny M A (execs (st :: rest) env) Q E ⟨h, g, d, tk, o⟩ :=
  wpAny_execs_cons (k _ tk fun _ _ q => q)
theorem hold_consE {h : Heap} {g : Array GenState} {d : Drawn} {tk : Nat} {o : OsState}
    (k : ∀ (P : Flow → Shared → Prop) (tk : Nat) (E' : Value → Shared → Prop), HoldK (fun f s' => match f with | .next => wpAny M A (execs rest env) Q E s' | f => Q f s') P → wpAny M A (exec st env) (Hold P) E' ⟨h, g, d, tk, o⟩) : wpAny M A (execs (st :: rest) env) Q E ⟨h, g, d, tk, o⟩ :=
  wpAny_execs_cons (k _ tk E fun _ _ q => q)
theorem hold_one {s : Shared} (k : wpAny M A (exec st env) Q E s) : wpAny M A (execs [st] env) Q E s :=
  wpAny_execs_cons (wpAny_mono k (fun f s' q => by cases f <;> first | exact wpAny_execs_nil q | exact q) fun _ _ e => e)
theorem e_op {α : Type} {c : Sem α} {Q : α → Shared → Prop} {s : Shared} (k : ∀ E' : Value → Shared → Prop, wpAny M A c Q E' s) : wpAny M A c Q E s := k E
theorem qe_op {α : Type} {c : Sem α} {Q : α → Shared → Prop} {s : Shared} (k : ∀ (P : α → Shared → Prop) (E' : Value → Shared → Prop), HoldK Q P → wpAny M A c (Hold P) E' s) : wpAny M A c Q E s := k Q E fun _ _ q => q
end
end Mine
end
section
open PySem PySem.W PyProof.Rows
namespace Mine
def RV.isInt : RV → Bool | .int _ => true | _ => false
def cmpV (op : Int) (x y : RV) : RV := if op = 23 then .bool (decide (x = y)) else match x, y with
  | .int i, .int j => .bool (if op = 24 then decide (i < j) else decide (i ≤ j))
  | _, _ => .none
def cst2 (k : Int) : RV := if k = 256 then .int 1 else if k = 257 then .int 2 else .bytes #[107]
def opd2 (xs : List RV) (k : Int) : RV := if k < 256 then xs.getD k.toNat .none else cst2 k
def goTo (g : Bool) (pc j : Int) : Int := if g then pc + 1 + j else pc + 1
def cmpOut (op ra : Int) (x y : RV) (pc j : Int) : Bool × Int := match cmpV op x y with
  | .bool f => (true, goTo (f == (ra != 0)) pc j)
  | _ => (false, pc)
structure R where
  (t a b c : Int)
def R.code (r : R) : Int := if r.t = 22 then 22 + 64 * r.a + 16384 * (131071 + r.b) else r.t + 64 * r.a + 16384 * r.c + 8388608 * r.b
def rowAt (rows : List R) (i : Int) : R := rows.getD i.toNat ⟨30, 0, 6, 0⟩
def okOpd (k : Int) : Prop := (0 ≤ k ∧ k < 5) ∨ k = 256 ∨ k = 257 ∨ k = 258
def okJ (n i : Int) (r : R) : Prop := r.t = 22 ∧ r.a = 0 ∧ r.c = 0 ∧ -2 ≤ r.b ∧ r.b ≤ 9 ∧ 0 ≤ i + 2 + r.b ∧ i + 2 + r.b < n
def okR (n i : Int) (r r' : R) : Prop :=
  (r.t = 0 ∧ (0 ≤ r.a ∧ r.a < 5) ∧ (0 ≤ r.b ∧ r.b < 5) ∧ r.c = 0 ∧ i + 1 < n) ∨
  (r.t = 2 ∧ (0 ≤ r.a ∧ r.a < 5) ∧ (0 ≤ r.b ∧ r.b ≤ 1) ∧ (0 ≤ r.c ∧ r.c ≤ 1) ∧ i + 2 < n) ∨
  (r.t = 22 ∧ r.a = 0 ∧ r.c = 0 ∧ (-2 ≤ r.b ∧ r.b ≤ 9) ∧ 0 ≤ i + 1 + r.b ∧ i + 1 + r.b < n) ∨
  ((23 ≤ r.t ∧ r.t ≤ 25) ∧ (0 ≤ r.a ∧ r.a ≤ 1) ∧ okOpd r.b ∧ okOpd r.c ∧ i + 2 < n ∧ okJ n i r') ∨
  ((26 ≤ r.t ∧ r.t ≤ 27) ∧ (0 ≤ r.a ∧ r.a < 5) ∧ (0 ≤ r.b ∧ r.b < 5) ∧ (0 ≤ r.c ∧ r.c ≤ 1) ∧ i + 2 < n ∧ okJ n i r') ∨
  (r.t = 30 ∧ r.a = 0 ∧ r.b = 6 ∧ r.c = 0)
def okRows (rows : List R) : Prop := 0 < rows.length ∧ rows.length ≤ 10 ∧ ∀ i : Int, 0 ≤ i → i < rows.length → okR rows.length i (rowAt rows i) (rowAt rows (i + 1))
inductive Out | back (xs : List RV) | stopped (i : Int) | steps (i : Int)
def stepR (rows : List R) (i : Int) (xs : List RV) : Out ⊕ (Int × List RV) :=
  let r := rowAt rows i
  let j := (rowAt rows (i + 1)).b
  if r.t = 30 then .inl (.back (xs.take 5))
  else if r.t = 0 then .inr (i + 1, xs.set r.a.toNat (xs.getD r.b.toNat .none))
  else if r.t = 2 then .inr (i + 1 + (if r.c = 0 then 0 else 1), xs.set r.a.toNat (.bool (r.b != 0)))
  else if r.t = 22 then .inr (i + 1 + r.b, xs)
  else if r.t ≤ 25 then (match cmpV r.t (opd2 xs r.b) (opd2 xs r.c) with
    | .bool f => .inr (goTo (f == (r.a != 0)) (i + 1) j, xs)
    | _ => .inl (.stopped i))
  else
    let v := xs.getD (if r.t = 26 then r.a else r.b).toNat .none
    let g := isFalse v != (r.c != 0)
    .inr (goTo g (i + 1) j, if r.t = 27 ∧ g = true then xs.set r.a.toNat v else xs)
def runR (rows : List R) : Nat → Int → List RV → Out
  | 0, i, _ => .steps i
  | n + 1, i, xs => match stepR rows i xs with
    | .inl o => o
    | .inr (i', xs') => runR rows n i' xs'
theorem opd_bd {k : Int} (h : okOpd k) : 0 ≤ k ∧ k < 512 := by
  rcases h with h | h | h | h
  · exact ⟨h.1, Int.lt_trans h.2 (by decide)⟩
  all_goals (subst h; decide)
theorem low (x y : Int) (n : Int) (hx : 0 ≤ x ∧ x < n) : (x + n * y) % n = x ∧ (x + n * y) / n = y := by
  obtain ⟨h0, h1⟩ := hx
  have hn : 0 < n := Int.lt_of_le_of_lt h0 h1
  refine ⟨?_, ?_⟩
  · rw [Int.add_mul_emod_self_left, Int.emod_eq_of_lt h0 h1]
  · rw [Int.add_mul_ediv_left _ _ (Int.ne_of_gt hn), Int.ediv_eq_zero_of_lt h0 h1, Int.zero_add]
theorem enc_nn {x y z v : Int} (h : 0 ≤ x) (hy : 0 ≤ y) (hz : 0 ≤ z) (hv : 0 ≤ v) : 0 ≤ x + 64 * y + 16384 * z + 8388608 * v := by omega
theorem enc_lt {x y z v : Int} (h : x < 64) (hy : y < 256) (hz : z < 512) (hv : v < 512) : x + 64 * y + 16384 * z + 8388608 * v < 2 ^ 40 := by omega
theorem enc_eq (t a b c : Int) : t + 64 * a + 16384 * c + 8388608 * b = t + 64 * (a + 256 * (c + 512 * b)) := by omega
theorem div_two (x : Int) : x / 16384 = x / 64 / 256 := by rw [Int.ediv_ediv_of_nonneg (by decide)]; rfl
theorem div_three (x : Int) : x / 8388608 = x / 64 / 256 / 512 := by rw [Int.ediv_ediv_of_nonneg (by decide), Int.ediv_ediv_of_nonneg (by decide)]; rfl
theorem enc_ok {t a b c : Int} (ht : 0 ≤ t ∧ t < 64) (ha : 0 ≤ a ∧ a < 256) (hc : 0 ≤ c ∧ c < 512) (hb : 0 ≤ b ∧ b < 512) :
    (0 ≤ t + 64 * a + 16384 * c + 8388608 * b ∧ t + 64 * a + 16384 * c + 8388608 * b < 2 ^ 40) ∧ (t + 64 * a + 16384 * c + 8388608 * b) % 64 = t ∧ (t + 64 * a + 16384 * c + 8388608 * b) / 64 % 256 = a ∧
    (t + 64 * a + 16384 * c + 8388608 * b) / 8388608 = b ∧ (t + 64 * a + 16384 * c + 8388608 * b) / 16384 % 512 = c := by
  have h1 := low t (a + 256 * (c + 512 * b)) 64 ht
  have h2 := low a (c + 512 * b) 256 ha
  have h3 := low c b 512 hc
  refine ⟨⟨enc_nn ht.1 ha.1 hc.1 hb.1, enc_lt ht.2 ha.2 hc.2 hb.2⟩, ?_, ?_, ?_, ?_⟩
  · rw [enc_eq, h1.1]
  · rw [enc_eq, h1.2, h2.1]
  · rw [div_three, enc_eq, h1.2, h2.2, h3.2]
  · rw [div_two, enc_eq, h1.2, h2.2, h3.1]
theorem bd_in {x n : Int} (y : Int) (h : 0 ≤ x ∧ x < y) (hn : y ≤ n) : 0 ≤ x ∧ x < n := ⟨h.1, Int.lt_of_lt_of_le h.2 hn⟩
theorem bd_le {x n : Int} (l y : Int) (h : l ≤ x ∧ x ≤ y) (hl : 0 ≤ l) (hn : y < n) : 0 ≤ x ∧ x < n := ⟨Int.le_trans hl h.1, Int.lt_of_le_of_lt h.2 hn⟩
theorem bd_eq {x n : Int} (y : Int) (h : x = y) (hn : 0 ≤ y ∧ y < n) : 0 ≤ x ∧ x < n := h ▸ hn
theorem ne22 {t : Int} (l : Int) (h : l ≤ t) (k : 22 < l) : t ≠ 22 := Int.ne_of_gt (Int.lt_of_lt_of_le k h)
theorem opd_len {k : Int} {n : Nat} (h : okOpd k) (hn : 5 ≤ n) : (0 ≤ k ∧ k < 256 ∧ k < n) ∨ k = 256 ∨ k = 257 ∨ k = 258 :=
  h.imp (fun h => ⟨h.1, Int.lt_trans h.2 (by decide), Int.lt_of_lt_of_le h.2 (Int.ofNat_le.mpr hn)⟩) id
theorem okR_ret {n i : Int} {r r' : R} (h : okR n i r r') (ht : r.t = 30) : r.a = 0 ∧ r.b = 6 ∧ r.c = 0 := by
  rcases h with h | h | h | h | h | h
  · exact absurd (h.1.symm.trans ht) (by decide)
  · exact absurd (h.1.symm.trans ht) (by decide)
  · exact absurd (h.1.symm.trans ht) (by decide)
  · exact absurd (ht ▸ h.1.2 : (30 : Int) ≤ 25) (by decide)
  · exact absurd (ht ▸ h.1.2 : (30 : Int) ≤ 27) (by decide)
  · exact h.2
theorem okR_small {n i : Int} {r r' : R} (h : okR n i r r') : (r.t = 22 ∧ r.a = 0 ∧ -2 ≤ r.b ∧ r.b ≤ 9) ∨ (r.t ≠ 22 ∧ (0 ≤ r.t ∧ r.t < 64) ∧ (0 ≤ r.a ∧ r.a < 256) ∧ (0 ≤ r.c ∧ r.c < 512) ∧ (0 ≤ r.b ∧ r.b < 512)) := by
  rcases h with h | h | h | h | h | h
  · exact .inr ⟨by rw [h.1]; decide, bd_eq 0 h.1 (by decide), bd_in 5 h.2.1 (by decide), bd_eq 0 h.2.2.2.1 (by decide), bd_in 5 h.2.2.1 (by decide)⟩
  · exact .inr ⟨by rw [h.1]; decide, bd_eq 2 h.1 (by decide), bd_in 5 h.2.1 (by decide), bd_le 0 1 h.2.2.2.1 (by decide) (by decide), bd_le 0 1 h.2.2.1 (by decide) (by decide)⟩
  · exact .inl ⟨h.1, h.2.1, h.2.2.2.1⟩
  · exact .inr ⟨ne22 23 h.1.1 (by decide), bd_le 23 25 h.1 (by decide) (by decide), bd_le 0 1 h.2.1 (by decide) (by decide), opd_bd h.2.2.2.1, opd_bd h.2.2.1⟩
  · exact .inr ⟨ne22 26 h.1.1 (by decide), bd_le 26 27 h.1 (by decide) (by decide), bd_in 5 h.2.1 (by decide), bd_le 0 1 h.2.2.2.1 (by decide) (by decide), bd_in 5 h.2.2.1 (by decide)⟩
  · exact .inr ⟨by rw [h.1]; decide, bd_eq 30 h.1 (by decide), bd_eq 0 h.2.1 (by decide), bd_eq 0 h.2.2.2 (by decide), bd_eq 6 h.2.2.1 (by decide)⟩
theorem jmp_ok {b : Int} (h : -2 ≤ b ∧ b ≤ 9) : (0 ≤ 22 + 64 * 0 + 16384 * (131071 + b) ∧ 22 + 64 * 0 + 16384 * (131071 + b) < 2 ^ 40) ∧ (22 + 64 * 0 + 16384 * (131071 + b)) % 64 = 22 ∧ (22 + 64 * 0 + 16384 * (131071 + b)) / 64 % 256 = 0 ∧ (22 + 64 * 0 + 16384 * (131071 + b)) / 16384 - 131071 = b := by
  obtain ⟨h0, h1⟩ := h
  refine ⟨⟨?_, ?_⟩, ?_, ?_, ?_⟩ <;> omega
theorem code_ok {n i : Int} {r r' : R} (h : okR n i r r') : (0 ≤ r.code ∧ r.code < 2 ^ 40) ∧ r.code % 64 = r.t ∧ r.code / 64 % 256 = r.a ∧ (r.t ≠ 22 → r.code / 8388608 = r.b ∧ r.code / 16384 % 512 = r.c) ∧ (r.t = 22 → r.code / 16384 - 131071 = r.b) := by
  rcases okR_small h with ⟨h1, h2, h3⟩ | ⟨h1, h2, h3, h4, h5⟩
  · have e : r.code = 22 + 64 * 0 + 16384 * (131071 + r.b) := by unfold R.code; rw [if_pos h1, h2]
    have k := jmp_ok h3
    rw [e]
    exact ⟨k.1, by rw [h1]; exact k.2.1, by rw [h2]; exact k.2.2.1, fun q => absurd h1 q, fun _ => k.2.2.2⟩
  · have e : r.code = r.t + 64 * r.a + 16384 * r.c + 8388608 * r.b := by unfold R.code; rw [if_neg h1]
    have k := enc_ok h2 h3 h4 h5
    rw [e]
    exact ⟨k.1, k.2.1, k.2.2.1, fun _ => ⟨k.2.2.2.1, k.2.2.2.2⟩, fun q => absurd q h1⟩
theorem codeJ_ok {n i : Int} {r : R} (h : okJ n i r) : (0 ≤ r.code ∧ r.code < 2 ^ 40) ∧ r.code / 16384 - 131071 = r.b := by
  have e : r.code = 22 + 64 * 0 + 16384 * (131071 + r.b) := by unfold R.code; rw [if_pos h.1, h.2.1]
  have k := jmp_ok ⟨h.2.2.2.1, h.2.2.2.2.1⟩
  rw [e]
  exact ⟨k.1, k.2.2.2⟩
theorem turn_sub {i : Nat} (h : i < 24) : 24 - i = (24 - (i + 1)) + 1 := by omega
theorem pc_small {pc : Int} {n : Nat} (h0 : 0 ≤ pc) (h1 : pc < n) (hn : n ≤ 10) : 0 ≤ pc + 1 ∧ pc + 1 < 100 := ⟨by omega, by omega⟩
theorem codes_getD (rows : List R) (i : Int) (h0 : 0 ≤ i) (h1 : i < rows.length) : (rows.map R.code).getD i.toNat 0 = (rowAt rows i).code := by
  have : i.toNat < rows.length := by omega
  simp [rowAt, this]
theorem goTo_ok {n i : Int} {r : R} (h : okJ n i r) (hn : i + 2 < n) (h0 : 0 ≤ i) (g : Bool) : 0 ≤ goTo g (i + 1) r.b ∧ goTo g (i + 1) r.b < n := by
  obtain ⟨t, a, b, c⟩ := r
  simp only [okJ] at h
  cases g <;> simp only [goTo, if_true, Bool.false_eq_true, if_false] <;> omega
theorem step_ok {rows : List R} (h : okRows rows) {i i' : Int} {xs xs' : List RV} (h0 : 0 ≤ i) (h1 : i < rows.length) (e : stepR rows i xs = .inr (i', xs')) : 0 ≤ i' ∧ i' < rows.length ∧ xs'.length = xs.length := by
  have hr := h.2.2 i h0 h1
  revert e
  unfold stepR
  dsimp only
  generalize rowAt rows i = r at hr ⊢
  generalize rowAt rows (i + 1) = r' at hr ⊢
  intro e
  rcases hr with ⟨ht, ha, hb, hc, hn⟩ | ⟨ht, ha, hb, hc, hn⟩ | ⟨ht, ha, hb, hc, hn⟩ | ⟨ht, ha, hb, hc, hn, hj⟩ | ⟨ht, ha, hb, hc, hn, hj⟩ | ⟨ht, ha, hb, hc⟩
  · rw [if_neg (by omega), if_pos ht] at e
    cases e
    exact ⟨by omega, by omega, List.length_set⟩
  · rw [if_neg (by omega), if_neg (by omega), if_pos ht] at e
    cases e
    refine ⟨?_, ?_, List.length_set⟩ <;> split <;> omega
  · rw [if_neg (by omega), if_neg (by omega), if_neg (by omega), if_pos ht] at e
    cases e
    exact ⟨by omega, by omega, rfl⟩
  · rw [if_neg (by omega), if_neg (by omega), if_neg (by omega), if_neg (by omega), if_pos (by omega)] at e
    split at e
    · cases e
      have := goTo_ok hj hn h0
      exact ⟨(this _).1, (this _).2, rfl⟩
    · cases e
  · rw [if_neg (by omega), if_neg (by omega), if_neg (by omega), if_neg (by omega), if_neg (by omega)] at e
    cases e
    have := goTo_ok hj hn h0
    refine ⟨(this _).1, (this _).2, ?_⟩
    generalize (xs.getD (if r.t = 26 then r.a else r.b).toNat RV.none) = v
    by_cases hc2 : r.t = 27 ∧ (isFalse v != (r.c != 0)) = true
    · rw [if_pos hc2]; exact List.length_set
    · rw [if_neg hc2]
  · rw [if_pos ht] at e
    cases e
theorem opd_pad (ys ps : List RV) (hy : ys.length = 5) {k : Int} (h : okOpd k) : opd2 (ys ++ ps) k = opd2 ys k := by
  unfold opd2
  split
  · next hlt =>
    have : k.toNat < ys.length := by
      rcases h with h | h | h | h
      · omega
      all_goals (subst h; exact absurd hlt (by decide))
    simp [List.getD, List.getElem?_append_left this]
  · rfl
theorem getD_pad (ys ps : List RV) (hy : ys.length = 5) {k : Int} (h : 0 ≤ k ∧ k < 5) : (ys ++ ps).getD k.toNat .none = ys.getD k.toNat .none := by
  have : k.toNat < ys.length := by omega
  simp [List.getD, List.getElem?_append_left this]
theorem set_pad (ys ps : List RV) (hy : ys.length = 5) {k : Int} (h : 0 ≤ k ∧ k < 5) (v : RV) : (ys ++ ps).set k.toNat v = ys.set k.toNat v ++ ps := by
  have : k.toNat < ys.length := by omega
  rw [List.set_append, if_pos this]
def mapOut (ps : List RV) : Out ⊕ (Int × List RV) → Out ⊕ (Int × List RV)
  | .inl o => .inl o
  | .inr (i, xs) => .inr (i, xs ++ ps)
theorem step_pad {rows : List R} (h : okRows rows) {i : Int} {ys : List RV} (ps : List RV) (hy : ys.length = 5) (h0 : 0 ≤ i) (h1 : i < rows.length) : stepR rows i (ys ++ ps) = mapOut ps (stepR rows i ys) := by
  have hr := h.2.2 i h0 h1
  unfold stepR
  dsimp only
  generalize rowAt rows i = r at hr ⊢
  generalize rowAt rows (i + 1) = r' at hr ⊢
  rcases hr with ⟨ht, ha, hb, hc, hn⟩ | ⟨ht, ha, hb, hc, hn⟩ | ⟨ht, ha, hb, hc, hn⟩ | ⟨ht, ha, hb, hc, hn, hj⟩ | ⟨ht, ha, hb, hc, hn, hj⟩ | ⟨ht, ha, hb, hc⟩
  · rw [if_neg (by omega), if_pos ht, if_neg (by omega), if_pos ht, getD_pad ys ps hy hb, set_pad ys ps hy ha]
    rfl
  · have q1 : ¬ r.t = 30 := by omega
    have q2 : ¬ r.t = 0 := by omega
    rw [if_neg q1, if_neg q2, if_pos ht, if_neg q1, if_neg q2, if_pos ht, set_pad ys ps hy ha]
    rfl
  · rw [if_neg (by omega), if_neg (by omega), if_neg (by omega), if_pos ht, if_neg (by omega), if_neg (by omega), if_neg (by omega), if_pos ht]
    rfl
  · rw [if_neg (by omega), if_neg (by omega), if_neg (by omega), if_neg (by omega), if_pos (by omega), if_neg (by omega), if_neg (by omega), if_neg (by omega), if_neg (by omega), if_pos (by omega), opd_pad ys ps hy hb, opd_pad ys ps hy hc]
    cases cmpV r.t (opd2 ys r.b) (opd2 ys r.c) <;> rfl
  · have q1 : ¬ r.t = 30 := by omega
    have q2 : ¬ r.t = 0 := by omega
    have q3 : ¬ r.t = 2 := by omega
    have q4 : ¬ r.t = 22 := by omega
    have q5 : ¬ r.t ≤ 25 := by omega
    have e1 : (ys ++ ps).getD (if r.t = 26 then r.a else r.b).toNat .none = ys.getD (if r.t = 26 then r.a else r.b).toNat .none := by
      split
      · exact getD_pad ys ps hy ha
      · exact getD_pad ys ps hy hb
    simp only [q1, q2, q3, q4, q5, if_false, e1, set_pad ys ps hy ha, mapOut]
    congr 2
    generalize (ys.getD (if r.t = 26 then r.a else r.b).toNat RV.none) = v
    by_cases hc2 : r.t = 27 ∧ (isFalse v != (r.c != 0)) = true
    · rw [if_pos hc2, if_pos hc2]
    · rw [if_neg hc2, if_neg hc2]
  · rw [if_pos ht, if_pos ht]
    simp only [mapOut, List.take_append_of_le_length (show 5 ≤ ys.length by omega)]
theorem run_pad {rows : List R} (h : okRows rows) (ps : List RV) : ∀ (n : Nat) {i : Int} {ys : List RV}, ys.length = 5 → 0 ≤ i → i < rows.length → runR rows n i (ys ++ ps) = runR rows n i ys
  | 0, _, _, _, _, _ => rfl
  | n + 1, i, ys, hy, h0, h1 => by
    unfold runR
    rw [step_pad h ps hy h0 h1]
    cases e : stepR rows i ys with
    | inl o => rfl
    | inr q =>
      obtain ⟨i', xs'⟩ := q
      have k := step_ok h h0 h1 e
      exact run_pad h ps n (k.2.2.trans hy) k.1 k.2.1
end Mine
end
section
open PySem PySem.W PyProof.Rows PySem.Calls PyProof.Rows.LCg PyProof.Rows.LCt
namespace Mine
section
variable {prog : Program} {w : World} {A : Around} {E : Value → Shared → Prop} {s : Shared} {h₀ : Heap} {L : Addr} {m : Str → Option Value} {env : Env}
def TupAt (ax : Addr) (its : Array Value) (news : List (Addr × Obj)) : Prop := ∃ o, (ax, o) ∈ news ∧ o.cls = .type "tuple" ∧ ∃ n, o.data = .seq its n
theorem TupAt.tup {h : Heap} {ax : Addr} {its : Array Value} {news : List (Addr × Obj)} (x : TupAt ax its news) (N : News h₀ L h news) : h.IsTuple ax its := let ⟨o, hm, r⟩ := x; ⟨o, (N _ hm).1, r⟩
theorem tuple_st {ax I : Addr} {its : Array Value} : ∀ i (h h' : Heap) (o : Obj) (nw : List (Addr × Obj)), (h.IsTupleIter I ax i ∧ h.IsTuple ax its) → h.get? I = some o → h'.get? I = some o → (∀ b o, h₀.get? b = some o → h'.get? b = some o) → News h₀ L h' nw → TupAt ax its nw → (h'.IsTupleIter I ax i ∧ h'.IsTuple ax its) :=
  fun i h h' o nw st e e' k N S => ⟨by obtain ⟨o', q, r⟩ := st.1; rw [e] at q; cases q; exact ⟨o, e', r⟩, S.tup N⟩
def CompSrcP (prog : Program) (w : World) (A : Around) (h₀ : Heap) (L : Addr) (m : Str → Option Value) (env : Env) (elt : PySem.Expr) (x : Str) (scope : Scope) (cl : List (Str × Addr)) (Fin : Shared → List Value → List (Addr × Obj) → Prop) (xv : Value) (s₁ : Shared) : Prop :=
  ∃ ax its news, xv = .ref ax ∧ A.handled = none ∧ Fr h₀ L s₁.heap m ∧ News h₀ L s₁.heap news ∧ TupAt ax its news ∧ its.size ≤ sizeLine ∧
    ∀ s₂ : Shared, (∃ h, s₂ = { s₁ with heap := h }) → CompRest prog w A h₀ L m env elt x scope cl s₂ (TupAt ax its) (fun i v => its[i]? = some v) (Fin s₂) its.size 0 [] news
def CompSrcPT (prog : Program) (w : World) (A : Around) (h₀ : Heap) (L : Addr) (m : Str → Option Value) (env : Env) (ct elt : PySem.Expr) (x : Str) (scope : Scope) (cl : List (Str × Addr)) (Fin : Shared → List Value → List (Addr × Obj) → Prop) (xv : Value) (s₁ : Shared) : Prop :=
  ∃ ax its news, xv = .ref ax ∧ A.handled = none ∧ Fr h₀ L s₁.heap m ∧ News h₀ L s₁.heap news ∧ TupAt ax its news ∧ its.size ≤ sizeLine ∧
    ∀ s₂ : Shared, (∃ h, s₂ = { s₁ with heap := h }) → CompRestT prog w A h₀ L m env ct elt x scope cl s₂ (TupAt ax its) (fun i v => its[i]? = some v) (Fin s₂) its.size 0 [] news
theorem CompSrcP.ledger {elt : PySem.Expr} {x : Str} {scope : Scope} {cl : List (Str × Addr)} {Fin : Shared → List Value → List (Addr × Obj) → Prop} {ax : Addr} {its : Array Value} {k : Nat} {news : List (Addr × Obj)} {s₁ : Shared}
    (hh : A.handled = none) (F : Fr h₀ L s₁.heap m) (N : News h₀ L s₁.heap news) (hm : (ax, ({ cls := .type "tuple", data := .seq its k } : Obj)) ∈ news) (hsz : its.size ≤ sizeLine)
    (h : ∀ g, CompRest prog w A h₀ L m env elt x scope cl { s₁ with heap := g } (TupAt ax its) (fun i v => its[i]? = some v) (Fin { s₁ with heap := g }) its.size 0 [] news) :
    CompSrcP prog w A h₀ L m env elt x scope cl Fin (.ref ax) s₁ := ⟨ax, its, news, rfl, hh, F, N, ⟨_, hm, rfl, _, rfl⟩, hsz, fun _ ⟨g, e⟩ => e ▸ h g⟩
theorem CompSrcPT.ledger {ct elt : PySem.Expr} {x : Str} {scope : Scope} {cl : List (Str × Addr)} {Fin : Shared → List Value → List (Addr × Obj) → Prop} {ax : Addr} {its : Array Value} {k : Nat} {news : List (Addr × Obj)} {s₁ : Shared}
    (hh : A.handled = none) (F : Fr h₀ L s₁.heap m) (N : News h₀ L s₁.heap news) (hm : (ax, ({ cls := .type "tuple", data := .seq its k } : Obj)) ∈ news) (hsz : its.size ≤ sizeLine)
    (h : ∀ g, CompRestT prog w A h₀ L m env ct elt x scope cl { s₁ with heap := g } (TupAt ax its) (fun i v => its[i]? = some v) (Fin { s₁ with heap := g }) its.size 0 [] news) :
    CompSrcPT prog w A h₀ L m env ct elt x scope cl Fin (.ref ax) s₁ := ⟨ax, its, news, rfl, hh, F, N, ⟨_, hm, rfl, _, rfl⟩, hsz, fun _ ⟨g, e⟩ => e ▸ h g⟩
theorem up_tu {s₁ : Shared} {ax : Addr} : ∀ b o, s₁.heap.get? b = some o → (s₁.heap.push { cls := .type "tuple_iterator", data := .fields #[.ref ax, .int 0 0] }).get? b = some o := fun b o e => Heap.get?_push_of_some _ e
theorem fp_tu {s₁ : Shared} {ax : Addr} (hlt : ax < s₁.heap.objs.size) : ∀ b ∈ [s₁.heap.objs.size, ax], b < (s₁.heap.push { cls := .type "tuple_iterator", data := .fields #[.ref ax, .int 0 0] }).objs.size := by
  intro b hb
  rw [Heap.size_push]
  rcases List.mem_cons.mp hb with rfl | hb
  · exact Nat.lt_succ_self _
  · rw [List.mem_singleton.mp hb]; exact Nat.lt_succ_of_lt hlt
theorem ListComp_P {elt : PySem.Expr} {es : List PySem.Expr} {c : Nat} {ps : Pos} {x : Str} {px : Pos} {scope : Scope} {cl : List (Str × Addr)} {pos : Pos} {Q : Value → Shared → Prop} (F₀ : Fr h₀ L s.heap m)
    (hclos : closureFor scope env = pure cl) (hcell : ∀ y ∈ scope.names, y.2 ≠ .cell) (hkind : scope.kind = .function)
    (hnames : ∀ y ∈ scope.names, y.2 = .local → scope.names.lookup y.1 = some .local) (hx : scope.names.lookup x = some .local)
    (h : wpAny (model prog w) A (eval (.Tuple es c ps) env) (CompSrcP prog w A h₀ L m env elt x scope cl (fun s₂ => FinE h₀ L m s₂ Q)) E s)
    (hs : ∀ x, foldedSetIterable (.Tuple es c ps) env x = pure x := by intro _; rfl) :
    wpAny (model prog w) A (eval (.ListComp elt [⟨.Name x px, .Tuple es c ps, [], 0⟩] scope pos) env) Q E s := by
  rw [eval_ListComp]
  refine wpAny_comprehension_free (use := none) rfl hs hclos hkind hnames (wpAny_mono h (fun xv s₁ h₁ => ?_) fun _ _ e => e)
  obtain ⟨ax, its, news, rfl, hh, F, N, S, hsz, R⟩ := h₁
  have hl := S.tup N
  have hlt : ax < s₁.heap.objs.size := by obtain ⟨_, e, _⟩ := hl; exact Heap.lt_size e
  refine wpAny_pyIter_tuple hl ?_
  refine block_U (Walks.tuple hh s₁.heap.objs.size ax (Nat.ne_of_lt hlt) its) hsz (fun i h st => by obtain ⟨o, e, _⟩ := st.1; exact ⟨o, e⟩) tuple_st hcell hkind hx ⟨⟨_, Heap.get?_push_size _ rfl, rfl, rfl⟩, hl.at (up_tu ax)⟩ (fp_tu hlt)
    (F.keeps up_tu) (N.grown up_tu) (Nat.ne_of_lt F.ns.lt) (next_is_new F) (fun p hp => Nat.ne_of_lt (Heap.lt_size (N p hp).1)) S (R _ ⟨_, rfl⟩) ?_
  intro D C h tk m' ys news' F' N' o1 hn hC₀ hD₀ hCL hDL hCD offC fin
  refine ⟨m', hn, fun h'' hs'' => fin D h'' tk (F'.change hs'' hCL hC₀) (fun p hp => ?_) o1⟩
  refine ⟨hs''.extBut _ _ ?_ (N' p hp).1, (N' p hp).2⟩
  rcases List.mem_cons.mp hp with rfl | hp
  · exact Ne.symm hCD
  · exact offC p hp
theorem ListComp_PT {ct elt : PySem.Expr} {es : List PySem.Expr} {c : Nat} {ps : Pos} {x : Str} {px : Pos} {scope : Scope} {cl : List (Str × Addr)} {pos : Pos} {Q : Value → Shared → Prop} (F₀ : Fr h₀ L s.heap m)
    (hclos : closureFor scope env = pure cl) (hcell : ∀ y ∈ scope.names, y.2 ≠ .cell) (hkind : scope.kind = .function)
    (hnames : ∀ y ∈ scope.names, y.2 = .local → scope.names.lookup y.1 = some .local) (hx : scope.names.lookup x = some .local)
    (h : wpAny (model prog w) A (eval (.Tuple es c ps) env) (CompSrcPT prog w A h₀ L m env ct elt x scope cl (fun s₂ => FinE h₀ L m s₂ Q)) E s)
    (hs : ∀ x, foldedSetIterable (.Tuple es c ps) env x = pure x := by intro _; rfl) :
    wpAny (model prog w) A (eval (.ListComp elt [⟨.Name x px, .Tuple es c ps, [ct], 0⟩] scope pos) env) Q E s := by
  rw [eval_ListComp]
  refine wpAny_comprehension_free (use := none) rfl hs hclos hkind hnames (wpAny_mono h (fun xv s₁ h₁ => ?_) fun _ _ e => e)
  obtain ⟨ax, its, news, rfl, hh, F, N, S, hsz, R⟩ := h₁
  have hl := S.tup N
  have hlt : ax < s₁.heap.objs.size := by obtain ⟨_, e, _⟩ := hl; exact Heap.lt_size e
  refine wpAny_pyIter_tuple hl ?_
  refine block_T (Walks.tuple hh s₁.heap.objs.size ax (Nat.ne_of_lt hlt) its) hsz (fun i h st => by obtain ⟨o, e, _⟩ := st.1; exact ⟨o, e⟩) tuple_st hcell hkind hx ⟨⟨_, Heap.get?_push_size _ rfl, rfl, rfl⟩, hl.at (up_tu ax)⟩ (fp_tu hlt)
    (F.keeps up_tu) (N.grown up_tu) (Nat.ne_of_lt F.ns.lt) (next_is_new F) (fun p hp => Nat.ne_of_lt (Heap.lt_size (N p hp).1)) S (R _ ⟨_, rfl⟩) ?_
  intro D C h tk m' ys news' F' N' o1 hn hC₀ hD₀ hCL hDL hCD offC fin
  refine ⟨m', hn, fun h'' hs'' => fin D h'' tk (F'.change hs'' hCL hC₀) (fun p hp => ?_) o1⟩
  refine ⟨hs''.extBut _ _ ?_ (N' p hp).1, (N' p hp).2⟩
  rcases List.mem_cons.mp hp with rfl | hp
  · exact Ne.symm hCD
  · exact offC p hp
theorem Assign_ListComp_P {elt : PySem.Expr} {es : List PySem.Expr} {c : Nat} {ps : Pos} {x y : Str} {px py : Pos} {scope : Scope} {cl : List (Str × Addr)} {pos spos : Pos} {Q : Flow → Shared → Prop} (F₀ : Fr h₀ L s.heap m) (hLe : env.locals = L)
    (hsw : swapsWith (.ListComp elt [⟨.Name x px, .Tuple es c ps, [], 0⟩] scope pos) (some (.Name y py)) spos.line env = pure true)
    (hclos : closureFor scope env = pure cl) (hcell : ∀ z ∈ scope.names, z.2 ≠ .cell) (hkind : scope.kind = .function)
    (hnames : ∀ z ∈ scope.names, z.2 = .local → scope.names.lookup z.1 = some .local) (hx : scope.names.lookup x = some .local)
    (hy : env.kindOf y = some .local) (hp : (env.scope.kind == .class || (env.scope.kind == .module && env.locals != env.globals)) = false)
    (h : wpAny (model prog w) A (eval (.Tuple es c ps) env) (CompSrcP prog w A h₀ L m env elt x scope cl (fun s₂ => FinA h₀ L m s₂ y Q)) E s)
    (hs : ∀ x, foldedSetIterable (.Tuple es c ps) env x = pure x := by intro _; rfl) :
    wpAny (model prog w) A (exec (.Assign [.Name y py] (.ListComp elt [⟨.Name x px, .Tuple es c ps, [], 0⟩] scope pos) spos) env) Q E s := by
  subst hLe
  rw [exec_Assign_Name_used _ _ _ _ hsw]
  refine wpAny_bind (wpAny_standAt (wpAny_bind ?_))
  show wpAny _ A (do let _ ← comprehension (.ListComp elt [⟨.Name x px, .Tuple es c ps, [], 0⟩] scope pos) scope env _ (newList []) false (eval (.Tuple es c ps) env) (some (assign (.Name y py) env))) _ _ s
  refine wpAny_bind (wpAny_mono (wpAny_comprehension_free (use := some (assign (.Name y py) env)) (Q := fun _ s' => Q .next s') rfl hs hclos hkind hnames
    (wpAny_mono h (fun xv s₁ h₁ => ?_) fun _ _ e => e)) (fun _ s' hq => wpAny_pure (wpAny_pure hq)) fun _ _ e => e)
  obtain ⟨ax, its, news, rfl, hh, F, N, S, hsz, R⟩ := h₁
  have hl := S.tup N
  have hlt : ax < s₁.heap.objs.size := by obtain ⟨_, e, _⟩ := hl; exact Heap.lt_size e
  refine wpAny_pyIter_tuple hl ?_
  refine block_U (Walks.tuple hh s₁.heap.objs.size ax (Nat.ne_of_lt hlt) its) hsz (fun i h st => by obtain ⟨o, e, _⟩ := st.1; exact ⟨o, e⟩) tuple_st hcell hkind hx ⟨⟨_, Heap.get?_push_size _ rfl, rfl, rfl⟩, hl.at (up_tu ax)⟩ (fp_tu hlt)
    (F.keeps up_tu) (N.grown up_tu) (Nat.ne_of_lt F.ns.lt) (next_is_new F) (fun p hp => Nat.ne_of_lt (Heap.lt_size (N p hp).1)) S (R _ ⟨_, rfl⟩) ?_
  intro D C h' tk m' ys news' F' N' o1 hn hC₀ hD₀ hCL hDL hCD offC fin
  show wpAny _ A (assign (.Name y py) env (.ref D)) _ _ _
  refine wpAny_assign_Name (wpAny_storeName_local hy F'.ns (fun h₂ hn₂ hs₂ => ?_) hp)
  have hL₀ : h₀.get? env.locals = none := Heap.get?_none_of_le F'.above
  have F₂ : Fr h₀ env.locals h₂ (fun z => if z = y then some (.ref D) else m z) := ⟨hn₂, fun b o e => hs₂.extBut b o (fun q => by rw [q, hL₀] at e; cases e) (F'.keep b o e), F'.above⟩
  refine ⟨m', hn.sameBut hs₂ hCL, fun h'' hs'' => fin D h'' _ (F₂.change hs'' hCL hC₀) (fun p hp => ?_) o1⟩
  have z : h₂.get? p.1 = some p.2 := hs₂.extBut _ _ (N' p hp).2.1 (N' p hp).1
  refine ⟨hs''.extBut _ _ ?_ z, (N' p hp).2⟩
  rcases List.mem_cons.mp hp with rfl | hp
  · exact Ne.symm hCD
  · exact offC p hp
end
section
variable {prog : Program} {w : World} {A : Around} {s : Shared} {h₀ : Heap} {L : Addr} {m : Str → Option Value} {env : Env}
theorem compEnd_mono {C D I : Addr} {s₁ : Shared} {oI oC oD : Obj} {S : List (Addr × Obj) → Prop} {r r' : Value → List (Addr × Obj) → Prop} (h : ∀ y n, r y n → r' y n) (y : Value) (s₂ : Shared) :
    CompEnd h₀ L m s₁ I oI C oC D oD S r y s₂ → CompEnd h₀ L m s₁ I oI C oC D oD S r' y s₂ := fun ⟨h', tk, n', a, b, c, d, e, f⟩ => ⟨h', tk, n', a, b, c, d, e, h _ _ f⟩
theorem compT_inv {ct elt : PySem.Expr} {x : Str} {scope : Scope} {cl : List (Str × Addr)} {S : List (Addr × Obj) → Prop} {P : Nat → Value → Prop} {Fin : List Value → List (Addr × Obj) → Prop} {n : Nat}
    (J : Nat → List Value → List (Addr × Obj) → Prop)
    (turn : ∀ i ys news v I oI C oC D m₂ h tk (E' : Value → Shared → Prop), i < n → J i ys news → P i v → NsObj oC m₂ → m₂ x = some v → Fr h₀ L h m → News h₀ L h ((I, oI) :: (C, oC) :: (D, lst ys) :: news) → Off3 I C D news → ((@Ne Nat I C) ∧ (@Ne Nat I D) ∧ (@Ne Nat C D)) →
      wpAny (model prog w) A (isTrue ct (compEnvC scope cl C env) (eval ct (compEnvC scope cl C env))) (fun ok s' => if ok = true then
        wpAny (model prog w) A (eval elt (compEnvC scope cl C env)) (CompEnd h₀ L m { s with heap := h, toks := tk } I oI C oC D (lst ys) S (fun y news' => J (i + 1) (ys ++ [y]) news')) E' s'
        else CompEnd h₀ L m { s with heap := h, toks := tk } I oI C oC D (lst ys) S (fun _ news' => J (i + 1) ys news') Value.none s') E' { s with heap := h, toks := tk })
    (fin : ∀ ys news, J n ys news → Fin ys news) :
    ∀ k i ys news, i + k = n → J i ys news → CompRestT prog w A h₀ L m env ct elt x scope cl s S P Fin k i ys news
  | 0, i, ys, news, e, hj => fin ys news (by rw [Nat.add_zero] at e; exact e ▸ hj)
  | k + 1, i, ys, news, e, hj => fun v I oI C oC D m₂ h tk E' hv hC hx F N off ne => by
    refine wpAny_mono (turn i ys news v I oI C oC D m₂ h tk E' (by omega) hj hv hC hx F N off ne) (fun ok s' h' => ?_) fun _ _ e => e
    cases ok with
    | true =>
      simp only [if_true] at h' ⊢
      exact wpAny_mono h' (fun y s₂ hh => compEnd_mono (fun y' n' q => compT_inv J turn fin k (i + 1) _ n' (by omega) q) y s₂ hh) fun _ _ e => e
    | false =>
      simp only [Bool.false_eq_true, if_false] at h' ⊢
      exact compEnd_mono (fun y' n' q => compT_inv J turn fin k (i + 1) _ n' (by omega) q) _ s' h'
theorem compU_inv {elt : PySem.Expr} {x : Str} {scope : Scope} {cl : List (Str × Addr)} {S : List (Addr × Obj) → Prop} {P : Nat → Value → Prop} {Fin : List Value → List (Addr × Obj) → Prop} {n : Nat}
    (J : Nat → List Value → List (Addr × Obj) → Prop)
    (turn : ∀ i ys news v I oI C oC D m₂ h tk (E' : Value → Shared → Prop), i < n → J i ys news → P i v → NsObj oC m₂ → m₂ x = some v → Fr h₀ L h m → News h₀ L h ((I, oI) :: (C, oC) :: (D, lst ys) :: news) → Off3 I C D news → ((@Ne Nat I C) ∧ (@Ne Nat I D) ∧ (@Ne Nat C D)) →
      wpAny (model prog w) A (eval elt (compEnvC scope cl C env)) (CompEnd h₀ L m { s with heap := h, toks := tk } I oI C oC D (lst ys) S (fun y news' => J (i + 1) (ys ++ [y]) news')) E' { s with heap := h, toks := tk })
    (fin : ∀ ys news, J n ys news → Fin ys news) :
    ∀ k i ys news, i + k = n → J i ys news → CompRest prog w A h₀ L m env elt x scope cl s S P Fin k i ys news
  | 0, i, ys, news, e, hj => fin ys news (by rw [Nat.add_zero] at e; exact e ▸ hj)
  | k + 1, i, ys, news, e, hj => fun v I oI C oC D m₂ h tk E' hv hC hx F N off ne =>
    wpAny_mono (turn i ys news v I oI C oC D m₂ h tk E' (by omega) hj hv hC hx F N off ne) (fun y s₂ hh => compEnd_mono (fun y' n' q => compU_inv J turn fin k (i + 1) _ n' (by omega) q) y s₂ hh) fun _ _ e => e
end
section
variable {prog : Program} {w : World} {A : Around} {E : Value → Shared → Prop} {s : Shared}
theorem ne_nilK {a b : Addr} {xs : Array Value} {Q : Value → Shared → Prop} (hl : s.heap.IsList a xs) (hb : s.heap.IsList b #[]) (hu : A.units < cLine) (h : Q (.bool (!xs.isEmpty)) s) : wpAny (model prog w) A (compareOp .NotEq (.ref a) (.ref b)) Q E s := by
  show wpAny (model prog w) A (richCompare .NotEq (.ref a) (.ref b)) Q E s
  by_cases e : xs.size = 0
  · have : xs = #[] := Array.eq_empty_of_size_eq_zero e
    subst this
    exact PySem.SeqAt.RcNeAt.lists (e := fun _ => true) hl hb rfl (by omega) (fun j h1 _ => absurd h1 (by simp)) prog w E Q (by simpa using h)
  · refine PySem.SeqAt.RcNeAt.lists_lengths hl hb (by simpa using e) (by omega) prog w E Q ?_
    have e' : xs.isEmpty = false := by rw [Array.isEmpty]; simpa using e
    rw [e'] at h
    exact h
theorem lst_isL {h₀ : Heap} {L D : Addr} {news : List (Addr × Obj)} {ys : List Value} (N : News h₀ L s.heap news) (hm : (D, PyProof.Rows.LCg.lst ys) ∈ news) : s.heap.IsList D ys.toArray := ⟨_, (N _ hm).1, rfl, _, rfl⟩
theorem new_isL {h₀ : Heap} {L D : Addr} {news : List (Addr × Obj)} {ys : Array Value} {k : Nat} (N : News h₀ L s.heap news) (hm : (D, ({ cls := .type "list", data := .seq ys k } : Obj)) ∈ news) : s.heap.IsList D ys := ⟨_, (N _ hm).1, rfl, _, rfl⟩
end
theorem news_tl {h₀ h : Heap} {L : Addr} {p : Addr × Obj} {n : List (Addr × Obj)} (N : News h₀ L h (p :: n)) : News h₀ L h n := fun q hq => N q (List.mem_cons_of_mem _ hq)
theorem kv_all (vs : List Value) : (slicePick vs.toArray none none none).toList = vs := by rw [slicePick_all]
theorem sub_min_cut (a b n : Nat) : min b n - min a n = min b n - a := by
  rcases Nat.le_total a n with h | h
  · rw [Nat.min_eq_left h]
  · rw [Nat.min_eq_right h, Nat.sub_eq_zero_of_le (Nat.min_le_right b n), Nat.sub_eq_zero_of_le (Nat.le_trans (Nat.min_le_right b n) h)]
theorem cut_nat {y : Int} {n : Nat} (h : 0 ≤ y) : max 0 (min y (n : Int)) = ((min y.toNat n : Nat) : Int) := by
  obtain ⟨m, rfl⟩ := Int.eq_ofNat_of_zero_le h
  rw [Int.toNat_natCast]
  rcases Nat.le_total m n with h | h
  · rw [Nat.min_eq_left h, Int.min_eq_left (Int.ofNat_le.mpr h), Int.max_eq_right (Int.natCast_nonneg _)]
  · rw [Nat.min_eq_right h, Int.min_eq_right (Int.ofNat_le.mpr h), Int.max_eq_right (Int.natCast_nonneg _)]
theorem kv_upto (vs : List Value) {y : Int} (h : 0 ≤ y) : (slicePick vs.toArray none (some y) none).toList = vs.take y.toNat := by
  have e : sliceBounds none (some y) none vs.toArray.size = (((0 : Nat) : Int), ((min y.toNat vs.toArray.size : Nat) : Int), 1) := by
    simp only [sliceBounds, Option.getD_none, show (1 : Int) > 0 by decide, if_true, if_neg (show ¬ (y < 0) by omega)]
    congr 1
    congr 1
    exact cut_nat h
  rw [kmk_pick_nat _ e]
  show (vs.drop 0).take (min y.toNat vs.toArray.size - 0) = _
  rw [List.drop_zero, Nat.sub_zero, List.size_toArray, kmk_take_min]
theorem kv_run (vs : List Value) {x y : Int} (h : 0 ≤ x) (h2 : 0 ≤ y) : (slicePick vs.toArray (some x) (some y) none).toList = (vs.drop x.toNat).take (min y.toNat vs.length - x.toNat) := by
  have e : sliceBounds (some x) (some y) none vs.toArray.size = (((min x.toNat vs.toArray.size : Nat) : Int), ((min y.toNat vs.toArray.size : Nat) : Int), 1) := by
    simp only [sliceBounds, Option.getD_none, show (1 : Int) > 0 by decide, if_true, if_neg (show ¬ (x < 0) by omega), if_neg (show ¬ (y < 0) by omega)]
    congr 1
    · exact cut_nat h
    · congr 1
      exact cut_nat h2
  rw [kmk_pick_nat _ e]
  show (vs.drop (min x.toNat vs.toArray.size)).take (min y.toNat vs.toArray.size - min x.toNat vs.toArray.size) = _
  rw [List.size_toArray, kmk_drop_min, sub_min_cut]
theorem kv_size {vs : List Value} {n : Nat} (e : vs.length = n) (h : n ≤ sizeLine) : vs.toArray.size ≤ sizeLine := by
  rw [List.size_toArray, e]; exact h
theorem kv_sizeL {vs : List Value} {n : Nat} (e : vs.length = n) (h : n ≤ sizeLine) : vs.toArray.toList.length ≤ sizeLine := by
  rw [show vs.toArray.toList = vs from rfl, e]; exact h
end Mine
end
local macro_rules | `(tactic| walk_at "z10") => `(tactic| (k_here; (with_reducible show wpAny _ _ (subscriptTail _ _ (Value.ref _) (Value.int _ _)) _ _ _); k_dflt (first
  | (refine' ksa_sub ?k1 ?k2 ?k3 ?k4 ?k5 ?k6 ?_ ?k7; (case k1 => k_asm); (case k2 => k_mem); (case k3 => with_reducible assumption); (case k4 => first | omega | l_fact); (case k5 => first | omega | l_fact); (case k6 => first | omega | l_fact); (case k7 => with_unfolding_all rfl); k_whole; intro _)
  | (refine' kv_sub ?k1 ?k2 ?k4 ?k5 ?k6 ?_ ?k7; (case k1 => k_asm); (case k2 => k_mem); (case k4 => first | omega | l_fact); (case k5 => first | omega | l_fact); (case k6 => first | omega | l_fact); (case k7 => with_unfolding_all rfl); k_whole))))
section
open PySem PySem.W PyProof.Rows
set_option maxHeartbeats 40000000
namespace Mine

theorem op_of_ok : ∀ (w : World) (p : Program) (loose : List Str) (mean : ExcName → Option Value) (mg mb : Str → Option Value) (dp un : Nat) (gd : Option (List Code)) (cn : Str) (cs : Scope) (a : Addr) (ccd : Value) (cl : List (Str × Addr)) (outer : List Env) (A₀ : Around) (base h₀ : Heap) (L : Addr) (m : Str → Option Value) (s : Shared) (Q E : Value → Shared → Prop) (news : List (Addr × Obj)) (i : Int) (ti : Tok) (u : Int), Below A₀ base outer h₀ → Fr h₀ L s.heap m → (Kf w.params).In h₀ → News h₀ L s.heap (news) → Top p loose mean mg mb h₀ → cs.kind = .function → dp + 1 < recursionLimit → un + 8 < cLine → (0 ≤ i) → (i < 2 ^ 40) → (i % 64 = u) → (∀ (t : Tok) (h' : Heap) (tk' : Nat), Fr h₀ L h' m → News h₀ L h' (news) → Q (.int u t) { s with heap := h', toks := tk' }) → wpAny (model PySem.Challenge.rw_pc0174_02.row.prog w) (ktrTop dp un gd cn cs L a ccd cl outer) (call (.ref 28) [.int i ti]) Q E s := by
  k_fill
  intro w p loose mean mg mb dp un gd cn cs a ccd cl outer A₀ base h₀ L m s Q E news i ti u B F X N T hck hd9 hu9 h0 h1 hv hret
  subst hv
  refine wpAny_call ?_
  k_dflt cell_enter
  k_steps
  all_goals (refine q_int ?_ (hret _ _ _ (by k_asm) (by k_asm)); (simp only [p6, p14, p23, fdivK _ _ (by decide : (0:Int) ≤ 64), fdivK _ _ (by decide : (0:Int) ≤ 16384), fdivK _ _ (by decide : (0:Int) ≤ 8388608), bitAnd_m6, bitAnd_m8, and511]))
theorem a_of_ok : ∀ (w : World) (p : Program) (loose : List Str) (mean : ExcName → Option Value) (mg mb : Str → Option Value) (dp un : Nat) (gd : Option (List Code)) (cn : Str) (cs : Scope) (a : Addr) (ccd : Value) (cl : List (Str × Addr)) (outer : List Env) (A₀ : Around) (base h₀ : Heap) (L : Addr) (m : Str → Option Value) (s : Shared) (Q E : Value → Shared → Prop) (news : List (Addr × Obj)) (i : Int) (ti : Tok) (u : Int), Below A₀ base outer h₀ → Fr h₀ L s.heap m → (Kf w.params).In h₀ → News h₀ L s.heap (news) → Top p loose mean mg mb h₀ → cs.kind = .function → dp + 1 < recursionLimit → un + 8 < cLine → (0 ≤ i) → (i < 2 ^ 40) → (i / 64 % 256 = u) → (∀ (t : Tok) (h' : Heap) (tk' : Nat), Fr h₀ L h' m → News h₀ L h' (news) → Q (.int u t) { s with heap := h', toks := tk' }) → wpAny (model PySem.Challenge.rw_pc0174_02.row.prog w) (ktrTop dp un gd cn cs L a ccd cl outer) (call (.ref 35) [.int i ti]) Q E s := by
  k_fill
  intro w p loose mean mg mb dp un gd cn cs a ccd cl outer A₀ base h₀ L m s Q E news i ti u B F X N T hck hd9 hu9 h0 h1 hv hret
  subst hv
  refine wpAny_call ?_
  k_dflt cell_enter
  k_steps
  all_goals (refine q_int ?_ (hret _ _ _ (by k_asm) (by k_asm)); (simp only [p6, p14, p23, fdivK _ _ (by decide : (0:Int) ≤ 64), fdivK _ _ (by decide : (0:Int) ≤ 16384), fdivK _ _ (by decide : (0:Int) ≤ 8388608), bitAnd_m6, bitAnd_m8, and511]))
theorem b_of_ok : ∀ (w : World) (p : Program) (loose : List Str) (mean : ExcName → Option Value) (mg mb : Str → Option Value) (dp un : Nat) (gd : Option (List Code)) (cn : Str) (cs : Scope) (a : Addr) (ccd : Value) (cl : List (Str × Addr)) (outer : List Env) (A₀ : Around) (base h₀ : Heap) (L : Addr) (m : Str → Option Value) (s : Shared) (Q E : Value → Shared → Prop) (news : List (Addr × Obj)) (i : Int) (ti : Tok) (u : Int), Below A₀ base outer h₀ → Fr h₀ L s.heap m → (Kf w.params).In h₀ → News h₀ L s.heap (news) → Top p loose mean mg mb h₀ → cs.kind = .function → dp + 1 < recursionLimit → un + 8 < cLine → (0 ≤ i) → (i < 2 ^ 40) → (i / 8388608 = u) → (∀ (t : Tok) (h' : Heap) (tk' : Nat), Fr h₀ L h' m → News h₀ L h' (news) → Q (.int u t) { s with heap := h', toks := tk' }) → wpAny (model PySem.Challenge.rw_pc0174_02.row.prog w) (ktrTop dp un gd cn cs L a ccd cl outer) (call (.ref 42) [.int i ti]) Q E s := by
  k_fill
  intro w p loose mean mg mb dp un gd cn cs a ccd cl outer A₀ base h₀ L m s Q E news i ti u B F X N T hck hd9 hu9 h0 h1 hv hret
  subst hv
  refine wpAny_call ?_
  k_dflt cell_enter
  k_steps
  all_goals (refine q_int ?_ (hret _ _ _ (by k_asm) (by k_asm)); (simp only [p6, p14, p23, fdivK _ _ (by decide : (0:Int) ≤ 64), fdivK _ _ (by decide : (0:Int) ≤ 16384), fdivK _ _ (by decide : (0:Int) ≤ 8388608), bitAnd_m6, bitAnd_m8, and511]))
theorem c_of_ok : ∀ (w : World) (p : Program) (loose : List Str) (mean : ExcName → Option Value) (mg mb : Str → Option Value) (dp un : Nat) (gd : Option (List Code)) (cn : Str) (cs : Scope) (a : Addr) (ccd : Value) (cl : List (Str × Addr)) (outer : List Env) (A₀ : Around) (base h₀ : Heap) (L : Addr) (m : Str → Option Value) (s : Shared) (Q E : Value → Shared → Prop) (news : List (Addr × Obj)) (i : Int) (ti : Tok) (u : Int), Below A₀ base outer h₀ → Fr h₀ L s.heap m → (Kf w.params).In h₀ → News h₀ L s.heap (news) → Top p loose mean mg mb h₀ → cs.kind = .function → dp + 1 < recursionLimit → un + 8 < cLine → (0 ≤ i) → (i < 2 ^ 40) → (i / 16384 % 512 = u) → (∀ (t : Tok) (h' : Heap) (tk' : Nat), Fr h₀ L h' m → News h₀ L h' (news) → Q (.int u t) { s with heap := h', toks := tk' }) → wpAny (model PySem.Challenge.rw_pc0174_02.row.prog w) (ktrTop dp un gd cn cs L a ccd cl outer) (call (.ref 49) [.int i ti]) Q E s := by
  k_fill
  intro w p loose mean mg mb dp un gd cn cs a ccd cl outer A₀ base h₀ L m s Q E news i ti u B F X N T hck hd9 hu9 h0 h1 hv hret
  subst hv
  refine wpAny_call ?_
  k_dflt cell_enter
  k_steps
  all_goals (refine q_int ?_ (hret _ _ _ (by k_asm) (by k_asm)); (simp only [p6, p14, p23, fdivK _ _ (by decide : (0:Int) ≤ 64), fdivK _ _ (by decide : (0:Int) ≤ 16384), fdivK _ _ (by decide : (0:Int) ≤ 8388608), bitAnd_m6, bitAnd_m8, and511]))
theorem jump_of_ok : ∀ (w : World) (p : Program) (loose : List Str) (mean : ExcName → Option Value) (mg mb : Str → Option Value) (dp un : Nat) (gd : Option (List Code)) (cn : Str) (cs : Scope) (a : Addr) (ccd : Value) (cl : List (Str × Addr)) (outer : List Env) (A₀ : Around) (base h₀ : Heap) (L : Addr) (m : Str → Option Value) (s : Shared) (Q E : Value → Shared → Prop) (news : List (Addr × Obj)) (i : Int) (ti : Tok) (u : Int), Below A₀ base outer h₀ → Fr h₀ L s.heap m → (Kf w.params).In h₀ → News h₀ L s.heap (news) → Top p loose mean mg mb h₀ → cs.kind = .function → dp + 1 < recursionLimit → un + 8 < cLine → (0 ≤ i) → (i < 2 ^ 40) → (i / 16384 - 131071 = u) → (∀ (t : Tok) (h' : Heap) (tk' : Nat), Fr h₀ L h' m → News h₀ L h' (news) → Q (.int u t) { s with heap := h', toks := tk' }) → wpAny (model PySem.Challenge.rw_pc0174_02.row.prog w) (ktrTop dp un gd cn cs L a ccd cl outer) (call (.ref 63) [.int i ti]) Q E s := by
  k_fill
  intro w p loose mean mg mb dp un gd cn cs a ccd cl outer A₀ base h₀ L m s Q E news i ti u B F X N T hck hd9 hu9 h0 h1 hv hret
  subst hv
  refine wpAny_call ?_
  k_dflt cell_enter
  k_steps
  all_goals (refine q_int ?_ (hret _ _ _ (by k_asm) (by k_asm)); (simp only [p6, p14, p23, fdivK _ _ (by decide : (0:Int) ≤ 64), fdivK _ _ (by decide : (0:Int) ≤ 16384), fdivK _ _ (by decide : (0:Int) ≤ 8388608), bitAnd_m6, bitAnd_m8, and511]))
local macro_rules | `(tactic| walk_at "subscriptTail") => `(tactic| walk_at "z10")
theorem is_false_ok : ∀ (w : World) (p : Program) (loose : List Str) (mean : ExcName → Option Value) (mg mb : Str → Option Value) (dp un : Nat) (gd : Option (List Code)) (cn : Str) (cs : Scope) (a : Addr) (ccd : Value) (cl : List (Str × Addr)) (outer : List Env) (A₀ : Around) (base h₀ : Heap) (L : Addr) (m : Str → Option Value) (s : Shared) (Q E : Value → Shared → Prop) (news : List (Addr × Obj)) (x : RV) (v : Value), Below A₀ base outer h₀ → Fr h₀ L s.heap m → (Kf w.params).In h₀ → News h₀ L s.heap (news) → Top p loose mean mg mb h₀ → cs.kind = .function → dp + 1 < recursionLimit → un + 8 < cLine → (x.Is v) → (∀  (h' : Heap) (tk' : Nat), Fr h₀ L h' m → News h₀ L h' (news) → Q (.bool (isFalse x)) { s with heap := h', toks := tk' }) → wpAny (model PySem.Challenge.rw_pc0174_02.row.prog w) (ktrTop dp un gd cn cs L a ccd cl outer) (call (.ref 153) [v]) Q E s := by
  k_fill
  intro w p loose mean mg mb dp un gd cn cs a ccd cl outer A₀ base h₀ L m s Q E news x v B F X N T hck hd9 hu9 hx hret
  cases x <;> simp only [RV.Is] at hx <;> (try obtain ⟨t1, rfl⟩ := hx) <;> (try subst hx)
  all_goals (refine wpAny_call ?_; k_dflt cell_enter; k_steps)
  all_goals (exact hret _ _ (by k_asm) (by k_asm))
theorem operand_ok : ∀ (w : World) (p : Program) (loose : List Str) (mean : ExcName → Option Value) (mg mb : Str → Option Value) (dp un : Nat) (gd : Option (List Code)) (cn : Str) (cs : Scope) (a : Addr) (ccd : Value) (cl : List (Str × Addr)) (outer : List Env) (A₀ : Around) (base h₀ : Heap) (L : Addr) (m : Str → Option Value) (s : Shared) (Q E : Value → Shared → Prop) (news : List (Addr × Obj)) (xs : List RV) (vs : List Value) (st : Addr) (n : Nat) (k : Int) (tz tk : Tok), Below A₀ base outer h₀ → Fr h₀ L s.heap m → (Kf w.params).In h₀ → News h₀ L s.heap (news) → Top p loose mean mg mb h₀ → cs.kind = .function → dp + 1 < recursionLimit → un + 8 < cLine → ((st, listOf vs.toArray n) ∈ news) → (RVs xs vs) → ((0 ≤ k ∧ k < 256 ∧ k < xs.length) ∨ k = 256 ∨ k = 257 ∨ k = 258) → (∀ (v : Value) (h' : Heap) (tk' : Nat), ((opd2 xs k).Is v) → Fr h₀ L h' m → News h₀ L h' (news) → Q (v) { s with heap := h', toks := tk' }) → wpAny (model PySem.Challenge.rw_pc0174_02.row.prog w) (ktrTop dp un gd cn cs L a ccd cl outer) (call (.ref 310) [.ref st, .int 0 tz, .ref 510, .int k tk]) Q E s := by
  k_fill
  intro w p loose mean mg mb dp un gd cn cs a ccd cl outer A₀ base h₀ L m s Q E news xs vs st n k tz tk B F X N T hck hd9 hu9 hm hx hk hret
  have hl := hx.length
  rcases hk with ⟨h0, h1, h2⟩ | hk
  · refine wpAny_call ?_
    k_dflt cell_enter
    have e := and256s k h0 h1
    k_steps
    refine hret _ _ _ ?_ (by k_asm) (by k_asm)
    rw [Int.zero_add]
    simp only [opd2, if_pos h1]
    exact hx.getD _
  · rcases hk with rfl | rfl | rfl
    all_goals (refine wpAny_call ?_; k_dflt cell_enter; k_steps)
    all_goals first
      | (exfalso; omega)
      | (refine hret _ _ _ ?_ (by k_asm) (by k_asm); simp [opd2, cst2, RV.Is])
end Mine
end
local macro_rules | `(tactic| walk_at "zc") => `(tactic| (first | (k_here; k_dflt (apply Mine.operand_ok; walk_at "z8"; (iterate 3 walk_at "zq"); k_whole); walk_at "z9") | (k_here; k_dflt (apply Mine.is_false_ok; walk_at "z8"; (first | assumption | exact RVs.getD _ (by assumption)); k_whole); walk_at "z9") | (k_here; k_dflt (apply Mine.jump_of_ok; walk_at "z8"; (iterate 3 walk_at "zq"); k_whole); walk_at "z9") | (k_here; k_dflt (apply Mine.c_of_ok; walk_at "z8"; (iterate 3 walk_at "zq"); k_whole); walk_at "z9") | (k_here; k_dflt (apply Mine.b_of_ok; walk_at "z8"; (iterate 3 walk_at "zq"); k_whole); walk_at "z9") | (k_here; k_dflt (apply Mine.a_of_ok; walk_at "z8"; (iterate 3 walk_at "zq"); k_whole); walk_at "z9") | (k_here; k_dflt (apply Mine.op_of_ok; walk_at "z8"; (iterate 3 walk_at "zq"); k_whole); walk_at "z9")))
local macro_rules | `(tactic| walk_at "call ref") => `(tactic| walk_at "zc")
theorem Mine.reset11 : (1 : Nat) < 2 := by first | (walk1; done) | decide
local macro_rules | `(tactic| walk_at "z11") => `(tactic| (k_here; refine wpAny_call ?_; k_dflt (refine' code_def ?k1 ?k2 ?k3 ?k4 ?k5 ?kA ?kF ?kK ?k6 ?k7 ?k8 ?k9 ?kB ?_ ?c2 ?c3 ?c4 ?c5; (case kA => exact rfl); (case kF => exact rfl); (case kK => first | exact rfl | assumption); (case k1 => k_asm); (case k2 => k_asm); (case k3 => k_asm); (case k4 => k_asm); (case k5 => k_asm); (case k6 => k_is); (case k7 => k_is); (case k8 => ktr_room); (case k9 => first | exact BindsTo.of_eq rfl | exact binds_K (by k_in) rfl (by k_is) rfl rfl rfl); (case c5 => decide); (case kB => exact locs rfl); (case c2 => exact rfl); (case c3 => exact rfl); (case c4 => exact rfl); k_whole; intro g' L' h' FG' F' N' B' X' T'; (try dsimp only); (try k_lift B'); (try k_fold))))
local macro_rules | `(tactic| walk_at "z12") => `(tactic| (k_here; (with_reducible show wpAny _ _ (setItem (Value.ref _) (Value.int _ _) _) _ _ _); k_dflt (refine' kv_set ?k1 ?k2 ?k3 ?k4 ?k5 ?k6 ?_; (case k1 => k_asm); (case k2 => k_asm); (case k3 => k_upd); (case k4 => first | omega | l_fact); (case k5 => (try simp only [List.length_set]); first | omega | l_fact); (case k6 => first | omega | l_fact); k_whole); intro h' F' N'; (try k_sweep)))
local macro_rules | `(tactic| walk_at "z13") => `(tactic| (k_here; (with_reducible show wpAny _ _ (setItem (Value.ref _) (Value.int _ _) _) _ _ _); k_dflt (refine' kv_set ?k1 ?k2 ?k3 ?k4 ?k5 ?k6 ?_; (case k1 => k_asm); (case k2 => k_asm); (case k3 => k_upd); (case k4 => first | omega | l_fact); (case k5 => (try simp only [List.length_set]); first | omega | l_fact); (case k6 => first | omega | l_fact); k_whole); intro h' F' N'; (try k_sweep)))
section
open PySem PySem.W PyProof.Rows
set_option maxHeartbeats 40000000
namespace Mine

local macro_rules | `(tactic| walk_at "call ref") => `(tactic| (first | walk_at "zc" | walk_at "z11"))
local macro_rules | `(tactic| walk_at "setItem ref int") => `(tactic| walk_at "z12")
local macro_rules | `(tactic| walk_at "setItem ref") => `(tactic| walk_at "z13")
local macro_rules | `(tactic| walk_at "subscriptTail") => `(tactic| walk_at "z10")
local macro_rules | `(tactic| walk_at "call type:type") => `(tactic| (k_here; (with_reducible show wpAny _ _ (call (Value.type "type") [Value.bytes _ _]) _ _ _); k_dflt (refine' kv_type (Tx := "bytes") ?a ?b ?_; (case a => rfl); (case b => decide +kernel); k_whole)))
theorem eqB (a b : Bool) : (a == b) = decide (RV.bool a = RV.bool b) := by cases a <;> cases b <;> rfl
theorem eqI (a b : Int) : (a == b) = decide (RV.int a = RV.int b) := by rw [Bool.eq_iff_iff]; simp
theorem eqY (a b : Array UInt8) : (a.toList == b.toList) = decide (RV.bytes a = RV.bytes b) := by rw [Bool.eq_iff_iff]; simp [Array.toList_inj]

theorem cmp_eq_ok : ∀ (w : World) (p : Program) (loose : List Str) (mean : ExcName → Option Value) (mg mb : Str → Option Value) (dp un : Nat) (gd : Option (List Code)) (cn : Str) (cs : Scope) (a : Addr) (ccd : Value) (cl : List (Str × Addr)) (outer : List Env) (A₀ : Around) (base h₀ : Heap) (L : Addr) (m : Str → Option Value) (s : Shared) (Q E : Value → Shared → Prop) (news : List (Addr × Obj)) (ti : Tok) (x y : RV) (v1 v2 : Value), Below A₀ base outer h₀ → Fr h₀ L s.heap m → (Kf w.params).In h₀ → News h₀ L s.heap (news) → Top p loose mean mg mb h₀ → cs.kind = .function → dp + 2 < recursionLimit → un + 16 < cLine → (x.Is v1) → (y.Is v2) → (∀  (h' : Heap) (tk' : Nat), Fr h₀ L h' m → News h₀ L h' (news) → Q (.bool (decide (x = y))) { s with heap := h', toks := tk' }) → wpAny (model PySem.Challenge.rw_pc0174_02.row.prog w) (ktrTop dp un gd cn cs L a ccd cl outer) (call (.ref 543) [.int 23 ti, v1, v2]) Q E s := by
  k_fill
  intro w p loose mean mg mb dp un gd cn cs a ccd cl outer A₀ base h₀ L m s Q E news ti x y v1 v2 B F X N T hck hd9 hu9 hx hy hret
  cases x <;> cases y <;> simp only [RV.Is] at hx hy <;> (try obtain ⟨t1, rfl⟩ := hx) <;> (try subst hx) <;> (try obtain ⟨t2, rfl⟩ := hy) <;> (try subst hy)
  all_goals (refine wpAny_call ?_; k_dflt cell_enter; k_steps)
  all_goals exact q_bool (by first | exact eqB _ _ | exact eqI _ _ | exact eqY _ _ | rfl) (hret _ _ (by k_asm) (by k_asm))
section
local macro_rules | `(tactic| walk_at "eval ListComp") => `(tactic| (k_here; lct_look; k_dflt (refine ListComp_PT (F₀ := by k_asm) (by with_unfolding_all rfl) (by decide) (by rfl) (by decide) (by rfl) ?_)))
local macro_rules | `(tactic| walk_at "compareOp NotEq ref ref") => `(tactic| (k_here; k_dflt (refine' ne_nilK ?k1 ?k2 ?k3 ?_; (case k1 => first | exact lst_isL (by k_asm) (by k_mem) | exact new_isL (by k_asm) (by k_mem)); (case k2 => first | exact lst_isL (by k_asm) (by k_mem) | exact new_isL (by k_asm) (by k_mem)); (case k3 => first | units_room | ktr_units); k_whole)))
theorem cmp_lt_ok : ∀ (w : World) (p : Program) (loose : List Str) (mean : ExcName → Option Value) (mg mb : Str → Option Value) (dp un : Nat) (gd : Option (List Code)) (cn : Str) (cs : Scope) (a : Addr) (ccd : Value) (cl : List (Str × Addr)) (outer : List Env) (A₀ : Around) (base h₀ : Heap) (L : Addr) (m : Str → Option Value) (s : Shared) (Q E : Value → Shared → Prop) (news : List (Addr × Obj)) (ti : Tok) (x y : RV) (v1 v2 : Value), Below A₀ base outer h₀ → Fr h₀ L s.heap m → (Kf w.params).In h₀ → News h₀ L s.heap (news) → Top p loose mean mg mb h₀ → cs.kind = .function → dp + 2 < recursionLimit → un + 16 < cLine → (x.Is v1) → (y.Is v2) → (∀ (r : Value) (h' : Heap) (tk' : Nat), ((cmpV 24 x y).Is r) → Fr h₀ L h' m → News h₀ L h' (news) → Q (r) { s with heap := h', toks := tk' }) → wpAny (model PySem.Challenge.rw_pc0174_02.row.prog w) (ktrTop dp un gd cn cs L a ccd cl outer) (call (.ref 543) [.int 24 ti, v1, v2]) Q E s := by
  k_fill
  intro w p loose mean mg mb dp un gd cn cs a ccd cl outer A₀ base h₀ L m s Q E news ti x y v1 v2 B F X N T hck hd9 hu9 hx hy hret
  refine wpAny_call ?_
  k_dflt cell_enter
  k_steps
  refine CompSrcPT.ledger (by rfl) (by k_asm) (by k_asm) (by k_mem) (by exact Nat.le_of_ble_eq_true rfl) ?_
  intro g'
  refine compT_inv (n := 2) (fun i ys nw => nw = _ ∧ ys.length ≤ i ∧ (ys = [] ↔ ((1 ≤ i → x.isInt = true) ∧ (2 ≤ i → y.isInt = true)))) ?turn ?fin 2 0 [] _ rfl ⟨rfl, by simp, by simp⟩
  case turn =>
    intro i ys nw v I oI C oC D m₂ h₂ tk₂ E' hi hj hv hC hx' F2 N2 off2 ne2
    obtain ⟨rfl, hlen, hys⟩ := hj
    have hz : ∃ z : RV, z.Is v ∧ (((1 ≤ i+1 → x.isInt = true) ∧ (2 ≤ i+1 → y.isInt = true)) ↔ (((1 ≤ i → x.isInt = true) ∧ (2 ≤ i → y.isInt = true)) ∧ z.isInt = true)) := by
      match i, hi, hv with
      | 0, _, hv => exact ⟨x, by cases hv; exact hx, by simp⟩
      | 1, _, hv => exact ⟨y, by cases hv; exact hy, by simp⟩
    obtain ⟨z, hzv, hst⟩ := hz
    cases z <;> simp only [RV.Is] at hzv <;> (try obtain ⟨t1, rfl⟩ := hzv) <;> (try subst hzv)
    all_goals k_steps
    all_goals refine LCg.CompEnd.intro (by k_asm) (by assumption) _ (fun _ hp => hp) (by assumption) (by exact ⟨_, by k_mem, rfl, _, rfl⟩) ⟨rfl, ?_, ?_⟩
    all_goals first
      | (simp only [List.length_append, List.length_singleton]; omega)
      | omega
      | (rw [hst, hys]; simp [RV.isInt])
      | (rw [hst]; simp [RV.isInt])
  case fin =>
    intro ys nw hj
    obtain ⟨rfl, hlen, hys⟩ := hj
    rcases ys with _ | ⟨y0, yr⟩
    · have hxi := (hys.mp rfl).1 (by omega)
      have hyi := (hys.mp rfl).2 (by omega)
      cases x <;> simp only [RV.isInt, reduceCtorEq] at hxi
      cases y <;> simp only [RV.isInt, reduceCtorEq] at hyi
      simp only [RV.Is] at hx hy
      obtain ⟨t1, rfl⟩ := hx
      obtain ⟨t2, rfl⟩ := hy
      k_steps
      all_goals exact hret _ _ _ (by simp [cmpV, RV.Is]) (by k_asm) (by intro p hp; (rename News h₀ L _ _ => lN); first | exact lN p hp | exact lN p (List.mem_cons_of_mem _ hp) | exact lN p (List.mem_cons_of_mem _ (List.mem_cons_of_mem _ hp)) | exact lN p (List.mem_cons_of_mem _ (List.mem_cons_of_mem _ (List.mem_cons_of_mem _ hp))))
    · have hno : (cmpV 24 x y) = .none := by
        cases x <;> cases y <;> first | rfl | exact absurd (hys.mpr ⟨fun _ => rfl, fun _ => rfl⟩) (by simp)
      have hem : (y0 :: yr).toArray.isEmpty = false := rfl
      k_steps
      all_goals first
        | exact hret _ _ _ (by rw [hno]; rfl) (by k_asm) (by intro p hp; (rename News h₀ L _ _ => lN); first | exact lN p hp | exact lN p (List.mem_cons_of_mem _ hp) | exact lN p (List.mem_cons_of_mem _ (List.mem_cons_of_mem _ hp)) | exact lN p (List.mem_cons_of_mem _ (List.mem_cons_of_mem _ (List.mem_cons_of_mem _ hp))))
        | exact absurd (‹(y0 :: yr).toArray.isEmpty = true›) (by rw [hem]; exact Bool.false_ne_true)
theorem cmp_le_ok : ∀ (w : World) (p : Program) (loose : List Str) (mean : ExcName → Option Value) (mg mb : Str → Option Value) (dp un : Nat) (gd : Option (List Code)) (cn : Str) (cs : Scope) (a : Addr) (ccd : Value) (cl : List (Str × Addr)) (outer : List Env) (A₀ : Around) (base h₀ : Heap) (L : Addr) (m : Str → Option Value) (s : Shared) (Q E : Value → Shared → Prop) (news : List (Addr × Obj)) (ti : Tok) (x y : RV) (v1 v2 : Value), Below A₀ base outer h₀ → Fr h₀ L s.heap m → (Kf w.params).In h₀ → News h₀ L s.heap (news) → Top p loose mean mg mb h₀ → cs.kind = .function → dp + 2 < recursionLimit → un + 16 < cLine → (x.Is v1) → (y.Is v2) → (∀ (r : Value) (h' : Heap) (tk' : Nat), ((cmpV 25 x y).Is r) → Fr h₀ L h' m → News h₀ L h' (news) → Q (r) { s with heap := h', toks := tk' }) → wpAny (model PySem.Challenge.rw_pc0174_02.row.prog w) (ktrTop dp un gd cn cs L a ccd cl outer) (call (.ref 543) [.int 25 ti, v1, v2]) Q E s := by
  k_fill
  intro w p loose mean mg mb dp un gd cn cs a ccd cl outer A₀ base h₀ L m s Q E news ti x y v1 v2 B F X N T hck hd9 hu9 hx hy hret
  refine wpAny_call ?_
  k_dflt cell_enter
  k_steps
  refine CompSrcPT.ledger (by rfl) (by k_asm) (by k_asm) (by k_mem) (by exact Nat.le_of_ble_eq_true rfl) ?_
  intro g'
  refine compT_inv (n := 2) (fun i ys nw => nw = _ ∧ ys.length ≤ i ∧ (ys = [] ↔ ((1 ≤ i → x.isInt = true) ∧ (2 ≤ i → y.isInt = true)))) ?turn ?fin 2 0 [] _ rfl ⟨rfl, by simp, by simp⟩
  case turn =>
    intro i ys nw v I oI C oC D m₂ h₂ tk₂ E' hi hj hv hC hx' F2 N2 off2 ne2
    obtain ⟨rfl, hlen, hys⟩ := hj
    have hz : ∃ z : RV, z.Is v ∧ (((1 ≤ i+1 → x.isInt = true) ∧ (2 ≤ i+1 → y.isInt = true)) ↔ (((1 ≤ i → x.isInt = true) ∧ (2 ≤ i → y.isInt = true)) ∧ z.isInt = true)) := by
      match i, hi, hv with
      | 0, _, hv => exact ⟨x, by cases hv; exact hx, by simp⟩
      | 1, _, hv => exact ⟨y, by cases hv; exact hy, by simp⟩
    obtain ⟨z, hzv, hst⟩ := hz
    cases z <;> simp only [RV.Is] at hzv <;> (try obtain ⟨t1, rfl⟩ := hzv) <;> (try subst hzv)
    all_goals k_steps
    all_goals refine LCg.CompEnd.intro (by k_asm) (by assumption) _ (fun _ hp => hp) (by assumption) (by exact ⟨_, by k_mem, rfl, _, rfl⟩) ⟨rfl, ?_, ?_⟩
    all_goals first
      | (simp only [List.length_append, List.length_singleton]; omega)
      | omega
      | (rw [hst, hys]; simp [RV.isInt])
      | (rw [hst]; simp [RV.isInt])
  case fin =>
    intro ys nw hj
    obtain ⟨rfl, hlen, hys⟩ := hj
    rcases ys with _ | ⟨y0, yr⟩
    · have hxi := (hys.mp rfl).1 (by omega)
      have hyi := (hys.mp rfl).2 (by omega)
      cases x <;> simp only [RV.isInt, reduceCtorEq] at hxi
      cases y <;> simp only [RV.isInt, reduceCtorEq] at hyi
      simp only [RV.Is] at hx hy
      obtain ⟨t1, rfl⟩ := hx
      obtain ⟨t2, rfl⟩ := hy
      k_steps
      all_goals exact hret _ _ _ (by simp [cmpV, RV.Is]) (by k_asm) (by intro p hp; (rename News h₀ L _ _ => lN); first | exact lN p hp | exact lN p (List.mem_cons_of_mem _ hp) | exact lN p (List.mem_cons_of_mem _ (List.mem_cons_of_mem _ hp)) | exact lN p (List.mem_cons_of_mem _ (List.mem_cons_of_mem _ (List.mem_cons_of_mem _ hp))))
    · have hno : (cmpV 25 x y) = .none := by
        cases x <;> cases y <;> first | rfl | exact absurd (hys.mpr ⟨fun _ => rfl, fun _ => rfl⟩) (by simp)
      have hem : (y0 :: yr).toArray.isEmpty = false := rfl
      k_steps
      all_goals first
        | exact hret _ _ _ (by rw [hno]; rfl) (by k_asm) (by intro p hp; (rename News h₀ L _ _ => lN); first | exact lN p hp | exact lN p (List.mem_cons_of_mem _ hp) | exact lN p (List.mem_cons_of_mem _ (List.mem_cons_of_mem _ hp)) | exact lN p (List.mem_cons_of_mem _ (List.mem_cons_of_mem _ (List.mem_cons_of_mem _ hp))))
        | exact absurd (‹(y0 :: yr).toArray.isEmpty = true›) (by rw [hem]; exact Bool.false_ne_true)
end
theorem cmpV_is {op : Int} {x y : RV} {r : Value} (h : (cmpV op x y).Is r) : (cmpV op x y = .none ∧ r = .none) ∨ ∃ f, cmpV op x y = .bool f ∧ r = .bool f := by
  unfold cmpV at h ⊢
  split at h
  · exact .inr ⟨_, if_pos ‹_›, h⟩
  · rw [if_neg ‹_›]
    cases x <;> cases y <;> first | exact .inl ⟨rfl, h⟩ | exact .inr ⟨_, rfl, h⟩
theorem cmp_ok : ∀ (w : World) (p : Program) (loose : List Str) (mean : ExcName → Option Value) (mg mb : Str → Option Value) (dp un : Nat) (gd : Option (List Code)) (cn : Str) (cs : Scope) (a : Addr) (ccd : Value) (cl : List (Str × Addr)) (outer : List Env) (A₀ : Around) (base h₀ : Heap) (L : Addr) (m : Str → Option Value) (s : Shared) (Q E : Value → Shared → Prop) (news : List (Addr × Obj)) (ti : Tok) (op : Int) (x y : RV) (v1 v2 : Value), Below A₀ base outer h₀ → Fr h₀ L s.heap m → (Kf w.params).In h₀ → News h₀ L s.heap (news) → Top p loose mean mg mb h₀ → cs.kind = .function → dp + 2 < recursionLimit → un + 16 < cLine → (op = 23 ∨ op = 24 ∨ op = 25) → (x.Is v1) → (y.Is v2) → (∀ (r : Value) (h' : Heap) (tk' : Nat), ((cmpV op x y).Is r) → Fr h₀ L h' m → News h₀ L h' (news) → Q (r) { s with heap := h', toks := tk' }) → wpAny (model PySem.Challenge.rw_pc0174_02.row.prog w) (ktrTop dp un gd cn cs L a ccd cl outer) (call (.ref 543) [.int op ti, v1, v2]) Q E s := by
  k_fill
  intro w p loose mean mg mb dp un gd cn cs a ccd cl outer A₀ base h₀ L m s Q E news ti op x y v1 v2 B F X N T hck hd9 hu9 hop hx hy hret
  rcases hop with rfl | rfl | rfl
  · exact cmp_eq_ok _ _ _ _ _ _ _ _ _ _ _ _ _ _ _ _ _ _ _ _ _ _ _ _ _ _ _ _ _ B F X N T hck hd9 hu9 hx hy fun h' tk' F' N' => hret _ h' tk' (by simp [cmpV, RV.Is]) F' N'
  · exact cmp_lt_ok _ _ _ _ _ _ _ _ _ _ _ _ _ _ _ _ _ _ _ _ _ _ _ _ _ _ _ _ _ B F X N T hck hd9 hu9 hx hy hret
  · exact cmp_le_ok _ _ _ _ _ _ _ _ _ _ _ _ _ _ _ _ _ _ _ _ _ _ _ _ _ _ _ _ _ B F X N T hck hd9 hu9 hx hy hret
end Mine
end
local macro_rules | `(tactic| walk_at "zc") => `(tactic| (k_here; k_dflt (apply Mine.cmp_ok; walk_at "z8"; (iterate 3 walk_at "zq"); k_whole); intro r h' tk' hr F' N'; (try k_sweep); (rcases cmpV_is hr with ⟨hcv, he⟩ | ⟨fb, hcv, he⟩ <;> subst he)))
theorem Mine.reset17 : (1 : Nat) < 2 := by first | (walk1; done) | decide
local macro_rules | `(tactic| walk_at "z14") => `(tactic| (k_here; k_dflt (refine' kmk_slice_lit ?k1 ?k2 ?k3 ?k4 ?k5 ?k6 ?_ ?k7 ?k8 ?k9; (case k1 => k_asm); (case k2 => k_asm); (case k3 => kmk_list); (case k4 => kmk_part); (case k5 => kmk_part); (case k6 => first | exact kv_all _ | exact kv_upto _ (by omega) | exact kv_run _ (by omega) (by omega)); (case k7 => with_unfolding_all rfl); (case k8 => kmk_pure); (case k9 => first | exact kv_size (by assumption) (by simp only [sizeLine_eq]; omega) | exact Nat.le_of_ble_eq_true rfl); k_whole); intro D' h' F' N' l1'; (try k_lt l1'); (try k_sweep)))
section
open PySem PySem.W PyProof.Rows
set_option maxHeartbeats 40000000
namespace Mine

local macro_rules | `(tactic| k_ne) => `(tactic| ((try dsimp only); first | assumption | exact Ne.symm (by assumption) | exact Nat.ne_of_gt (by assumption) | exact Nat.ne_of_lt (by assumption)))
local macro_rules | `(tactic| walk_at "call ref") => `(tactic| (first | walk_at "zc" | walk_at "z11"))
local macro_rules | `(tactic| walk_at "setItem ref int") => `(tactic| walk_at "z12")
local macro_rules | `(tactic| walk_at "setItem ref") => `(tactic| walk_at "z13")
local macro_rules | `(tactic| walk_at "subscriptTail") => `(tactic| walk_at "z10")
local macro_rules | `(tactic| walk_at "subscriptTail Name Slice ref ref") => `(tactic| walk_at "z14")
theorem done_move : ∀ (w : World) (p : Program) (loose : List Str) (mean : ExcName → Option Value) (mg mb : Str → Option Value) (dp un : Nat) (gd : Option (List Code)) (cn : Str) (cs : Scope) (a : Addr) (ccd : Value) (cl : List (Str × Addr)) (outer : List Env) (A₀ : Around) (base h₀ : Heap) (L : Addr) (m : Str → Option Value) (s : Shared) (Q E : Value → Shared → Prop) (x dx st cd lm wk dw : Addr) (c0 c1 c2 c3 c4 c5 c6 c7 c8 e0 e1 e2 e3 e4 e5 : Tok) (w0 w1 w2 w3 w5 : Value) (rm top pc : Int) (tr tt tp : Tok) (k kc : Nat) (xs : List RV) (vs cvs : List Value) (cns : List Int) (rest : List (Addr × Obj)) (ins op ra rb rc : Int) (ti to : Tok), Below A₀ base outer h₀ → Fr h₀ L s.heap m → (Kf w.params).In h₀ → News h₀ L s.heap ((x, instObj 503 dx) :: (dx, dictOf [⟨PyData.keyHash w.params (Str.ofString "code"), .str (Str.ofString "code") c0, .ref cd⟩, ⟨PyData.keyHash w.params (Str.ofString "constants"), .str (Str.ofString "constants") c1, .ref 510⟩, ⟨PyData.keyHash w.params (Str.ofString "stack"), .str (Str.ofString "stack") c2, .ref st⟩, ⟨PyData.keyHash w.params (Str.ofString "room"), .str (Str.ofString "room") c3, .int rm tr⟩, ⟨PyData.keyHash w.params (Str.ofString "limits"), .str (Str.ofString "limits") c4, .ref lm⟩, ⟨PyData.keyHash w.params (Str.ofString "works"), .str (Str.ofString "works") c5, .ref wk⟩, ⟨PyData.keyHash w.params (Str.ofString "pc"), .str (Str.ofString "pc") c6, .int pc tp⟩, ⟨PyData.keyHash w.params (Str.ofString "top"), .str (Str.ofString "top") c7, .int top tt⟩, ⟨PyData.keyHash w.params (Str.ofString "result"), .str (Str.ofString "result") c8, .none⟩] 9) :: (st, listOf vs.toArray k) :: (wk, instObj 412 dw) :: (dw, dictOf [⟨PyData.keyHash w.params (Str.ofString "new_table"), .str (Str.ofString "new_table") e0, w0⟩, ⟨PyData.keyHash w.params (Str.ofString "index"), .str (Str.ofString "index") e1, w1⟩, ⟨PyData.keyHash w.params (Str.ofString "put"), .str (Str.ofString "put") e2, w2⟩, ⟨PyData.keyHash w.params (Str.ofString "length"), .str (Str.ofString "length") e3, w3⟩, ⟨PyData.keyHash w.params (Str.ofString "compared"), .str (Str.ofString "compared") e4, .ref 543⟩, ⟨PyData.keyHash w.params (Str.ofString "called"), .str (Str.ofString "called") e5, w5⟩] 6) :: (cd, listOf cvs.toArray kc) :: rest) → Top p loose mean mg mb h₀ → cs.kind = .function → dp + 6 < recursionLimit → un + 48 < cLine → (@Ne Nat x dx ∧ @Ne Nat x st ∧ @Ne Nat dx st ∧ @Ne Nat wk dx ∧ @Ne Nat wk st ∧ @Ne Nat dw dx ∧ @Ne Nat dw st ∧ @Ne Nat cd dx ∧ @Ne Nat cd st) → (∀ p ∈ rest, p.1 ≠ dx ∧ p.1 ≠ st) → (RVs xs vs) → (IntsAre cvs cns) → (0 ≤ ins ∧ ins < 2 ^ 40) → (0 ≤ pc ∧ pc < 100) → (ins / 64 % 256 = ra) → (ins / 8388608 = rb) → (ins / 16384 % 512 = rc) → (0 ≤ ra ∧ ra < xs.length ∧ ra < 100) → (0 ≤ rb ∧ rb < xs.length ∧ rb < 100) → (∀ (tp' : Tok) (h' : Heap) (tk' : Nat), Fr h₀ L h' m → News h₀ L h' ((x, instObj 503 dx) :: (dx, dictOf [⟨PyData.keyHash w.params (Str.ofString "code"), .str (Str.ofString "code") c0, .ref cd⟩, ⟨PyData.keyHash w.params (Str.ofString "constants"), .str (Str.ofString "constants") c1, .ref 510⟩, ⟨PyData.keyHash w.params (Str.ofString "stack"), .str (Str.ofString "stack") c2, .ref st⟩, ⟨PyData.keyHash w.params (Str.ofString "room"), .str (Str.ofString "room") c3, .int rm tr⟩, ⟨PyData.keyHash w.params (Str.ofString "limits"), .str (Str.ofString "limits") c4, .ref lm⟩, ⟨PyData.keyHash w.params (Str.ofString "works"), .str (Str.ofString "works") c5, .ref wk⟩, ⟨PyData.keyHash w.params (Str.ofString "pc"), .str (Str.ofString "pc") c6, .int pc tp'⟩, ⟨PyData.keyHash w.params (Str.ofString "top"), .str (Str.ofString "top") c7, .int top tt⟩, ⟨PyData.keyHash w.params (Str.ofString "result"), .str (Str.ofString "result") c8, .none⟩] 9) :: (st, listOf (vs.set ra.toNat (vs.getD rb.toNat .none)).toArray k) :: (wk, instObj 412 dw) :: (dw, dictOf [⟨PyData.keyHash w.params (Str.ofString "new_table"), .str (Str.ofString "new_table") e0, w0⟩, ⟨PyData.keyHash w.params (Str.ofString "index"), .str (Str.ofString "index") e1, w1⟩, ⟨PyData.keyHash w.params (Str.ofString "put"), .str (Str.ofString "put") e2, w2⟩, ⟨PyData.keyHash w.params (Str.ofString "length"), .str (Str.ofString "length") e3, w3⟩, ⟨PyData.keyHash w.params (Str.ofString "compared"), .str (Str.ofString "compared") e4, .ref 543⟩, ⟨PyData.keyHash w.params (Str.ofString "called"), .str (Str.ofString "called") e5, w5⟩] 6) :: (cd, listOf cvs.toArray kc) :: rest) → Q (.bool true) { s with heap := h', toks := tk' }) → wpAny (model PySem.Challenge.rw_pc0174_02.row.prog w) (ktrTop dp un gd cn cs L a ccd cl outer) (call (.ref 444) [.ref x, .int 0 to, .int ins ti]) Q E s := by
  k_fill
  intro w p loose mean mg mb dp un gd cn cs a ccd cl outer A₀ base h₀ L m s Q E x dx st cd lm wk dw c0 c1 c2 c3 c4 c5 c6 c7 c8 e0 e1 e2 e3 e4 e5 w0 w1 w2 w3 w5 rm top pc tr tt tp k kc xs vs cvs cns rest ins op ra rb rc ti to B F X N T hck hd9 hu9 hne hr hx hcv hi hpc hra hrb hrc hA hB hret
  have hl := hx.length
  obtain ⟨hn1, hn2, hn3, hn4, hn5, hn6, hn7, hn8, hn9⟩ := hne
  have hrd : ∀ p ∈ rest, p.1 ≠ dx := fun p hp => (hr p hp).1
  have hrs : ∀ p ∈ rest, p.1 ≠ st := fun p hp => (hr p hp).2
  obtain ⟨hi0, hi1⟩ := hi
  obtain ⟨hp0, hp1⟩ := hpc
  refine wpAny_call ?_
  k_dflt cell_enter
  k_steps
  all_goals ((rename News h₀ L _ _ => lN); (try simp only [Int.zero_add, Int.add_zero] at lN); exact hret _ _ _ (by k_asm) lN)
theorem done_loadbool : ∀ (w : World) (p : Program) (loose : List Str) (mean : ExcName → Option Value) (mg mb : Str → Option Value) (dp un : Nat) (gd : Option (List Code)) (cn : Str) (cs : Scope) (a : Addr) (ccd : Value) (cl : List (Str × Addr)) (outer : List Env) (A₀ : Around) (base h₀ : Heap) (L : Addr) (m : Str → Option Value) (s : Shared) (Q E : Value → Shared → Prop) (x dx st cd lm wk dw : Addr) (c0 c1 c2 c3 c4 c5 c6 c7 c8 e0 e1 e2 e3 e4 e5 : Tok) (w0 w1 w2 w3 w5 : Value) (rm top pc : Int) (tr tt tp : Tok) (k kc : Nat) (xs : List RV) (vs cvs : List Value) (cns : List Int) (rest : List (Addr × Obj)) (ins op ra rb rc : Int) (ti to : Tok), Below A₀ base outer h₀ → Fr h₀ L s.heap m → (Kf w.params).In h₀ → News h₀ L s.heap ((x, instObj 503 dx) :: (dx, dictOf [⟨PyData.keyHash w.params (Str.ofString "code"), .str (Str.ofString "code") c0, .ref cd⟩, ⟨PyData.keyHash w.params (Str.ofString "constants"), .str (Str.ofString "constants") c1, .ref 510⟩, ⟨PyData.keyHash w.params (Str.ofString "stack"), .str (Str.ofString "stack") c2, .ref st⟩, ⟨PyData.keyHash w.params (Str.ofString "room"), .str (Str.ofString "room") c3, .int rm tr⟩, ⟨PyData.keyHash w.params (Str.ofString "limits"), .str (Str.ofString "limits") c4, .ref lm⟩, ⟨PyData.keyHash w.params (Str.ofString "works"), .str (Str.ofString "works") c5, .ref wk⟩, ⟨PyData.keyHash w.params (Str.ofString "pc"), .str (Str.ofString "pc") c6, .int pc tp⟩, ⟨PyData.keyHash w.params (Str.ofString "top"), .str (Str.ofString "top") c7, .int top tt⟩, ⟨PyData.keyHash w.params (Str.ofString "result"), .str (Str.ofString "result") c8, .none⟩] 9) :: (st, listOf vs.toArray k) :: (wk, instObj 412 dw) :: (dw, dictOf [⟨PyData.keyHash w.params (Str.ofString "new_table"), .str (Str.ofString "new_table") e0, w0⟩, ⟨PyData.keyHash w.params (Str.ofString "index"), .str (Str.ofString "index") e1, w1⟩, ⟨PyData.keyHash w.params (Str.ofString "put"), .str (Str.ofString "put") e2, w2⟩, ⟨PyData.keyHash w.params (Str.ofString "length"), .str (Str.ofString "length") e3, w3⟩, ⟨PyData.keyHash w.params (Str.ofString "compared"), .str (Str.ofString "compared") e4, .ref 543⟩, ⟨PyData.keyHash w.params (Str.ofString "called"), .str (Str.ofString "called") e5, w5⟩] 6) :: (cd, listOf cvs.toArray kc) :: rest) → Top p loose mean mg mb h₀ → cs.kind = .function → dp + 6 < recursionLimit → un + 48 < cLine → (@Ne Nat x dx ∧ @Ne Nat x st ∧ @Ne Nat dx st ∧ @Ne Nat wk dx ∧ @Ne Nat wk st ∧ @Ne Nat dw dx ∧ @Ne Nat dw st ∧ @Ne Nat cd dx ∧ @Ne Nat cd st) → (∀ p ∈ rest, p.1 ≠ dx ∧ p.1 ≠ st) → (RVs xs vs) → (IntsAre cvs cns) → (0 ≤ ins ∧ ins < 2 ^ 40) → (0 ≤ pc ∧ pc < 100) → (ins / 64 % 256 = ra) → (ins / 8388608 = rb) → (ins / 16384 % 512 = rc) → (0 ≤ ra ∧ ra < xs.length ∧ ra < 100) → (∀ (pc' : Int) (tp' : Tok) (h' : Heap) (tk' : Nat), (pc' = pc + (if rc = 0 then 0 else 1)) → Fr h₀ L h' m → News h₀ L h' ((x, instObj 503 dx) :: (dx, dictOf [⟨PyData.keyHash w.params (Str.ofString "code"), .str (Str.ofString "code") c0, .ref cd⟩, ⟨PyData.keyHash w.params (Str.ofString "constants"), .str (Str.ofString "constants") c1, .ref 510⟩, ⟨PyData.keyHash w.params (Str.ofString "stack"), .str (Str.ofString "stack") c2, .ref st⟩, ⟨PyData.keyHash w.params (Str.ofString "room"), .str (Str.ofString "room") c3, .int rm tr⟩, ⟨PyData.keyHash w.params (Str.ofString "limits"), .str (Str.ofString "limits") c4, .ref lm⟩, ⟨PyData.keyHash w.params (Str.ofString "works"), .str (Str.ofString "works") c5, .ref wk⟩, ⟨PyData.keyHash w.params (Str.ofString "pc"), .str (Str.ofString "pc") c6, .int pc' tp'⟩, ⟨PyData.keyHash w.params (Str.ofString "top"), .str (Str.ofString "top") c7, .int top tt⟩, ⟨PyData.keyHash w.params (Str.ofString "result"), .str (Str.ofString "result") c8, .none⟩] 9) :: (st, listOf (vs.set ra.toNat (.bool (rb != 0))).toArray k) :: (wk, instObj 412 dw) :: (dw, dictOf [⟨PyData.keyHash w.params (Str.ofString "new_table"), .str (Str.ofString "new_table") e0, w0⟩, ⟨PyData.keyHash w.params (Str.ofString "index"), .str (Str.ofString "index") e1, w1⟩, ⟨PyData.keyHash w.params (Str.ofString "put"), .str (Str.ofString "put") e2, w2⟩, ⟨PyData.keyHash w.params (Str.ofString "length"), .str (Str.ofString "length") e3, w3⟩, ⟨PyData.keyHash w.params (Str.ofString "compared"), .str (Str.ofString "compared") e4, .ref 543⟩, ⟨PyData.keyHash w.params (Str.ofString "called"), .str (Str.ofString "called") e5, w5⟩] 6) :: (cd, listOf cvs.toArray kc) :: rest) → Q (.bool true) { s with heap := h', toks := tk' }) → wpAny (model PySem.Challenge.rw_pc0174_02.row.prog w) (ktrTop dp un gd cn cs L a ccd cl outer) (call (.ref 444) [.ref x, .int 2 to, .int ins ti]) Q E s := by
  k_fill
  intro w p loose mean mg mb dp un gd cn cs a ccd cl outer A₀ base h₀ L m s Q E x dx st cd lm wk dw c0 c1 c2 c3 c4 c5 c6 c7 c8 e0 e1 e2 e3 e4 e5 w0 w1 w2 w3 w5 rm top pc tr tt tp k kc xs vs cvs cns rest ins op ra rb rc ti to B F X N T hck hd9 hu9 hne hr hx hcv hi hpc hra hrb hrc hA hret
  have hl := hx.length
  obtain ⟨hn1, hn2, hn3, hn4, hn5, hn6, hn7, hn8, hn9⟩ := hne
  have hrd : ∀ p ∈ rest, p.1 ≠ dx := fun p hp => (hr p hp).1
  have hrs : ∀ p ∈ rest, p.1 ≠ st := fun p hp => (hr p hp).2
  obtain ⟨hi0, hi1⟩ := hi
  obtain ⟨hp0, hp1⟩ := hpc
  refine wpAny_call ?_
  k_dflt cell_enter
  k_steps
  all_goals ((rename News h₀ L _ _ => lN); (try simp only [Int.zero_add, Int.add_zero] at lN); refine hret _ _ _ _ ?_ (by k_asm) lN)
  · rw [if_neg (by omega)]
  · rw [if_pos (by omega)]; omega
theorem done_jmp : ∀ (w : World) (p : Program) (loose : List Str) (mean : ExcName → Option Value) (mg mb : Str → Option Value) (dp un : Nat) (gd : Option (List Code)) (cn : Str) (cs : Scope) (a : Addr) (ccd : Value) (cl : List (Str × Addr)) (outer : List Env) (A₀ : Around) (base h₀ : Heap) (L : Addr) (m : Str → Option Value) (s : Shared) (Q E : Value → Shared → Prop) (x dx st cd lm wk dw : Addr) (c0 c1 c2 c3 c4 c5 c6 c7 c8 e0 e1 e2 e3 e4 e5 : Tok) (w0 w1 w2 w3 w5 : Value) (rm top pc : Int) (tr tt tp : Tok) (k kc : Nat) (xs : List RV) (vs cvs : List Value) (cns : List Int) (rest : List (Addr × Obj)) (ins op ra rb rc : Int) (ti to : Tok) (j : Int), Below A₀ base outer h₀ → Fr h₀ L s.heap m → (Kf w.params).In h₀ → News h₀ L s.heap ((x, instObj 503 dx) :: (dx, dictOf [⟨PyData.keyHash w.params (Str.ofString "code"), .str (Str.ofString "code") c0, .ref cd⟩, ⟨PyData.keyHash w.params (Str.ofString "constants"), .str (Str.ofString "constants") c1, .ref 510⟩, ⟨PyData.keyHash w.params (Str.ofString "stack"), .str (Str.ofString "stack") c2, .ref st⟩, ⟨PyData.keyHash w.params (Str.ofString "room"), .str (Str.ofString "room") c3, .int rm tr⟩, ⟨PyData.keyHash w.params (Str.ofString "limits"), .str (Str.ofString "limits") c4, .ref lm⟩, ⟨PyData.keyHash w.params (Str.ofString "works"), .str (Str.ofString "works") c5, .ref wk⟩, ⟨PyData.keyHash w.params (Str.ofString "pc"), .str (Str.ofString "pc") c6, .int pc tp⟩, ⟨PyData.keyHash w.params (Str.ofString "top"), .str (Str.ofString "top") c7, .int top tt⟩, ⟨PyData.keyHash w.params (Str.ofString "result"), .str (Str.ofString "result") c8, .none⟩] 9) :: (st, listOf vs.toArray k) :: (wk, instObj 412 dw) :: (dw, dictOf [⟨PyData.keyHash w.params (Str.ofString "new_table"), .str (Str.ofString "new_table") e0, w0⟩, ⟨PyData.keyHash w.params (Str.ofString "index"), .str (Str.ofString "index") e1, w1⟩, ⟨PyData.keyHash w.params (Str.ofString "put"), .str (Str.ofString "put") e2, w2⟩, ⟨PyData.keyHash w.params (Str.ofString "length"), .str (Str.ofString "length") e3, w3⟩, ⟨PyData.keyHash w.params (Str.ofString "compared"), .str (Str.ofString "compared") e4, .ref 543⟩, ⟨PyData.keyHash w.params (Str.ofString "called"), .str (Str.ofString "called") e5, w5⟩] 6) :: (cd, listOf cvs.toArray kc) :: rest) → Top p loose mean mg mb h₀ → cs.kind = .function → dp + 6 < recursionLimit → un + 48 < cLine → (@Ne Nat x dx ∧ @Ne Nat x st ∧ @Ne Nat dx st ∧ @Ne Nat wk dx ∧ @Ne Nat wk st ∧ @Ne Nat dw dx ∧ @Ne Nat dw st ∧ @Ne Nat cd dx ∧ @Ne Nat cd st) → (∀ p ∈ rest, p.1 ≠ dx ∧ p.1 ≠ st) → (RVs xs vs) → (IntsAre cvs cns) → (0 ≤ ins ∧ ins < 2 ^ 40) → (0 ≤ pc ∧ pc < 100) → (ins / 64 % 256 = ra) → (ins / 8388608 = rb) → (ins / 16384 % 512 = rc) → (ins / 16384 - 131071 = j) → (∀ (tp' : Tok) (h' : Heap) (tk' : Nat), Fr h₀ L h' m → News h₀ L h' ((x, instObj 503 dx) :: (dx, dictOf [⟨PyData.keyHash w.params (Str.ofString "code"), .str (Str.ofString "code") c0, .ref cd⟩, ⟨PyData.keyHash w.params (Str.ofString "constants"), .str (Str.ofString "constants") c1, .ref 510⟩, ⟨PyData.keyHash w.params (Str.ofString "stack"), .str (Str.ofString "stack") c2, .ref st⟩, ⟨PyData.keyHash w.params (Str.ofString "room"), .str (Str.ofString "room") c3, .int rm tr⟩, ⟨PyData.keyHash w.params (Str.ofString "limits"), .str (Str.ofString "limits") c4, .ref lm⟩, ⟨PyData.keyHash w.params (Str.ofString "works"), .str (Str.ofString "works") c5, .ref wk⟩, ⟨PyData.keyHash w.params (Str.ofString "pc"), .str (Str.ofString "pc") c6, .int (pc + j) tp'⟩, ⟨PyData.keyHash w.params (Str.ofString "top"), .str (Str.ofString "top") c7, .int top tt⟩, ⟨PyData.keyHash w.params (Str.ofString "result"), .str (Str.ofString "result") c8, .none⟩] 9) :: (st, listOf vs.toArray k) :: (wk, instObj 412 dw) :: (dw, dictOf [⟨PyData.keyHash w.params (Str.ofString "new_table"), .str (Str.ofString "new_table") e0, w0⟩, ⟨PyData.keyHash w.params (Str.ofString "index"), .str (Str.ofString "index") e1, w1⟩, ⟨PyData.keyHash w.params (Str.ofString "put"), .str (Str.ofString "put") e2, w2⟩, ⟨PyData.keyHash w.params (Str.ofString "length"), .str (Str.ofString "length") e3, w3⟩, ⟨PyData.keyHash w.params (Str.ofString "compared"), .str (Str.ofString "compared") e4, .ref 543⟩, ⟨PyData.keyHash w.params (Str.ofString "called"), .str (Str.ofString "called") e5, w5⟩] 6) :: (cd, listOf cvs.toArray kc) :: rest) → Q (.bool true) { s with heap := h', toks := tk' }) → wpAny (model PySem.Challenge.rw_pc0174_02.row.prog w) (ktrTop dp un gd cn cs L a ccd cl outer) (call (.ref 444) [.ref x, .int 22 to, .int ins ti]) Q E s := by
  k_fill
  intro w p loose mean mg mb dp un gd cn cs a ccd cl outer A₀ base h₀ L m s Q E x dx st cd lm wk dw c0 c1 c2 c3 c4 c5 c6 c7 c8 e0 e1 e2 e3 e4 e5 w0 w1 w2 w3 w5 rm top pc tr tt tp k kc xs vs cvs cns rest ins op ra rb rc ti to j B F X N T hck hd9 hu9 hne hr hx hcv hi hpc hra hrb hrc hjv hret
  have hl := hx.length
  obtain ⟨hn1, hn2, hn3, hn4, hn5, hn6, hn7, hn8, hn9⟩ := hne
  have hrd : ∀ p ∈ rest, p.1 ≠ dx := fun p hp => (hr p hp).1
  have hrs : ∀ p ∈ rest, p.1 ≠ st := fun p hp => (hr p hp).2
  obtain ⟨hi0, hi1⟩ := hi
  obtain ⟨hp0, hp1⟩ := hpc
  refine wpAny_call ?_
  k_dflt cell_enter
  k_steps
  all_goals ((rename News h₀ L _ _ => lN); (try simp only [Int.zero_add, Int.add_zero] at lN); exact hret _ _ _ (by k_asm) lN)
theorem done_cmp : ∀ (w : World) (p : Program) (loose : List Str) (mean : ExcName → Option Value) (mg mb : Str → Option Value) (dp un : Nat) (gd : Option (List Code)) (cn : Str) (cs : Scope) (a : Addr) (ccd : Value) (cl : List (Str × Addr)) (outer : List Env) (A₀ : Around) (base h₀ : Heap) (L : Addr) (m : Str → Option Value) (s : Shared) (Q E : Value → Shared → Prop) (x dx st cd lm wk dw : Addr) (c0 c1 c2 c3 c4 c5 c6 c7 c8 e0 e1 e2 e3 e4 e5 : Tok) (w0 w1 w2 w3 w5 : Value) (rm top pc : Int) (tr tt tp : Tok) (k kc : Nat) (xs : List RV) (vs cvs : List Value) (cns : List Int) (rest : List (Addr × Obj)) (ins op ra rb rc : Int) (ti to : Tok) (j : Int), Below A₀ base outer h₀ → Fr h₀ L s.heap m → (Kf w.params).In h₀ → News h₀ L s.heap ((x, instObj 503 dx) :: (dx, dictOf [⟨PyData.keyHash w.params (Str.ofString "code"), .str (Str.ofString "code") c0, .ref cd⟩, ⟨PyData.keyHash w.params (Str.ofString "constants"), .str (Str.ofString "constants") c1, .ref 510⟩, ⟨PyData.keyHash w.params (Str.ofString "stack"), .str (Str.ofString "stack") c2, .ref st⟩, ⟨PyData.keyHash w.params (Str.ofString "room"), .str (Str.ofString "room") c3, .int rm tr⟩, ⟨PyData.keyHash w.params (Str.ofString "limits"), .str (Str.ofString "limits") c4, .ref lm⟩, ⟨PyData.keyHash w.params (Str.ofString "works"), .str (Str.ofString "works") c5, .ref wk⟩, ⟨PyData.keyHash w.params (Str.ofString "pc"), .str (Str.ofString "pc") c6, .int pc tp⟩, ⟨PyData.keyHash w.params (Str.ofString "top"), .str (Str.ofString "top") c7, .int top tt⟩, ⟨PyData.keyHash w.params (Str.ofString "result"), .str (Str.ofString "result") c8, .none⟩] 9) :: (st, listOf vs.toArray k) :: (wk, instObj 412 dw) :: (dw, dictOf [⟨PyData.keyHash w.params (Str.ofString "new_table"), .str (Str.ofString "new_table") e0, w0⟩, ⟨PyData.keyHash w.params (Str.ofString "index"), .str (Str.ofString "index") e1, w1⟩, ⟨PyData.keyHash w.params (Str.ofString "put"), .str (Str.ofString "put") e2, w2⟩, ⟨PyData.keyHash w.params (Str.ofString "length"), .str (Str.ofString "length") e3, w3⟩, ⟨PyData.keyHash w.params (Str.ofString "compared"), .str (Str.ofString "compared") e4, .ref 543⟩, ⟨PyData.keyHash w.params (Str.ofString "called"), .str (Str.ofString "called") e5, w5⟩] 6) :: (cd, listOf cvs.toArray kc) :: rest) → Top p loose mean mg mb h₀ → cs.kind = .function → dp + 6 < recursionLimit → un + 48 < cLine → (@Ne Nat x dx ∧ @Ne Nat x st ∧ @Ne Nat dx st ∧ @Ne Nat wk dx ∧ @Ne Nat wk st ∧ @Ne Nat dw dx ∧ @Ne Nat dw st ∧ @Ne Nat cd dx ∧ @Ne Nat cd st) → (∀ p ∈ rest, p.1 ≠ dx ∧ p.1 ≠ st) → (RVs xs vs) → (IntsAre cvs cns) → (0 ≤ ins ∧ ins < 2 ^ 40) → (0 ≤ pc ∧ pc < 100) → (ins / 64 % 256 = ra) → (ins / 8388608 = rb) → (ins / 16384 % 512 = rc) → (22 < op) → (op < 26) → (((0 ≤ rb ∧ rb < 256 ∧ rb < xs.length) ∨ rb = 256 ∨ rb = 257 ∨ rb = 258)) → (((0 ≤ rc ∧ rc < 256 ∧ rc < xs.length) ∨ rc = 256 ∨ rc = 257 ∨ rc = 258)) → (0 ≤ cns.getD pc.toNat 0 ∧ cns.getD pc.toNat 0 < 2 ^ 40) → (pc < cns.length) → (cns.getD pc.toNat 0 / 16384 - 131071 = j) → (∀ (z : Bool) (pc' : Int) (tp' : Tok) (h' : Heap) (tk' : Nat), (cmpOut op ra (opd2 xs rb) (opd2 xs rc) pc j = (z, pc')) → Fr h₀ L h' m → News h₀ L h' ((x, instObj 503 dx) :: (dx, dictOf [⟨PyData.keyHash w.params (Str.ofString "code"), .str (Str.ofString "code") c0, .ref cd⟩, ⟨PyData.keyHash w.params (Str.ofString "constants"), .str (Str.ofString "constants") c1, .ref 510⟩, ⟨PyData.keyHash w.params (Str.ofString "stack"), .str (Str.ofString "stack") c2, .ref st⟩, ⟨PyData.keyHash w.params (Str.ofString "room"), .str (Str.ofString "room") c3, .int rm tr⟩, ⟨PyData.keyHash w.params (Str.ofString "limits"), .str (Str.ofString "limits") c4, .ref lm⟩, ⟨PyData.keyHash w.params (Str.ofString "works"), .str (Str.ofString "works") c5, .ref wk⟩, ⟨PyData.keyHash w.params (Str.ofString "pc"), .str (Str.ofString "pc") c6, .int pc' tp'⟩, ⟨PyData.keyHash w.params (Str.ofString "top"), .str (Str.ofString "top") c7, .int top tt⟩, ⟨PyData.keyHash w.params (Str.ofString "result"), .str (Str.ofString "result") c8, .none⟩] 9) :: (st, listOf vs.toArray k) :: (wk, instObj 412 dw) :: (dw, dictOf [⟨PyData.keyHash w.params (Str.ofString "new_table"), .str (Str.ofString "new_table") e0, w0⟩, ⟨PyData.keyHash w.params (Str.ofString "index"), .str (Str.ofString "index") e1, w1⟩, ⟨PyData.keyHash w.params (Str.ofString "put"), .str (Str.ofString "put") e2, w2⟩, ⟨PyData.keyHash w.params (Str.ofString "length"), .str (Str.ofString "length") e3, w3⟩, ⟨PyData.keyHash w.params (Str.ofString "compared"), .str (Str.ofString "compared") e4, .ref 543⟩, ⟨PyData.keyHash w.params (Str.ofString "called"), .str (Str.ofString "called") e5, w5⟩] 6) :: (cd, listOf cvs.toArray kc) :: rest) → Q (.bool z) { s with heap := h', toks := tk' }) → wpAny (model PySem.Challenge.rw_pc0174_02.row.prog w) (ktrTop dp un gd cn cs L a ccd cl outer) (call (.ref 444) [.ref x, .int op to, .int ins ti]) Q E s := by
  k_fill
  intro w p loose mean mg mb dp un gd cn cs a ccd cl outer A₀ base h₀ L m s Q E x dx st cd lm wk dw c0 c1 c2 c3 c4 c5 c6 c7 c8 e0 e1 e2 e3 e4 e5 w0 w1 w2 w3 w5 rm top pc tr tt tp k kc xs vs cvs cns rest ins op ra rb rc ti to j B F X N T hck hd9 hu9 hne hr hx hcv hi hpc hra hrb hrc hop hop2 hB hC hj hpl hjv hret
  have hl := hx.length
  obtain ⟨hn1, hn2, hn3, hn4, hn5, hn6, hn7, hn8, hn9⟩ := hne
  have hrd : ∀ p ∈ rest, p.1 ≠ dx := fun p hp => (hr p hp).1
  have hrs : ∀ p ∈ rest, p.1 ≠ st := fun p hp => (hr p hp).2
  obtain ⟨hi0, hi1⟩ := hi
  obtain ⟨hp0, hp1⟩ := hpc
  obtain ⟨hj0, hj1⟩ := hj
  have hcl := IntsAre.length hcv
  have h21 : op ≠ 21 := by omega
  have h22 : op ≠ 22 := by omega
  have g21 : (op == 21) = false := by simpa using h21
  have g22 : (op == 22) = false := by simpa using h22
  refine wpAny_call ?_
  k_dflt cell_enter
  k_steps
  all_goals ((rename News h₀ L _ _ => lN); (try simp only [Int.zero_add, Int.add_zero] at lN); refine hret _ _ _ _ _ ?_ (by k_asm) (news_tl lN); unfold cmpOut; rw [‹cmpV _ _ _ = _›]; (try (dsimp only; rw [‹(_ == _) = _›])); try rfl)
theorem done_test : ∀ (w : World) (p : Program) (loose : List Str) (mean : ExcName → Option Value) (mg mb : Str → Option Value) (dp un : Nat) (gd : Option (List Code)) (cn : Str) (cs : Scope) (a : Addr) (ccd : Value) (cl : List (Str × Addr)) (outer : List Env) (A₀ : Around) (base h₀ : Heap) (L : Addr) (m : Str → Option Value) (s : Shared) (Q E : Value → Shared → Prop) (x dx st cd lm wk dw : Addr) (c0 c1 c2 c3 c4 c5 c6 c7 c8 e0 e1 e2 e3 e4 e5 : Tok) (w0 w1 w2 w3 w5 : Value) (rm top pc : Int) (tr tt tp : Tok) (k kc : Nat) (xs : List RV) (vs cvs : List Value) (cns : List Int) (rest : List (Addr × Obj)) (ins op ra rb rc : Int) (ti to : Tok) (j : Int), Below A₀ base outer h₀ → Fr h₀ L s.heap m → (Kf w.params).In h₀ → News h₀ L s.heap ((x, instObj 503 dx) :: (dx, dictOf [⟨PyData.keyHash w.params (Str.ofString "code"), .str (Str.ofString "code") c0, .ref cd⟩, ⟨PyData.keyHash w.params (Str.ofString "constants"), .str (Str.ofString "constants") c1, .ref 510⟩, ⟨PyData.keyHash w.params (Str.ofString "stack"), .str (Str.ofString "stack") c2, .ref st⟩, ⟨PyData.keyHash w.params (Str.ofString "room"), .str (Str.ofString "room") c3, .int rm tr⟩, ⟨PyData.keyHash w.params (Str.ofString "limits"), .str (Str.ofString "limits") c4, .ref lm⟩, ⟨PyData.keyHash w.params (Str.ofString "works"), .str (Str.ofString "works") c5, .ref wk⟩, ⟨PyData.keyHash w.params (Str.ofString "pc"), .str (Str.ofString "pc") c6, .int pc tp⟩, ⟨PyData.keyHash w.params (Str.ofString "top"), .str (Str.ofString "top") c7, .int top tt⟩, ⟨PyData.keyHash w.params (Str.ofString "result"), .str (Str.ofString "result") c8, .none⟩] 9) :: (st, listOf vs.toArray k) :: (wk, instObj 412 dw) :: (dw, dictOf [⟨PyData.keyHash w.params (Str.ofString "new_table"), .str (Str.ofString "new_table") e0, w0⟩, ⟨PyData.keyHash w.params (Str.ofString "index"), .str (Str.ofString "index") e1, w1⟩, ⟨PyData.keyHash w.params (Str.ofString "put"), .str (Str.ofString "put") e2, w2⟩, ⟨PyData.keyHash w.params (Str.ofString "length"), .str (Str.ofString "length") e3, w3⟩, ⟨PyData.keyHash w.params (Str.ofString "compared"), .str (Str.ofString "compared") e4, .ref 543⟩, ⟨PyData.keyHash w.params (Str.ofString "called"), .str (Str.ofString "called") e5, w5⟩] 6) :: (cd, listOf cvs.toArray kc) :: rest) → Top p loose mean mg mb h₀ → cs.kind = .function → dp + 6 < recursionLimit → un + 48 < cLine → (@Ne Nat x dx ∧ @Ne Nat x st ∧ @Ne Nat dx st ∧ @Ne Nat wk dx ∧ @Ne Nat wk st ∧ @Ne Nat dw dx ∧ @Ne Nat dw st ∧ @Ne Nat cd dx ∧ @Ne Nat cd st) → (∀ p ∈ rest, p.1 ≠ dx ∧ p.1 ≠ st) → (RVs xs vs) → (IntsAre cvs cns) → (0 ≤ ins ∧ ins < 2 ^ 40) → (0 ≤ pc ∧ pc < 100) → (ins / 64 % 256 = ra) → (ins / 8388608 = rb) → (ins / 16384 % 512 = rc) → (0 ≤ ra ∧ ra < xs.length ∧ ra < 100) → (0 ≤ cns.getD pc.toNat 0 ∧ cns.getD pc.toNat 0 < 2 ^ 40) → (pc < cns.length) → (cns.getD pc.toNat 0 / 16384 - 131071 = j) → (∀ (tp' : Tok) (h' : Heap) (tk' : Nat), Fr h₀ L h' m → News h₀ L h' ((x, instObj 503 dx) :: (dx, dictOf [⟨PyData.keyHash w.params (Str.ofString "code"), .str (Str.ofString "code") c0, .ref cd⟩, ⟨PyData.keyHash w.params (Str.ofString "constants"), .str (Str.ofString "constants") c1, .ref 510⟩, ⟨PyData.keyHash w.params (Str.ofString "stack"), .str (Str.ofString "stack") c2, .ref st⟩, ⟨PyData.keyHash w.params (Str.ofString "room"), .str (Str.ofString "room") c3, .int rm tr⟩, ⟨PyData.keyHash w.params (Str.ofString "limits"), .str (Str.ofString "limits") c4, .ref lm⟩, ⟨PyData.keyHash w.params (Str.ofString "works"), .str (Str.ofString "works") c5, .ref wk⟩, ⟨PyData.keyHash w.params (Str.ofString "pc"), .str (Str.ofString "pc") c6, .int (goTo (isFalse (xs.getD ra.toNat .none) != (rc != 0)) pc j) tp'⟩, ⟨PyData.keyHash w.params (Str.ofString "top"), .str (Str.ofString "top") c7, .int top tt⟩, ⟨PyData.keyHash w.params (Str.ofString "result"), .str (Str.ofString "result") c8, .none⟩] 9) :: (st, listOf vs.toArray k) :: (wk, instObj 412 dw) :: (dw, dictOf [⟨PyData.keyHash w.params (Str.ofString "new_table"), .str (Str.ofString "new_table") e0, w0⟩, ⟨PyData.keyHash w.params (Str.ofString "index"), .str (Str.ofString "index") e1, w1⟩, ⟨PyData.keyHash w.params (Str.ofString "put"), .str (Str.ofString "put") e2, w2⟩, ⟨PyData.keyHash w.params (Str.ofString "length"), .str (Str.ofString "length") e3, w3⟩, ⟨PyData.keyHash w.params (Str.ofString "compared"), .str (Str.ofString "compared") e4, .ref 543⟩, ⟨PyData.keyHash w.params (Str.ofString "called"), .str (Str.ofString "called") e5, w5⟩] 6) :: (cd, listOf cvs.toArray kc) :: rest) → Q (.bool true) { s with heap := h', toks := tk' }) → wpAny (model PySem.Challenge.rw_pc0174_02.row.prog w) (ktrTop dp un gd cn cs L a ccd cl outer) (call (.ref 444) [.ref x, .int 26 to, .int ins ti]) Q E s := by
  k_fill
  intro w p loose mean mg mb dp un gd cn cs a ccd cl outer A₀ base h₀ L m s Q E x dx st cd lm wk dw c0 c1 c2 c3 c4 c5 c6 c7 c8 e0 e1 e2 e3 e4 e5 w0 w1 w2 w3 w5 rm top pc tr tt tp k kc xs vs cvs cns rest ins op ra rb rc ti to j B F X N T hck hd9 hu9 hne hr hx hcv hi hpc hra hrb hrc hA hj hpl hjv hret
  have hl := hx.length
  obtain ⟨hn1, hn2, hn3, hn4, hn5, hn6, hn7, hn8, hn9⟩ := hne
  have hrd : ∀ p ∈ rest, p.1 ≠ dx := fun p hp => (hr p hp).1
  have hrs : ∀ p ∈ rest, p.1 ≠ st := fun p hp => (hr p hp).2
  obtain ⟨hi0, hi1⟩ := hi
  obtain ⟨hp0, hp1⟩ := hpc
  obtain ⟨hj0, hj1⟩ := hj
  have hcl := IntsAre.length hcv
  refine wpAny_call ?_
  k_dflt cell_enter
  k_steps
  all_goals ((rename News h₀ L _ _ => lN); (try simp only [Int.zero_add, Int.add_zero] at lN); first
    | (have hg : (isFalse (xs.getD ra.toNat .none) != (rc != 0)) = true := by assumption
       rw [hg] at hret
       exact hret _ _ _ (by k_asm) lN)
    | (have hg : (isFalse (xs.getD ra.toNat .none) != (rc != 0)) = false := by assumption
       rw [hg] at hret
       exact hret _ _ _ (by k_asm) lN))
theorem done_testset : ∀ (w : World) (p : Program) (loose : List Str) (mean : ExcName → Option Value) (mg mb : Str → Option Value) (dp un : Nat) (gd : Option (List Code)) (cn : Str) (cs : Scope) (a : Addr) (ccd : Value) (cl : List (Str × Addr)) (outer : List Env) (A₀ : Around) (base h₀ : Heap) (L : Addr) (m : Str → Option Value) (s : Shared) (Q E : Value → Shared → Prop) (x dx st cd lm wk dw : Addr) (c0 c1 c2 c3 c4 c5 c6 c7 c8 e0 e1 e2 e3 e4 e5 : Tok) (w0 w1 w2 w3 w5 : Value) (rm top pc : Int) (tr tt tp : Tok) (k kc : Nat) (xs : List RV) (vs cvs : List Value) (cns : List Int) (rest : List (Addr × Obj)) (ins op ra rb rc : Int) (ti to : Tok) (j : Int), Below A₀ base outer h₀ → Fr h₀ L s.heap m → (Kf w.params).In h₀ → News h₀ L s.heap ((x, instObj 503 dx) :: (dx, dictOf [⟨PyData.keyHash w.params (Str.ofString "code"), .str (Str.ofString "code") c0, .ref cd⟩, ⟨PyData.keyHash w.params (Str.ofString "constants"), .str (Str.ofString "constants") c1, .ref 510⟩, ⟨PyData.keyHash w.params (Str.ofString "stack"), .str (Str.ofString "stack") c2, .ref st⟩, ⟨PyData.keyHash w.params (Str.ofString "room"), .str (Str.ofString "room") c3, .int rm tr⟩, ⟨PyData.keyHash w.params (Str.ofString "limits"), .str (Str.ofString "limits") c4, .ref lm⟩, ⟨PyData.keyHash w.params (Str.ofString "works"), .str (Str.ofString "works") c5, .ref wk⟩, ⟨PyData.keyHash w.params (Str.ofString "pc"), .str (Str.ofString "pc") c6, .int pc tp⟩, ⟨PyData.keyHash w.params (Str.ofString "top"), .str (Str.ofString "top") c7, .int top tt⟩, ⟨PyData.keyHash w.params (Str.ofString "result"), .str (Str.ofString "result") c8, .none⟩] 9) :: (st, listOf vs.toArray k) :: (wk, instObj 412 dw) :: (dw, dictOf [⟨PyData.keyHash w.params (Str.ofString "new_table"), .str (Str.ofString "new_table") e0, w0⟩, ⟨PyData.keyHash w.params (Str.ofString "index"), .str (Str.ofString "index") e1, w1⟩, ⟨PyData.keyHash w.params (Str.ofString "put"), .str (Str.ofString "put") e2, w2⟩, ⟨PyData.keyHash w.params (Str.ofString "length"), .str (Str.ofString "length") e3, w3⟩, ⟨PyData.keyHash w.params (Str.ofString "compared"), .str (Str.ofString "compared") e4, .ref 543⟩, ⟨PyData.keyHash w.params (Str.ofString "called"), .str (Str.ofString "called") e5, w5⟩] 6) :: (cd, listOf cvs.toArray kc) :: rest) → Top p loose mean mg mb h₀ → cs.kind = .function → dp + 6 < recursionLimit → un + 48 < cLine → (@Ne Nat x dx ∧ @Ne Nat x st ∧ @Ne Nat dx st ∧ @Ne Nat wk dx ∧ @Ne Nat wk st ∧ @Ne Nat dw dx ∧ @Ne Nat dw st ∧ @Ne Nat cd dx ∧ @Ne Nat cd st) → (∀ p ∈ rest, p.1 ≠ dx ∧ p.1 ≠ st) → (RVs xs vs) → (IntsAre cvs cns) → (0 ≤ ins ∧ ins < 2 ^ 40) → (0 ≤ pc ∧ pc < 100) → (ins / 64 % 256 = ra) → (ins / 8388608 = rb) → (ins / 16384 % 512 = rc) → (0 ≤ ra ∧ ra < xs.length ∧ ra < 100) → (0 ≤ rb ∧ rb < xs.length ∧ rb < 100) → (0 ≤ cns.getD pc.toNat 0 ∧ cns.getD pc.toNat 0 < 2 ^ 40) → (pc < cns.length) → (cns.getD pc.toNat 0 / 16384 - 131071 = j) → (∀ (tp' : Tok) (vs' : List Value) (h' : Heap) (tk' : Nat), (vs' = if (isFalse (xs.getD rb.toNat .none) != (rc != 0)) then vs.set ra.toNat (vs.getD rb.toNat .none) else vs) → Fr h₀ L h' m → News h₀ L h' ((x, instObj 503 dx) :: (dx, dictOf [⟨PyData.keyHash w.params (Str.ofString "code"), .str (Str.ofString "code") c0, .ref cd⟩, ⟨PyData.keyHash w.params (Str.ofString "constants"), .str (Str.ofString "constants") c1, .ref 510⟩, ⟨PyData.keyHash w.params (Str.ofString "stack"), .str (Str.ofString "stack") c2, .ref st⟩, ⟨PyData.keyHash w.params (Str.ofString "room"), .str (Str.ofString "room") c3, .int rm tr⟩, ⟨PyData.keyHash w.params (Str.ofString "limits"), .str (Str.ofString "limits") c4, .ref lm⟩, ⟨PyData.keyHash w.params (Str.ofString "works"), .str (Str.ofString "works") c5, .ref wk⟩, ⟨PyData.keyHash w.params (Str.ofString "pc"), .str (Str.ofString "pc") c6, .int (goTo (isFalse (xs.getD rb.toNat .none) != (rc != 0)) pc j) tp'⟩, ⟨PyData.keyHash w.params (Str.ofString "top"), .str (Str.ofString "top") c7, .int top tt⟩, ⟨PyData.keyHash w.params (Str.ofString "result"), .str (Str.ofString "result") c8, .none⟩] 9) :: (st, listOf vs'.toArray k) :: (wk, instObj 412 dw) :: (dw, dictOf [⟨PyData.keyHash w.params (Str.ofString "new_table"), .str (Str.ofString "new_table") e0, w0⟩, ⟨PyData.keyHash w.params (Str.ofString "index"), .str (Str.ofString "index") e1, w1⟩, ⟨PyData.keyHash w.params (Str.ofString "put"), .str (Str.ofString "put") e2, w2⟩, ⟨PyData.keyHash w.params (Str.ofString "length"), .str (Str.ofString "length") e3, w3⟩, ⟨PyData.keyHash w.params (Str.ofString "compared"), .str (Str.ofString "compared") e4, .ref 543⟩, ⟨PyData.keyHash w.params (Str.ofString "called"), .str (Str.ofString "called") e5, w5⟩] 6) :: (cd, listOf cvs.toArray kc) :: rest) → Q (.bool true) { s with heap := h', toks := tk' }) → wpAny (model PySem.Challenge.rw_pc0174_02.row.prog w) (ktrTop dp un gd cn cs L a ccd cl outer) (call (.ref 444) [.ref x, .int 27 to, .int ins ti]) Q E s := by
  k_fill
  intro w p loose mean mg mb dp un gd cn cs a ccd cl outer A₀ base h₀ L m s Q E x dx st cd lm wk dw c0 c1 c2 c3 c4 c5 c6 c7 c8 e0 e1 e2 e3 e4 e5 w0 w1 w2 w3 w5 rm top pc tr tt tp k kc xs vs cvs cns rest ins op ra rb rc ti to j B F X N T hck hd9 hu9 hne hr hx hcv hi hpc hra hrb hrc hA hB hj hpl hjv hret
  have hl := hx.length
  obtain ⟨hn1, hn2, hn3, hn4, hn5, hn6, hn7, hn8, hn9⟩ := hne
  have hrd : ∀ p ∈ rest, p.1 ≠ dx := fun p hp => (hr p hp).1
  have hrs : ∀ p ∈ rest, p.1 ≠ st := fun p hp => (hr p hp).2
  obtain ⟨hi0, hi1⟩ := hi
  obtain ⟨hp0, hp1⟩ := hpc
  obtain ⟨hj0, hj1⟩ := hj
  have hcl := IntsAre.length hcv
  refine wpAny_call ?_
  k_dflt cell_enter
  k_steps
  all_goals ((rename News h₀ L _ _ => lN); (try simp only [Int.zero_add, Int.add_zero] at lN); first
    | (have hg : (isFalse (xs.getD rb.toNat .none) != (rc != 0)) = true := by assumption
       rw [hg] at hret
       exact hret _ _ _ _ rfl (by k_asm) lN)
    | (have hg : (isFalse (xs.getD rb.toNat .none) != (rc != 0)) = false := by assumption
       rw [hg] at hret
       exact hret _ _ _ _ rfl (by k_asm) lN))
theorem done_ret : ∀ (w : World) (p : Program) (loose : List Str) (mean : ExcName → Option Value) (mg mb : Str → Option Value) (dp un : Nat) (gd : Option (List Code)) (cn : Str) (cs : Scope) (a : Addr) (ccd : Value) (cl : List (Str × Addr)) (outer : List Env) (A₀ : Around) (base h₀ : Heap) (L : Addr) (m : Str → Option Value) (s : Shared) (Q E : Value → Shared → Prop) (x dx st cd lm wk dw : Addr) (c0 c1 c2 c3 c4 c5 c6 c7 c8 e0 e1 e2 e3 e4 e5 : Tok) (w0 w1 w2 w3 w5 : Value) (rm top pc : Int) (tr tt tp : Tok) (k kc : Nat) (xs : List RV) (vs cvs : List Value) (cns : List Int) (rest : List (Addr × Obj)) (ins op ra rb rc : Int) (ti to : Tok), Below A₀ base outer h₀ → Fr h₀ L s.heap m → (Kf w.params).In h₀ → News h₀ L s.heap ((x, instObj 503 dx) :: (dx, dictOf [⟨PyData.keyHash w.params (Str.ofString "code"), .str (Str.ofString "code") c0, .ref cd⟩, ⟨PyData.keyHash w.params (Str.ofString "constants"), .str (Str.ofString "constants") c1, .ref 510⟩, ⟨PyData.keyHash w.params (Str.ofString "stack"), .str (Str.ofString "stack") c2, .ref st⟩, ⟨PyData.keyHash w.params (Str.ofString "room"), .str (Str.ofString "room") c3, .int rm tr⟩, ⟨PyData.keyHash w.params (Str.ofString "limits"), .str (Str.ofString "limits") c4, .ref lm⟩, ⟨PyData.keyHash w.params (Str.ofString "works"), .str (Str.ofString "works") c5, .ref wk⟩, ⟨PyData.keyHash w.params (Str.ofString "pc"), .str (Str.ofString "pc") c6, .int pc tp⟩, ⟨PyData.keyHash w.params (Str.ofString "top"), .str (Str.ofString "top") c7, .int top tt⟩, ⟨PyData.keyHash w.params (Str.ofString "result"), .str (Str.ofString "result") c8, .none⟩] 9) :: (st, listOf vs.toArray k) :: (wk, instObj 412 dw) :: (dw, dictOf [⟨PyData.keyHash w.params (Str.ofString "new_table"), .str (Str.ofString "new_table") e0, w0⟩, ⟨PyData.keyHash w.params (Str.ofString "index"), .str (Str.ofString "index") e1, w1⟩, ⟨PyData.keyHash w.params (Str.ofString "put"), .str (Str.ofString "put") e2, w2⟩, ⟨PyData.keyHash w.params (Str.ofString "length"), .str (Str.ofString "length") e3, w3⟩, ⟨PyData.keyHash w.params (Str.ofString "compared"), .str (Str.ofString "compared") e4, .ref 543⟩, ⟨PyData.keyHash w.params (Str.ofString "called"), .str (Str.ofString "called") e5, w5⟩] 6) :: (cd, listOf cvs.toArray kc) :: rest) → Top p loose mean mg mb h₀ → cs.kind = .function → dp + 6 < recursionLimit → un + 48 < cLine → (@Ne Nat x dx ∧ @Ne Nat x st ∧ @Ne Nat dx st ∧ @Ne Nat wk dx ∧ @Ne Nat wk st ∧ @Ne Nat dw dx ∧ @Ne Nat dw st ∧ @Ne Nat cd dx ∧ @Ne Nat cd st) → (∀ p ∈ rest, p.1 ≠ dx ∧ p.1 ≠ st) → (RVs xs vs) → (IntsAre cvs cns) → (0 ≤ ins ∧ ins < 2 ^ 40) → (0 ≤ pc ∧ pc < 100) → (ins / 64 % 256 = ra) → (ins / 8388608 = rb) → (ins / 16384 % 512 = rc) → (xs.length = 17) → (ra = 0 ∧ rb = 6) → (∀ (rl : Addr) (kr : Nat) (zs : List Value) (h' : Heap) (tk' : Nat), (zs = vs.take 5) → Fr h₀ L h' m → News h₀ L h' ((rl, listOf zs.toArray kr) :: (x, instObj 503 dx) :: (dx, dictOf [⟨PyData.keyHash w.params (Str.ofString "code"), .str (Str.ofString "code") c0, .ref cd⟩, ⟨PyData.keyHash w.params (Str.ofString "constants"), .str (Str.ofString "constants") c1, .ref 510⟩, ⟨PyData.keyHash w.params (Str.ofString "stack"), .str (Str.ofString "stack") c2, .ref st⟩, ⟨PyData.keyHash w.params (Str.ofString "room"), .str (Str.ofString "room") c3, .int rm tr⟩, ⟨PyData.keyHash w.params (Str.ofString "limits"), .str (Str.ofString "limits") c4, .ref lm⟩, ⟨PyData.keyHash w.params (Str.ofString "works"), .str (Str.ofString "works") c5, .ref wk⟩, ⟨PyData.keyHash w.params (Str.ofString "pc"), .str (Str.ofString "pc") c6, .int pc tp⟩, ⟨PyData.keyHash w.params (Str.ofString "top"), .str (Str.ofString "top") c7, .int top tt⟩, ⟨PyData.keyHash w.params (Str.ofString "result"), .str (Str.ofString "result") c8, .ref rl⟩] 9) :: (st, listOf vs.toArray k) :: (wk, instObj 412 dw) :: (dw, dictOf [⟨PyData.keyHash w.params (Str.ofString "new_table"), .str (Str.ofString "new_table") e0, w0⟩, ⟨PyData.keyHash w.params (Str.ofString "index"), .str (Str.ofString "index") e1, w1⟩, ⟨PyData.keyHash w.params (Str.ofString "put"), .str (Str.ofString "put") e2, w2⟩, ⟨PyData.keyHash w.params (Str.ofString "length"), .str (Str.ofString "length") e3, w3⟩, ⟨PyData.keyHash w.params (Str.ofString "compared"), .str (Str.ofString "compared") e4, .ref 543⟩, ⟨PyData.keyHash w.params (Str.ofString "called"), .str (Str.ofString "called") e5, w5⟩] 6) :: (cd, listOf cvs.toArray kc) :: rest) → Q (.bool true) { s with heap := h', toks := tk' }) → wpAny (model PySem.Challenge.rw_pc0174_02.row.prog w) (ktrTop dp un gd cn cs L a ccd cl outer) (call (.ref 444) [.ref x, .int 30 to, .int ins ti]) Q E s := by
  k_fill
  intro w p loose mean mg mb dp un gd cn cs a ccd cl outer A₀ base h₀ L m s Q E x dx st cd lm wk dw c0 c1 c2 c3 c4 c5 c6 c7 c8 e0 e1 e2 e3 e4 e5 w0 w1 w2 w3 w5 rm top pc tr tt tp k kc xs vs cvs cns rest ins op ra rb rc ti to B F X N T hck hd9 hu9 hne hr hx hcv hi hpc hra hrb hrc hlen hb hret
  have hl := hx.length
  obtain ⟨hn1, hn2, hn3, hn4, hn5, hn6, hn7, hn8, hn9⟩ := hne
  have hrd : ∀ p ∈ rest, p.1 ≠ dx := fun p hp => (hr p hp).1
  have hrs : ∀ p ∈ rest, p.1 ≠ st := fun p hp => (hr p hp).2
  obtain ⟨hi0, hi1⟩ := hi
  obtain ⟨hp0, hp1⟩ := hpc
  obtain ⟨rfl, rfl⟩ := hb
  rw [hlen] at hl
  refine wpAny_call ?_
  k_dflt cell_enter
  k_steps
  all_goals ((rename News h₀ L _ _ => lN); (try simp only [Int.zero_add, Int.add_zero] at lN); refine hret _ _ _ _ _ ?_ (by k_asm) lN; simp [hl])
end Mine
end
theorem Mine.reset20 : (1 : Nat) < 2 := by first | (walk1; done) | decide
section
open PySem PySem.W PyProof.Rows PySem.Calls
namespace Mine
def Stop (p : Prop) : Prop := p
theorem Stop.mk {p : Prop} (h : p) : Stop p := h
theorem Stop.un {p : Prop} (h : Stop p) : p := h
def over : List Str → (Str → Option Value) → (Str → Option Value) → Str → Option Value
  | [], _, m => m
  | n :: ns, g, m => fun y => if y = n then g n else over ns g m y
theorem over_of {ns : List Str} {m m' : Str → Option Value} (h : ∀ y, y ∉ ns → m' y = m y) : m' = over ns m' m := by
  induction ns generalizing m with
  | nil => exact funext fun y => h y (by simp)
  | cons n ns ih =>
    have e : m' = over ns m' (fun y => if y = n then m' n else m y) := ih fun y hy => by
      by_cases e : y = n
      · subst e; simp
      · rw [if_neg e]; exact h y (by simp [e, hy])
    have gen : ∀ (ns : List Str) (g m : Str → Option Value) (y : Str), over ns g (fun y => if y = n then g n else m y) y = if y = n then (if y ∈ ns then over ns g m y else g n) else over ns g m y := by
      intro ns
      induction ns with
      | nil => intro g m y; simp [over]
      | cons k ks ihk =>
        intro g m y
        simp only [over]
        by_cases e1 : y = k
        · subst e1; simp
        · rw [if_neg e1, ihk]
          by_cases e2 : y = n
          · subst e2; simp [e1]
          · rw [if_neg e2, if_neg e2, if_neg e1]
    have self : ∀ (ns : List Str) (g m : Str → Option Value) (y : Str), y ∈ ns → over ns g m y = g y := by
      intro ns
      induction ns with
      | nil => intro g m y h; cases h
      | cons k ks ihk =>
        intro g m y h
        simp only [over]
        by_cases e1 : y = k
        · subst e1; simp
        · rw [if_neg e1]
          exact ihk g m y (by simpa [e1] using h)
    funext y
    conv => lhs; rw [e]
    rw [gen]
    simp only [over]
    by_cases e2 : y = n
    · subst e2
      rw [if_pos rfl, if_pos rfl]
      split
      · next h => exact self _ _ _ _ h
      · rfl
    · rw [if_neg e2, if_neg e2]
section
variable {prog : Program} {w : World} {A : Around} {E : Value → Shared → Prop} {s : Shared} {env : Env} {h₀ : Heap} {x : Str} {body : List Stmt} {Q : Flow → Shared → Prop} {I : Addr}
theorem iter_rangeStop {r : Addr} {a₀ b₀ : Int} {t₀ u₀ v₀ : Tok} {n : Nat} {m₀ : Str → Option Value} {news : List (Addr × Obj)}
    (hh : A.handled = none) (hr : IsRange s.heap r a₀ b₀ 1 t₀ u₀ v₀) (hsmall : Builtin.Range.small a₀ b₀ 1 = true) (hn : Builtin.Range.rangeSize a₀ b₀ 1 = (n : Int)) (F : Fr h₀ env.locals s.heap m₀) (N : News h₀ env.locals s.heap news)
    (rest₀ : ∀ I : Addr, (∀ p ∈ news, p.1 < I) → Stop (RangeRest prog w A E h₀ env x body Q s I a₀ n n 0 m₀ news)) :
    wpAny (model prog w) A (pyIter (.ref r)) (fun it s₂ => LoopAtV prog w A h₀ env x body Q E it s₂) E s := iter_rangeUnr hh hr hsmall hn F N rest₀
theorem iter_listStop {ax : Addr} {lo : Obj} {vs : List Value} {n : Nat} {m₀ : Str → Option Value} {news : List (Addr × Obj)}
    (hh : A.handled = none) (F : Fr h₀ env.locals s.heap m₀) (N : News h₀ env.locals s.heap news) (hm : (ax, lo) ∈ news) (hc : lo.cls = .type "list") (hd : lo.data = .seq vs.toArray n)
    (rest₀ : ∀ I : Addr, (∀ p ∈ news, p.1 < I) → Stop (ListRest prog w A E h₀ env x body Q s I (ax, lo) vs m₀ news)) :
    wpAny (model prog w) A (pyIter (.ref ax)) (fun it s₂ => LoopAtV prog w A h₀ env x body Q E it s₂) E s := iter_listUnr hh F N hm hc hd rest₀
theorem rangeRest_ofN {a : Int} {n : Nat} {m₀ : Str → Option Value} (ns : List Str) (J : Nat → (Str → Option Value) → List (Addr × Obj) → Prop)
    (turn : ∀ i g news t h tk, i < n → J i g news → Fr h₀ env.locals h (fun y => if y = x then some (.int (a + (i : Int)) t) else over ns g m₀ y) → News h₀ env.locals h ((I, itR (a + ((i + 1 : Nat) : Int)) ((n : Int) - ((i + 1 : Nat) : Int))) :: news) →
      wpAny (model prog w) A (execs body env) (UnrPost h₀ env.locals { s with heap := h, toks := tk } I (itR (a + ((i + 1 : Nat) : Int)) ((n : Int) - ((i + 1 : Nat) : Int))) (fun m' n' => (∀ y, y ∉ ns → m' y = m₀ y) ∧ J (i + 1) m' n') Q) E { s with heap := h, toks := tk })
    (done : ∀ g news h tk, J n g news → Fr h₀ env.locals h (over ns g m₀) → News h₀ env.locals h news → Q .next { s with heap := h, toks := tk })
    {news : List (Addr × Obj)} (hj : J 0 m₀ news) : RangeRest prog w A E h₀ env x body Q s I a n n 0 m₀ news :=
  rangeRest_of (fun i m news => ∃ g, m = over ns g m₀ ∧ J i g news)
    (fun i m news t h tk hi ⟨g, e, hJ⟩ F N => by
      subst e
      refine wpAny_mono (turn i g news t h tk hi hJ F N) (fun f s₂ p => unrPost_mono (fun m' n' q => ⟨m', over_of q.1, q.2⟩) f s₂ p) fun _ _ e => e)
    (fun m news h tk ⟨g, e, hJ⟩ F N => done g news h tk hJ (e ▸ F) N) n 0 m₀ news (Nat.zero_add n) ⟨m₀, over_of fun _ _ => rfl, hj⟩
theorem listRest_ofN {lp : Addr × Obj} {m₀ : Str → Option Value} (ns : List Str) (J : List Value → (Str → Option Value) → List (Addr × Obj) → Prop)
    (turn : ∀ v r g news it h tk, it.cls = .type "list_iterator" → J (v :: r) g news → Fr h₀ env.locals h (fun y => if y = x then some v else over ns g m₀ y) → News h₀ env.locals h ((I, it) :: news) →
      wpAny (model prog w) A (execs body env) (UnrPost h₀ env.locals { s with heap := h, toks := tk } I it (fun m' n' => lp ∈ n' ∧ (∀ y, y ∉ ns → m' y = m₀ y) ∧ J r m' n') Q) E { s with heap := h, toks := tk })
    (done : ∀ g news h tk, J [] g news → Fr h₀ env.locals h (over ns g m₀) → News h₀ env.locals h news → Q .next { s with heap := h, toks := tk })
    {vs : List Value} {news : List (Addr × Obj)} (hj : J vs m₀ news) : ListRest prog w A E h₀ env x body Q s I lp vs m₀ news :=
  listRest_of (fun r m news => ∃ g, m = over ns g m₀ ∧ J r g news)
    (fun v r m news it h tk hit ⟨g, e, hJ⟩ F N => by
      subst e
      refine wpAny_mono (turn v r g news it h tk hit hJ F N) (fun f s₂ p => unrPost_mono (fun m' n' q => ⟨q.1, m', over_of q.2.1, q.2.2⟩) f s₂ p) fun _ _ e => e)
    (fun m news h tk ⟨g, e, hJ⟩ F N => done g news h tk hJ (e ▸ F) N) vs m₀ news ⟨m₀, over_of fun _ _ => rfl, hj⟩
end
theorem news_in6 {h₀ h : Heap} {L : Addr} {p a b c d e f : Addr × Obj} {r : List (Addr × Obj)} (N : News h₀ L h (p :: a :: b :: c :: d :: e :: f :: r)) : News h₀ L h (a :: b :: c :: d :: e :: f :: p :: r) :=
  fun q hq => N q (by simp only [List.mem_cons] at hq ⊢; rcases hq with h | h | h | h | h | h | h | h <;> simp [h])
theorem sub_in6 {p a b c d e f : Addr × Obj} {r : List (Addr × Obj)} : ∀ q ∈ p :: a :: b :: c :: d :: e :: f :: r, q ∈ a :: b :: c :: d :: e :: f :: p :: r :=
  fun q hq => by simp only [List.mem_cons] at hq ⊢; rcases hq with h | h | h | h | h | h | h | h <;> simp [h]
theorem off6 {I a b c d e f : Addr} {oa ob oc od oe of : Obj} {r : List (Addr × Obj)} (h1 : @LT.lt Nat _ a I) (h2 : @LT.lt Nat _ b I) (h3 : @LT.lt Nat _ c I) (h4 : @LT.lt Nat _ d I) (h5 : @LT.lt Nat _ e I) (h6 : @LT.lt Nat _ f I) (hr : ∀ p ∈ r, p.1 < I) :
    ∀ q ∈ (a, oa) :: (b, ob) :: (c, oc) :: (d, od) :: (e, oe) :: (f, of) :: r, q.1 ≠ I := by
  intro q hq
  simp only [List.mem_cons] at hq
  rcases hq with rfl | rfl | rfl | rfl | rfl | rfl | h
  · exact Nat.ne_of_lt h1
  · exact Nat.ne_of_lt h2
  · exact Nat.ne_of_lt h3
  · exact Nat.ne_of_lt h4
  · exact Nat.ne_of_lt h5
  · exact Nat.ne_of_lt h6
  · exact Nat.ne_of_lt (hr q h)
theorem nwA {h₀ h : Heap} {L : Addr} {t a b c d e f i : Addr × Obj} {r : List (Addr × Obj)} (N : News h₀ L h (t :: a :: b :: c :: d :: e :: f :: i :: r)) : News h₀ L h (d :: e :: f :: (r ++ [t])) :=
  fun q hq => N q (by simp only [List.mem_cons, List.mem_append, List.not_mem_nil, or_false] at hq ⊢; rcases hq with h | h | h | h | h <;> simp only [h, true_or, or_true])
theorem nwB {h₀ h : Heap} {L : Addr} {t a b c d e f : Addr × Obj} {r : List (Addr × Obj)} (N : News h₀ L h (t :: a :: b :: c :: d :: e :: f :: r)) : News h₀ L h (d :: e :: f :: (r ++ [t])) :=
  fun q hq => N q (by simp only [List.mem_cons, List.mem_append, List.not_mem_nil, or_false] at hq ⊢; rcases hq with h | h | h | h | h <;> simp only [h, true_or, or_true])
theorem nwC {h₀ h : Heap} {L : Addr} {t u a b c d e f i : Addr × Obj} {r : List (Addr × Obj)} (N : News h₀ L h (t :: u :: a :: b :: c :: d :: e :: f :: i :: r)) : News h₀ L h (d :: e :: f :: (r ++ [t, u])) :=
  fun q hq => N q (by simp only [List.mem_cons, List.mem_append, List.not_mem_nil, or_false] at hq ⊢; rcases hq with h | h | h | h | h | h <;> simp only [h, true_or, or_true])
theorem news_put {h₀ h : Heap} {L : Addr} {p : Addr × Obj} {n : List (Addr × Obj)} (N : News h₀ L h n) (hp : p ∈ n) : News h₀ L h (p :: n) := fun q hq => by
  rcases List.mem_cons.mp hq with rfl | hq
  · exact N _ hp
  · exact N q hq
theorem allLt_ne {d : Addr} : ∀ {l : List (Addr × Obj)}, AllLt d l → ∀ p ∈ l, p.1 ≠ d
  | [], _, _, h => nomatch h
  | _ :: _, k, p, h => by
    rcases List.mem_cons.mp h with rfl | h
    · exact Nat.ne_of_lt k.1
    · exact allLt_ne k.2 p h
section
variable {prog : Program} {w : World} {A : Around} {E : Value → Shared → Prop} {s : Shared} {h₀ : Heap} {L D : Addr} {news : List (Addr × Obj)} {vs : List Value} {n : Nat} {k : Int} {u : Tok} {v : Value}
theorem kv_subE {value slice : PySem.Expr} {Q : Value → Shared → Prop} (N : News h₀ L s.heap news) (hm : (D, listOf vs.toArray n) ∈ news) (h0 : 0 ≤ k) (h1 : k < vs.length) (hfit : k < 2 ^ 63) (hv : vs.getD k.toNat .none = v) (h : Q v s)
    (hs : subscripted slice false (.ref D) (.int k u) = operate [.ref D, .int k u] (getItem (.ref D) (.int k u)) := by with_unfolding_all rfl) :
    wpAny (model prog w) A (subscriptTail value slice (.ref D) (.int k u)) Q E s := kv_sub N hm h0 h1 hfit (hv ▸ h) hs
end
theorem news_drop1 {h₀ h : Heap} {L : Addr} {p : Addr × Obj} {n : List (Addr × Obj)} (N : News h₀ L h (p :: n)) : News h₀ L h n := news_tl N
theorem lt_same {I : Addr} {a : Addr} {o o' : Obj} {r : List (Addr × Obj)} (h : ∀ p ∈ (a, o) :: r, p.1 < I) : ∀ q ∈ (a, o') :: r, q.1 ≠ I := fun q hq => by
  rcases List.mem_cons.mp hq with rfl | hq
  · exact Nat.ne_of_lt (h (a, o) (.head _))
  · exact Nat.ne_of_lt (h q (.tail _ hq))
theorem is_gtz {b : Int} (h : 0 ≤ b) : (RV.bool (b != 0)).Is (.bool (decide (0 < b))) := by
  have : (b != 0) = decide (0 < b) := by rw [Bool.eq_iff_iff]; simp; omega
  rw [this]; rfl
theorem nw_cut (j k : Nat) {h₀ h : Heap} {L : Addr} {all news : List (Addr × Obj)} (N : News h₀ L h all) (e : all.drop k = news) : News h₀ L h (news ++ all.take j) := fun q hq => N q (by
  rcases List.mem_append.mp hq with h | h
  · exact List.mem_of_mem_drop (e ▸ h)
  · exact List.mem_of_mem_take h)
end Mine
end
section
open PySem PySem.W PyProof.Rows
set_option maxHeartbeats 40000000
namespace Mine

theorem done_step : ∀ (w : World) (p : Program) (loose : List Str) (mean : ExcName → Option Value) (mg mb : Str → Option Value) (dp un : Nat) (gd : Option (List Code)) (cn : Str) (cs : Scope) (a : Addr) (ccd : Value) (cl : List (Str × Addr)) (outer : List Env) (A₀ : Around) (base h₀ : Heap) (L : Addr) (m : Str → Option Value) (s : Shared) (Q E : Value → Shared → Prop) (x dx st cd lm wk dw : Addr) (c0 c1 c2 c3 c4 c5 c6 c7 c8 e0 e1 e2 e3 e4 e5 : Tok) (w0 w1 w2 w3 w5 : Value) (rm top : Int) (tr tt tp : Tok) (k kc : Nat) (xs : List RV) (vs cvs : List Value) (rest : List (Addr × Obj)) (ti to : Tok) (rows : List R) (i op ins : Int), Below A₀ base outer h₀ → Fr h₀ L s.heap m → (Kf w.params).In h₀ → News h₀ L s.heap ((x, instObj 503 dx) :: (dx, dictOf [⟨PyData.keyHash w.params (Str.ofString "code"), .str (Str.ofString "code") c0, .ref cd⟩, ⟨PyData.keyHash w.params (Str.ofString "constants"), .str (Str.ofString "constants") c1, .ref 510⟩, ⟨PyData.keyHash w.params (Str.ofString "stack"), .str (Str.ofString "stack") c2, .ref st⟩, ⟨PyData.keyHash w.params (Str.ofString "room"), .str (Str.ofString "room") c3, .int rm tr⟩, ⟨PyData.keyHash w.params (Str.ofString "limits"), .str (Str.ofString "limits") c4, .ref lm⟩, ⟨PyData.keyHash w.params (Str.ofString "works"), .str (Str.ofString "works") c5, .ref wk⟩, ⟨PyData.keyHash w.params (Str.ofString "pc"), .str (Str.ofString "pc") c6, .int (i + 1) tp⟩, ⟨PyData.keyHash w.params (Str.ofString "top"), .str (Str.ofString "top") c7, .int top tt⟩, ⟨PyData.keyHash w.params (Str.ofString "result"), .str (Str.ofString "result") c8, .none⟩] 9) :: (st, listOf vs.toArray k) :: (wk, instObj 412 dw) :: (dw, dictOf [⟨PyData.keyHash w.params (Str.ofString "new_table"), .str (Str.ofString "new_table") e0, w0⟩, ⟨PyData.keyHash w.params (Str.ofString "index"), .str (Str.ofString "index") e1, w1⟩, ⟨PyData.keyHash w.params (Str.ofString "put"), .str (Str.ofString "put") e2, w2⟩, ⟨PyData.keyHash w.params (Str.ofString "length"), .str (Str.ofString "length") e3, w3⟩, ⟨PyData.keyHash w.params (Str.ofString "compared"), .str (Str.ofString "compared") e4, .ref 543⟩, ⟨PyData.keyHash w.params (Str.ofString "called"), .str (Str.ofString "called") e5, w5⟩] 6) :: (cd, listOf cvs.toArray kc) :: rest) → Top p loose mean mg mb h₀ → cs.kind = .function → dp + 6 < recursionLimit → un + 48 < cLine → (@Ne Nat x dx ∧ @Ne Nat x st ∧ @Ne Nat dx st ∧ @Ne Nat wk dx ∧ @Ne Nat wk st ∧ @Ne Nat dw dx ∧ @Ne Nat dw st ∧ @Ne Nat cd dx ∧ @Ne Nat cd st) → (∀ p ∈ rest, p.1 ≠ dx ∧ p.1 ≠ st) → (RVs xs vs) → (xs.length = 17) → (IntsAre cvs (rows.map R.code)) → (okRows rows) → (0 ≤ i) → (i < rows.length) → ((rowAt rows i).t = op) → ((rowAt rows i).code = ins) → ((rowAt rows i).t ≠ 30) → (∀ (z : Bool) (pc' : Int) (tp' : Tok) (vs' : List Value) (xs' : List RV) (h' : Heap) (tk' : Nat), (stepR rows i xs = (if z then .inr (pc', xs') else .inl (.stopped i))) → (RVs xs' vs') → (z = false → pc' = i + 1) → Fr h₀ L h' m → News h₀ L h' ((x, instObj 503 dx) :: (dx, dictOf [⟨PyData.keyHash w.params (Str.ofString "code"), .str (Str.ofString "code") c0, .ref cd⟩, ⟨PyData.keyHash w.params (Str.ofString "constants"), .str (Str.ofString "constants") c1, .ref 510⟩, ⟨PyData.keyHash w.params (Str.ofString "stack"), .str (Str.ofString "stack") c2, .ref st⟩, ⟨PyData.keyHash w.params (Str.ofString "room"), .str (Str.ofString "room") c3, .int rm tr⟩, ⟨PyData.keyHash w.params (Str.ofString "limits"), .str (Str.ofString "limits") c4, .ref lm⟩, ⟨PyData.keyHash w.params (Str.ofString "works"), .str (Str.ofString "works") c5, .ref wk⟩, ⟨PyData.keyHash w.params (Str.ofString "pc"), .str (Str.ofString "pc") c6, .int pc' tp'⟩, ⟨PyData.keyHash w.params (Str.ofString "top"), .str (Str.ofString "top") c7, .int top tt⟩, ⟨PyData.keyHash w.params (Str.ofString "result"), .str (Str.ofString "result") c8, .none⟩] 9) :: (st, listOf vs'.toArray k) :: (wk, instObj 412 dw) :: (dw, dictOf [⟨PyData.keyHash w.params (Str.ofString "new_table"), .str (Str.ofString "new_table") e0, w0⟩, ⟨PyData.keyHash w.params (Str.ofString "index"), .str (Str.ofString "index") e1, w1⟩, ⟨PyData.keyHash w.params (Str.ofString "put"), .str (Str.ofString "put") e2, w2⟩, ⟨PyData.keyHash w.params (Str.ofString "length"), .str (Str.ofString "length") e3, w3⟩, ⟨PyData.keyHash w.params (Str.ofString "compared"), .str (Str.ofString "compared") e4, .ref 543⟩, ⟨PyData.keyHash w.params (Str.ofString "called"), .str (Str.ofString "called") e5, w5⟩] 6) :: (cd, listOf cvs.toArray kc) :: rest) → Q (.bool z) { s with heap := h', toks := tk' }) → wpAny (model PySem.Challenge.rw_pc0174_02.row.prog w) (ktrTop dp un gd cn cs L a ccd cl outer) (call (.ref 444) [.ref x, .int op to, .int ins ti]) Q E s := by
  k_fill
  intro w p loose mean mg mb dp un gd cn cs a ccd cl outer A₀ base h₀ L m s Q E x dx st cd lm wk dw c0 c1 c2 c3 c4 c5 c6 c7 c8 e0 e1 e2 e3 e4 e5 w0 w1 w2 w3 w5 rm top tr tt tp k kc xs vs cvs rest ti to rows i op ins B F X N T hck hd9 hu9 hne hr hx hxl hcv hrows hi0 hi1 hop hins hnr hret
  subst hop hins
  have hr0 := hrows.2.2 i hi0 hi1
  have hlen := hrows.2.1
  have hcode := code_ok hr0
  have hgd : i + 2 < rows.length → (rows.map R.code).getD (i + 1).toNat 0 = (rowAt rows (i + 1)).code := fun h => codes_getD rows (i + 1) (by omega) (by omega)
  have hml : (rows.map R.code).length = rows.length := List.length_map ..
  unfold stepR at hret
  dsimp only at hret
  revert hret
  generalize rowAt rows i = r at hr0 hcode hnr ⊢
  generalize rowAt rows (i + 1) = r' at hr0 hgd ⊢
  obtain ⟨rt, ra, rb, rc⟩ := r
  intro hret
  obtain ⟨hc1, hc2, hc3, hc4, hc5⟩ := hcode
  dsimp only at hr0 hc1 hc2 hc3 hc4 hc5 hret hnr ⊢
  rcases hr0 with ⟨ht, ha, hb, hc, hn⟩ | ⟨ht, ha, hb, hc, hn⟩ | ⟨ht, ha, hb, hc, hn⟩ | ⟨ht, ha, hb, hc, hn, hj⟩ | ⟨ht, ha, hb, hc, hn, hj⟩ | ⟨ht, ha, hb, hc⟩ <;> dsimp only at *
  · subst ht
    rw [if_neg (by decide), if_pos rfl] at hret
    obtain ⟨hc6, hc7⟩ := hc4 (by decide)
    refine done_move (op := 0) _ _ _ _ _ _ _ _ _ _ _ _ _ _ _ _ _ _ _ _ _ _ _ _ _ _ _ _ _ _ _ _ _ _ _ _ _ _ _ _ _ _ _ _ _ _ _ _ _ _ _ _ _ _ _ _ _ _ _ _ _ _ _ _ _ _ _ _ _ B F X N T hck hd9 hu9 hne hr hx hcv hc1 ⟨by omega, by omega⟩ hc3 hc6 hc7 ⟨by omega, by omega, by omega⟩ ⟨by omega, by omega, by omega⟩ fun tp' h' tk' F' N' => ?_
    exact hret true (i + 1) tp' _ _ h' tk' rfl (hx.set _ (hx.getD _)) (fun h => nomatch h) F' N'
  · subst ht
    rw [if_neg (by decide), if_neg (by decide), if_pos rfl] at hret
    obtain ⟨hc6, hc7⟩ := hc4 (by decide)
    refine done_loadbool (op := 0) _ _ _ _ _ _ _ _ _ _ _ _ _ _ _ _ _ _ _ _ _ _ _ _ _ _ _ _ _ _ _ _ _ _ _ _ _ _ _ _ _ _ _ _ _ _ _ _ _ _ _ _ _ _ _ _ _ _ _ _ _ _ _ _ _ _ _ _ _ B F X N T hck hd9 hu9 hne hr hx hcv hc1 ⟨by omega, by omega⟩ hc3 hc6 hc7 ⟨by omega, by omega, by omega⟩ fun pc' tp' h' tk' hp F' N' => ?_
    subst hp
    exact hret true _ tp' _ _ h' tk' rfl (hx.set _ rfl) (fun h => nomatch h) F' N'
  · subst ht
    rw [if_neg (by decide), if_neg (by decide), if_neg (by decide), if_pos rfl] at hret
    refine done_jmp (op := 0) _ _ _ _ _ _ _ _ _ _ _ _ _ _ _ _ _ _ _ _ _ _ _ _ _ _ _ _ _ _ _ _ _ _ _ _ _ _ _ _ _ _ _ _ _ _ _ _ _ _ _ _ _ _ _ _ _ _ _ _ _ _ _ _ _ _ _ _ _ _ B F X N T hck hd9 hu9 hne hr hx hcv hc1 ⟨by omega, by omega⟩ hc3 rfl rfl (hc5 rfl) fun tp' h' tk' F' N' => ?_
    exact hret true _ tp' _ _ h' tk' rfl hx (fun h => nomatch h) F' N'
  · obtain ⟨hc6, hc7⟩ := hc4 (by omega)
    rw [if_neg (by omega), if_neg (by omega), if_neg (by omega), if_neg (by omega), if_pos (by omega)] at hret
    refine done_cmp (op := rt) _ _ _ _ _ _ _ _ _ _ _ _ _ _ _ _ _ _ _ _ _ _ _ _ _ _ _ _ _ _ _ _ _ _ _ _ _ _ _ _ _ _ _ _ _ _ _ _ _ _ _ _ _ _ _ _ _ _ _ _ _ _ _ _ _ _ _ _ _ r'.b B F X N T hck hd9 hu9 hne hr hx hcv hc1 ⟨by omega, by omega⟩ hc3 hc6 hc7 (by omega) (by omega) (opd_len hb (by omega)) (opd_len hc (by omega)) (by rw [hgd (by omega)]; exact (codeJ_ok hj).1) (by omega) (by rw [hgd (by omega)]; exact (codeJ_ok hj).2) fun z pc' tp' h' tk' hz F' N' => ?_
    refine hret z pc' tp' _ xs h' tk' ?_ hx ?_ F' N' <;> revert hz <;> unfold cmpOut
    · cases cmpV rt (opd2 xs rb) (opd2 xs rc) <;> intro hz <;> cases hz <;> first | rfl | (simp)
    · cases cmpV rt (opd2 xs rb) (opd2 xs rc) <;> intro hz <;> cases hz <;> intro h <;> first | rfl | cases h
  · obtain ⟨hc6, hc7⟩ := hc4 (by omega)
    rw [if_neg (by omega), if_neg (by omega), if_neg (by omega), if_neg (by omega), if_neg (by omega)] at hret
    have ht2 : rt = 26 ∨ rt = 27 := by omega
    rcases ht2 with rfl | rfl
    · refine done_test (op := 0) _ _ _ _ _ _ _ _ _ _ _ _ _ _ _ _ _ _ _ _ _ _ _ _ _ _ _ _ _ _ _ _ _ _ _ _ _ _ _ _ _ _ _ _ _ _ _ _ _ _ _ _ _ _ _ _ _ _ _ _ _ _ _ _ _ _ _ _ _ r'.b B F X N T hck hd9 hu9 hne hr hx hcv hc1 ⟨by omega, by omega⟩ hc3 hc6 hc7 ⟨by omega, by omega, by omega⟩ (by rw [hgd (by omega)]; exact (codeJ_ok hj).1) (by omega) (by rw [hgd (by omega)]; exact (codeJ_ok hj).2) fun tp' h' tk' F' N' => ?_
      exact hret true _ tp' _ xs h' tk' (by rw [if_pos rfl, if_neg (fun h => absurd h.1 (by decide))]; rfl) hx (fun h => nomatch h) F' N'
    · refine done_testset (op := 0) _ _ _ _ _ _ _ _ _ _ _ _ _ _ _ _ _ _ _ _ _ _ _ _ _ _ _ _ _ _ _ _ _ _ _ _ _ _ _ _ _ _ _ _ _ _ _ _ _ _ _ _ _ _ _ _ _ _ _ _ _ _ _ _ _ _ _ _ _ r'.b B F X N T hck hd9 hu9 hne hr hx hcv hc1 ⟨by omega, by omega⟩ hc3 hc6 hc7 ⟨by omega, by omega, by omega⟩ ⟨by omega, by omega, by omega⟩ (by rw [hgd (by omega)]; exact (codeJ_ok hj).1) (by omega) (by rw [hgd (by omega)]; exact (codeJ_ok hj).2) fun tp' vs' h' tk' hv F' N' => ?_
      refine hret true _ tp' vs' _ h' tk' (by rw [if_neg (by decide)]; rfl) ?_ (fun h => nomatch h) F' N'
      rw [hv]
      simp only [true_and]
      split
      · exact hx.set _ (hx.getD _)
      · exact hx
  · exact absurd ht hnr
end Mine
end
local macro_rules | `(tactic| walk_at "exec For Name Call cons nil") => `(tactic| (k_here; (rename Fr _ _ _ _ => lF'); (with_unfolding_all refine' For_invVF lF' ?k1 ?k2 ?_; (case k1 => exact rfl); (case k2 => exact rfl); k_whole)))
local macro_rules | `(tactic| walk_at "pyIter ref") => `(tactic| ((with_reducible show wpAny _ _ (pyIter (Value.ref _)) (fun it s₂ => LoopAtV _ _ _ _ _ _ _ _ _ it s₂) _ _); refine Stop.un ?_))
section
open PySem PySem.W PyProof.Rows
set_option maxHeartbeats 40000000
namespace Mine

local macro_rules | `(tactic| k_ne) => `(tactic| ((try dsimp only); first | assumption | exact Ne.symm (by assumption) | exact Nat.ne_of_gt (by assumption) | exact Nat.ne_of_lt (by assumption)))
local macro_rules | `(tactic| walk_at "call ref") => `(tactic| (first | (k_here; k_dflt (refine' done_ret (op := 0) _ _ _ _ _ _ _ _ _ _ _ _ _ _ _ _ _ _ _ _ _ _ _ _ _ _ _ _ _ _ _ _ _ _ _ _ _ _ _ _ _ _ _ _ _ _ _ _ _ _ _ _ _ _ _ _ _ _ _ _ _ _ _ _ _ _ _ _ _ ?kB ?kF ?kX ?kN ?kT ?kK ?kd ?ku ?q0 ?q1 ?q2 ?q3 ?q4 ?q5 ?q6 ?q7 ?q8 ?q9 ?q10 ?_; (case kB => k_asm); (case kF => k_asm); (case kX => k_asm); (case kN => first | exact news_in6 (by k_asm) | k_asm); (case kT => k_asm); (case kK => first | exact rfl | assumption); (case kd => ktr_room); (case ku => ktr_units); (case q0 => assumption); (case q1 => assumption); (case q2 => assumption); (case q3 => assumption); (case q4 => assumption); (case q5 => assumption); (case q6 => assumption); (case q7 => assumption); (case q8 => assumption); (case q9 => assumption); (case q10 => exact ⟨rfl, rfl⟩); k_whole); intro rl kr zs h' tk' hzs F' N'; (try k_sweep)) | (k_here; k_dflt (refine' done_step _ _ _ _ _ _ _ _ _ _ _ _ _ _ _ _ _ _ _ _ _ _ _ _ _ _ _ _ _ _ _ _ _ _ _ _ _ _ _ _ _ _ _ _ _ _ _ _ _ _ _ _ _ _ _ _ _ _ _ _ _ _ _ _ _ _ _ ?kB ?kF ?kX ?kN ?kT ?kK ?kd ?ku ?q0 ?q1 ?q2 ?q3 ?q4 ?q5 ?q6 ?q7 ?q8 ?q9 ?q10 ?_; (case kB => k_asm); (case kF => k_asm); (case kX => k_asm); (case kN => first | exact news_in6 (by k_asm) | k_asm); (case kT => k_asm); (case kK => first | exact rfl | assumption); (case kd => ktr_room); (case ku => ktr_units); (case q0 => assumption); (case q1 => assumption); (case q2 => assumption); (case q3 => assumption); (case q4 => assumption); (case q5 => assumption); (case q6 => assumption); (case q7 => assumption); (case q8 => first | exact rfl | assumption); (case q9 => assumption); (case q10 => assumption); k_whole); intro z pc' tp' vs' xs' h' tk' hst hx1 hzp F' N'; (try k_sweep)) | walk_at "zc" | walk_at "z11"))
local macro_rules | `(tactic| walk_at "subscriptTail") => `(tactic| walk_at "z10")
def OutL (o : Out) (T : Addr) (news : List (Addr × Obj)) : Prop := match o with
  | .back ys => ∃ rl t kr zs, news = [(T, ({ cls := .type "tuple", data := .seq #[.str (Str.ofString "back") t, .ref rl] } : Obj)), (rl, listOf zs.toArray kr)] ∧ RVs ys zs
  | .stopped i => ∃ t u, news = [(T, ({ cls := .type "tuple", data := .seq #[.str (Str.ofString "stopped") t, .int i u] } : Obj))]
  | .steps i => ∃ t u, news = [(T, ({ cls := .type "tuple", data := .seq #[.str (Str.ofString "steps") t, .int i u] } : Obj))]
theorem run_ok : ∀ (w : World) (p : Program) (loose : List Str) (mean : ExcName → Option Value) (mg mb : Str → Option Value) (dp un : Nat) (gd : Option (List Code)) (cn : Str) (cs : Scope) (a : Addr) (ccd : Value) (cl : List (Str × Addr)) (outer : List Env) (A₀ : Around) (base h₀ : Heap) (L : Addr) (m : Str → Option Value) (s : Shared) (Q E : Value → Shared → Prop) (x dx st cd lm wk dw : Addr) (c0 c1 c2 c3 c4 c5 c6 c7 c8 e0 e1 e2 e3 e4 e5 : Tok) (w0 w1 w2 w3 w5 : Value) (rm top : Int) (tr tt tp : Tok) (k kc : Nat) (xs : List RV) (vs cvs : List Value) (rest : List (Addr × Obj)) (ti to : Tok) (rows : List R), Below A₀ base outer h₀ → Fr h₀ L s.heap m → (Kf w.params).In h₀ → News h₀ L s.heap ((x, instObj 503 dx) :: (dx, dictOf [⟨PyData.keyHash w.params (Str.ofString "code"), .str (Str.ofString "code") c0, .ref cd⟩, ⟨PyData.keyHash w.params (Str.ofString "constants"), .str (Str.ofString "constants") c1, .ref 510⟩, ⟨PyData.keyHash w.params (Str.ofString "stack"), .str (Str.ofString "stack") c2, .ref st⟩, ⟨PyData.keyHash w.params (Str.ofString "room"), .str (Str.ofString "room") c3, .int rm tr⟩, ⟨PyData.keyHash w.params (Str.ofString "limits"), .str (Str.ofString "limits") c4, .ref lm⟩, ⟨PyData.keyHash w.params (Str.ofString "works"), .str (Str.ofString "works") c5, .ref wk⟩, ⟨PyData.keyHash w.params (Str.ofString "pc"), .str (Str.ofString "pc") c6, .int 0 tp⟩, ⟨PyData.keyHash w.params (Str.ofString "top"), .str (Str.ofString "top") c7, .int top tt⟩, ⟨PyData.keyHash w.params (Str.ofString "result"), .str (Str.ofString "result") c8, .none⟩] 9) :: (st, listOf vs.toArray k) :: (wk, instObj 412 dw) :: (dw, dictOf [⟨PyData.keyHash w.params (Str.ofString "new_table"), .str (Str.ofString "new_table") e0, w0⟩, ⟨PyData.keyHash w.params (Str.ofString "index"), .str (Str.ofString "index") e1, w1⟩, ⟨PyData.keyHash w.params (Str.ofString "put"), .str (Str.ofString "put") e2, w2⟩, ⟨PyData.keyHash w.params (Str.ofString "length"), .str (Str.ofString "length") e3, w3⟩, ⟨PyData.keyHash w.params (Str.ofString "compared"), .str (Str.ofString "compared") e4, .ref 543⟩, ⟨PyData.keyHash w.params (Str.ofString "called"), .str (Str.ofString "called") e5, w5⟩] 6) :: (cd, listOf cvs.toArray kc) :: rest) → Top p loose mean mg mb h₀ → cs.kind = .function → dp + 7 < recursionLimit → un + 56 < cLine → (@Ne Nat x dx ∧ @Ne Nat x st ∧ @Ne Nat dx st ∧ @Ne Nat wk dx ∧ @Ne Nat wk st ∧ @Ne Nat dw dx ∧ @Ne Nat dw st ∧ @Ne Nat cd dx ∧ @Ne Nat cd st) → (∀ p ∈ rest, p.1 ≠ dx ∧ p.1 ≠ st) → (RVs xs vs) → (xs.length = 17) → (IntsAre cvs (rows.map R.code)) → (okRows rows) → (∀ (T : Addr) (outL : List (Addr × Obj)) (h' : Heap) (tk' : Nat), (OutL (runR rows 24 0 xs) T outL) → Fr h₀ L h' m → News h₀ L h' ((wk, instObj 412 dw) :: (dw, dictOf [⟨PyData.keyHash w.params (Str.ofString "new_table"), .str (Str.ofString "new_table") e0, w0⟩, ⟨PyData.keyHash w.params (Str.ofString "index"), .str (Str.ofString "index") e1, w1⟩, ⟨PyData.keyHash w.params (Str.ofString "put"), .str (Str.ofString "put") e2, w2⟩, ⟨PyData.keyHash w.params (Str.ofString "length"), .str (Str.ofString "length") e3, w3⟩, ⟨PyData.keyHash w.params (Str.ofString "compared"), .str (Str.ofString "compared") e4, .ref 543⟩, ⟨PyData.keyHash w.params (Str.ofString "called"), .str (Str.ofString "called") e5, w5⟩] 6) :: (cd, listOf cvs.toArray kc) :: (rest ++ outL)) → Q (.ref T) { s with heap := h', toks := tk' }) → wpAny (model PySem.Challenge.rw_pc0174_02.row.prog w) (ktrTop dp un gd cn cs L a ccd cl outer) (call (.ref 437) [.ref x, .int 24 to]) Q E s := by
  k_fill
  intro w p loose mean mg mb dp un gd cn cs a ccd cl outer A₀ base h₀ L m s Q E x dx st cd lm wk dw c0 c1 c2 c3 c4 c5 c6 c7 c8 e0 e1 e2 e3 e4 e5 w0 w1 w2 w3 w5 rm top tr tt tp k kc xs vs cvs rest ti to rows B F X N T hck hd9 hu9 hne hr hx hxl hcv hrows hret
  have hne0 := hne
  obtain ⟨hn1, hn2, hn3, hn4, hn5, hn6, hn7, hn8, hn9⟩ := hne0
  have hrd : ∀ p ∈ rest, p.1 ≠ dx := fun p hp => (hr p hp).1
  have hrs : ∀ p ∈ rest, p.1 ≠ st := fun p hp => (hr p hp).2
  have hcl := IntsAre.length hcv
  have hml : (rows.map R.code).length = rows.length := List.length_map ..
  have hlen := hrows.2.1
  refine wpAny_call ?_
  k_dflt cell_enter
  k_steps
  refine Stop.mk ?_
  (rename Fr _ _ _ _ => lF'); (rename News _ _ _ _ => lN'); (rename IsRange _ _ _ _ _ _ _ _ => lR')
  with_unfolding_all refine iter_rangeUnr (n := 24) (by rfl) lR' (by decide) (by decide) lF' lN' ?_
  clear lF' lN'
  intro I hI
  have hIr : ∀ p ∈ rest, p.1 < I := fun p hp => hI p (.tail _ (.tail _ (.tail _ (.tail _ (.tail _ (.tail _ hp))))))
  have hI1 : @LT.lt Nat _ x I := hI (x, _) (.head _)
  have hI2 : @LT.lt Nat _ dx I := hI (dx, _) (.tail _ (.head _))
  have hI3 : @LT.lt Nat _ st I := hI (st, _) (.tail _ (.tail _ (.head _)))
  have hI4 : @LT.lt Nat _ wk I := hI (wk, _) (.tail _ (.tail _ (.tail _ (.head _))))
  have hI5 : @LT.lt Nat _ dw I := hI (dw, _) (.tail _ (.tail _ (.tail _ (.tail _ (.head _)))))
  have hI6 : @LT.lt Nat _ cd I := hI (cd, _) (.tail _ (.tail _ (.tail _ (.tail _ (.tail _ (.head _))))))
  have hrI : ∀ it : Obj, ∀ p ∈ (I, it) :: rest, p.1 ≠ dx ∧ p.1 ≠ st := by
    intro it p hp
    rcases List.mem_cons.mp hp with rfl | hp
    · exact ⟨fun e => Nat.ne_of_gt hI2 e, fun e => Nat.ne_of_gt hI3 e⟩
    · exact hr p hp
  have hId : @Ne Nat I dx := Nat.ne_of_gt hI2
  have hIs : @Ne Nat I st := Nat.ne_of_gt hI3
  clear hI
  refine rangeRest_ofN [Str.ofString "turn", Str.ofString "instruction"] (fun i g nw => ∃ pc tp vs xs', nw = (x, instObj 503 dx) :: (dx, dictOf [⟨PyData.keyHash w.params (Str.ofString "code"), .str (Str.ofString "code") c0, .ref cd⟩, ⟨PyData.keyHash w.params (Str.ofString "constants"), .str (Str.ofString "constants") c1, .ref 510⟩, ⟨PyData.keyHash w.params (Str.ofString "stack"), .str (Str.ofString "stack") c2, .ref st⟩, ⟨PyData.keyHash w.params (Str.ofString "room"), .str (Str.ofString "room") c3, .int rm tr⟩, ⟨PyData.keyHash w.params (Str.ofString "limits"), .str (Str.ofString "limits") c4, .ref lm⟩, ⟨PyData.keyHash w.params (Str.ofString "works"), .str (Str.ofString "works") c5, .ref wk⟩, ⟨PyData.keyHash w.params (Str.ofString "pc"), .str (Str.ofString "pc") c6, .int pc tp⟩, ⟨PyData.keyHash w.params (Str.ofString "top"), .str (Str.ofString "top") c7, .int top tt⟩, ⟨PyData.keyHash w.params (Str.ofString "result"), .str (Str.ofString "result") c8, .none⟩] 9) :: (st, listOf vs.toArray k) :: (wk, instObj 412 dw) :: (dw, dictOf [⟨PyData.keyHash w.params (Str.ofString "new_table"), .str (Str.ofString "new_table") e0, w0⟩, ⟨PyData.keyHash w.params (Str.ofString "index"), .str (Str.ofString "index") e1, w1⟩, ⟨PyData.keyHash w.params (Str.ofString "put"), .str (Str.ofString "put") e2, w2⟩, ⟨PyData.keyHash w.params (Str.ofString "length"), .str (Str.ofString "length") e3, w3⟩, ⟨PyData.keyHash w.params (Str.ofString "compared"), .str (Str.ofString "compared") e4, .ref 543⟩, ⟨PyData.keyHash w.params (Str.ofString "called"), .str (Str.ofString "called") e5, w5⟩] 6) :: (cd, listOf cvs.toArray kc) :: rest ∧ RVs xs' vs ∧ xs'.length = 17 ∧ 0 ≤ pc ∧ pc < rows.length ∧ runR rows 24 0 xs = runR rows (24 - i) pc xs') ?turn ?done ⟨0, tp, vs, xs, rfl, hx, hxl, Int.le_refl _, by have := hrows.1; omega, rfl⟩
  case turn =>
    intro i g nw t h₂ tk₂ hi hj F2 N2
    obtain ⟨pc, tp, vs, xs', rfl, hx', hxl', hp0, hp1, hrun⟩ := hj
    dsimp only [over] at F2
    clear hx hxl
    generalize itR (0 + ((i + 1 : Nat) : Int)) (((24 : Nat) : Int) - ((i + 1 : Nat) : Int)) = oI at N2 ⊢
    have hrJ := hrI oI
    have hgd := codes_getD rows pc hp0 hp1
    have hr0 := hrows.2.2 pc hp0 hp1
    obtain ⟨⟨hc1, hc1'⟩, hc2, hc3, hc4, hc5⟩ := code_ok hr0
    rw [← hgd] at hc1 hc1' hc2 hc3 hc4 hc5
    have hcr : 0 ≤ (rows.map R.code).getD pc.toNat 0 ∧ (rows.map R.code).getD pc.toNat 0 < 2 ^ 40 := ⟨hc1, hc1'⟩
    have hpp : 0 ≤ pc + 1 ∧ pc + 1 < 100 := pc_small hp0 hp1 hlen
    by_cases ht : (rowAt rows pc).t = 30
    · have h30 := hc2
      rw [ht] at h30
      have hab : (rowAt rows pc).a = 0 ∧ (rowAt rows pc).b = 6 ∧ (rowAt rows pc).c = 0 := okR_ret hr0 ht
      obtain ⟨ha0, hb0, hc0⟩ := hab
      rw [ha0] at hc3
      obtain ⟨hb6, hb7⟩ := hc4 (by rw [ht]; decide)
      rw [hb0] at hb6
      rw [hc0] at hb7
      k_steps
      have hzs := ‹_ = vs.take 5›
      (rename News h₀ L _ _ => lN)
      refine hret _ _ _ _ ?_ (by k_asm) (nwC lN)
      have hst : stepR rows pc xs' = .inl (.back (xs'.take 5)) := by unfold stepR; dsimp only; rw [if_pos ht]
      rw [hrun, turn_sub hi]
      simp only [runR, hst]
      exact ⟨_, _, _, _, rfl, by rw [hzs]; exact hx'.take 5⟩
    · have hins := hgd.symm
      k_steps
      · have hz := ‹(_ : Bool) = true›
        have hst := ‹stepR rows pc xs' = _›
        rw [hz, if_pos rfl] at hst
        have hb := step_ok hrows hp0 hp1 hst
        (rename News _ _ _ _ => lN); (rename Fr _ _ _ _ => lF)
        refine UnrEnd.intro lF lN _ sub_in6 (off6 hI1 hI2 hI3 hI4 hI5 hI6 hIr) ⟨?_, _, _, _, _, rfl, ‹RVs _ _›, hb.2.2.trans hxl', hb.1, hb.2.1, ?_⟩
        · intro y hy
          simp only [List.mem_cons, List.not_mem_nil, or_false, not_or] at hy
          simp only [hy.1, hy.2, if_false]
        · rw [hrun, turn_sub hi]
          simp only [runR, hst]
      · have hz := ‹(_ : Bool) = false›
        have hst := ‹stepR rows pc xs' = _›
        rw [hz, if_neg (by decide)] at hst
        have hpe := ‹_ = false → _ = pc + 1› hz
        subst hpe
        (rename News h₀ L _ _ => lN)
        simp only [Int.add_sub_cancel] at lN
        refine hret _ _ _ _ ?_ (by k_asm) (nwA lN)
        rw [hrun, turn_sub hi]
        simp only [runR, hst]
        exact ⟨_, _, rfl⟩
  case done =>
    intro g nw h₂ tk₂ hj F2 N2
    obtain ⟨pc, tp, vs, xs', rfl, hx', hxl', hp0, hp1, hrun⟩ := hj
    dsimp only [over] at F2
    k_steps
    (rename News h₀ L _ _ => lN)
    refine hret _ _ _ _ ?_ (by k_asm) (nwB lN)
    rw [hrun]
    exact ⟨_, _, rfl⟩
end Mine
end
theorem Mine.reset26 : (1 : Nat) < 2 := by first | (walk1; done) | decide
section
open PySem PySem.W PyProof.Rows PySem.Calls
namespace Mine
section
variable {prog : Program} {w : World} {A : Around} {E : Value → Shared → Prop} {s : Shared} {env : Env} {h₀ : Heap} {target : PySem.Expr} {body : List Stmt} {Q : Flow → Shared → Prop} {I : Addr}
theorem unrPostW_mono {L : Addr} {s₁ : Shared} {its : List (Addr × Obj)} {r r' : (Str → Option Value) → List (Addr × Obj) → Prop} (h : ∀ m n, r m n → r' m n) (f : Flow) (s₂ : Shared) (k : UnrPostW h₀ L s₁ its r Q f s₂) : UnrPostW h₀ L s₁ its r' Q f s₂ := by
  have e : UnrEndW h₀ L s₁ its r s₂ → UnrEndW h₀ L s₁ its r' s₂ := fun ⟨h', tk, m', n', a, b, c, d, e⟩ => ⟨h', tk, m', n', a, b, c, d, h _ _ e⟩
  cases f with
  | ret v => exact k
  | brk => exact k
  | next => exact e k
  | cont => exact e k
theorem itemsRest_ofN {keep : List (Addr × Obj)} {m₀ : Str → Option Value} (ns : List Str) (J : List Value → (Str → Option Value) → List (Addr × Obj) → Prop)
    (turn : ∀ v r g news it h tk, it.cls = .type "list_iterator" → J (v :: r) g news → Fr h₀ env.locals h (over ns g m₀) → News h₀ env.locals h ((I, it) :: news) →
      wpAny (model prog w) A (assign target env v) (fun _ s₂ => wpAny (model prog w) A (execs body env) (UnrPostW h₀ env.locals { s with heap := h, toks := tk } [(I, it)] (fun m' n' => SubL keep n' ∧ (∀ y, y ∉ ns → m' y = m₀ y) ∧ J r m' n') Q) E s₂) E { s with heap := h, toks := tk })
    (done : ∀ g news h tk, J [] g news → Fr h₀ env.locals h (over ns g m₀) → News h₀ env.locals h news → Q .next { s with heap := h, toks := tk }) :
    ∀ (vs : List Value) (g : Str → Option Value) (news : List (Addr × Obj)), J vs g news → ItemsRest prog w A E h₀ env target body Q s [(I, "list_iterator")] keep (vs.map .val) (over ns g m₀) news
  | [], g, news, hj => fun h tk F N => done g news h tk hj F N
  | v :: r, g, news, hj => fun u h tk e F => fun it hit N => by
    have e' : u = v := e
    subst e'
    refine wpAny_mono (turn u r g news it h tk hit hj F N) (fun _ s₂ q => wpAny_mono q (fun f s₃ p => unrPostW_mono (fun m' n' q => ?_) f s₃ p) fun _ _ e => e) fun _ _ e => e
    refine ⟨q.1, ?_⟩
    rw [over_of q.2.1]
    exact itemsRest_ofN ns J turn done r m' n' q.2.2
theorem over_self (ns : List Str) (m : Str → Option Value) : over ns m m = m := (over_of fun _ _ => rfl).symm
theorem itemsRest_of {keep : List (Addr × Obj)} {m₀ : Str → Option Value} (ns : List Str) (J : List Value → (Str → Option Value) → List (Addr × Obj) → Prop)
    (turn : ∀ v r g news it h tk, it.cls = .type "list_iterator" → J (v :: r) g news → Fr h₀ env.locals h (over ns g m₀) → News h₀ env.locals h ((I, it) :: news) →
      wpAny (model prog w) A (assign target env v) (fun _ s₂ => wpAny (model prog w) A (execs body env) (UnrPostW h₀ env.locals { s with heap := h, toks := tk } [(I, it)] (fun m' n' => SubL keep n' ∧ (∀ y, y ∉ ns → m' y = m₀ y) ∧ J r m' n') Q) E s₂) E { s with heap := h, toks := tk })
    (done : ∀ g news h tk, J [] g news → Fr h₀ env.locals h (over ns g m₀) → News h₀ env.locals h news → Q .next { s with heap := h, toks := tk })
    {vs : List Value} {news : List (Addr × Obj)} (hj : J vs m₀ news) : ItemsRest prog w A E h₀ env target body Q s [(I, "list_iterator")] keep (vs.map .val) m₀ news := by
  have h := itemsRest_ofN ns J turn done vs m₀ news hj
  rw [over_self] at h
  exact h
theorem iter_listTurnsS {ax : Addr} {lo : Obj} {vs : List Value} {n : Nat} {m₀ : Str → Option Value} {news : List (Addr × Obj)}
    (hh : A.handled = none) (F : Fr h₀ env.locals s.heap m₀) (N : News h₀ env.locals s.heap news) (hm : (ax, lo) ∈ news) (hc : lo.cls = .type "list") (hd : lo.data = .seq vs.toArray n)
    (rest₀ : ∀ I : Addr, (∀ p ∈ news, p.1 < I) → ItemsRest prog w A E h₀ env target body Q s [(I, "list_iterator")] [(ax, lo)] (vs.map .val) m₀ news) :
    wpAny (model prog w) A (pyIter (.ref ax)) (fun it s₂ => TurnsAt prog w A h₀ env target body Q E it s₂) E s := iter_listTurns hh F N hm hc hd rest₀
theorem unrEndW_of {L : Addr} {it : Obj} {rest : (Str → Option Value) → List (Addr × Obj) → Prop} {s₁ : Shared} {h' : Heap} {tk : Nat} {m' : Str → Option Value} {all : List (Addr × Obj)} (F : Fr h₀ L h' m') (N : News h₀ L h' all) (k : Nat) (hI : (I, it) ∈ all) (off : ∀ q ∈ all.drop k, q.1 ≠ I) (r : rest m' (all.drop k)) : UnrEndW h₀ L s₁ [(I, it)] rest { s₁ with heap := h', toks := tk } :=
  ⟨h', tk, m', all.drop k, rfl, F, fun q hq => by
    rcases List.mem_append.mp hq with hq | hq
    · rw [List.mem_singleton.mp hq]; exact N _ hI
    · exact N q (List.mem_of_mem_drop hq), fun p hp q hq => by
    rw [List.mem_singleton.mp hq]
    exact off p hp, r⟩
theorem unrPostW_of {L : Addr} {it : Obj} {rest : (Str → Option Value) → List (Addr × Obj) → Prop} {s₁ : Shared} {h' : Heap} {tk : Nat} {m' : Str → Option Value} {all : List (Addr × Obj)} (F : Fr h₀ L h' m') (N : News h₀ L h' all) (k : Nat) (hI : (I, it) ∈ all) (off : ∀ q ∈ all.drop k, q.1 ≠ I) (r : rest m' (all.drop k)) : UnrPostW h₀ L s₁ [(I, it)] rest Q .next { s₁ with heap := h', toks := tk } :=
  unrEndW_of F N k hI off r
theorem unrEnd_of {L : Addr} {it : Obj} {rest : (Str → Option Value) → List (Addr × Obj) → Prop} {s₁ : Shared} {h' : Heap} {tk : Nat} {m' : Str → Option Value} {all : List (Addr × Obj)} (F : Fr h₀ L h' m') (N : News h₀ L h' all) (k : Nat) (hI : (I, it) ∈ all) (off : ∀ q ∈ all.drop k, q.1 ≠ I) (r : rest m' (all.drop k)) : UnrEnd h₀ L s₁ I it rest { s₁ with heap := h', toks := tk } :=
  ⟨h', tk, m', all.drop k, rfl, F, fun q hq => by
    rcases List.mem_cons.mp hq with hq | hq
    · rw [hq]; exact N _ hI
    · exact N q (List.mem_of_mem_drop hq), off, r⟩
def StopAt : Prop := True
theorem news_skip2 {h₀ h : Heap} {L : Addr} {a b : Addr × Obj} {r : List (Addr × Obj)} (N : News h₀ L h (a :: b :: r)) : News h₀ L h (a :: r) := fun q hq => N q (by
  rcases List.mem_cons.mp hq with h | h
  · rw [h]; exact .head _
  · exact .tail _ (.tail _ h))
theorem allLt_all {d : Addr} : ∀ {l : List (Addr × Obj)}, AllLt d l → ∀ p ∈ l, p.1 < d
  | [], _, _, h => nomatch h
  | _ :: _, k, p, h => by
    rcases List.mem_cons.mp h with rfl | h
    · exact k.1
    · exact allLt_all k.2 p h
theorem subL_one {p : Addr × Obj} {n : List (Addr × Obj)} (h : p ∈ n) : SubL [p] n := ⟨h, trivial⟩
end
section
variable {prog : Program} {w : World} {A : Around} {E : Value → Shared → Prop} {s : Shared} {h₀ : Heap} {L D : Addr} {m : Str → Option Value} {news news' : List (Addr × Obj)} {vs : List Value} {n : Nat} {x : Value}
theorem kv_subL {k : Int} {u : Tok} {v : Value} {value slice : PySem.Expr} {ys : List Value} {Q : Value → Shared → Prop} (N : News h₀ L s.heap news) (hm : (D, PyProof.Rows.LCg.lst ys) ∈ news) (h0 : 0 ≤ k) (h1 : k < ys.length) (hfit : k < 2 ^ 63) (hv : ys.getD k.toNat .none = v) (h : Q v s)
    (hs : subscripted slice false (.ref D) (.int k u) = operate [.ref D, .int k u] (getItem (.ref D) (.int k u)) := by with_unfolding_all rfl) :
    wpAny (model prog w) A (subscriptTail value slice (.ref D) (.int k u)) Q E s := by
  have hl : s.heap.IsList D ys.toArray := lst_isL N hm
  exact tail_any hl.typeIs slot_list_getitem.lookup (wpAny_getItem_list hl h0 hfit (kv_at h0 h1) (hv ▸ h)) hs
theorem kv_len {j : Nat} {Q : Value → Shared → Prop} (N : News h₀ L s.heap news) (hm : (D, listOf vs.toArray n) ∈ news) (hj : vs.length = j) (hz : j < 100000) (h : ∀ t tk', Q (.int (j : Int) t) { s with toks := tk' }) : wpAny (model prog w) A (call (.builtin "len") [.ref D]) Q E s := by
  refine call_len_list (PySem.IsL.isList (n := n) (N _ hm).1) (by rw [List.size_toArray]; omega) ?_
  rw [List.size_toArray, hj]
  exact h _ _
theorem kv_append {Q : Value → Shared → Prop} (F : Fr h₀ L s.heap m) (N : News h₀ L s.heap news) (U : Upd D (listOf vs.toArray n) (listOf (vs ++ [x]).toArray (n + 1)) news news') (hz : vs.length < 1000)
    (h : ∀ h', Fr h₀ L h' m → News h₀ L h' news' → Q .none { s with heap := h' }) : wpAny (model prog w) A (call (.builtin "list.append") [.ref D, x]) Q E s := by
  have e : vs.toArray.push x = (vs ++ [x]).toArray := by simp
  rw [← e] at U
  exact append_K F N U h (by rw [sizeLine_eq, List.size_toArray]; omega)
theorem kv_add {l b : Addr} {ws : List Value} {n2 : Nat} {Q : Value → Shared → Prop} (F : Fr h₀ L s.heap m) (N : News h₀ L s.heap news) (ha : (l, listOf vs.toArray n) ∈ news) (hb : (b, listOf ws.toArray n2) ∈ news) (hz : vs.length + ws.length < 1000)
    (h : ∀ D h', Fr h₀ L h' m → News h₀ L h' ((D, listOf (vs ++ ws).toArray 0) :: news) → (∀ q ∈ news, q.1 < D) → Q (.ref D) { s with heap := h' }) : wpAny (model prog w) A (binaryOp .Add (.ref l) (.ref b)) Q E s :=
  add_lists F N (PySem.IsL.isList (n := n) (N _ ha).1) (PySem.IsL.isList (n := n2) (N _ hb).1) (fun h' F' N' => h _ h' F' N' fun p hp => Heap.lt_size (N p hp).1) (by rw [sizeLine_eq]; omega)
end
end Mine
end
section
open PySem PySem.W PyProof.Rows
set_option maxHeartbeats 40000000
namespace Mine

def nameOf (t : Int) : Str := if t = 0 then Str.ofString "MOVE" else if t = 2 then Str.ofString "LOADBOOL" else if t = 22 then Str.ofString "JMP" else if t = 23 then Str.ofString "EQ" else if t = 24 then Str.ofString "LT" else if t = 25 then Str.ofString "LE" else if t = 26 then Str.ofString "TEST" else if t = 27 then Str.ofString "TESTSET" else Str.ofString "RETURN"
def rowObj (r : R) (t0 t1 t2 t3 : Tok) : Obj := { cls := .type "tuple", data := .seq #[.str (nameOf r.t) t0, .int r.a t1, .int r.b t2, .int r.c t3] }
def RowIs (news : List (Addr × Obj)) (r : R) (v : Value) : Prop := ∃ ta t0 t1 t2 t3, v = .ref ta ∧ (ta, rowObj r t0 t1 t2 t3) ∈ news
def RowsIn (news : List (Addr × Obj)) : List R → List Value → Prop
  | [], [] => True
  | r :: rs, v :: vs => RowIs news r v ∧ RowsIn news rs vs
  | _, _ => False
theorem RowsIn.length {news : List (Addr × Obj)} : ∀ {rows : List R} {vs : List Value}, RowsIn news rows vs → vs.length = rows.length
  | [], [], _ => rfl
  | _ :: _, _ :: _, h => by simp [RowsIn.length h.2]
  | [], _ :: _, h => h.elim
  | _ :: _, [], h => h.elim
theorem RowsIn.getN {news : List (Addr × Obj)} : ∀ {rows : List R} {vs : List Value} (i : Nat), RowsIn news rows vs → i < rows.length → RowIs news (rows.getD i ⟨30, 0, 6, 0⟩) (vs.getD i .none)
  | _ :: _, _ :: _, 0, h, _ => h.1
  | _ :: _, _ :: _, i + 1, h, hi => by simpa using RowsIn.getN i h.2 (by simpa using hi)
  | [], [], _, _, hi => absurd hi (Nat.not_lt_zero _)
  | [], _ :: _, _, h, _ => h.elim
  | _ :: _, [], _, h, _ => h.elim
theorem RowsIn.get {news : List (Addr × Obj)} {rows : List R} {vs : List Value} (i : Int) (h : RowsIn news rows vs) (h0 : 0 ≤ i) (h1 : i < rows.length) : RowIs news (rowAt rows i) (vs.getD i.toNat .none) := h.getN i.toNat (by omega)
theorem RowsIn.more {news news' : List (Addr × Obj)} (hs : ∀ p ∈ news, p ∈ news') : ∀ {rows : List R} {vs : List Value}, RowsIn news rows vs → RowsIn news' rows vs
  | [], [], _ => trivial
  | _ :: _, _ :: _, ⟨⟨ta, t0, t1, t2, t3, e, hm⟩, h⟩ => ⟨⟨ta, t0, t1, t2, t3, e, hs _ hm⟩, RowsIn.more hs h⟩
  | [], _ :: _, h => h.elim
  | _ :: _, [], h => h.elim
theorem RowsIn.append {news : List (Addr × Obj)} : ∀ {r1 r2 : List R} {v1 v2 : List Value}, RowsIn news r1 v1 → RowsIn news r2 v2 → RowsIn news (r1 ++ r2) (v1 ++ v2)
  | [], _, [], _, _, h => h
  | _ :: _, _, _ :: _, _, h, k => ⟨h.1, RowsIn.append h.2 k⟩
  | [], _, _ :: _, _, h, _ => h.elim
  | _ :: _, _, [], _, h, _ => h.elim
def isNum (t : Int) : Prop := t = 0 ∨ t = 2 ∨ (22 ≤ t ∧ t ≤ 27) ∨ t = 30
theorem isNum_of {n i : Int} {r r' : R} (h : okR n i r r') : isNum r.t := by
  rcases h with h | h | h | h | h | h
  · exact .inl h.1
  · exact .inr (.inl h.1)
  · exact .inr (.inr (.inl ⟨Int.le_of_eq h.1.symm, by rw [h.1]; decide⟩))
  · exact .inr (.inr (.inl ⟨Int.le_trans (by decide) h.1.1, Int.le_trans h.1.2 (by decide)⟩))
  · exact .inr (.inr (.inl ⟨Int.le_trans (by decide) h.1.1, h.1.2⟩))
  · exact .inr (.inr (.inr h.1))
theorem up_one {l t : Int} (h : l ≤ t) : t = l ∨ l + 1 ≤ t := (Int.lt_or_eq_of_le h).symm.imp Eq.symm id
theorem isNum_cases {P : Int → Prop} {t : Int} (h : isNum t) (h0 : P 0) (h1 : P 2) (h2 : P 22) (h3 : P 23) (h4 : P 24) (h5 : P 25) (h6 : P 26) (h7 : P 27) (h8 : P 30) : P t := by
  rcases h with h | h | ⟨h, k⟩ | h
  · exact h ▸ h0
  · exact h ▸ h1
  · rcases up_one h with e | h
    · exact e ▸ h2
    rcases up_one h with e | h
    · exact e ▸ h3
    rcases up_one h with e | h
    · exact e ▸ h4
    rcases up_one h with e | h
    · exact e ▸ h5
    rcases up_one h with e | h
    · exact e ▸ h6
    rcases up_one h with e | h
    · exact e ▸ h7
    · exact absurd (Int.le_trans h k) (by decide)
  · exact h ▸ h8
theorem num_sub : ∀ {w : World} {A : Around} {E : Value → Shared → Prop} {s : Shared} {h₀ : Heap} {L : Addr} {m : Str → Option Value} {t : Int} {tk : Tok} {value slice : PySem.Expr} {Q : Value → Shared → Prop} (_ : isNum t) (_ : Fr h₀ L s.heap m) (_ : (Kf w.params).In h₀)
    (_ : subscripted slice false (.ref 508) (.str (nameOf t) tk) = operate [.ref 508, .str (nameOf t) tk] (getItem (.ref 508) (.str (nameOf t) tk))) (_ : ∀ u, Q (.int t u) { s with toks := s.toks + 1 }), wpAny (model PySem.Challenge.rw_pc0174_02.row.prog w) A (subscriptTail value slice (.ref 508) (.str (nameOf t) tk)) Q E s := by
  k_fill
  intro w A E s h₀ L m t tk value slice Q ht F X hs h
  revert hs h
  refine isNum_cases (P := fun t => subscripted slice false (.ref 508) (.str (nameOf t) tk) = operate [.ref 508, .str (nameOf t) tk] (getItem (.ref 508) (.str (nameOf t) tk)) → (∀ u, Q (.int t u) { s with toks := s.toks + 1 }) → wpAny (model PySem.Challenge.rw_pc0174_02.row.prog w) A (subscriptTail value slice (.ref 508) (.str (nameOf t) tk)) Q E s) ht ?_ ?_ ?_ ?_ ?_ ?_ ?_ ?_ ?_
  all_goals
    intro hs h
    simp only [nameOf, Int.reduceEq, if_true, if_false] at hs ⊢
    k_dflt (refine' topItem_K (hs := hs) F X ?l ?k ?e ?_; (case l => k_is); (case k => k_keys); (case e => k_is))
    exact h _
theorem nm_word {t : Int} (h : isNum t) : (nameOf t == Str.ofString "WORD") = false := isNum_cases (P := fun t => (nameOf t == Str.ofString "WORD") = false) h (by decide +kernel) (by decide +kernel) (by decide +kernel) (by decide +kernel) (by decide +kernel) (by decide +kernel) (by decide +kernel) (by decide +kernel) (by decide +kernel)
theorem nm_loadk {t : Int} (h : isNum t) : (nameOf t == Str.ofString "LOADK") = false := isNum_cases (P := fun t => (nameOf t == Str.ofString "LOADK") = false) h (by decide +kernel) (by decide +kernel) (by decide +kernel) (by decide +kernel) (by decide +kernel) (by decide +kernel) (by decide +kernel) (by decide +kernel) (by decide +kernel)
theorem nm_jmps {t : Int} (h : isNum t) (h2 : t ≠ 22) : ([Str.ofString "JMP", Str.ofString "FORLOOP", Str.ofString "FORPREP"].any (· == nameOf t)) = false := by
  revert h2
  exact isNum_cases (P := fun t => t ≠ 22 → ([Str.ofString "JMP", Str.ofString "FORLOOP", Str.ofString "FORPREP"].any (· == nameOf t)) = false) h (by decide +kernel) (by decide +kernel) (by decide +kernel) (by decide +kernel) (by decide +kernel) (by decide +kernel) (by decide +kernel) (by decide +kernel) (by decide +kernel)
theorem nm_jmp : ([Str.ofString "JMP", Str.ofString "FORLOOP", Str.ofString "FORPREP"].any (· == nameOf 22)) = true := by decide +kernel
theorem nm_cmp {t : Int} (h : 23 ≤ t ∧ t ≤ 25) : isNum t ∧ (nameOf t == Str.ofString "RETURN") = false ∧ (nameOf t == Str.ofString "MOVE") = false ∧ (nameOf t == Str.ofString "LOADBOOL") = false ∧ (nameOf t == Str.ofString "JMP") = false ∧ ([Str.ofString "EQ", Str.ofString "LT", Str.ofString "LE"].any (· == nameOf t)) = true := by
  rcases (show t = 23 ∨ t = 24 ∨ t = 25 by omega) with h | h | h <;> subst h <;> refine ⟨?_, ?_⟩ <;> first | decide +kernel | (unfold isNum; omega)
theorem nm_at : ((nameOf 0 == Str.ofString "RETURN") = false ∧ (nameOf 0 == Str.ofString "MOVE") = true) ∧ ((nameOf 2 == Str.ofString "RETURN") = false ∧ (nameOf 2 == Str.ofString "MOVE") = false ∧ (nameOf 2 == Str.ofString "LOADBOOL") = true) ∧ ((nameOf 22 == Str.ofString "RETURN") = false ∧ (nameOf 22 == Str.ofString "MOVE") = false ∧ (nameOf 22 == Str.ofString "LOADBOOL") = false ∧ (nameOf 22 == Str.ofString "JMP") = true) ∧ (nameOf 30 == Str.ofString "RETURN") = true := by decide +kernel
theorem nm_test : (nameOf 26 == Str.ofString "RETURN") = false ∧ (nameOf 26 == Str.ofString "MOVE") = false ∧ (nameOf 26 == Str.ofString "LOADBOOL") = false ∧ (nameOf 26 == Str.ofString "JMP") = false ∧ ([Str.ofString "EQ", Str.ofString "LT", Str.ofString "LE"].any (· == nameOf 26)) = false ∧ (nameOf 26 == Str.ofString "TEST") = true ∧ (nameOf 26 == Str.ofString "TESTSET") = false := by decide +kernel
theorem nm_testset : (nameOf 27 == Str.ofString "RETURN") = false ∧ (nameOf 27 == Str.ofString "MOVE") = false ∧ (nameOf 27 == Str.ofString "LOADBOOL") = false ∧ (nameOf 27 == Str.ofString "JMP") = false ∧ ([Str.ofString "EQ", Str.ofString "LT", Str.ofString "LE"].any (· == nameOf 27)) = false ∧ (nameOf 27 == Str.ofString "TEST") = false ∧ (nameOf 27 == Str.ofString "TESTSET") = true := by decide +kernel
theorem bdm {x : Int} (l y : Int) (h : l ≤ x ∧ x ≤ y) (hl : -3 < l) (hn : y < 300) : -3 < x ∧ x < 300 := ⟨Int.lt_of_lt_of_le hl h.1, Int.lt_of_le_of_lt h.2 hn⟩
theorem bd5 {x : Int} (h : 0 ≤ x ∧ x < 5) : -3 < x ∧ x < 300 := ⟨Int.lt_of_lt_of_le (by decide) h.1, Int.lt_trans h.2 (by decide)⟩
theorem opd300 {k : Int} (h : okOpd k) : (0 ≤ k ∧ k < 300) := by
  rcases h with h | h | h | h
  · exact ⟨h.1, Int.lt_trans h.2 (by decide)⟩
  all_goals (subst h; decide)
theorem okR_bd {n i : Int} {r r' : R} (h : okR n i r r') : (0 ≤ r.a ∧ r.a < 5) ∧ (-3 < r.b ∧ r.b < 300) ∧ (0 ≤ r.c ∧ r.c < 300) := by
  rcases h with h | h | h | h | h | h
  · exact ⟨h.2.1, bd5 h.2.2.1, bd_eq 0 h.2.2.2.1 (by decide)⟩
  · exact ⟨h.2.1, bdm 0 1 h.2.2.1 (by decide) (by decide), bd_le 0 1 h.2.2.2.1 (by decide) (by decide)⟩
  · exact ⟨bd_eq 0 h.2.1 (by decide), bdm (-2) 9 h.2.2.2.1 (by decide) (by decide), bd_eq 0 h.2.2.1 (by decide)⟩
  · exact ⟨bd_le 0 1 h.2.1 (by decide) (by decide), ⟨Int.lt_of_lt_of_le (by decide) (opd300 h.2.2.1).1, (opd300 h.2.2.1).2⟩, opd300 h.2.2.2.1⟩
  · exact ⟨h.2.1, bd5 h.2.2.1, bd_le 0 1 h.2.2.2.1 (by decide) (by decide)⟩
  · exact ⟨bd_eq 0 h.2.1 (by decide), bdm 6 6 ⟨Int.le_of_eq h.2.2.1.symm, Int.le_of_eq h.2.2.1⟩ (by decide) (by decide), bd_eq 0 h.2.2.2 (by decide)⟩
theorem okR_at {rows pre post : List R} {r : R} (hr : okRows rows) (e : rows = pre ++ r :: post) : ∃ n i r', okR n i r r' := by
  have hl : pre.length < rows.length := by rw [e]; simp
  have h := hr.2.2 (pre.length : Int) (by omega) (by omega)
  have e2 : rowAt rows (pre.length : Int) = r := by
    unfold rowAt
    rw [Int.toNat_natCast, e]
    simp
  rw [e2] at h
  exact ⟨_, _, _, h⟩

end Mine
end
section
open PySem PySem.W PyProof.Rows
set_option maxHeartbeats 40000000
namespace Mine

theorem take_core : ∀ (w : World) (p : Program) (loose : List Str) (mean : ExcName → Option Value) (mg mb : Str → Option Value) (dp un : Nat) (gd : Option (List Code)) (cn : Str) (cs : Scope) (a : Addr) (ccd : Value) (cl : List (Str × Addr)) (outer : List Env) (A₀ : Around) (base h₀ : Heap) (L : Addr) (m : Str → Option Value) (s : Shared) (Q E : Value → Shared → Prop) (b : Addr) (g c k : Int) (t0 t1 tk : Tok) (n : Nat) (rest : List (Addr × Obj)), Below A₀ base outer h₀ → Fr h₀ L s.heap m → (Kf w.params).In h₀ → News h₀ L s.heap ((b, listOf [.int g t0, .int c t1].toArray n) :: rest) → Top p loose mean mg mb h₀ → cs.kind = .function → dp + 1 < recursionLimit → un + 8 < cLine → (∀ p ∈ rest, p.1 ≠ b) → (0 ≤ g ∧ g < 2 ^ 400) → (0 ≤ c ∧ c < 2 ^ 20) → (0 < k ∧ k < 2 ^ 10) → (∀ (d : Int) (g' c' : Int) (td t0' t1' : Tok) (h' : Heap) (tk' : Nat), (0 ≤ d ∧ d < k) → (0 ≤ g' ∧ g' ≤ g) → (c' = c + 1) → Fr h₀ L h' m → News h₀ L h' ((b, listOf [.int g' t0', .int c' t1'].toArray n) :: rest) → Q (.int d td) { s with heap := h', toks := tk' }) → wpAny (model PySem.Challenge.rw_pc0174_02.row.prog w) (ktrTop dp un gd cn cs L a ccd cl outer) (call (.ref 517) [.ref b, .int k tk]) Q E s := by
  k_fill
  intro w p loose mean mg mb dp un gd cn cs a ccd cl outer A₀ base h₀ L m s Q E b g c k t0 t1 tk n rest B F X N T hck hd9 hu9 hne hg hc hk hret
  obtain ⟨hg0, hg1⟩ := hg
  obtain ⟨hc0, hc1⟩ := hc
  obtain ⟨hk0, hk1⟩ := hk
  refine wpAny_call ?_
  k_dflt cell_enter
  k_steps
  · refine hret (g.fmod k) (g.fdiv k) (c + 1) _ _ _ _ _ ?_ ?_ rfl (by k_asm) (by k_asm)
    · rw [fmodK _ _ (Int.le_of_lt hk0)]
      exact ⟨Int.emod_nonneg _ (by omega), Int.emod_lt_of_pos _ hk0⟩
    · rw [fdivK _ _ (Int.le_of_lt hk0)]
      exact ⟨Int.ediv_nonneg hg0 (Int.le_of_lt hk0), Int.ediv_le_self _ hg0⟩
  · refine hret (((c + 1) * 7 + (c + 1).fdiv 5).fmod k) g (c + 1) _ _ _ _ _ ?_ ⟨hg0, Int.le_refl _⟩ rfl (by k_asm) (by k_asm)
    rw [fmodK _ _ (Int.le_of_lt hk0)]
    exact ⟨Int.emod_nonneg _ (by omega), Int.emod_lt_of_pos _ hk0⟩
theorem news_front {h₀ h : Heap} {L d : Addr} {ob : Obj} {pre post : List (Addr × Obj)} (N : News h₀ L h (pre ++ (d, ob) :: post)) : News h₀ L h ((d, ob) :: (pre ++ post)) := fun q hq => N q (by
  simp only [List.mem_cons, List.mem_append] at hq ⊢
  rcases hq with h | h | h <;> simp [h])
theorem news_back {h₀ h : Heap} {L d : Addr} {ob : Obj} {pre post : List (Addr × Obj)} (N : News h₀ L h ((d, ob) :: (pre ++ post))) : News h₀ L h (pre ++ (d, ob) :: post) := fun q hq => N q (by
  simp only [List.mem_cons, List.mem_append] at hq ⊢
  rcases hq with h | h | h <;> simp [h])
theorem ne_parts {d : Addr} {pre post : List (Addr × Obj)} (a : ∀ p ∈ pre, p.1 ≠ d) (b : ∀ p ∈ post, p.1 ≠ d) : ∀ p ∈ pre ++ post, p.1 ≠ d := fun p hp => (List.mem_append.mp hp).elim (a p) (b p)
theorem take_ok : ∀ (w : World) (p : Program) (loose : List Str) (mean : ExcName → Option Value) (mg mb : Str → Option Value) (dp un : Nat) (gd : Option (List Code)) (cn : Str) (cs : Scope) (a : Addr) (ccd : Value) (cl : List (Str × Addr)) (outer : List Env) (A₀ : Around) (base h₀ : Heap) (L : Addr) (m : Str → Option Value) (s : Shared) (Q E : Value → Shared → Prop) (news : List (Addr × Obj)) (b : Addr) (g c k : Int) (t0 t1 tk : Tok) (n : Nat) (gg : Obj → List (Addr × Obj)), Below A₀ base outer h₀ → Fr h₀ L s.heap m → (Kf w.params).In h₀ → News h₀ L s.heap (news) → Top p loose mean mg mb h₀ → cs.kind = .function → dp + 1 < recursionLimit → un + 8 < cLine → (UpdF b (listOf [.int g t0, .int c t1].toArray n) news gg) → (0 ≤ g ∧ g < 2 ^ 400) → (0 ≤ c ∧ c < 2 ^ 20) → (0 < k ∧ k < 2 ^ 10) → (∀ (d : Int) (g' c' : Int) (td t0' t1' : Tok) (h' : Heap) (tk' : Nat), (0 ≤ d ∧ d < k) → (0 ≤ g' ∧ g' < 2 ^ 400) → (c' = c + 1) → Fr h₀ L h' m → News h₀ L h' (gg (listOf [.int g' t0', .int c' t1'].toArray n)) → Q (.int d td) { s with heap := h', toks := tk' }) → wpAny (model PySem.Challenge.rw_pc0174_02.row.prog w) (ktrTop dp un gd cn cs L a ccd cl outer) (call (.ref 517) [.ref b, .int k tk]) Q E s := by
  k_fill
  intro w p loose mean mg mb dp un gd cn cs a ccd cl outer A₀ base h₀ L m s Q E news b g c k t0 t1 tk n gg B F X N T hck hd9 hu9 hU hg hc hk hret
  obtain ⟨pre, post, rfl, hgg, ha, hb⟩ := hU.split
  refine take_core _ _ _ _ _ _ _ _ _ _ _ _ _ _ _ _ _ _ _ _ _ _ _ _ _ _ _ _ _ _ _ _ B F X (news_front N) T hck hd9 hu9 (ne_parts ha hb) hg hc hk fun d g' c' td t0' t1' h' tk' hd hg1 hc1 F' N' => ?_
  refine hret d g' c' td t0' t1' h' tk' hd ⟨hg1.1, Int.lt_of_le_of_lt hg1.2 hg.2⟩ hc1 F' ?_
  rw [hgg]
  exact (news_back N' :)
end Mine
end
local macro_rules | `(tactic| walk_at "zc") => `(tactic| (k_here; k_dflt (apply Mine.take_ok; walk_at "z8"; (iterate 4 walk_at "zq"); k_whole); intro d g' c' td t0' t1' h' tk' hd hg1 hc1 F' N'; (try k_sweep); (try dsimp only at N'); (subst hc1)))
theorem Mine.reset31 : (1 : Nat) < 2 := by first | (walk1; done) | decide
section
open PySem PySem.W PyProof.Rows
set_option maxHeartbeats 40000000
namespace Mine

theorem sub_cons {p : Addr × Obj} {r all : List (Addr × Obj)} (h : p ∈ all) (t : ∀ q ∈ r, q ∈ all) : ∀ q ∈ p :: r, q ∈ all := fun q hq => by
  rcases List.mem_cons.mp hq with rfl | hq
  · exact h
  · exact t q hq
theorem sub_drop (k : Nat) {all : List (Addr × Obj)} : ∀ q ∈ all.drop k, q ∈ all := fun _ hq => List.mem_of_mem_drop hq
theorem off_cons {I a : Addr} {o : Obj} {r : List (Addr × Obj)} (h : @Ne Nat a I) (t : ∀ q ∈ r, q.1 ≠ I) : ∀ q ∈ (a, o) :: r, q.1 ≠ I := fun q hq => by
  rcases List.mem_cons.mp hq with rfl | hq
  · exact h
  · exact t q hq
section
variable {prog : Program} {w : World} {A : Around} {E : Value → Shared → Prop} {s : Shared} {h₀ : Heap} {L D : Addr} {m : Str → Option Value} {news : List (Addr × Obj)} {vs : List Value} {n : Nat} {k : Int} {u : Tok}
theorem ints_getD : ∀ {vs : List Value} {ns : List Int}, IntsAre vs ns → ∀ i, i < vs.length → ∃ t, vs.getD i .none = .int (ns.getD i 0) t
  | _, _, .nil, _, hi => absurd hi (Nat.not_lt_zero _)
  | _, _, .cons _ _ _, 0, _ => ⟨_, rfl⟩
  | _, _, .cons _ _ h, i + 1, hi => by simpa using ints_getD h i (by simpa using hi)
theorem strs_getD : ∀ {vs : List Value} {ss : List Str}, StrsAre vs ss → ∀ i, i < vs.length → ∃ t, vs.getD i .none = .str (ss.getD i (Str.ofString "")) t
  | _, _, .nil, _, hi => absurd hi (Nat.not_lt_zero _)
  | _, _, .cons _ _ _, 0, _ => ⟨_, rfl⟩
  | _, _, .cons _ _ h, i + 1, hi => by simpa using strs_getD h i (by simpa using hi)
theorem kv_subI {value slice : PySem.Expr} {ns : List Int} {Q : Value → Shared → Prop} (N : News h₀ L s.heap news) (hm : (D, listOf vs.toArray n) ∈ news) (hI : IntsAre vs ns) (h0 : 0 ≤ k) (h1 : k < vs.length) (hfit : k < 2 ^ 63) (h : ∀ t, Q (.int (ns.getD k.toNat 0) t) s)
    (hs : subscripted slice false (.ref D) (.int k u) = operate [.ref D, .int k u] (getItem (.ref D) (.int k u))) : wpAny (model prog w) A (subscriptTail value slice (.ref D) (.int k u)) Q E s :=
  kv_sub N hm h0 h1 hfit (by obtain ⟨t, e⟩ := ints_getD hI k.toNat (by omega); rw [e]; exact h t) hs
theorem kv_subS {value slice : PySem.Expr} {ss : List Str} {Q : Value → Shared → Prop} (N : News h₀ L s.heap news) (hm : (D, listOf vs.toArray n) ∈ news) (hI : StrsAre vs ss) (h0 : 0 ≤ k) (h1 : k < vs.length) (hfit : k < 2 ^ 63) (h : ∀ t, Q (.str (ss.getD k.toNat (Str.ofString "")) t) s)
    (hs : subscripted slice false (.ref D) (.int k u) = operate [.ref D, .int k u] (getItem (.ref D) (.int k u))) : wpAny (model prog w) A (subscriptTail value slice (.ref D) (.int k u)) Q E s :=
  kv_sub N hm h0 h1 hfit (by obtain ⟨t, e⟩ := strs_getD hI k.toNat (by omega); rw [e]; exact h t) hs
theorem kv_two {value slice : PySem.Expr} {v0 v1 : Value} {Q : Value → Shared → Prop} (N : News h₀ L s.heap news) (hm : (D, listOf [v0, v1].toArray n) ∈ news) (hk : 0 ≤ k ∧ k < 2)
    (hs : subscripted slice false (.ref D) (.int k u) = operate [.ref D, .int k u] (getItem (.ref D) (.int k u))) (h0 : k = 0 → Q v0 s) (h1 : k = 1 → Q v1 s) : wpAny (model prog w) A (subscriptTail value slice (.ref D) (.int k u)) Q E s :=
  kv_sub N hm hk.1 (by simp only [List.length_cons, List.length_nil]; omega) (by omega) (by
    rcases (show k = 0 ∨ k = 1 by omega) with h | h
    · subst h; exact h0 rfl
    · subst h; exact h1 rfl) hs
end

theorem opd7 {d : Int} (h : 0 ≤ d ∧ d < 7) : okOpd ([0, 1, 2, 3, 4, 256, 257].getD d.toNat 0) := by
  rcases (show d = 0 ∨ d = 1 ∨ d = 2 ∨ d = 3 ∨ d = 4 ∨ d = 5 ∨ d = 6 by omega) with h | h | h | h | h | h | h <;> subst h <;> unfold okOpd <;> decide
theorem opd8 {d : Int} (h : 0 ≤ d ∧ d < 8) : okOpd ([0, 1, 2, 3, 4, 256, 257, 258].getD d.toNat 0) := by
  rcases (show d = 0 ∨ d = 1 ∨ d = 2 ∨ d = 3 ∨ d = 4 ∨ d = 5 ∨ d = 6 ∨ d = 7 by omega) with h | h | h | h | h | h | h | h <;> subst h <;> unfold okOpd <;> decide
theorem nm3 {d : Int} (h0 : 0 ≤ d) (h1 : d < 3) : [Str.ofString "EQ", Str.ofString "LT", Str.ofString "LE"].getD d.toNat (Str.ofString "") = nameOf (23 + d) := by
  rcases (show d = 0 ∨ d = 1 ∨ d = 2 by omega) with h | h | h <;> subst h <;> rfl
theorem nmT {d : Int} (h : d = 3) : [Str.ofString "TEST", Str.ofString "TESTSET", Str.ofString "TESTSET"].getD (d - 3).toNat (Str.ofString "") = nameOf 26 := by
  subst h; rfl
theorem nmS {d : Int} (h : 3 < d) (h2 : d < 6) : [Str.ofString "TEST", Str.ofString "TESTSET", Str.ofString "TESTSET"].getD (d - 3).toNat (Str.ofString "") = nameOf 27 := by
  rcases (show d = 4 ∨ d = 5 by omega) with h | h <;> subst h <;> rfl
def okPairs (rows : List R) (n : Nat) : Prop := rows.length = 2 * n ∧ ∀ j : Nat, j < n → okR 10 (2 * j : Nat) (rows.getD (2 * j) ⟨30, 0, 6, 0⟩) (rows.getD (2 * j + 1) ⟨30, 0, 6, 0⟩) ∧ okJ 10 (2 * j : Nat) (rows.getD (2 * j + 1) ⟨30, 0, 6, 0⟩)
theorem okPairs_snoc {rows : List R} {n : Nat} {r1 r2 : R} (h : okPairs rows n) (h2 : okJ 10 (2 * n : Nat) r2) (h1 : okJ 10 (2 * n : Nat) r2 → okR 10 (2 * n : Nat) r1 r2) : okPairs (rows ++ [r1] ++ [r2]) (n + 1) := by
  obtain ⟨hl, hp⟩ := h
  refine ⟨by simp only [List.length_append, List.length_cons, List.length_nil, hl]; omega, fun j hj => ?_⟩
  have e : rows ++ [r1] ++ [r2] = rows ++ [r1, r2] := by simp
  rw [e]
  by_cases hjn : j < n
  · have a1 : (rows ++ [r1, r2]).getD (2 * j) ⟨30, 0, 6, 0⟩ = rows.getD (2 * j) ⟨30, 0, 6, 0⟩ := by simp only [List.getD_eq_getElem?_getD]; rw [List.getElem?_append_left (by omega)]
    have a2 : (rows ++ [r1, r2]).getD (2 * j + 1) ⟨30, 0, 6, 0⟩ = rows.getD (2 * j + 1) ⟨30, 0, 6, 0⟩ := by simp only [List.getD_eq_getElem?_getD]; rw [List.getElem?_append_left (by omega)]
    rw [a1, a2]
    exact hp j hjn
  · have ej : j = n := by omega
    subst ej
    have a1 : (rows ++ [r1, r2]).getD (2 * j) ⟨30, 0, 6, 0⟩ = r1 := by simp only [List.getD_eq_getElem?_getD]; rw [List.getElem?_append_right (by omega), hl, Nat.sub_self]; rfl
    have a2 : (rows ++ [r1, r2]).getD (2 * j + 1) ⟨30, 0, 6, 0⟩ = r2 := by simp only [List.getD_eq_getElem?_getD]; rw [List.getElem?_append_right (by omega), hl, show 2 * j + 1 - 2 * j = 1 by omega]; rfl
    rw [a1, a2]
    exact ⟨h1 h2, h2⟩
theorem okR_of_J {n i : Int} {r r' : R} (h : okJ n (i - 1) r) : okR n i r r' := by
  unfold okJ at h
  unfold okR
  obtain ⟨h1, h2, h3, h4, h5, h6, h7⟩ := h
  exact .inr (.inr (.inl ⟨h1, h2, h3, ⟨h4, h5⟩, by omega, by omega⟩))
theorem okRows_of {rows : List R} (h : okPairs rows 4) : okRows (rows ++ [⟨30, 0, 6, 0⟩, ⟨30, 0, 6, 0⟩]) := by
  obtain ⟨hl, hp⟩ := h
  have hL : (rows ++ [(⟨30, 0, 6, 0⟩ : R), ⟨30, 0, 6, 0⟩]).length = 10 := by simp only [List.length_append, List.length_cons, List.length_nil, hl]
  refine ⟨by omega, by omega, fun i h0 h1 => ?_⟩
  rw [hL] at h1 ⊢
  have hat : ∀ k : Nat, (rows ++ [(⟨30, 0, 6, 0⟩ : R), ⟨30, 0, 6, 0⟩]).getD k ⟨30, 0, 6, 0⟩ = rows.getD k ⟨30, 0, 6, 0⟩ := by
    intro k
    simp only [List.getD_eq_getElem?_getD]
    by_cases hk : k < rows.length
    · rw [List.getElem?_append_left hk]
    · rw [List.getElem?_append_right (by omega), List.getElem?_eq_none (by omega : rows.length ≤ k)]
      rcases (show k - rows.length = 0 ∨ k - rows.length = 1 ∨ 2 ≤ k - rows.length by omega) with e | e | e
      · rw [e]; rfl
      · rw [e]; rfl
      · rw [List.getElem?_eq_none (by simpa using e)]
  obtain ⟨k, rfl⟩ : ∃ k : Nat, i = k := ⟨i.toNat, by omega⟩
  unfold rowAt
  rw [Int.toNat_natCast, show ((k : Int) + 1).toNat = k + 1 by omega, hat, hat]
  by_cases hk : k < 8
  · obtain ⟨j, hj⟩ : ∃ j, k = 2 * j ∨ k = 2 * j + 1 := ⟨k / 2, by omega⟩
    rcases hj with rfl | rfl
    · exact (hp j (by omega)).1
    · have := (hp j (by omega)).2
      refine okR_of_J ?_
      rw [show ((2 * j + 1 : Nat) : Int) - 1 = ((2 * j : Nat) : Int) by omega]
      exact this
  · have e : rows.getD k ⟨30, 0, 6, 0⟩ = ⟨30, 0, 6, 0⟩ := by
      simp only [List.getD_eq_getElem?_getD]
      rw [List.getElem?_eq_none (by omega)]; rfl
    rw [e]
    exact .inr (.inr (.inr (.inr (.inr ⟨rfl, rfl, rfl, rfl⟩))))
theorem unrEnd_pick {h₀ : Heap} {L I R b : Addr} {it oR ob : Obj} {rest : (Str → Option Value) → List (Addr × Obj) → Prop} {s₁ : Shared} {h' : Heap} {tk : Nat} {m' : Str → Option Value} {all out : List (Addr × Obj)} (F : Fr h₀ L h' m') (N : News h₀ L h' all) (k : Nat) (e : all.drop k = (I, it) :: (R, oR) :: (b, ob) :: out)
    (offI : ∀ q ∈ all.take k, q.1 ≠ I) (hoI : ∀ q ∈ out, q.1 ≠ I) (hR : @LT.lt Nat _ R I) (hb : @LT.lt Nat _ b I) (r : rest m' ((R, oR) :: (b, ob) :: (all.take k ++ out))) : UnrEnd h₀ L s₁ I it rest { s₁ with heap := h', toks := tk } :=
  UnrEnd.intro F N _ (fun q hq => by
    simp only [List.mem_cons, List.mem_append] at hq
    rcases hq with h | h | h | h | h
    · exact List.mem_of_mem_drop (i := k) (by rw [e, h]; exact .head _)
    · exact List.mem_of_mem_drop (i := k) (by rw [e, h]; exact .tail _ (.head _))
    · exact List.mem_of_mem_drop (i := k) (by rw [e, h]; exact .tail _ (.tail _ (.head _)))
    · exact List.mem_of_mem_take h
    · exact List.mem_of_mem_drop (i := k) (by rw [e]; exact .tail _ (.tail _ (.tail _ h)))) (off_cons (Nat.ne_of_lt hR) (off_cons (Nat.ne_of_lt hb) (ne_parts offI hoI))) r
theorem off_nil {I : Addr} : ∀ q ∈ ([] : List (Addr × Obj)), q.1 ≠ I := fun _ h => nomatch h
theorem nm_ml : (Str.ofString "MOVE" = nameOf 0 ∧ Str.ofString "LOADBOOL" = nameOf 2) ∧ (Str.ofString "JMP" = nameOf 22 ∧ Str.ofString "RETURN" = nameOf 30) := by decide +kernel
theorem fmod2 (d : Int) : Int.fmod d 2 = d % 2 := fmodK d 2 (by decide)

end Mine
end
section
open PySem PySem.W PyProof.Rows
namespace Mine
theorem put_same {m : Str → Option Value} {x y : Str} {v r : Option Value} (h : m x = v) (hr : r = m y) : (if y = x then v else r) = m y := by
  split
  · next e => rw [e]; exact h.symm
  · exact hr
theorem fr_as {h₀ h : Heap} {L : Addr} {m m' : Str → Option Value} (F : Fr h₀ L h m) (e : ∀ y, m' y = m y) : Fr h₀ L h m' := (funext e : m' = m) ▸ F
theorem over_neg {y : Str} {g m : Str → Option Value} : ∀ {ns : List Str}, y ∉ ns → over ns g m y = m y
  | [], _ => rfl
  | _ :: _, h => by
    unfold over
    rw [if_neg fun e => h (by rw [e]; exact .head _)]
    exact over_neg fun e => h (.tail _ e)
theorem fr_gen {h₀ h : Heap} {L : Addr} {x : Str} {v : Option Value} {ns : List Str} {g m₀ : Str → Option Value} (F : Fr h₀ L h (fun y => if y = x then v else over ns g m₀ y)) (hx : x ∈ ns) :
    ∃ mt, Fr h₀ L h mt ∧ mt x = v ∧ (∀ y, y ∈ ns → y ≠ x → mt y = g y) ∧ ∀ y, y ∉ ns → mt y = m₀ y :=
  ⟨_, F, if_pos rfl, fun y hy hn => (if_neg hn).trans (by
    clear F hx
    induction ns with
    | nil => exact absurd hy List.not_mem_nil
    | cons n ns ih =>
      unfold over
      by_cases e : y = n
      · rw [if_pos e, e]
      · rw [if_neg e]
        exact ih ((List.mem_cons.mp hy).resolve_left e)), fun _ hy => (if_neg fun e => hy (by rw [e]; exact hx)).trans (over_neg hy)⟩
def pgNames : List Str := [Str.ofString "turn", Str.ofString "form", Str.ofString "a", Str.ofString "one", Str.ofString "other", Str.ofString "b", Str.ofString "c"]
def pgSpec (s : Shared) (n : Nat) (cb : Int) (mt : Str → Option Value) (rvs : List Value) (i : Nat) (g' : Heap) (L' I R b : Addr) (it : Obj) (out : List (Addr × Obj)) (so : Shared) : Prop :=
  ∃ (h : Heap) (tk : Nat) (m1 : Str → Option Value) (g2 c2 : Int) (u0 u1 : Tok) (k1 : Nat) (ta : Addr) (r : Mine.R) (T0 T1 T2 T3 : Tok), so = ⟨h, s.gens, s.drawn, tk, s.os⟩ ∧ (∀ y, y ∉ pgNames → m1 y = if y = Str.ofString "rows" then some (Value.ref R) else if y = Str.ofString "box" then some (Value.ref b) else mt y) ∧
    Fr g' L' h m1 ∧ News g' L' h ((I, it) :: (R, W.listOf (rvs ++ [Value.ref ta]).toArray k1) :: (b, W.listOf [Value.int g2 u0, Value.int c2 u1].toArray n) :: (ta, rowObj r T0 T1 T2 T3) :: out) ∧ (0 ≤ g2 ∧ g2 < 2 ^ 400) ∧ (0 ≤ c2 ∧ c2 ≤ cb + 8) ∧ (@LT.lt Nat _ b ta ∧ @LT.lt Nat _ R ta ∧ @LT.lt Nat _ I ta) ∧ ∀ r2, okJ 10 (2 * i : Nat) r2 → okR 10 (2 * i : Nat) r r2
theorem cut_pg {M : Model} {A : Around} {env : Env} {s0 s1 s2 : Stmt} {E : Value → Shared → Prop} {s' : Shared} {Q : Flow → Shared → Prop} {g' h2 : Heap} {L' I R b : Addr} {it oR ob : Obj} {m2 : Str → Option Value} {out : List (Addr × Obj)} (s : Shared) (n : Nat) (cb : Int) (mt : Str → Option Value) (rvs : List Value) (i : Nat)
    (_ : Fr g' L' h2 m2) (_ : News g' L' h2 ((I, it) :: (R, oR) :: (b, ob) :: out))
    (last : ∀ so, pgSpec s n cb mt rvs i g' L' I R b it out so → wpAny M A (execs [s2] env) Q E so)
    (main : (∀ so, pgSpec s n cb mt rvs i g' L' I R b it out so → wpAny M A (execs [s2] env) Q E so) → wpAny M A (execs [s0, s1, s2] env) Q E s') : wpAny M A (execs [s0, s1, s2] env) Q E s' := main last
theorem fr_rows {g' h : Heap} {L' R b : Addr} {oR ob : Obj} {p : Addr × Obj} {m : Str → Option Value} {n : List (Addr × Obj)} (F : Fr g' L' h m) (_ : News g' L' h (p :: (R, oR) :: (b, ob) :: n)) (e1 : m (Str.ofString "rows") = some (.ref R)) (e2 : m (Str.ofString "box") = some (.ref b)) :
    Fr g' L' h (fun y => if y = Str.ofString "rows" then some (.ref R) else if y = Str.ofString "box" then some (.ref b) else m y) ∧ ∀ y, (if y = Str.ofString "rows" then some (Value.ref R) else if y = Str.ofString "box" then some (Value.ref b) else m y) = m y :=
  ⟨fr_as F fun _ => put_same e1 (put_same e2 rfl), fun _ => put_same e1 (put_same e2 rfl)⟩
theorem keep_if {ns : List Str} {m m₀ : Str → Option Value} {x : Str} {v : Option Value} (hx : x ∈ ns) (h : ∀ y, y ∉ ns → m y = m₀ y) : ∀ y, y ∉ ns → (if y = x then v else m y) = m₀ y := fun y hy => (if_neg fun e => hy (by rw [e]; exact hx)).trans (h y hy)
theorem okJ_two {i : Nat} (h : i < 4) : okJ 10 (2 * i : Nat) ⟨22, 0, -2, 0⟩ := ⟨rfl, rfl, rfl, by dsimp only; omega, by dsimp only; omega, by dsimp only; omega, by dsimp only; omega⟩
theorem okJ_far {i : Nat} {d k : Int} (h : i < 4) (hk : k = 8 - ((2 * i + 1 : Nat) : Int)) (hd : 0 ≤ d ∧ d < k) : okJ 10 (2 * i : Nat) ⟨22, 0, d, 0⟩ := by
  obtain ⟨h0, h1⟩ := hd
  exact ⟨rfl, rfl, rfl, by dsimp only; omega, by dsimp only; omega, by dsimp only; omega, by dsimp only; omega⟩
theorem okR_move {i : Nat} {a b : Int} {r' : R} (h : i < 4) (ha : 0 ≤ a ∧ a < 5) (hb : 0 ≤ b ∧ b < 5) : okR 10 (2 * i : Nat) ⟨0, a, b, 0⟩ r' := .inl ⟨rfl, ha, hb, rfl, by omega⟩
theorem okR_load {i : Nat} {a b c : Int} {r' : R} (h : i < 4) (ha : 0 ≤ a ∧ a < 5) (hb : 0 ≤ b ∧ b ≤ 1) (hc : 0 ≤ c ∧ c < 2) : okR 10 (2 * i : Nat) ⟨2, a, b, c⟩ r' := .inr (.inl ⟨rfl, ha, hb, ⟨hc.1, by have := hc.2; dsimp only; omega⟩, by omega⟩)
theorem okR_cmp {i : Nat} {t a b c : Int} {r' : R} (h : i < 4) (ht : 0 ≤ t ∧ t < 3) (ha : 0 ≤ a ∧ a < 2) (hb : okOpd b) (hc : okOpd c) (hJ : okJ 10 (2 * i : Nat) r') : okR 10 (2 * i : Nat) ⟨23 + t, a, b, c⟩ r' := by
  obtain ⟨h0, h1⟩ := ht
  obtain ⟨h2, h3⟩ := ha
  exact .inr (.inr (.inr (.inl ⟨⟨by dsimp only; omega, by dsimp only; omega⟩, ⟨h2, by dsimp only; omega⟩, hb, hc, by omega, hJ⟩)))
theorem okR_test {i : Nat} {t a b c : Int} {r' : R} (h : i < 4) (ht : t = 26 ∨ t = 27) (ha : 0 ≤ a ∧ a < 5) (hb : 0 ≤ b ∧ b < 5) (hc : 0 ≤ c ∧ c < 2) (hJ : okJ 10 (2 * i : Nat) r') : okR 10 (2 * i : Nat) ⟨t, a, b, c⟩ r' :=
  .inr (.inr (.inr (.inr (.inl ⟨⟨by dsimp only; omega, by dsimp only; omega⟩, ha, hb, ⟨hc.1, by have := hc.2; dsimp only; omega⟩, by omega, hJ⟩))))
theorem mod2_ok (b : Int) : 0 ≤ b % 2 ∧ b % 2 ≤ 1 := ⟨by omega, by omega⟩
end Mine
end
local macro_rules | `(tactic| walk_at "z15") => `(tactic| (k_here; (with_reducible show wpAny _ _ (subscriptTail _ _ (Value.ref 508) (Value.str (nameOf _) _)) _ _ _); k_dflt (refine' num_sub ?t ?F ?X ?hs ?_; (case t => assumption); (case F => k_asm); (case X => k_asm); (case hs => with_unfolding_all rfl); k_whole); intro u))
section
open PySem PySem.W PyProof.Rows
set_option maxHeartbeats 40000000
namespace Mine

local macro_rules | `(tactic| k_ne) => `(tactic| ((try dsimp only); first | assumption | exact Ne.symm (by assumption) | exact Nat.ne_of_gt (by assumption) | exact Nat.ne_of_lt (by assumption)))
local macro_rules | `(tactic| walk_at "execs cons") => `(tactic| (first | ((with_reducible show wpAny _ _ (execs (Stmt.For _ _ _ _ _ :: _) _) _ _ _); refine hold_cons ?_; intro Po tk ho; (try dsimp only)) | refine hold_one ?_ | (refine hold_consE ?_; intro Po tk Eo ho; (try dsimp only))))
local macro_rules | `(tactic| walk_at "Hold") => `(tactic| (refine hold_go (by assumption) ?_; (try dsimp only)))
local macro_rules | `(tactic| walk_at "call ref") => `(tactic| (first | walk_at "zc" | walk_at "z11"))
local macro_rules | `(tactic| walk_at "setItem ref int") => `(tactic| walk_at "z12")
local macro_rules | `(tactic| walk_at "setItem ref") => `(tactic| walk_at "z13")
local macro_rules | `(tactic| walk_at "subscriptTail") => `(tactic| (first | walk_at "z15" | walk_at "z10"))
local macro_rules | `(tactic| walk_at "subscriptTail Name Slice ref ref") => `(tactic| walk_at "z14")
local macro_rules | `(tactic| walk_at "call type:list") => `(tactic| (k_here; (with_reducible show wpAny _ _ (call (Value.type _) [Value.ref _]) _ _ _); k_dflt (refine' kup_listOf ?F ?N ?b ?e ?_ ?z; (case F => k_asm); (case N => k_asm); (case b => k_mem); (case e => exact rfl); (case z => first | exact kv_sizeL (by assumption) (by simp only [sizeLine_eq]; omega))); intro D' c' h' F' N' l1; (try k_lt l1); (try k_sweep)))
local macro_rules | `(tactic| walk_at "subscriptTail Name Name ref int") => `(tactic| (k_here; (with_reducible show wpAny _ _ (subscriptTail _ _ (Value.ref _) (Value.int _ _)) _ _ _); k_dflt (refine' kv_subE ?k1 ?k2 ?k4 ?k5 ?k6 ?k8 ?_ ?k7; (case k1 => k_asm); (case k2 => k_mem); (case k4 => first | omega | l_fact); (case k5 => first | omega | l_fact); (case k6 => first | omega | l_fact); (case k8 => first | assumption | exact rfl); (case k7 => with_unfolding_all rfl); k_whole)))
local macro_rules | `(tactic| walk_at "subscriptTail Name IfExp ref int") => `(tactic| walk_at "subscriptTail Name Name ref int")
local macro_rules | `(tactic| walk_at "subscriptTail Name Constant ref int") => `(tactic| (k_here; (with_reducible show wpAny _ _ (subscriptTail _ _ (Value.ref _) (Value.int _ _)) _ _ _); k_dflt (refine' kv_subL ?k1 ?k2 ?k4 ?k5 ?k6 ?k8 ?_ ?k7; (case k1 => k_asm); (case k2 => k_mem); (case k4 => decide); (case k5 => (simp only [List.length_cons, List.length_nil]; omega)); (case k6 => decide); (case k8 => exact rfl); (case k7 => with_unfolding_all rfl); k_whole)))
local macro_rules | `(tactic| walk_at "eval BoolOp") => `(tactic| ((with_reducible show wpAny _ _ (eval (Expr.BoolOp BoolOp.Or (_ :: _ :: _) _) _) _ _ _); refine Stop.un ?_))
local macro_rules | `(tactic| walk_at "exec Assign cons ListComp") => `(tactic| ((with_reducible show wpAny _ _ (exec (Stmt.Assign _ (Expr.ListComp _ [Comprehension.mk (Expr.Name _ _) (Expr.Tuple _ _ _) [] _] _ _) _) _) _ _ _); k_dflt (refine Assign_ListComp_P (F₀ := by k_asm) (by rfl) (by with_unfolding_all rfl) (by with_unfolding_all rfl) (by decide) (by rfl) (by decide) (by rfl) (by rfl) (by rfl) ?_)))
local macro_rules | `(tactic| walk_at "eval ListComp") => `(tactic| (k_here; (with_reducible show wpAny _ _ (eval (Expr.ListComp _ [Comprehension.mk (Expr.Name _ _) (Expr.Tuple _ _ _) [] _] _ _) _) _ _ _); k_dflt (refine ListComp_P (F₀ := by k_asm) (by with_unfolding_all rfl) (by decide) (by rfl) (by decide) (by rfl) ?_)))
local macro_rules | `(tactic| walk_at "exec If") => `(tactic| ((rename StopAt => hsA); clear hsA; refine Stop.un ?_))
theorem wp_cut {prog : Program} {w : World} {A : Around} {t : Sem Value} {Q E : Value → Shared → Prop} {s : Shared} (V : Value) (h : wpAny (model prog w) A t (fun v s' => v = V ∧ ∃ tk, s' = { s with toks := tk }) E s) (k : ∀ tk, Q V { s with toks := tk }) : wpAny (model prog w) A t Q E s :=
  wpAny_mono h (fun v s' hv => by obtain ⟨rfl, tk, rfl⟩ := hv; exact k tk) fun _ _ e => e
theorem gtz_ne {c : Int} (h : 0 ≤ c) : (c != 0) = decide (0 < c) := by rw [Bool.eq_iff_iff]; simp; omega
theorem opd_reg {xs : List RV} {vs : List Value} (hx : RVs xs vs) {k : Int} (h0 : 0 ≤ k) (h : k < 256) : (opd2 xs k).Is (vs.getD k.toNat .none) := by
  unfold opd2; rw [if_pos h]; exact hx.getD _
theorem step_cmp {rows : List R} {pc rt ra rb rc jt ja jb jc : Int} {xs : List RV} {f g : Bool} (e : rowAt rows pc = ⟨rt, ra, rb, rc⟩) (e' : rowAt rows (pc + 1) = ⟨jt, ja, jb, jc⟩) (ht : 23 ≤ rt ∧ rt ≤ 25) (ha : 0 ≤ ra) (hcv : cmpV rt (opd2 xs rb) (opd2 xs rc) = .bool f) (hg : (f == decide (0 < ra)) = g) : stepR rows pc xs = .inr (goTo g (pc + 1) jb, xs) := by
  unfold stepR
  dsimp only
  rw [e, e']
  dsimp only
  rw [if_neg (by omega), if_neg (by omega), if_neg (by omega), if_neg (by omega), if_pos (by omega), hcv, gtz_ne ha]
  subst hg
  rfl
theorem step_cmpN {rows : List R} {pc rt ra rb rc : Int} {xs : List RV} (e : rowAt rows pc = ⟨rt, ra, rb, rc⟩) (ht : 23 ≤ rt ∧ rt ≤ 25) (hcv : cmpV rt (opd2 xs rb) (opd2 xs rc) = .none) : stepR rows pc xs = .inl (.stopped pc) := by
  unfold stepR
  dsimp only
  rw [e]
  dsimp only
  rw [if_neg (by omega), if_neg (by omega), if_neg (by omega), if_neg (by omega), if_pos (by omega), hcv]
theorem step_test {rows : List R} {pc ra rb rc jt ja jb jc : Int} {xs : List RV} {g : Bool} (e : rowAt rows pc = ⟨26, ra, rb, rc⟩) (e' : rowAt rows (pc + 1) = ⟨jt, ja, jb, jc⟩) (hc : 0 ≤ rc) (hg : (isFalse (xs.getD ra.toNat .none) != decide (0 < rc)) = g) : stepR rows pc xs = .inr (goTo g (pc + 1) jb, xs) := by
  unfold stepR
  dsimp only
  rw [e, e']
  dsimp only
  rw [if_neg (by decide), if_neg (by decide), if_neg (by decide), if_neg (by decide), if_neg (by decide), if_pos rfl, gtz_ne hc, hg, if_neg (by omega)]
theorem step_testset {rows : List R} {pc ra rb rc jt ja jb jc : Int} {xs : List RV} {g : Bool} (e : rowAt rows pc = ⟨27, ra, rb, rc⟩) (e' : rowAt rows (pc + 1) = ⟨jt, ja, jb, jc⟩) (hc : 0 ≤ rc) (hg : (isFalse (xs.getD rb.toNat .none) != decide (0 < rc)) = g) : stepR rows pc xs = .inr (goTo g (pc + 1) jb, if g then xs.set ra.toNat (xs.getD rb.toNat .none) else xs) := by
  unfold stepR
  dsimp only
  rw [e, e']
  dsimp only
  rw [if_neg (by decide), if_neg (by decide), if_neg (by decide), if_neg (by decide), if_neg (by decide), if_neg (by decide), gtz_ne hc, hg]
  cases g <;> simp
theorem lrun_ok : ∀ (w : World) (p : Program) (loose : List Str) (mean : ExcName → Option Value) (mg mb : Str → Option Value) (dp un : Nat) (gd : Option (List Code)) (cn : Str) (cs : Scope) (a : Addr) (ccd : Value) (cl : List (Str × Addr)) (outer : List Env) (A₀ : Around) (base h₀ : Heap) (L : Addr) (m : Str → Option Value) (s : Shared) (Q E : Value → Shared → Prop) (news : List (Addr × Obj)) (rl ro : Addr) (kr kg : Nat) (rvs vs : List Value) (rows : List R) (xs : List RV) (to : Tok), Below A₀ base outer h₀ → Fr h₀ L s.heap m → (Kf w.params).In h₀ → News h₀ L s.heap (news) → Top p loose mean mg mb h₀ → cs.kind = .function → dp + 4 < recursionLimit → un + 32 < cLine → ((rl, listOf rvs.toArray kr) ∈ news) → ((ro, listOf vs.toArray kg) ∈ news) → (RowsIn news rows rvs) → (RVs xs vs) → (xs.length = 5) → (okRows rows) → (∀ (T : Addr) (outL : List (Addr × Obj)) (h' : Heap) (tk' : Nat), (OutL (runR rows 24 0 xs) T outL) → Fr h₀ L h' m → News h₀ L h' (news ++ outL) → Q (.ref T) { s with heap := h', toks := tk' }) → wpAny (model PySem.Challenge.rw_pc0174_02.row.prog w) (ktrTop dp un gd cn cs L a ccd cl outer) (call (.ref 548) [.ref rl, .ref ro, .int 24 to]) Q E s := by
  k_fill
  intro w p loose mean mg mb dp un gd cn cs a ccd cl outer A₀ base h₀ L m s Q E news rl ro kr kg rvs vs rows xs to B F X N T hck hd9 hu9 hm1 hm2 hro hx hxl hrows hret
  have hl := hx.length
  rw [hxl] at hl
  replace N := news_put (news_put N hm2) (.tail _ hm1)
  refine wpAny_call ?_
  k_dflt (refine' code_defC ?k1 ?k2 ?k3 ?k4 ?k5 ?kA ?kF ?kK ?k6 ?k7 ?k8 ?k9 ?kB ?kD ?_ ?c2 ?c3 ?c4; (case kA => exact rfl); (case kF => exact rfl); (case kK => first | exact rfl | assumption); (case k1 => k_asm); (case k2 => k_asm); (case k3 => k_asm); (case k4 => k_asm); (case k5 => k_asm); (case k6 => k_is); (case k7 => k_is); (case k8 => ktr_room); (case k9 => first | exact BindsTo.of_eq rfl | exact binds_K (by k_in) rfl (by k_is) rfl rfl rfl); (case kB => exact rfl); (case kD => decide +kernel); (case c2 => exact rfl); (case c3 => exact rfl); (case c4 => exact rfl); k_whole; intro g' L' h' tk' cells' FG' F' N' Y' B' X' T' l1; have l1r := l1; (try k_lt l1); k_cells Y'; (try simp only [List.cons_append, List.nil_append] at N'); (try dsimp only); (try k_lift B'); (try k_fold))
  have hnc : ∀ p ∈ news, p.1 ≠ L' + 1 := fun p hp => Nat.ne_of_lt (Nat.lt_succ_of_lt (l1r p (.tail _ (.tail _ hp))))
  clear l1r
  k_steps
  refine Stop.mk ?_
  (rename Fr _ _ _ _ => lF'); (rename News _ _ _ _ => lN'); (rename IsRange _ _ _ _ _ _ _ _ => lR')
  have lN2 := news_drop1 lN'
  clear lN'
  with_unfolding_all refine iter_rangeUnr (n := 24) (by rfl) lR' (by decide) (by decide) lF' lN2 ?_
  clear lF' lN2
  intro I hI
  refine rangeRest_ofN [Str.ofString "turn", Str.ofString "name", Str.ofString "a", Str.ofString "b", Str.ofString "c", Str.ofString "at", Str.ofString "goes", Str.ofString "both", Str.ofString "found", Str.ofString "value"]
    (fun i g nw => ∃ (pc : Int) (tp : Tok) (vs' : List Value) (xs' : List RV), nw = (_, listOf vs'.toArray _) :: (L' + 1, _) :: (rl, listOf rvs.toArray kr) :: (ro, listOf vs.toArray kg) :: news ∧ RVs xs' vs' ∧ xs'.length = 5 ∧ 0 ≤ pc ∧ pc < rows.length ∧ runR rows 24 0 xs = runR rows (24 - i) pc xs' ∧ g (Str.ofString "at") = some (.int pc tp) ∧ (@LT.lt Nat _ (L' + 1) _ ∧ @LT.lt Nat _ rl _ ∧ @LT.lt Nat _ ro _ ∧ AllLt _ news)) ?turn ?done ⟨0, _, vs, xs, rfl, hx, hxl, by omega, by have := hrows.1; omega, rfl, rfl, by assumption⟩
  case turn =>
    intro i g nw t h₂ tk₂ hi hj F2 N2
    obtain ⟨pc, tp, vs', xs', rfl, hx', hxl', hp0, hp1, hrun, hat, hrg⟩ := hj
    obtain ⟨mt, F2, -, hgv, hmt⟩ := fr_gen F2 (.head _)
    have eat := (hgv _ (by decide +kernel) (by decide +kernel)).trans hat
    have erw : mt (Str.ofString "rows") = some (.ref rl) := (hmt _ (by decide +kernel)).trans (by rfl)
    replace F2 := fr_as (m' := fun y => if y = Str.ofString "at" then some (.int pc tp) else if y = Str.ofString "rows" then some (.ref rl) else mt y) F2 fun y => put_same eat (put_same erw rfl)
    have hk0 := fun y (hy : y ∉ [Str.ofString "turn", Str.ofString "name", Str.ofString "a", Str.ofString "b", Str.ofString "c", Str.ofString "at", Str.ofString "goes", Str.ofString "both", Str.ofString "found", Str.ofString "value"]) => (put_same (r := mt y) erw rfl).trans (hmt y hy)
    clear hgv hat eat hmt erw
    have hro' := RowsIn.length hro
    have hnr := allLt_ne hrg.2.2.2
    have hrg1 := hrg.1
    have hrg2 := hrg.2.1
    have hrg3 := hrg.2.2.1
    obtain ⟨ta, t0, t1, t2, t3, hta, hmem⟩ := RowsIn.get pc hro hp0 hp1
    have hr0 := hrows.2.2 pc hp0 hp1
    have hlen := hrows.2.1
    have hl' := hx'.length
    rw [hxl'] at hl'
    have hta1 : @Ne Nat ta _ := hnr _ hmem
    have hIg : @LT.lt Nat _ _ I := hI _ (.head _)
    dsimp only at hIg
    replace N2 := news_put N2 (.tail _ (.tail _ (.tail _ (.tail _ (.tail _ hmem)))))
    unfold rowObj at N2
    generalize hrr : rowAt rows pc = r at N2 hr0
    obtain ⟨rt, ra, rb, rc⟩ := r
    dsimp only at N2 hr0
    have hsA : StopAt := trivial
    k_steps
    refine Stop.mk ?_
    clear hx hl hm1 hm2 hxl
    rcases hr0 with ⟨ht, ha, hb, hc, hn⟩ | ⟨ht, ha, hb, hc, hn⟩ | ⟨ht, ha, hb, hc, hn⟩ | ⟨ht, ha, hb, hc, hn, hj⟩ | ⟨ht, ha, hb, hc, hn, hj⟩ | ⟨ht, ha, hb, hc⟩ <;> dsimp only at ht ha hb hc
    · subst ht
      obtain ⟨⟨e1, e2⟩, -⟩ := nm_at
      k_steps
      · (rename News _ _ _ _ => lN); (rename Fr _ _ _ _ => lF)
        have hst : stepR rows pc xs' = .inr (pc + 1, xs'.set ra.toNat (xs'.getD rb.toNat .none)) := by unfold stepR; dsimp only; rw [hrr]; dsimp only; rw [if_neg (by decide), if_pos rfl]
        have hso := step_ok hrows hp0 hp1 hst
        refine unrEnd_of lF lN 3 (.tail _ (.tail _ (.head _))) (lt_same hI) ⟨?keep, pc + 1, _, vs'.set ra.toNat (vs'.getD rb.toNat .none), xs'.set ra.toNat (xs'.getD rb.toNat .none), rfl, hx'.set _ (hx'.getD _), hso.2.2.trans hxl', hso.1, hso.2.1, ?run, (by first | rfl | simp), hrg⟩
        case run => rw [hrun, turn_sub hi]; simp only [runR, hst]
        case keep => repeat (first | exact hk0 | refine keep_if (by decide +kernel) ?_)
    · subst ht
      obtain ⟨-, ⟨e1, e2, e3⟩, -⟩ := nm_at
      k_steps
      · (rename News _ _ _ _ => lN); (rename Fr _ _ _ _ => lF)
        have hst : stepR rows pc xs' = .inr (pc + 1 + 1, xs'.set ra.toNat (.bool (rb != 0))) := by unfold stepR; dsimp only; rw [hrr]; dsimp only; rw [if_neg (by decide), if_neg (by decide), if_pos rfl, if_neg (by omega)]
        have hso := step_ok hrows hp0 hp1 hst
        refine unrEnd_of lF lN 4 (.tail _ (.tail _ (.tail _ (.head _)))) (lt_same hI) ⟨?keep, pc + 1 + 1, _, vs'.set ra.toNat (.bool (decide (0 < rb))), xs'.set ra.toNat (.bool (rb != 0)), rfl, hx'.set _ (is_gtz hb.1), hso.2.2.trans hxl', hso.1, hso.2.1, ?run, (by first | rfl | simp), hrg⟩
        case run => rw [hrun, turn_sub hi]; simp only [runR, hst]
        case keep => repeat (first | exact hk0 | refine keep_if (by decide +kernel) ?_)
      · (rename News _ _ _ _ => lN); (rename Fr _ _ _ _ => lF)
        have hst : stepR rows pc xs' = .inr (pc + 1 + 0, xs'.set ra.toNat (.bool (rb != 0))) := by unfold stepR; dsimp only; rw [hrr]; dsimp only; rw [if_neg (by decide), if_neg (by decide), if_pos rfl, if_pos (by omega)]
        have hso := step_ok hrows hp0 hp1 hst
        refine unrEnd_of lF lN 4 (.tail _ (.tail _ (.tail _ (.head _)))) (lt_same hI) ⟨?keep, pc + 1 + 0, _, vs'.set ra.toNat (.bool (decide (0 < rb))), xs'.set ra.toNat (.bool (rb != 0)), rfl, hx'.set _ (is_gtz hb.1), hso.2.2.trans hxl', hso.1, hso.2.1, ?run, (by first | rfl | simp), hrg⟩
        case run => rw [hrun, turn_sub hi]; simp only [runR, hst]
        case keep => repeat (first | exact hk0 | refine keep_if (by decide +kernel) ?_)
    · subst ht
      obtain ⟨-, -, ⟨e1, e2, e3, e4⟩, -⟩ := nm_at
      k_steps
      · (rename News _ _ _ _ => lN); (rename Fr _ _ _ _ => lF)
        have hst : stepR rows pc xs' = .inr (pc + 1 + rb, xs') := by unfold stepR; dsimp only; rw [hrr]; dsimp only; rw [if_neg (by decide), if_neg (by decide), if_neg (by decide), if_pos rfl]
        have hso := step_ok hrows hp0 hp1 hst
        refine unrEnd_of lF lN 3 (.tail _ (.tail _ (.head _))) (lt_same hI) ⟨?keep, pc + 1 + rb, _, vs', xs', rfl, hx', hso.2.2.trans hxl', hso.1, hso.2.1, ?run, (by first | rfl | simp), hrg⟩
        case run => rw [hrun, turn_sub hi]; simp only [runR, hst]
        case keep => repeat (first | exact hk0 | refine keep_if (by decide +kernel) ?_)
    · obtain ⟨hnum, e1, e2, e3, e4, e5⟩ := nm_cmp ht
      have hj2 := hj
      obtain ⟨tb, u0, u1, u2, u3, htb, hmemb⟩ := RowsIn.get (pc + 1) hro (by omega) (by omega)
      have htb1 : @Ne Nat tb _ := hnr _ hmemb
      (rename News _ _ _ _ => lN0)
      replace lN0 := news_put lN0 (.tail _ (.tail _ (.tail _ (.tail _ (.tail _ (.tail _ (.tail _ hmemb)))))))
      unfold rowObj at lN0
      generalize hrr' : rowAt rows (pc + 1) = r' at lN0 hj2
      obtain ⟨jt, ja, jb, jc⟩ := r'
      unfold okJ at hj2
      dsimp only at lN0 hj2
      generalize nameOf jt = jn at lN0
      have hb0 := hb
      have hc0 := hc
      unfold okOpd at hb hc
      k_steps
      refine CompSrcP.ledger (by rfl) (by k_asm) (by k_asm) (by k_mem) (by exact Nat.le_of_ble_eq_true rfl) ?_
      intro g'
      refine compU_inv (n := 2) (fun i ys nw => nw = _ ∧ RVs (([rb, rc].take i).map (opd2 xs')) ys) ?turn ?fin 2 0 [] _ rfl ⟨rfl, trivial⟩
      case turn =>
        intro i2 ys nw v I2 oI C2 oC D2 m₂ h₃ tk₃ E' hi2 hj3 hv hC hx'' F3 N3 off3 ne3
        obtain ⟨rfl, hys⟩ := hj3
        have hz : ∃ k t, v = .int k t ∧ okOpd k ∧ ([rb, rc].take (i2 + 1)).map (opd2 xs') = ([rb, rc].take i2).map (opd2 xs') ++ [opd2 xs' k] := by
          match i2, hi2, hv with
          | 0, _, hv => exact ⟨rb, _, by cases hv; rfl, hb0, rfl⟩
          | 1, _, hv => exact ⟨rc, _, by cases hv; rfl, hc0, rfl⟩
        obtain ⟨k, tkk, rfl, hk, hmap⟩ := hz
        rw [hmap]
        unfold okOpd at hk
        clear hret hrun hb hc hb0 hc0
        rcases hk with hk | rfl | rfl | rfl
        all_goals
          k_steps
        all_goals first
          | (refine LCg.CompEnd.intro (by k_asm) (by assumption) _ (fun _ hp => hp) (by assumption) (by exact ⟨_, by k_mem, rfl, _, rfl⟩) ⟨rfl, RVs.append hys ⟨?_, trivial⟩⟩
             first | exact ⟨_, rfl⟩ | exact opd_reg hx' (by omega) (by omega))
          | (exfalso; omega)
      case fin =>
        intro ys nw hj3
        obtain ⟨rfl, hys⟩ := hj3
        rcases ys with _ | ⟨y0, _ | ⟨y1, _ | ⟨y2, yr⟩⟩⟩
        · exact hys.elim
        · exact hys.2.elim
        · obtain ⟨hy0, hy1, _⟩ := hys
          k_steps
          · (rename News h₀ L _ _ => lN)
            simp only [Int.add_sub_cancel] at lN
            refine hret _ _ _ _ ?_ (by k_asm) (nw_cut 1 12 lN rfl)
            rw [hrun, turn_sub hi]
            simp only [runR, step_cmpN hrr (by omega) (by assumption)]
            exact ⟨_, _, rfl⟩
          · (rename News _ _ _ _ => lN); (rename Fr _ _ _ _ => lF)
            have hst : stepR rows pc xs' = .inr (pc + 1 + 1 + jb, xs') := step_cmp hrr hrr' (by omega) ha.1 (by assumption) (by assumption)
            have hso := step_ok hrows hp0 hp1 hst
            refine unrEnd_of lF lN 7 (.tail _ (.tail _ (.tail _ (.tail _ (.tail _ (.tail _ (.head _))))))) (lt_same hI) ⟨?keep, pc + 1 + 1 + jb, _, vs', xs', rfl, hx', hso.2.2.trans hxl', hso.1, hso.2.1, ?run, (by first | rfl | simp), hrg⟩
            case run => rw [hrun, turn_sub hi]; simp only [runR, hst]
            case keep => repeat (first | exact hk0 | refine keep_if (by decide +kernel) ?_)
          · (rename News _ _ _ _ => lN); (rename Fr _ _ _ _ => lF)
            have hst : stepR rows pc xs' = .inr (pc + 1 + 1, xs') := step_cmp hrr hrr' (by omega) ha.1 (by assumption) (by assumption)
            have hso := step_ok hrows hp0 hp1 hst
            refine unrEnd_of lF lN 7 (.tail _ (.tail _ (.tail _ (.tail _ (.tail _ (.tail _ (.head _))))))) (lt_same hI) ⟨?keep, pc + 1 + 1, _, vs', xs', rfl, hx', hso.2.2.trans hxl', hso.1, hso.2.1, ?run, (by first | rfl | simp), hrg⟩
            case run => rw [hrun, turn_sub hi]; simp only [runR, hst]
            case keep => repeat (first | exact hk0 | refine keep_if (by decide +kernel) ?_)
        · exact hys.2.2.elim
    · have ht2 : rt = 26 ∨ rt = 27 := by omega
      have hj2 := hj
      obtain ⟨tb, u0, u1, u2, u3, htb, hmemb⟩ := RowsIn.get (pc + 1) hro (by omega) (by omega)
      have htb1 : @Ne Nat tb _ := hnr _ hmemb
      (rename News _ _ _ _ => lN0)
      replace lN0 := news_put lN0 (.tail _ (.tail _ (.tail _ (.tail _ (.tail _ (.tail _ (.tail _ hmemb)))))))
      unfold rowObj at lN0
      generalize hrr' : rowAt rows (pc + 1) = r' at lN0 hj2
      obtain ⟨jt, ja, jb, jc⟩ := r'
      unfold okJ at hj2
      dsimp only at lN0 hj2
      generalize nameOf jt = jn at lN0
      rcases ht2 with ht' | ht'
      · subst ht'
        obtain ⟨e1, e2, e3, e4, e5, e6, e7⟩ := nm_test
        k_steps
        have hv := hx'.getD ra.toNat
        refine wp_cut (V := .bool (isFalse (xs'.getD ra.toNat .none))) ?_ ?_
        · (rename Fr _ _ _ _ => lF)
          generalize xs'.getD ra.toNat .none = x at hv ⊢
          generalize vs'.getD ra.toNat .none = v at hv lF ⊢
          cases x <;> simp only [RV.Is] at hv <;> (try obtain ⟨t1, rfl⟩ := hv) <;> (try subst hv) <;> (with_reducible refine BoolOp_or ?_) <;> k_steps
          all_goals exact ⟨rfl, _, rfl⟩
        · intro tk'
          dsimp only
          k_steps
          · (rename News _ _ _ _ => lN); (rename Fr _ _ _ _ => lF)
            have hst : stepR rows pc xs' = .inr (pc + 1 + 1 + jb, xs') := step_test hrr hrr' hc.1 (by assumption)
            have hso := step_ok hrows hp0 hp1 hst
            refine unrEnd_of lF lN 5 (.tail _ (.tail _ (.tail _ (.tail _ (.head _))))) (lt_same hI) ⟨?keep, pc + 1 + 1 + jb, _, vs', xs', rfl, hx', hso.2.2.trans hxl', hso.1, hso.2.1, ?run, (by first | rfl | simp), hrg⟩
            case run => rw [hrun, turn_sub hi]; simp only [runR, hst]
            case keep => repeat (first | exact hk0 | refine keep_if (by decide +kernel) ?_)
          · (rename News _ _ _ _ => lN); (rename Fr _ _ _ _ => lF)
            have hst : stepR rows pc xs' = .inr (pc + 1 + 1, xs') := step_test hrr hrr' hc.1 (by assumption)
            have hso := step_ok hrows hp0 hp1 hst
            refine unrEnd_of lF lN 5 (.tail _ (.tail _ (.tail _ (.tail _ (.head _))))) (lt_same hI) ⟨?keep, pc + 1 + 1, _, vs', xs', rfl, hx', hso.2.2.trans hxl', hso.1, hso.2.1, ?run, (by first | rfl | simp), hrg⟩
            case run => rw [hrun, turn_sub hi]; simp only [runR, hst]
            case keep => repeat (first | exact hk0 | refine keep_if (by decide +kernel) ?_)
      · subst ht'
        obtain ⟨e1, e2, e3, e4, e5, e6, e7⟩ := nm_testset
        k_steps
        have hv := hx'.getD rb.toNat
        refine wp_cut (V := .bool (isFalse (xs'.getD rb.toNat .none))) ?_ ?_
        · (rename Fr _ _ _ _ => lF)
          generalize xs'.getD rb.toNat .none = x at hv ⊢
          generalize vs'.getD rb.toNat .none = v at hv lF ⊢
          cases x <;> simp only [RV.Is] at hv <;> (try obtain ⟨t1, rfl⟩ := hv) <;> (try subst hv) <;> (with_reducible refine BoolOp_or ?_) <;> k_steps
          all_goals exact ⟨rfl, _, rfl⟩
        · intro tk'
          dsimp only
          k_steps
          · (rename News _ _ _ _ => lN); (rename Fr _ _ _ _ => lF)
            have hst : stepR rows pc xs' = .inr (pc + 1 + 1 + jb, xs'.set ra.toNat (xs'.getD rb.toNat .none)) := step_testset hrr hrr' hc.1 (by assumption)
            have hso := step_ok hrows hp0 hp1 hst
            refine unrEnd_of lF lN 5 (.tail _ (.tail _ (.tail _ (.tail _ (.head _))))) (lt_same hI) ⟨?keep, pc + 1 + 1 + jb, _, vs'.set ra.toNat (vs'.getD rb.toNat .none), xs'.set ra.toNat (xs'.getD rb.toNat .none), rfl, hx'.set _ hv, hso.2.2.trans hxl', hso.1, hso.2.1, ?run, (by first | rfl | simp), hrg⟩
            case run => rw [hrun, turn_sub hi]; simp only [runR, hst]
            case keep => repeat (first | exact hk0 | refine keep_if (by decide +kernel) ?_)
          · (rename News _ _ _ _ => lN); (rename Fr _ _ _ _ => lF)
            have hst : stepR rows pc xs' = .inr (pc + 1 + 1, xs') := step_testset hrr hrr' hc.1 (by assumption)
            have hso := step_ok hrows hp0 hp1 hst
            refine unrEnd_of lF lN 5 (.tail _ (.tail _ (.tail _ (.tail _ (.head _))))) (lt_same hI) ⟨?keep, pc + 1 + 1, _, vs', xs', rfl, hx', hso.2.2.trans hxl', hso.1, hso.2.1, ?run, (by first | rfl | simp), hrg⟩
            case run => rw [hrun, turn_sub hi]; simp only [runR, hst]
            case keep => repeat (first | exact hk0 | refine keep_if (by decide +kernel) ?_)
    · subst ht
      obtain ⟨-, -, -, e1⟩ := nm_at
      k_steps
      (rename News h₀ L _ _ => lN)
      have hst : stepR rows pc xs' = .inl (.back (xs'.take 5)) := by unfold stepR; dsimp only; rw [hrr]; dsimp only; rw [if_pos rfl]
      refine hret _ _ _ _ ?_ (by k_asm) (nw_cut 2 9 lN rfl)
      rw [hrun, turn_sub hi]
      simp only [runR, hst]
      exact ⟨_, _, _, _, rfl, hx'.take 5⟩
  case done =>
    intro g nw h₂ tk₂ hj F2 N2
    obtain ⟨pc, tp, vs', xs', rfl, hx', hxl', hp0, hp1, hrun, hat, hrg⟩ := hj
    dsimp only [over] at F2
    rw [hat] at F2
    k_steps
    (rename News h₀ L _ _ => lN)
    refine hret _ _ _ _ ?_ (by k_asm) (nw_cut 1 5 lN rfl)
    rw [hrun]
    exact ⟨_, _, rfl⟩
end Mine
end
theorem Mine.reset36 : (1 : Nat) < 2 := by first | (walk1; done) | decide
section
open PySem PySem.W PyProof.Rows
set_option maxHeartbeats 40000000
namespace Mine

local macro_rules | `(tactic| walk_at "subscriptTail") => `(tactic| walk_at "z15")
local macro_rules | `(tactic| walk_at "exec For Tuple Name cons nil") => `(tactic| (k_here; (rename Fr _ _ _ _ => lF'); (with_unfolding_all refine' For_turns lF' ?_; k_whole)))
local macro_rules | `(tactic| walk_at "pyIter ref") => `(tactic| ((with_reducible show wpAny _ _ (pyIter (Value.ref _)) (fun it s₂ => TurnsAt _ _ _ _ _ _ _ _ _ it s₂) _ _); refine Stop.un ?_))
local macro_rules | `(tactic| walk_at "call builtin:list.append") => `(tactic| (k_here; (with_reducible show wpAny _ _ (call (Value.builtin _) [Value.ref _, _]) _ _ _); k_dflt (refine' kv_append ?k1 ?k2 ?k3 ?z ?_; (case k1 => k_asm); (case k2 => k_asm); (case k3 => k_upd); (case z => first | assumption | omega); k_whole); intro h' F' N'; (try k_sweep)))
theorem coded_ok : ∀ (w : World) (p : Program) (loose : List Str) (mean : ExcName → Option Value) (mg mb : Str → Option Value) (dp un : Nat) (gd : Option (List Code)) (cn : Str) (cs : Scope) (a : Addr) (ccd : Value) (cl : List (Str × Addr)) (outer : List Env) (A₀ : Around) (base h₀ : Heap) (L : Addr) (m : Str → Option Value) (s : Shared) (Q E : Value → Shared → Prop) (news : List (Addr × Obj)) (rl : Addr) (kr : Nat) (rvs : List Value) (rows : List R), Below A₀ base outer h₀ → Fr h₀ L s.heap m → (Kf w.params).In h₀ → News h₀ L s.heap (news) → Top p loose mean mg mb h₀ → cs.kind = .function → dp + 3 < recursionLimit → un + 24 < cLine → ((rl, listOf rvs.toArray kr) ∈ news) → (RowsIn news rows rvs) → (okRows rows) → (∀ (D : Addr) (kc : Nat) (cvs : List Value) (h' : Heap) (tk' : Nat), (IntsAre cvs (rows.map R.code)) → (∀ p ∈ news, p.1 < D) → Fr h₀ L h' m → News h₀ L h' ((D, listOf cvs.toArray kc) :: news) → Q (.ref D) { s with heap := h', toks := tk' }) → wpAny (model PySem.Challenge.rw_pc0174_02.row.prog w) (ktrTop dp un gd cn cs L a ccd cl outer) (call (.ref 531) [.ref rl, .ref 508]) Q E s := by
  k_fill
  intro w p loose mean mg mb dp un gd cn cs a ccd cl outer A₀ base h₀ L m s Q E news rl kr rvs rows B F X N T hck hd9 hu9 hm hro hrows hret
  replace N := news_put N hm
  refine wpAny_call ?_
  k_dflt cell_enter
  k_steps
  refine Stop.mk ?_
  (rename _ ∧ AllLt _ _ => hl1)
  (rename Fr _ _ _ _ => lF'); (rename News _ _ _ _ => lN')
  with_unfolding_all refine iter_listTurnsS (by rfl) lF' lN' (by k_mem) rfl rfl ?_
  clear lF' lN'
  intro I hI
  have hIl := ltN (hI _ (.head _))
  have hIr := ltN (hI _ (.tail _ (.head _)))
  dsimp only at hIl hIr
  refine itemsRest_of [Str.ofString "name", Str.ofString "a", Str.ofString "b", Str.ofString "c"]
    (fun r g nw => ∃ (pre post : List R) (cvs : List Value) (kc : Nat), rows = pre ++ post ∧ RowsIn news post r ∧ IntsAre cvs (pre.map R.code) ∧ nw = (_, listOf cvs.toArray kc) :: (rl, listOf rvs.toArray kr) :: news) ?turn ?done ⟨[], rows, [], _, rfl, hro, .nil, rfl⟩
  case turn =>
    intro v r g nw it h₂ tk₂ hit hj F2 N2
    obtain ⟨pre, post, cvs, kc, hrw, hrest, hcv, rfl⟩ := hj
    dsimp only [over] at F2
    rcases post with _ | ⟨row, post⟩
    · exact hrest.elim
    obtain ⟨⟨ta, t0, t1, t2, t3, rfl, hmem⟩, hrest⟩ := hrest
    obtain ⟨n0, i0, r0, hok⟩ := okR_at hrows hrw
    have hta := neN (allLt_ne hl1.2 _ hmem)
    have hnl := allLt_ne hl1.2
    have hl0 := hl1.1
    replace N2 := news_put N2 (.tail _ (.tail _ (.tail _ hmem)))
    have hnum := isNum_of hok
    obtain ⟨hba, hbb, hbc⟩ := okR_bd hok
    obtain ⟨rt, ra, rb, rc⟩ := row
    unfold rowObj at N2
    dsimp only at N2 hba hbb hbc hnum hta
    have e1 := nm_word hnum
    have hlr := hrows.2.1
    have hz0 : cvs.length < 1000 := by rw [IntsAre.length hcv, List.length_map]; rw [hrw, List.length_append] at hlr; omega
    have e2 := nm_loadk hnum
    by_cases h22 : rt = 22
    · subst h22
      have e3 := nm_jmp
      k_steps
      (rename News _ _ _ _ => lN); (rename Fr _ _ _ _ => lF)
      refine unrEndW_of lF lN 3 (.tail _ (.tail _ (.head _))) (lt_same hI) ⟨subL_one (.tail _ (.head _)), ?_, pre ++ [⟨22, ra, rb, rc⟩], post, _, _, by rw [hrw]; simp, hrest, ?_, rfl⟩
      · intro y hy
        simp only [List.mem_cons, List.not_mem_nil, or_false, not_or] at hy
        simp only [hy, if_false]
      · rw [List.map_append]
        exact hcv.append (.cons _ _ .nil)
    · have e3 := nm_jmps hnum h22
      k_steps
      (rename News _ _ _ _ => lN); (rename Fr _ _ _ _ => lF)
      refine unrEndW_of lF lN 3 (.tail _ (.tail _ (.head _))) (lt_same hI) ⟨subL_one (.tail _ (.head _)), ?_, pre ++ [⟨rt, ra, rb, rc⟩], post, _, _, by rw [hrw]; simp, hrest, ?_, rfl⟩
      · intro y hy
        simp only [List.mem_cons, List.not_mem_nil, or_false, not_or] at hy
        simp only [hy, if_false]
      · rw [List.map_append]
        have ec : R.code ⟨rt, ra, rb, rc⟩ = rt + 64 * ra + 16384 * rc + 8388608 * rb := if_neg h22
        rw [List.map_cons, ec]
        exact hcv.append (.cons _ _ .nil)
  case done =>
    intro g nw h₂ tk₂ hj F2 N2
    obtain ⟨pre, post, cvs, kc, hrw, hrest, hcv, rfl⟩ := hj
    dsimp only [over] at F2
    rcases post with _ | ⟨row, post⟩
    · rw [List.append_nil] at hrw
      subst hrw
      k_steps
      (rename News h₀ L _ _ => lN)
      exact hret _ _ _ _ _ hcv (allLt_all hl1.2) (by k_asm) (news_skip2 lN)
    · exact hrest.elim
end Mine
end
local macro_rules | `(tactic| walk_at "zc") => `(tactic| (k_here; k_dflt (apply Mine.coded_ok; walk_at "z8"; (iterate 3 walk_at "zq"); k_whole); intro D kc cvs h' tk' hcv hlt F' N'; (try k_sweep); (try k_lt hlt)))
theorem Mine.reset39 : (1 : Nat) < 2 := by first | (walk1; done) | decide
section
open PySem PySem.W PyProof.Rows
set_option maxHeartbeats 40000000
namespace Mine

local macro_rules | `(tactic| k_ne) => `(tactic| first | (dsimp only; assumption) | assumption | exact Nat.ne_of_gt (by assumption) | exact Nat.ne_of_lt (by assumption))
local macro_rules | `(tactic| walk_at "call builtin:list.append") => `(tactic| (k_here; (with_reducible show wpAny _ _ (call (Value.builtin _) [Value.ref _, _]) _ _ _); k_dflt (refine' kv_append ?k1 ?k2 ?k3 ?z ?_; (case k1 => k_asm); (case k2 => k_asm); (case k3 => k_upd); (case z => first | assumption | omega | (simp only [List.length_append, List.length_cons, List.length_nil]; omega)); k_whole); intro h' F' N'; (try k_sweep)))
local macro_rules | `(tactic| walk_at "subscriptTail List cons Call ref int") => `(tactic| (k_here; (with_reducible show wpAny _ _ (subscriptTail _ _ (Value.ref _) (Value.int _ _)) _ _ _); k_dflt (refine' kv_subI ?k1 ?k2 ?k3 ?k4 ?k5 ?k6 ?_ ?k7; (case k1 => k_asm); (case k2 => k_mem); (case k3 => repeat constructor); (case k4 => omega); (case k5 => (simp only [List.length_cons, List.length_nil]; omega)); (case k6 => omega); (case k7 => with_unfolding_all rfl); k_whole); intro u))
local macro_rules | `(tactic| walk_at "subscriptTail List cons Name ref int") => `(tactic| (k_here; (with_reducible show wpAny _ _ (subscriptTail _ _ (Value.ref _) (Value.int _ _)) _ _ _); k_dflt (refine' kv_subS ?k1 ?k2 ?k3 ?k4 ?k5 ?k6 ?_ ?k7; (case k1 => k_asm); (case k2 => k_mem); (case k3 => repeat constructor); (case k4 => omega); (case k5 => (simp only [List.length_cons, List.length_nil]; omega)); (case k6 => omega); (case k7 => with_unfolding_all rfl); k_whole); intro u))
local macro_rules | `(tactic| walk_at "subscriptTail List cons BinOp ref int") => `(tactic| (first | (k_here; (with_reducible show wpAny _ _ (subscriptTail _ _ (Value.ref _) (Value.int _ _)) _ _ _); k_dflt (refine' kv_two ?k1 ?k2 ?k3 ?k7 ?_ ?_; (case k1 => k_asm); (case k2 => (first | exact List.Mem.head _ | exact List.Mem.tail _ (List.Mem.head _) | k_mem)); (case k3 => (constructor <;> omega)); (case k7 => with_unfolding_all rfl); k_whole) <;> intro hk) | walk_at "subscriptTail List cons Name ref int"))
local macro_rules | `(tactic| walk_at "callWith") => `(tactic| (k_here; (show wpAny _ _ (callWith _ (Prod.fst _) _ _ _) _ _ _); dsimp only; k_dflt (refine callWith_method1 ?_)))
local macro_rules | `(tactic| walk_at "call builtin:len") => `(tactic| (k_here; (with_reducible show wpAny _ _ (call (Value.builtin _) [Value.ref _]) _ _ _); k_dflt (refine' kv_len ?k1 ?k2 ?k3 ?k4 ?_; (case k1 => k_asm); (case k2 => k_mem); (case k3 => (try simp only [List.length_append, List.length_cons, List.length_nil]); exact rfl); (case k4 => omega); k_whole); intro t' tk'))
local macro_rules | `(tactic| walk_at "binaryOp Add ref ref") => `(tactic| (k_here; (with_reducible show wpAny _ _ (binaryOp _ (Value.ref _) (Value.ref _)) _ _ _); k_dflt (refine' kv_add ?F ?N ?a ?b ?z ?_; (case F => k_asm); (case N => k_asm); (case a => k_mem); (case b => k_mem); (case z => (simp only [List.length_append, List.length_cons, List.length_nil]; omega)); k_whole); intro D' h' F' N' l1; (try k_lt l1); (try k_sweep)))
local macro_rules | `(tactic| walk_at "execs cons") => `(tactic| ((with_reducible show wpAny _ _ (execs (Stmt.Expr (PySem.Expr.Call _ [PySem.Expr.Tuple [PySem.Expr.Constant (Const.str (Str.ofString "JMP")) _ _, _, _, _] _ _] _ _) _ :: _) _) _ _ _); (have hz9 : StopAt := by assumption); clear hz9; refine Stop.un ?_))
theorem program_ok : ∀ (w : World) (p : Program) (loose : List Str) (mean : ExcName → Option Value) (mg mb : Str → Option Value) (dp un : Nat) (gd : Option (List Code)) (cn : Str) (cs : Scope) (a : Addr) (ccd : Value) (cl : List (Str × Addr)) (outer : List Env) (A₀ : Around) (base h₀ : Heap) (L : Addr) (m : Str → Option Value) (s : Shared) (Q E : Value → Shared → Prop) (b : Addr) (g c : Int) (t0 t1 : Tok) (n : Nat) (rest : List (Addr × Obj)), Below A₀ base outer h₀ → Fr h₀ L s.heap m → (Kf w.params).In h₀ → News h₀ L s.heap ((b, listOf [.int g t0, .int c t1].toArray n) :: rest) → Top p loose mean mg mb h₀ → cs.kind = .function → dp + 3 < recursionLimit → un + 24 < cLine → (∀ p ∈ rest, p.1 ≠ b) → (0 ≤ g ∧ g < 2 ^ 400) → (0 ≤ c ∧ c < 2 ^ 19) → (∀ (D : Addr) (kr : Nat) (rvs : List Value) (rows : List R) (g' c' : Int) (t0' t1' : Tok) (out : List (Addr × Obj)) (h' : Heap) (tk' : Nat), (okRows rows) → (RowsIn out rows rvs) → (0 ≤ g' ∧ g' < 2 ^ 400) → (0 ≤ c' ∧ c' ≤ c + 60) → (∀ p ∈ rest, p ∈ out) → (∀ p ∈ out, p.1 ≠ b) → (∀ p ∈ (b, listOf [.int g' t0', .int c' t1'].toArray n) :: out, p.1 < D) → Fr h₀ L h' m → News h₀ L h' ((D, listOf rvs.toArray kr) :: (b, listOf [.int g' t0', .int c' t1'].toArray n) :: out) → Q (.ref D) { s with heap := h', toks := tk' }) → wpAny (model PySem.Challenge.rw_pc0174_02.row.prog w) (ktrTop dp un gd cn cs L a ccd cl outer) (call (.ref 555) [.ref b]) Q E s := by
  k_fill
  intro w p loose mean mg mb dp un gd cn cs a ccd cl outer A₀ base h₀ L m s Q E b g c t0 t1 n rest B F X N T hck hd9 hu9 hne hg hc hret
  refine wpAny_call ?_
  k_dflt cell_enter
  k_steps
  refine Stop.mk ?_
  (rename _ ∧ AllLt _ _ => hl1)
  (rename Fr _ _ _ _ => lF'); (rename News _ _ _ _ => lN'); (rename IsRange _ _ _ _ _ _ _ _ => lR')
  have hbR := ltN hl1.1
  have hrR := allLt_all hl1.2
  with_unfolding_all refine iter_rangeUnr (n := 4) (by rfl) lR' (by decide) (by decide) lF' lN' ?_
  clear lF' lN'
  intro I hI
  have hRI := ltN (hI _ (.head _))
  have hbI := ltN (hI _ (.tail _ (.head _)))
  have hrI : ∀ p ∈ rest, p.1 < I := fun p hp => hI p (.tail _ (.tail _ hp))
  refine rangeRest_ofN [Str.ofString "turn", Str.ofString "form", Str.ofString "a", Str.ofString "one", Str.ofString "other", Str.ofString "b", Str.ofString "c"]
    (fun i g nw => ∃ (kr : Nat) (rvs : List Value) (rows : List R) (gb cb : Int) (t0 t1 : Tok) (out : List (Addr × Obj)), nw = (_, listOf rvs.toArray kr) :: (b, listOf [.int gb t0, .int cb t1].toArray n) :: out ∧ RowsIn out rows rvs ∧ okPairs rows i ∧ (0 ≤ gb ∧ gb < 2 ^ 400) ∧ (0 ≤ cb ∧ cb ≤ c + 12 * i) ∧ (∀ p ∈ rest, p ∈ out) ∧ (∀ p ∈ out, p.1 ≠ b) ∧ (∀ p ∈ out, p.1 ≠ _) ∧ (∀ p ∈ out, p.1 ≠ I)) ?turn ?done
    ⟨_, [], [], g, c, t0, t1, rest, rfl, trivial, ⟨rfl, fun j h0 => absurd h0 (Nat.not_lt_zero _)⟩, hg, ⟨hc.1, by omega⟩, fun _ h => h, hne, fun p hp => Nat.ne_of_lt (hrR p hp), fun p hp => Nat.ne_of_lt (hrI p hp)⟩
  case turn =>
    intro i gm nw t h₂ tk₂ hi hj F2 N2
    obtain ⟨kr, rvs, rows, gb, cb, t0, t1, out, rfl, hro, hok, hgb, hcb, hsub, hob, hoR, hoI⟩ := hj
    have hrl := RowsIn.length hro
    rw [hok.1] at hrl
    clear hret
    have hIb : @Ne Nat I b := Nat.ne_of_gt hbI
    have hRb := Nat.ne_of_gt hbR
    have hru : dp + 1 + 1 < recursionLimit := Nat.lt_of_succ_lt hd9
    have huu : un + 3 + 8 < cLine := by omega
    obtain ⟨mt, F2, -, -, hmt⟩ := fr_gen F2 (.head _)
    obtain ⟨F2, hput⟩ := fr_rows F2 N2 ((hmt _ (by decide +kernel)).trans (by rfl)) ((hmt _ (by decide +kernel)).trans (by rfl))
    refine qe_op ?_
    intro Qo Eo hQo
    refine cut_pg s n cb mt rvs i F2 N2 ?last ?main
    case last =>
      rintro so ⟨h, tk, m1, g2, c2, u0, u1, k1, ta, r, T0, T1, T2, T3, rfl, hm1, F3, N3, hg2, hc2, hta, hR⟩
      clear F2 N2
      obtain ⟨hta1, hta2, hta3⟩ := hta
      obtain ⟨F3, hput3⟩ := fr_rows F3 N3 ((hm1 _ (by decide +kernel)).trans (if_pos rfl)) ((hm1 _ (by decide +kernel)).trans (by rfl))
      obtain ⟨hc20, hc21⟩ := hc2
      k_steps
      all_goals
        refine hold_go hQo ?_
        (rename News _ _ _ _ => lN); (rename Fr _ _ _ _ => lF); (rename _ ∧ _ ∧ _ ∧ _ ∧ AllLt _ _ => hT)
        simp only [nm_ml.2.1] at lN
        refine unrEnd_of lF (fun q hq => lN q (sub_cons (by k_mem) (sub_cons (by k_mem) (sub_cons (by k_mem) (sub_cons (by k_mem) (sub_cons (by k_mem) (fun q hq => by repeat (first | exact hq | refine List.Mem.tail _ ?_)))))) q hq)) 1 (.head _) (off_cons (Nat.ne_of_lt hRI) (off_cons (Nat.ne_of_lt hbI) (off_cons (Nat.ne_of_gt hT.1) (off_cons (Nat.ne_of_gt hta3) hoI)))) ⟨fun y hy => (hput3 y).trans ((hm1 y hy).trans ((hput y).trans (hmt y hy))), _, rvs ++ [_] ++ [_], rows ++ [r] ++ [⟨22, 0, _, 0⟩], _, _, _, _, _ :: _ :: out, rfl, RowsIn.append (RowsIn.append (hro.more fun p hp => .tail _ (.tail _ hp)) ⟨⟨_, _, _, _, _, rfl, .tail _ (.head _)⟩, trivial⟩) ⟨⟨_, _, _, _, _, rfl, .head _⟩, trivial⟩, okPairs_snoc hok ?hJ (hR _), ?g3, ⟨?c30, ?c31⟩, fun p hp => .tail _ (.tail _ (hsub p hp)), off_cons (Nat.ne_of_gt hT.2.2.1) (off_cons (Nat.ne_of_gt hta1) hob), off_cons (Nat.ne_of_gt hT.2.1) (off_cons (Nat.ne_of_gt hta2) hoR), off_cons (Nat.ne_of_gt hT.1) (off_cons (Nat.ne_of_gt hta3) hoI)⟩
        case hJ => first | exact okJ_two hi | (refine okJ_far hi ?hk (by assumption); (try simp only [List.length_append, List.length_cons, List.length_nil, hrl]); (try omega))
        case g3 => assumption
        case c30 => omega
        case c31 => omega
    case main =>
      intro hlast
      have hsA : StopAt := trivial
      k_steps
      all_goals
        refine Stop.mk ?_
        (rename News _ _ _ _ => lN); (rename Fr _ _ _ _ => lF)
        simp (disch := omega) only [nm3, nmT, nmS, fmod2, nm_ml.1.1, nm_ml.1.2, nm_ml.2.1] at lN
        refine hlast _ ⟨_, _, _, _, _, _, _, _, _, ⟨_, _, _, _⟩, _, _, _, _, rfl, ?keep, lF, fun q hq => lN q (sub_cons (by k_mem) (sub_cons (by k_mem) (sub_cons (by k_mem) (sub_cons (by k_mem) (fun q hq => by repeat (first | exact hq | refine List.Mem.tail _ ?_))))) q hq), by assumption, ⟨by omega, by omega⟩, ⟨by omega, by omega, by omega⟩, fun r2 hJ => ?ok⟩
        case keep => repeat (first | exact fun _ _ => rfl | refine keep_if (by decide +kernel) ?_)
        case ok =>
          first
            | exact okR_cmp hi ⟨by omega, by omega⟩ (by assumption) (opd7 (by assumption)) (opd8 (by assumption)) hJ
            | exact okR_move hi (by assumption) (by assumption)
            | exact okR_load hi (by assumption) (mod2_ok _) (by assumption)
            | exact okR_test hi (.inl rfl) (by assumption) ⟨by decide, by decide⟩ (by assumption) hJ
            | exact okR_test hi (.inr rfl) (by assumption) (by assumption) (by assumption) hJ
  case done =>
    intro gm nw h₂ tk₂ hj F2 N2
    obtain ⟨kr, rvs, rows, gb, cb, t0, t1, out, rfl, hro, hok, hgb, hcb, hsub, hob, hoR, hoI⟩ := hj
    dsimp only [over] at F2
    have hrl := RowsIn.length hro
    rw [hok.1] at hrl
    k_steps
    (rename News h₀ L _ _ => lN)
    (rename _ ∧ _ ∧ _ ∧ _ ∧ _ ∧ AllLt _ _ => l1x)
    simp only [nm_ml.2.2] at lN
    refine' hret _ _ (rvs ++ [_, _]) (rows ++ [⟨30, 0, 6, 0⟩, ⟨30, 0, 6, 0⟩]) gb cb t0 t1 (_ :: _ :: out) _ _ (okRows_of hok) (RowsIn.append (hro.more fun p hp => .tail _ (.tail _ hp)) ⟨⟨_, _, _, _, _, rfl, ?m1⟩, ⟨_, _, _, _, _, rfl, ?m2⟩, trivial⟩) hgb ⟨hcb.1, by omega⟩ (fun p hp => .tail _ (.tail _ (hsub p hp))) (off_cons ?o1 (off_cons ?o2 hob)) (allLt_all ⟨l1x.2.2.2.2.1, l1x.2.1, l1x.2.2.1, l1x.2.2.2.2.2⟩) (by k_asm)
      (fun q hq => lN q (sub_cons (.head _) (sub_cons (.tail _ (.tail _ (.tail _ (.tail _ (.tail _ (.head _)))))) (sub_cons (.tail _ (.tail _ (.head _))) (sub_cons (.tail _ (.tail _ (.tail _ (.head _)))) fun q hq => .tail _ (.tail _ (.tail _ (.tail _ (.tail _ (.tail _ hq)))))))) q hq))
    case m1 => k_mem
    case m2 => k_mem
    case o1 => omega
    case o2 => omega
end Mine
end
theorem Mine.reset41 : (1 : Nat) < 2 := by first | (walk1; done) | decide
section
open PySem PySem.W PyProof.Rows
set_option maxHeartbeats 40000000
namespace Mine

local macro_rules | `(tactic| walk_at "exec For Name Subscript cons nil") => `(tactic| (k_here; (rename Fr _ _ _ _ => lF'); (with_unfolding_all refine' For_invVF lF' ?k1 ?k2 ?_; (case k1 => exact rfl); (case k2 => exact rfl); k_whole)))
theorem sz_ints {vs : List Value} {ns : List Int} (h : IntsAre vs ns) (hn : ns.length ≤ 63) : vs.toArray.size ≤ sizeLine := by
  rw [List.size_toArray, IntsAre.length h, sizeLine_eq]; omega
theorem grand_step {g x : Int} {k : Nat} (h : 0 ≤ g ∧ g < 65536 ^ k) : 0 ≤ g * 65536 + Int.fmod x 65536 ∧ g * 65536 + Int.fmod x 65536 < 65536 ^ (k + 1) := by
  have e : Int.fmod x 65536 = x % 65536 := fmodK x 65536 (by decide)
  rw [e, Int.pow_succ]
  generalize (65536 : Int) ^ k = P at h
  omega
theorem grand_end {g : Int} {k : Nat} (hk : k ≤ 24) (h : 0 ≤ g ∧ g < 65536 ^ k) : 0 ≤ g ∧ g < 2 ^ 400 := by
  refine ⟨h.1, Int.lt_of_lt_of_le h.2 ?_⟩
  have h1 : (65536 : Int) ^ k ≤ 65536 ^ 24 := by
    have e : ∀ j : Nat, (65536 : Int) ^ j = ((65536 ^ j : Nat) : Int) := fun j => by rw [Int.natCast_pow]; rfl
    rw [e, e]
    exact Int.ofNat_le.mpr (Nat.pow_le_pow_right (by decide) hk)
  exact Int.le_trans h1 (by decide +kernel)
local macro_rules | `(tactic| walk_at "subscriptTail Name Slice ref ref") => `(tactic| (k_here; (with_reducible show wpAny _ _ (subscriptTail _ (PySem.Expr.Slice _ _ none _) (Value.ref _) (Value.ref _)) _ _ _); k_dflt (refine' kmk_slice_ints ?F ?N ?l ?p ?q ?i ?m ?c ?_ ?s ?t ?z; (case F => k_asm); (case N => k_asm); (case l => kmk_list); (case p => kmk_part); (case q => kmk_part); (case i => assumption); (case m => kmk_nums); (case c => kmk_len); (case s => with_unfolding_all rfl); (case t => kmk_pure); (case z => exact sz_ints (by assumption) (by assumption))); intro D' ws' h' F' N' l1 hI' hC' hL'; (try simp only [Int.reduceNeg, Int.neg_neg, Int.reduceToNat] at hI' hC' hL'); (try k_lt l1); (try k_sweep)))
theorem grand_ok : ∀ (w : World) (p : Program) (loose : List Str) (mean : ExcName → Option Value) (mg mb : Str → Option Value) (dp un : Nat) (gd : Option (List Code)) (cn : Str) (cs : Scope) (a : Addr) (ccd : Value) (cl : List (Str × Addr)) (outer : List Env) (A₀ : Around) (base h₀ : Heap) (L : Addr) (m : Str → Option Value) (s : Shared) (Q E : Value → Shared → Prop) (news : List (Addr × Obj)) (l : Addr) (vs : List Value) (ns : List Int), Below A₀ base outer h₀ → Fr h₀ L s.heap m → (Kf w.params).In h₀ → News h₀ L s.heap (news) → Top p loose mean mg mb h₀ → cs.kind = .function → dp + 2 < recursionLimit → un + 16 < cLine → (h₀.IsList l vs.toArray) → (IntsAre vs ns) → (ns.length ≤ 63) → (∀ (g : Int) (tg : Tok) (h' : Heap) (tk' : Nat), (0 ≤ g ∧ g < 2 ^ 400) → Fr h₀ L h' m → News h₀ L h' (news) → Q (.int g tg) { s with heap := h', toks := tk' }) → wpAny (model PySem.Challenge.rw_pc0174_02.row.prog w) (ktrTop dp un gd cn cs L a ccd cl outer) (call (.ref 524) [.ref l]) Q E s := by
  k_fill
  intro w p loose mean mg mb dp un gd cn cs a ccd cl outer A₀ base h₀ L m s Q E news l vs ns B F X N T hck hd9 hu9 hl hi hn hret
  refine wpAny_call ?_
  k_dflt cell_enter
  (rename Fr h₀ L _ m => FG)
  have hl2 := stays_list (fun b o e => FG.keep b o e) hl
  k_steps
  refine Stop.mk ?_
  (rename IntsAre _ (List.reverse _) => hIr)
  (rename Fr _ _ _ _ => lF'); (rename News _ _ _ _ => lN')
  with_unfolding_all refine iter_listUnr (by rfl) lF' lN' (by k_mem) rfl rfl ?_
  clear lF' lN'
  intro I hI
  have hll : (List.take 24 ns).reverse.length ≤ 24 := by rw [List.length_reverse, List.length_take]; omega
  refine listRest_ofN [Str.ofString "one", Str.ofString "grand"]
    (fun r gm nw => ∃ (g : Int) (t : Tok) (k : Nat) (ms : List Int), gm (Str.ofString "grand") = some (.int g t) ∧ IntsAre r ms ∧ k + ms.length ≤ 24 ∧ (0 ≤ g ∧ g < 65536 ^ k) ∧ nw = (_, listOf (List.toArray _) 0) :: (_, listOf (List.toArray _) 0) :: news) ?turn ?done ⟨0, _, 0, _, rfl, hIr, by omega, by decide, rfl⟩
  case turn =>
    intro v r gm nw it h₂ tk₂ hit hj F2 N2
    obtain ⟨g, t, k, ms, hgm, hints, hk, hg, rfl⟩ := hj
    dsimp only [over] at F2
    rw [hgm] at F2
    cases hints with
    | cons n t' hr =>
      have hbig : g < 2 ^ 400 := (grand_end (by omega) hg).2
      simp only [List.length_cons] at hk
      k_steps
      (rename News _ _ _ _ => lN); (rename Fr _ _ _ _ => lF)
      refine unrEnd_of lF lN 1 (.head _) (fun q hq => Nat.ne_of_lt (hI q hq)) ⟨.head _, ?keep, _, _, k + 1, _, rfl, hr, by omega, grand_step hg, rfl⟩
      intro y hy
      simp only [List.mem_cons, List.not_mem_nil, or_false, not_or] at hy
      simp only [hy, if_false]
  case done =>
    intro gm nw h₂ tk₂ hj F2 N2
    obtain ⟨g, t, k, ms, hgm, hints, hk, hg, rfl⟩ := hj
    dsimp only [over] at F2
    rw [hgm] at F2
    k_steps
    (rename News h₀ L _ _ => lN)
    exact hret _ _ _ _ (grand_end (by omega) hg) (by k_asm) (news_tl (news_tl lN))
end Mine
end
local macro_rules | `(tactic| walk_at "zc") => `(tactic| (k_here; k_dflt (apply Mine.grand_ok; walk_at "z8"; (iterate 3 walk_at "zq"); k_whole); walk_at "z9"))
theorem Mine.reset44 : (1 : Nat) < 2 := by first | (walk1; done) | decide
section
open PySem PySem.W PyProof.Rows
set_option maxHeartbeats 40000000
namespace Mine

theorem limits_ok : ∀ (w : World) (p : Program) (loose : List Str) (mean : ExcName → Option Value) (mg mb : Str → Option Value) (dp un : Nat) (gd : Option (List Code)) (cn : Str) (cs : Scope) (a : Addr) (ccd : Value) (cl : List (Str × Addr)) (outer : List Env) (A₀ : Around) (base h₀ : Heap) (L : Addr) (m : Str → Option Value) (s : Shared) (Q E : Value → Shared → Prop) (news : List (Addr × Obj)) , Below A₀ base outer h₀ → Fr h₀ L s.heap m → (Kf w.params).In h₀ → News h₀ L s.heap (news) → Top p loose mean mg mb h₀ → cs.kind = .function → dp + 3 < recursionLimit → un + 24 < cLine → (∀ (x dx : Addr) (es : List DictEntry) (ne : Nat) (h' : Heap) (tk' : Nat), (∀ p ∈ news, p.1 < dx) → (@LT.lt Nat _ dx x) → Fr h₀ L h' m → News h₀ L h' ((x, instObj 95 dx) :: (dx, dictOf es ne) :: news) → Q (.ref x) { s with heap := h', toks := tk' }) → wpAny (model PySem.Challenge.rw_pc0174_02.row.prog w) (ktrTop dp un gd cn cs L a ccd cl outer) (call (.ref 95) []) Q E s := by
  k_fill
  intro w p loose mean mg mb dp un gd cn cs a ccd cl outer A₀ base h₀ L m s Q E news  B F X N T hck hd9 hu9  hret
  k_dflt (refine' call_cls ?k1 ?k2 ?k3 ?k4 ?k5 ?k6 ?_; (case k1 => k_asm); (case k2 => k_asm); (case k3 => k_asm); (case k4 => k_is); (case k5 => k_is); (case k6 => k_is); k_whole; intro x' d' h' F' N' l1 l2; (try k_lt2 l2); (try k_sweep))
  k_dflt (refine' code_def ?k1 ?k2 ?k3 ?k4 ?k5 ?kA ?kF ?kK ?k6 ?k7 ?k8 ?k9 ?kB ?_ ?c2 ?c3 ?c4 ?c5; (case kA => exact rfl); (case kF => exact rfl); (case kK => first | exact rfl | assumption); (case k1 => k_asm); (case k2 => k_asm); (case k3 => k_asm); (case k4 => k_asm); (case k5 => k_asm); (case k6 => k_is); (case k7 => k_is); (case k8 => ktr_room); (case k9 => first | exact BindsTo.of_eq rfl | exact binds_K (by k_in) rfl (by k_is) rfl rfl rfl); (case c5 => decide); (case kB => exact locs rfl); (case c2 => exact rfl); (case c3 => exact rfl); (case c4 => exact rfl); k_whole; intro g' L' h' FG' F' N' B' X' T'; (try dsimp only); (try k_lift B'); (try k_fold))
  k_steps
  (rename News h₀ L _ _ => lN)
  exact hret _ _ _ _ _ _ (by assumption) (by assumption) (by k_asm) lN
end Mine
end
local macro_rules | `(tactic| walk_at "zc") => `(tactic| (k_here; k_dflt (apply Mine.limits_ok; walk_at "z8"; k_whole); walk_at "z9"))
theorem Mine.reset47 : (1 : Nat) < 2 := by first | (walk1; done) | decide
section
open PySem PySem.W PyProof.Rows
set_option maxHeartbeats 40000000
namespace Mine

local macro_rules | `(tactic| walk_at "binaryOp Add ref ref") => `(tactic| (k_here; (with_reducible show wpAny _ _ (binaryOp _ (Value.ref _) (Value.ref _)) _ _ _); k_dflt (refine' kv_add ?F ?N ?a ?b ?z ?_; (case F => k_asm); (case N => k_asm); (case a => k_mem); (case b => k_mem); (case z => ((try simp only [List.length_append, List.length_cons, List.length_nil, List.length_replicate]); omega)); k_whole); intro D' h' F' N' l1; (try k_lt l1); (try k_sweep)))
local macro_rules | `(tactic| walk_at "call builtin:len") => `(tactic| (k_here; (with_reducible show wpAny _ _ (call (Value.builtin _) [Value.ref _]) _ _ _); k_dflt (refine' kv_len ?k1 ?k2 ?k3 ?k4 ?_; (case k1 => k_asm); (case k2 => k_mem); (case k3 => first | assumption | (try simp only [List.length_append, List.length_cons, List.length_nil]); exact rfl); (case k4 => omega); k_whole); intro t' tk'))
theorem kv_mul12 {prog : Program} {w : World} {A : Around} {E : Value → Shared → Prop} {s : Shared} {h₀ : Heap} {L : Addr} {m : Str → Option Value} {news : List (Addr × Obj)} {l : Addr} {n : Nat} {u : Tok} {Q : Value → Shared → Prop} (FF : Fr h₀ L s.heap m) (N : News h₀ L s.heap news) (hl : (l, listOf [Value.none].toArray n) ∈ news)
    (h : ∀ D h', Fr h₀ L h' m → News h₀ L h' ((D, listOf (List.replicate 12 Value.none).toArray 0) :: news) → (∀ q ∈ news, q.1 < D) → Q (.ref D) { s with heap := h' }) : wpAny (model prog w) A (binaryOp .Mult (.ref l) (.int 12 u)) Q E s :=
  mul_list FF N (N _ hl).1 (by decide) (by decide) (by decide) (fun h' F' N' => h _ h' F' N' fun p hp => Heap.lt_size (N p hp).1)
local macro_rules | `(tactic| walk_at "binaryOp Mult ref int") => `(tactic| (k_here; (with_reducible show wpAny _ _ (binaryOp _ (Value.ref _) (Value.int _ _)) _ _ _); k_dflt (refine' kv_mul12 ?F ?N ?a ?_; (case F => k_asm); (case N => k_asm); (case a => k_mem); k_whole); intro D' h' F' N' l1; (try k_lt l1); (try k_sweep)))
theorem stepper_new : ∀ (w : World) (p : Program) (loose : List Str) (mean : ExcName → Option Value) (mg mb : Str → Option Value) (dp un : Nat) (gd : Option (List Code)) (cn : Str) (cs : Scope) (a : Addr) (ccd : Value) (cl : List (Str × Addr)) (outer : List Env) (A₀ : Around) (base h₀ : Heap) (L : Addr) (m : Str → Option Value) (s : Shared) (Q E : Value → Shared → Prop) (news : List (Addr × Obj)) (cd rg lm wk : Addr) (kg : Nat) (vs : List Value), Below A₀ base outer h₀ → Fr h₀ L s.heap m → (Kf w.params).In h₀ → News h₀ L s.heap (news) → Top p loose mean mg mb h₀ → cs.kind = .function → dp + 3 < recursionLimit → un + 24 < cLine → ((rg, listOf vs.toArray kg) ∈ news) → (vs.length = 5) → (∀ (x dx st : Addr) (c0 c1 c2 c3 c4 c5 c6 c7 c8 tr tt tp : Tok) (k : Nat) (h' : Heap) (tk' : Nat), (∀ p ∈ news, p.1 < dx) → (@LT.lt Nat _ dx x) → (@LT.lt Nat _ x st) → Fr h₀ L h' m → News h₀ L h' ((x, instObj 503 dx) :: (dx, dictOf [⟨PyData.keyHash w.params (Str.ofString "code"), .str (Str.ofString "code") c0, .ref cd⟩, ⟨PyData.keyHash w.params (Str.ofString "constants"), .str (Str.ofString "constants") c1, .ref 510⟩, ⟨PyData.keyHash w.params (Str.ofString "stack"), .str (Str.ofString "stack") c2, .ref st⟩, ⟨PyData.keyHash w.params (Str.ofString "room"), .str (Str.ofString "room") c3, .int 5 tr⟩, ⟨PyData.keyHash w.params (Str.ofString "limits"), .str (Str.ofString "limits") c4, .ref lm⟩, ⟨PyData.keyHash w.params (Str.ofString "works"), .str (Str.ofString "works") c5, .ref wk⟩, ⟨PyData.keyHash w.params (Str.ofString "pc"), .str (Str.ofString "pc") c6, .int 0 tp⟩, ⟨PyData.keyHash w.params (Str.ofString "top"), .str (Str.ofString "top") c7, .int 5 tt⟩, ⟨PyData.keyHash w.params (Str.ofString "result"), .str (Str.ofString "result") c8, .none⟩] 9) :: (st, listOf (vs ++ List.replicate 12 Value.none).toArray k) :: news) → Q (.ref x) { s with heap := h', toks := tk' }) → wpAny (model PySem.Challenge.rw_pc0174_02.row.prog w) (ktrTop dp un gd cn cs L a ccd cl outer) (call (.ref 503) [.ref cd, .ref 510, .ref rg, .ref lm, .ref wk]) Q E s := by
  k_fill
  intro w p loose mean mg mb dp un gd cn cs a ccd cl outer A₀ base h₀ L m s Q E news cd rg lm wk kg vs B F X N T hck hd9 hu9 hm hvl hret
  have hl := hvl
  replace N := news_put N hm
  k_dflt (refine' call_cls ?k1 ?k2 ?k3 ?k4 ?k5 ?k6 ?_; (case k1 => k_asm); (case k2 => k_asm); (case k3 => k_asm); (case k4 => k_is); (case k5 => k_is); (case k6 => k_is); k_whole; intro x' d' h' F' N' l1 l2; (try k_lt l1); (try k_lt2 l2); (try k_sweep))
  k_dflt (refine' code_def ?k1 ?k2 ?k3 ?k4 ?k5 ?kA ?kF ?kK ?k6 ?k7 ?k8 ?k9 ?kB ?_ ?c2 ?c3 ?c4 ?c5; (case kA => exact rfl); (case kF => exact rfl); (case kK => first | exact rfl | assumption); (case k1 => k_asm); (case k2 => k_asm); (case k3 => k_asm); (case k4 => k_asm); (case k5 => k_asm); (case k6 => k_is); (case k7 => k_is); (case k8 => ktr_room); (case k9 => first | exact BindsTo.of_eq rfl | exact binds_K (by k_in) rfl (by k_is) rfl rfl rfl); (case c5 => decide); (case kB => exact locs rfl); (case c2 => exact rfl); (case c3 => exact rfl); (case c4 => exact rfl); k_whole; intro g' L' h' FG' F' N' B' X' T'; (try dsimp only); (try k_lift B'); (try k_fold))
  k_steps
  (rename News h₀ L _ _ => lN)
  (rename _ ∧ _ ∧ _ ∧ _ ∧ _ ∧ AllLt _ _ => l1x)
  exact hret _ _ _ _ _ _ _ _ _ _ _ _ _ _ _ _ _ _ (allLt_all l1.2) l2 l1x.2.2.1 (by k_asm) (fun q hq => lN q (sub_cons (.tail _ (.tail _ (.tail _ (.head _)))) (sub_cons (.tail _ (.tail _ (.tail _ (.tail _ (.head _))))) (sub_cons (.head _) fun q hq => .tail _ (.tail _ (.tail _ (.tail _ (.tail _ (.tail _ hq))))))) q hq))
end Mine
end
local macro_rules | `(tactic| walk_at "zc") => `(tactic| (k_here; k_dflt (apply Mine.stepper_new; walk_at "z8"; (iterate 2 walk_at "zq"); k_whole); intro x dx st c0 c1 c2 c3 c4 c5 c6 c7 c8 tr tt tp k h' tk' hlt hlt2 hlt3 F' N'; (try k_sweep); (try k_lt hlt); (try k_lt2 hlt2); (try k_lt2 hlt3)))
theorem Mine.reset50 : (1 : Nat) < 2 := by first | (walk1; done) | decide
section
open PySem PySem.W PyProof.Rows PySem.Builtin
namespace Mine
theorem slot_bytes_repr : Slot "bytes" "__repr__" "bytes.__repr__" :=
  .of (owner := "bytes") (n := "__repr__") (by rw [typeLookup_type, builtinLookup_eq_fast]; kernel_rfl) (by decide +kernel) (by decide +kernel) (by decide +kernel)
    (by first | exact .inl (by decide +kernel) | exact .inr (by decide +kernel)) (by rw [isSubtype_type]; kernel_rfl)
theorem entry_bytes_repr : entryFor table "bytes.__repr__" = some Builtin.«bytes.__repr__» := entryFor_of_tree (by kernel_rfl)
theorem own_bytes : Manifest.owners.lookup (String.ofList ['s', 'e', 't', 'y', 'b'].reverse) = some Manifest.sig_bytes := by kernel_rfl
theorem args_bytes_repr (a : Value) : argsOk "bytes.__repr__" ⟨[a], []⟩ := by
  unfold argsOk; rw [signature?_of (id := "bytes.__repr__") (n := ['_', '_', 'r', 'p', 'e', 'r', '_', '_']) (o := ['s', 'e', 't', 'y', 'b']) (by kernel_rfl) own_bytes]; kernel_rfl
theorem gives_bytes_repr (b : Array UInt8) (t : Tok) (h : 4 * b.size + 3 ≤ sizeLine) : Gives (Builtin.«bytes.__repr__» ⟨[.bytes b t], []⟩) (.str (Bytes.literal b)) := by
  refine .of_eq ?_
  show (do
    let x ← Bytes.literalAsked b
    retStr x : Sem Fin) = _
  unfold Bytes.literalAsked
  have e : Bytes.tooLong (4 * b.size + 3 + 0) = false := by unfold Bytes.tooLong; simp only [decide_eq_false_iff_not]; omega
  rw [e]
  rfl
theorem isty_bytes (s : Shared) (b : Array UInt8) (t : Tok) : s.TypeIs (.bytes b t) "bytes" := rfl
theorem ReprIs_bytes {prog : Program} {w : World} (b : Array UInt8) (t : Tok) (h : 4 * b.size + 3 ≤ sizeLine) : ReprIs prog w (.bytes b t) (Bytes.literal b) := fun n hn A E s Q hq => by
  have hn' : n ≤ sizeLine := by omega
  rw [pyReprUnder_leaf (v := .bytes b t) hn' (fun _ e => nomatch e)]
  unfold pyRepr
  exact wpAny_bind (wpAny_pyReprObj_gives (isty_bytes s b t) slot_bytes_repr entry_bytes_repr (args_bytes_repr _) (gives_bytes_repr b t h) (wpAny_pure (hq _)) (hx := by omega))
theorem literal_len (b : Array UInt8) : (Bytes.literal b).length ≤ 4 * b.size + 3 := by
  unfold Bytes.literal
  dsimp only
  generalize (if b.contains 39 && !b.contains 34 then 34 else 39 : Nat) = q
  show Array.size _ ≤ _
  rw [Array.size_push]
  have gen : ∀ (l : List UInt8) (acc : Array Nat) (f : UInt8 → Array Nat), (∀ c, (f c).size ≤ 4) → (l.foldl (fun acc c => acc ++ f c) acc).size ≤ acc.size + 4 * l.length := by
    intro l
    induction l with
    | nil => intro acc f _; simp
    | cons c l ih =>
      intro acc f hf
      have h1 := ih (acc ++ f c) f hf
      have h2 := hf c
      simp only [List.foldl_cons, List.length_cons]
      rw [Array.size_append] at h1
      omega
  rw [← Array.foldl_toList]
  have h := gen b.toList #[98, q] (fun c => if (c.toNat == if false = true then 39 else q) || c.toNat == 92 then #[92, c.toNat]
    else if c.toNat == 9 then #[92, 116]
    else if c.toNat == 10 then #[92, 110]
    else if c.toNat == 13 then #[92, 114]
    else if c.toNat < 32 || c.toNat ≥ 127 then #[92, 120, if c.toNat / 16 < 10 then 48 + c.toNat / 16 else 87 + c.toNat / 16, if c.toNat % 16 < 10 then 48 + c.toNat % 16 else 87 + c.toNat % 16]
    else #[c.toNat]) (fun c => by repeat' split
                                  all_goals simp)
  have e : (#[98, q] : Array Nat).size = 2 := rfl
  rw [e, Array.length_toList] at h
  exact Nat.le_trans (Nat.add_le_add_right h 1) (by omega)
def rvText : RV → Str
  | .none => "None"
  | .bool b => if b then "True" else "False"
  | .int i => toString i
  | .bytes b => Bytes.literal b
def RV.fine : RV → Prop
  | .int i => i.natAbs < 10 ^ 10
  | .bytes b => b.size ≤ 50
  | _ => True
theorem rvText_len {x : RV} (h : x.fine) : (rvText x).length ≤ 203 := by
  cases x with
  | none => exact Nat.le_of_ble_eq_true rfl
  | bool b => cases b <;> exact Nat.le_of_ble_eq_true rfl
  | int i => 
    show (Str.ofString (toString i)).length ≤ _
    rw [PySem.ofString_length]
    exact Nat.le_trans (int_text_length_le10 (k := 10) (by decide) h) (by decide)
  | bytes b => 
    have h' : b.size ≤ 50 := h
    exact Nat.le_trans (literal_len b) (by omega)
theorem log2_small {n : Nat} (h : n < 10 ^ 10) : n.log2 < 1920 := by
  by_cases h0 : n = 0
  · subst h0; decide
  · exact Nat.lt_trans ((Nat.log2_lt h0).mpr (Nat.lt_of_lt_of_le h (by decide)) : n.log2 < 34) (by decide)
theorem reprIs_rv {prog : Program} {w : World} {x : RV} {v : Value} (hf : x.fine) (h : x.Is v) : ReprIs prog w v (rvText x) := by
  cases x with
  | none => cases h; exact ReprIs.none
  | bool b => cases h; exact ReprIs.bool b
  | int i => obtain ⟨t, rfl⟩ := h; exact ReprIs.int t (log2_small hf)
  | bytes b => obtain ⟨t, rfl⟩ := h; exact ReprIs_bytes b t (by simp only [RV.fine] at hf; rw [sizeLine_eq]; omega)
def pairText (nm t : Str) : Str := tupleText [reprText nm, t]
theorem listText_len : ∀ {ts : List Str} {k : Nat}, (∀ t ∈ ts, t.length ≤ k) → (listText ts).length ≤ ts.length * (k + 2) + 2 := by
  intro ts k h
  have gen : ∀ (ts : List Str) (i : Nat) (acc : Str), (∀ t ∈ ts, t.length ≤ k) → (textFrom i acc ts).length ≤ acc.length + ts.length * (k + 2) := by
    intro ts
    induction ts with
    | nil => intro i acc _; simp [textFrom]
    | cons t ts ih =>
      intro i acc h
      have h1 := h t (by simp)
      unfold textFrom
      have h2 := ih (i + 1) (acc ++ (if i > 0 then ", " else "" : String) ++ t) (fun t ht => h t (by simp [ht]))
      rw [strLen_append, strLen_append] at h2
      have h3 : (Str.ofString (if i > 0 then ", " else "")).length ≤ 2 := by split <;> exact Nat.le_of_ble_eq_true rfl
      simp only [List.length_cons, Nat.add_mul, Nat.one_mul]
      omega
  have h0 := gen ts 0 "[" h
  show (textFrom 0 "[" ts ++ "]").length ≤ _
  rw [strLen_append]
  have e1 : (("[" : Str)).length = 1 := rfl
  have e2 : (("]" : Str)).length = 1 := rfl
  omega
section
variable {prog : Program} {w : World} {A : Around} {E : Value → Shared → Prop} {s : Shared} {Q : Value → Shared → Prop}
theorem repr_tuple {h₀ : Heap} {L T : Addr} {m : Str → Option Value} {news : List (Addr × Obj)} {items : List Value} {n : Nat} {as : List Addr} {d : Nat} {ts : List Str} (F : Fr h₀ L s.heap m) (N : News h₀ L s.heap news) (hm : (T, ({ cls := .type "tuple", data := .seq items.toArray n } : Obj)) ∈ news)
    (hT : ReprAllK prog w as s.heap d items ts) (hna : T ∉ as) (hg : A.guards = some []) (hu : A.units + (d + 2) < cLine) (hsz : (tupleText ts).length ≤ sizeLine)
    (hQ : ∀ h' u tk, Fr h₀ L h' m → News h₀ L h' news → Q (.str (tupleText ts) u) { s with heap := h', toks := tk }) : wpAny (model prog w) A (call (.builtin "repr") [.ref T]) Q E s := by
  have ha := (N _ hm).1
  exact call_repr_slot (by omega) ⟨_, ha, rfl⟩ PySem.F.slot_tuple_repr (call_tuple_reprK ha rfl rfl hna hT hg (fun b _ => Clear.nil b) (by show A.units + 1 + (d + 1) < cLine; omega) (fun _ _ e => e) (fun h' u tk hk => ⟨_, _, rfl, hQ h' u tk (F.keptAll hk) (N.grown hk)⟩) hsz)
theorem rvs_all {h₀ : Heap} {as : List Addr} {d : Nat} : ∀ {xs : List RV} {vs : List Value}, RVs xs vs → (∀ x ∈ xs, x.fine) → ReprAllK prog w as h₀ d vs (xs.map rvText)
  | [], [], _, _ => .nil
  | x :: xs, v :: vs, h, hf => .cons (.of_is (reprIs_rv (hf x (by simp)) h.1) _ _ _) (rvs_all h.2 fun y hy => hf y (by simp [hy]))
  | [], _ :: _, h, _ => h.elim
  | _ :: _, [], h, _ => h.elim
theorem rvs_item {h₀ : Heap} {as : List Addr} {d : Nat} : ∀ {vs : List Value} {ts : List Str}, ReprAllK prog w as h₀ d vs ts → ∀ (i : Nat) (y : Value), vs[i]? = some y → ∃ t, ts[i]? = some t ∧ ReprK prog w as h₀ d y t
  | _, _, .cons h _, 0, _, e => by cases e; exact ⟨_, rfl, h⟩
  | _, _, .cons _ k, i + 1, y, e => by simpa using rvs_item k i y (by simpa using e)
theorem list_reprK {h : Heap} {rl : Addr} {zs : List Value} {ys : List RV} {kr : Nat} (hl : h.get? rl = some (listOf zs.toArray kr)) (hx : RVs ys zs) (hf : ∀ y ∈ ys, y.fine) : ReprK prog w [rl] h 1 (.ref rl) (listText (ys.map rvText)) := by
  cases zs with
  | nil =>
    cases ys with
    | nil =>
      show ReprK prog w [rl] h 1 (.ref rl) (listText [])
      rw [listText_nil]
      exact ReprK.listEmpty hl rfl rfl
    | cons _ _ => exact hx.elim
  | cons z zs =>
    have k := rvs_all (prog := prog) (w := w) (as := []) (h₀ := h) (d := 0) hx hf
    exact ReprK.list hl rfl rfl (by simp) (by simpa using (RVs.length hx).symm) (fun i y e => rvs_item k i y (by simpa using e))
variable {h₀ : Heap} {L T : Addr} {m : Str → Option Value} {news : List (Addr × Obj)}
theorem pair_len {nm t : Str} {k : Nat} (h : (reprText nm).length ≤ 100) (h2 : t.length ≤ k) (hk : k ≤ 16000000) : (pairText nm t).length ≤ sizeLine := by
  unfold pairText tupleText
  simp only [Str.join, strLen_append, List.length_cons, List.length_nil]
  rw [sizeLine_eq]
  have e1 : (("(" : Str)).length = 1 := rfl
  have e2 : ((", " : Str)).length = 2 := rfl
  have e3 : (Str.ofString (if (0 + 1 + 1 == 1) = true then ",)" else ")")).length = 1 := rfl
  omega
theorem repr_pairI {nm : Str} {i : Int} {t u : Tok} {n : Nat} (FF : Fr h₀ L s.heap m) (N : News h₀ L s.heap news) (hm : (T, ({ cls := .type "tuple", data := .seq #[.str nm t, .int i u] n } : Obj)) ∈ news) (hnm : (reprText nm).length ≤ 100) (hi : i.natAbs < 10 ^ 10) (hg : A.guards = some []) (hu : A.units + 4 < cLine)
    (hQ : ∀ h' u tk, Fr h₀ L h' m → News h₀ L h' news → Q (.str (pairText nm (toString i)) u) { s with heap := h', toks := tk }) : wpAny (model prog w) A (call (.builtin "repr") [.ref T]) Q E s := by
  refine repr_tuple (as := []) (d := 1) (items := [.str nm t, .int i u]) FF N hm (.cons (.of_is (ReprIs.str nm t (by rw [sizeLine_eq]; omega)) _ _ _) (.cons (.of_is (ReprIs.int u (log2_small hi)) _ _ _) .nil)) (by simp) hg (by omega) ?_ hQ
  exact pair_len hnm (k := 11) (by show (Str.ofString (toString i)).length ≤ _; rw [PySem.ofString_length]; exact int_text_length_le10 (k := 10) (by decide) hi) (by decide)
theorem repr_pairL {nm : Str} {rl : Addr} {t : Tok} {n kr : Nat} {ys : List RV} {zs : List Value} (FF : Fr h₀ L s.heap m) (N : News h₀ L s.heap news) (hm : (T, ({ cls := .type "tuple", data := .seq #[.str nm t, .ref rl] n } : Obj)) ∈ news) (hl : (rl, listOf zs.toArray kr) ∈ news) (hx : RVs ys zs) (hf : ∀ y ∈ ys, y.fine) (hyl : ys.length ≤ 100) (hnm : (reprText nm).length ≤ 100) (hg : A.guards = some []) (hu : A.units + 4 < cLine)
    (hQ : ∀ h' u tk, Fr h₀ L h' m → News h₀ L h' news → Q (.str (pairText nm (listText (ys.map rvText))) u) { s with heap := h', toks := tk }) : wpAny (model prog w) A (call (.builtin "repr") [.ref T]) Q E s := by
  have hne : T ≠ rl := fun e => by
    have h1 := (N _ hm).1
    have h2 := (N _ hl).1
    dsimp only at h1 h2
    rw [e, h2] at h1
    exact absurd (congrArg (fun o => o.map Obj.cls) h1) (by simp)
  refine repr_tuple (as := [rl]) (d := 1) (items := [.str nm t, .ref rl]) FF N hm (.cons (.of_is (ReprIs.str nm t (by rw [sizeLine_eq]; omega)) _ _ _) (.cons (list_reprK (N _ hl).1 hx hf) .nil)) (by simpa using hne) hg (by omega) ?_ hQ
  refine pair_len hnm (listText_len (k := 203) (fun t ht => ?_)) ?_
  · obtain ⟨y, hy, rfl⟩ := List.mem_map.mp ht
    exact rvText_len (hf y hy)
  · rw [List.length_map]; omega
end
end Mine
end
section
open PySem PySem.W PyProof.Rows
namespace Mine
def allFine (xs : List RV) : Prop := ∀ x ∈ xs, x.fine
theorem fine_getD {xs : List RV} (h : allFine xs) (i : Nat) : (xs.getD i .none).fine := by
  rw [List.getD_eq_getElem?_getD]
  cases e : xs[i]? with
  | none => trivial
  | some x => exact h x (List.mem_of_getElem? e)
theorem fine_set {xs : List RV} (h : allFine xs) (i : Nat) {v : RV} (hv : v.fine) : allFine (xs.set i v) := fun x hx => by
  rcases List.mem_or_eq_of_mem_set hx with hx | rfl
  · exact h x hx
  · exact hv
def Out.fine : Out → Prop
  | .back ys => allFine ys ∧ ys.length ≤ 100
  | .stopped i => i.natAbs < 10 ^ 10
  | .steps i => i.natAbs < 10 ^ 10
def stepFine : Out ⊕ (Int × List RV) → Prop
  | .inl o => o.fine
  | .inr p => allFine p.2
theorem step_fine {rows : List R} {i : Int} {xs : List RV} (h : allFine xs) (h0 : 0 ≤ i) (h1 : i < 1000) : stepFine (stepR rows i xs) := by
  unfold stepR
  dsimp only
  split
  · refine ⟨fun x hx => h x (List.mem_of_mem_take hx), ?_⟩
    rw [List.length_take]; omega
  split
  · exact fine_set h _ (fine_getD h _)
  split
  · exact fine_set h _ trivial
  split
  · exact h
  split
  · split
    · exact h
    · show i.natAbs < 10 ^ 10
      omega
  · show allFine (if _ then _ else xs)
    by_cases hc : (rowAt rows i).t = 27 ∧ (isFalse (xs.getD (if (rowAt rows i).t = 26 then (rowAt rows i).a else (rowAt rows i).b).toNat RV.none) != ((rowAt rows i).c != 0)) = true
    · rw [if_pos hc]; exact fine_set h _ (fine_getD h _)
    · rw [if_neg hc]; exact h
theorem run_fine {rows : List R} (hr : okRows rows) : ∀ (n : Nat) {i : Int} {xs : List RV}, allFine xs → 0 ≤ i → i < rows.length → (runR rows n i xs).fine
  | 0, i, _, _, h0, h1 => by
    have := hr.2.1
    show i.natAbs < 10 ^ 10
    omega
  | n + 1, i, xs, h, h0, h1 => by
    have hl := hr.2.1
    have k := step_fine (rows := rows) h h0 (by omega)
    unfold runR
    cases e : stepR rows i xs with
    | inl o => rw [e] at k; exact k
    | inr q =>
      obtain ⟨i', xs'⟩ := q
      rw [e] at k
      have b := step_ok hr h0 h1 e
      exact run_fine hr n k b.1 b.2.1
def outText : Out → Str
  | .back ys => pairText (Str.ofString "back") (listText (ys.map rvText))
  | .stopped i => pairText (Str.ofString "stopped") (toString i)
  | .steps i => pairText (Str.ofString "steps") (toString i)
section
variable {prog : Program} {w : World} {A : Around} {E : Value → Shared → Prop} {s : Shared} {h₀ : Heap} {L : Addr} {m : Str → Option Value} {news : List (Addr × Obj)}
theorem short_back : (reprText (Str.ofString "back")).length ≤ 100 := by decide +kernel
theorem short_stopped : (reprText (Str.ofString "stopped")).length ≤ 100 := by decide +kernel
theorem short_steps : (reprText (Str.ofString "steps")).length ≤ 100 := by decide +kernel
end
end Mine
end
section
open PySem PySem.W PyProof.Rows
namespace Mine
section
variable {prog : Program} {w : World} {A : Around} {E : Value → Shared → Prop} {s : Shared} {h₀ : Heap} {L : Addr} {m : Str → Option Value} {news : List (Addr × Obj)}
theorem repr_out {o : Out} {T : Addr} {outL : List (Addr × Obj)} {Q : Value → Shared → Prop} (FF : Fr h₀ L s.heap m) (N : News h₀ L s.heap news) (hol : OutL o T outL) (hsub : ∀ p ∈ outL, p ∈ news) (hf : o.fine) (hg : A.guards = some []) (hu : A.units + 4 < cLine)
    (hQ : ∀ h' u tk, Fr h₀ L h' m → News h₀ L h' news → Q (.str (outText o) u) { s with heap := h', toks := tk }) : wpAny (model prog w) A (call (.builtin "repr") [.ref T]) Q E s := by
  cases o with
  | back ys =>
    obtain ⟨rl, t, kr, zs, rfl, hx⟩ := hol
    exact repr_pairL FF N (hsub _ (.head _)) (hsub _ (.tail _ (.head _))) hx hf.1 hf.2 short_back hg hu hQ
  | stopped i =>
    obtain ⟨t, u, rfl⟩ := hol
    exact repr_pairI FF N (hsub _ (.head _)) short_stopped hf hg hu hQ
  | steps i =>
    obtain ⟨t, u, rfl⟩ := hol
    exact repr_pairI FF N (hsub _ (.head _)) short_steps hf hg hu hQ
end
end Mine
end
section
open PySem PySem.W PyProof.Rows
set_option maxHeartbeats 40000000
namespace Mine

def poolRV : List RV := [.none, .bool true, .bool false, .int 0, .int 1, .bytes #[], .int 2]
theorem pool_sub : ∀ {w : World} {A : Around} {E : Value → Shared → Prop} {s : Shared} {h₀ : Heap} {L : Addr} {m : Str → Option Value} {d : Int} {tk : Tok} {value slice : PySem.Expr} {Q : Value → Shared → Prop} (_ : 0 ≤ d ∧ d < 7) (_ : Fr h₀ L s.heap m) (_ : (Kf w.params).In h₀)
    (_ : subscripted slice false (.ref 509) (.int d tk) = operate [.ref 509, .int d tk] (getItem (.ref 509) (.int d tk))) (_ : ∀ x v, x ∈ poolRV → x.Is v → Q v s), wpAny (model PySem.Challenge.rw_pc0174_02.row.prog w) A (subscriptTail value slice (.ref 509) (.int d tk)) Q E s := by
  k_fill
  intro w A E s h₀ L m d tk value slice Q hd F X hs h
  rcases (show d = 0 ∨ d = 1 ∨ d = 2 ∨ d = 3 ∨ d = 4 ∨ d = 5 ∨ d = 6 by omega) with e | e | e | e | e | e | e <;> subst e
  all_goals k_dflt (refine' topList_K (hs := hs) F X ?l ?a ?b ?d ?_; (case l => k_is); (case a => decide); (case b => decide); (case d => rfl))
  · exact h .none _ (.head _) rfl
  · exact h (.bool true) _ (.tail _ (.head _)) rfl
  · exact h (.bool false) _ (.tail _ (.tail _ (.head _))) rfl
  · exact h (.int 0) _ (.tail _ (.tail _ (.tail _ (.head _)))) ⟨_, rfl⟩
  · exact h (.int 1) _ (.tail _ (.tail _ (.tail _ (.tail _ (.head _))))) ⟨_, rfl⟩
  · exact h (.bytes #[]) _ (.tail _ (.tail _ (.tail _ (.tail _ (.tail _ (.head _)))))) ⟨_, rfl⟩
  · exact h (.int 2) _ (.tail _ (.tail _ (.tail _ (.tail _ (.tail _ (.tail _ (.head _))))))) ⟨_, rfl⟩

end Mine
end
section
open PySem PySem.W PyProof.Rows
set_option maxHeartbeats 40000000
namespace Mine

theorem news_main {h₀ h : Heap} {L : Addr} {p0 p1 p2 p3 p4 p5 p6 p7 p8 p9 p10 p11 p12 p13 p14 p15 p16 : Addr × Obj} (N : News h₀ L h (p0 :: p1 :: p2 :: p3 :: p4 :: p5 :: p6 :: p7 :: p8 :: p9 :: p10 :: p11 :: p12 :: p13 :: p14 :: p15 :: p16 :: [])) : News h₀ L h (p14 :: p15 :: p5 :: p6 :: p0 :: (p1 :: p2 :: p3 :: p4 :: p16 :: [])) := fun q hq => N q (by
  simp only [List.mem_cons, List.not_mem_nil, or_false] at hq ⊢
  rcases hq with h | h | h | h | h | h | h | h | h | h <;> simp only [h, true_or, or_true])
def fixedRows : List R := [⟨27, 0, 1, 0⟩, ⟨22, 0, 1, 0⟩, ⟨0, 0, 2, 0⟩, ⟨30, 0, 6, 0⟩]
theorem fixed_ok : okRows fixedRows := by
  refine ⟨by decide, by decide, fun i h0 h1 => ?_⟩
  have h1' : i < 4 := h1
  rcases (show i = 0 ∨ i = 1 ∨ i = 2 ∨ i = 3 by omega) with h | h | h | h <;> subst h
  · exact .inr (.inr (.inr (.inr (.inl ⟨by decide, by decide, by decide, by decide, by decide, rfl, rfl, rfl, by decide, by decide, by decide, by decide⟩))))
  · exact .inr (.inr (.inl ⟨rfl, rfl, rfl, by decide, by decide, by decide⟩))
  · exact .inl ⟨rfl, by decide, by decide, rfl, by decide⟩
  · exact .inr (.inr (.inr (.inr (.inr ⟨rfl, rfl, rfl, rfl⟩))))
theorem nm_ts : Str.ofString "TESTSET" = nameOf 27 := by decide +kernel

end Mine
end
section
open PySem PySem.W PyProof.Rows
set_option maxHeartbeats 40000000
namespace Mine
abbrev lawP {n : Str} {ar : Arguments} {b0 b1 b2 t0 t1 t2 : Stmt} {tl bdr oe : List Stmt} {tg it : PySem.Expr} {ps : Pos} {ds : List PySem.Expr} {re : Option PySem.Expr} {tp : List TypeParam} {sc : Scope} {ts : Option Scope} {bi : Str} {ps2 : Pos} (st : Stmt) (_ : st = Stmt.FunctionDef n ar (b0 :: b1 :: b2 :: Stmt.For tg it (t0 :: t1 :: t2 :: tl) oe ps :: bdr) ds re tp sc ts bi ps2) (f : Stmt → Stmt → Stmt → List Stmt → Scope → Prop) : Prop := f t0 t1 t2 tl sc

theorem run_ne {x dx st wk dw cd : Nat} (h1 : dx < x) (h2 : x < st) (h3 : wk < dx) (h4 : dw < dx) (h5 : cd < dx) : (@Ne Nat x dx ∧ @Ne Nat x st ∧ @Ne Nat dx st ∧ @Ne Nat wk dx ∧ @Ne Nat wk st ∧ @Ne Nat dw dx ∧ @Ne Nat dw st ∧ @Ne Nat cd dx ∧ @Ne Nat cd st) := by
  refine ⟨?_, ?_, ?_, ?_, ?_, ?_, ?_, ?_, ?_⟩ <;> omega
theorem rest_ne {x dx st : Addr} {rest : List (Addr × Obj)} (h1 : @LT.lt Nat _ dx x) (h2 : @LT.lt Nat _ x st) (h : ∀ p ∈ rest, p.1 < dx) : ∀ p ∈ rest, p.1 ≠ dx ∧ p.1 ≠ st := fun p hp =>
  ⟨Nat.ne_of_lt (h p hp), Nat.ne_of_lt (Nat.lt_trans (h p hp) (Nat.lt_trans h1 h2))⟩
theorem rvs_nones : RVs (List.replicate 12 .none) (List.replicate 12 Value.none) := ⟨rfl, rfl, rfl, rfl, rfl, rfl, rfl, rfl, rfl, rfl, rfl, rfl, trivial⟩
theorem run_led {h₀ h : Heap} {L : Addr} {p0 p1 p2 p3 p4 p5 p6 : Addr × Obj} {news : List (Addr × Obj)} (N : News h₀ L h (p0 :: p1 :: p2 :: p3 :: p4 :: news)) (h5 : p5 ∈ news) (h6 : p6 ∈ news) : News h₀ L h (p0 :: p1 :: p2 :: p5 :: p6 :: p4 :: news) := fun q hq => N q (by
  simp only [List.mem_cons] at hq ⊢
  rcases hq with h | h | h | h | h | h | h
  · exact .inl h
  · exact .inr (.inl h)
  · exact .inr (.inr (.inl h))
  · exact .inr (.inr (.inr (.inr (.inr (h ▸ h5)))))
  · exact .inr (.inr (.inr (.inr (.inr (h ▸ h6)))))
  · exact .inr (.inr (.inr (.inr (.inl h))))
  · exact .inr (.inr (.inr (.inr (.inr h)))))
theorem run_back {h₀ h : Heap} {L : Addr} {p0 p1 p2 p3 p4 : Addr × Obj} {news outL : List (Addr × Obj)} (N : News h₀ L h (p0 :: p1 :: p2 :: ((p3 :: p4 :: news) ++ outL))) : News h₀ L h (p3 :: p4 :: (news ++ outL)) := fun q hq => N q (.tail _ (.tail _ (.tail _ hq)))

local macro_rules | `(tactic| walk_at "subscriptTail Name Slice ref ref") => `(tactic| walk_at "z14")
local macro_rules | `(tactic| walk_at "call ref") => `(tactic| (first | ((show wpAny _ _ (call (Value.ref 548) _) _ _ _); refine Stop.un ?_) | ((show wpAny _ _ (call (Value.ref 437) _) _ _ _); refine Stop.un ?_) | walk_at "zc" | (k_here; k_dflt (apply coded_ok; walk_at "z8"; walk_at "zq"; ((refine RowsIn.more ?_ (by assumption); intro p hp; repeat (first | exact hp | refine List.Mem.tail _ ?_))); walk_at "zq"; k_whole); intro D kc cvs h' tk' hcv hlt F' N'; (try k_sweep); (try k_lt hlt))))
local macro_rules | `(tactic| walk_at "call builtin:repr") => `(tactic| (k_here; (with_reducible show wpAny _ _ (call (Value.builtin "repr") [Value.ref _]) _ _ _); k_dflt (refine' repr_out ?k1 ?k2 ?k3 ?k4 ?k5 ?k6 ?k7 ?_; (case k1 => k_asm); (case k2 => k_asm); (case k3 => assumption); (case k4 => (intro p hp; simp only [List.mem_cons, List.mem_append, List.cons_append, hp, or_true, true_or])); (case k5 => assumption); (case k6 => rfl); (case k7 => ktr_units); k_whole); intro h' u tk F' N'; (try k_sweep)))
theorem tail_ok : lawP (stm 88) (by with_unfolding_all rfl) fun _ _ _ tl sc => ∀ (w : World) (p : Program) (loose : List Str) (mean : ExcName → Option Value) (mg mb : Str → Option Value) (dp un : Nat) (a : Addr) (ccd : Value) (A₀ : Around) (base h₀ : Heap) (L : Addr) (gm : Str → Option Value) (s : Shared) (Q : Flow → Shared → Prop) (E : Value → Shared → Prop) (news : List (Addr × Obj)) (rl ro wk bn dw : Addr) (kr kg : Nat) (rvs vs : List Value) (rows : List R) (xs : List RV) (e0 e1 e2 e3 e4 e5 : Tok) (w0 w1 w2 w3 w5 : Value), Below A₀ base [] h₀ → Fr h₀ L s.heap (fun y => if y = Str.ofString "registers" then some (.ref ro) else if y = Str.ofString "rows" then some (.ref rl) else if y = Str.ofString "works" then some (.ref wk) else if y = Str.ofString "bounds" then some (.ref bn) else gm y) → (Kf w.params).In h₀ → News h₀ L s.heap news → Top p loose mean mg mb h₀ → dp + 8 < recursionLimit → un + 64 < cLine → (rl, listOf rvs.toArray kr) ∈ news → (ro, listOf vs.toArray kg) ∈ news → (wk, instObj 412 dw) ∈ news → (dw, dictOf [⟨PyData.keyHash w.params (Str.ofString "new_table"), .str (Str.ofString "new_table") e0, w0⟩, ⟨PyData.keyHash w.params (Str.ofString "index"), .str (Str.ofString "index") e1, w1⟩, ⟨PyData.keyHash w.params (Str.ofString "put"), .str (Str.ofString "put") e2, w2⟩, ⟨PyData.keyHash w.params (Str.ofString "length"), .str (Str.ofString "length") e3, w3⟩, ⟨PyData.keyHash w.params (Str.ofString "compared"), .str (Str.ofString "compared") e4, .ref 543⟩, ⟨PyData.keyHash w.params (Str.ofString "called"), .str (Str.ofString "called") e5, w5⟩] 6) ∈ news → RowsIn news rows rvs → RVs xs vs → xs.length = 5 → allFine xs → okRows rows →
   (∀ (v : Value) (h' : Heap) (tk' : Nat), Fr h₀ L h' (fun y => if y = Str.ofString "told" then some v else if y = Str.ofString "registers" then some (.ref ro) else if y = Str.ofString "rows" then some (.ref rl) else if y = Str.ofString "works" then some (.ref wk) else if y = Str.ofString "bounds" then some (.ref bn) else gm y) → News h₀ L h' news → Q .next { s with heap := h', toks := tk' }) →
   wpAny (model PySem.Challenge.rw_pc0174_02.row.prog w) (ktrTop dp un (some []) (Str.ofString "law") sc L a ccd (cellsFrom (L + 1) sc.names []) []) (execs tl (envOfC (Str.ofString "law") sc L a ccd)) Q E s := by
  dsimp only [lawP]
  k_fill
  intro w p loose mean mg mb dp un a ccd A₀ base h₀ L gm s Q E news rl ro wk bn dw kr kg rvs vs rows xs e0 e1 e2 e3 e4 e5 w0 w1 w2 w3 w5 B F X N T hd9 hu9 hm1 hm2 hm3 hm4 hro hx hxl hfn hrows hret
  have hl := hx.length
  rw [hxl] at hl
  replace N := news_put (news_put N hm2) (.tail _ hm1)
  k_steps
  refine Stop.mk ?_
  (rename News _ _ _ _ => lN); (rename Fr _ _ _ _ => lF); (rename IntsAre _ _ => hcv); (rename _ ∧ _ ∧ _ ∧ _ ∧ AllLt _ _ => hl9)
  refine' run_ok _ _ _ _ _ _ _ _ _ _ _ _ _ _ _ _ _ _ _ _ _ _ _ _ _ _ _ _ _ _ _ _ _ _ _ _ _ _ _ _ _ _ _ _ _ _ _ _ _ _ _ _ _ _ _ _ _ (xs ++ List.replicate 12 .none) _ _ ((rl, listOf rvs.toArray kr) :: (ro, listOf vs.toArray kg) :: news) 0 _ rows B lF X (run_led lN (.tail _ (.tail _ hm3)) (.tail _ (.tail _ hm4))) T rfl ?kd ?ku ?ne ?rest (RVs.append hx rvs_nones) ?len hcv hrows ?fin
  case kd => ktr_room
  case ku => ktr_units
  case ne => exact run_ne (by assumption) (by assumption) (allLt_all hl9.2.2.2.2 _ hm3) (allLt_all hl9.2.2.2.2 _ hm4) hl9.2.1
  case rest => exact rest_ne (by assumption) (by assumption) (allLt_all (l := _ :: _ :: news) hl9.2.2)
  case len => rw [List.length_append, hxl]; rfl
  case fin =>
    intro T1 out1 h1 tk1 hol1 F1 N1
    have hpos : (0 : Int) < rows.length := by have := hrows.1; omega
    rw [run_pad hrows _ 24 hxl (by decide) hpos] at hol1
    have hfine := run_fine hrows 24 hfn (Int.le_refl 0) hpos
    replace N1 := run_back N1
    clear lN lF hcv hl9
    k_steps
    refine Stop.mk ?_
    (rename News _ _ _ _ => lN); (rename Fr _ _ _ _ => lF)
    refine' lrun_ok _ _ _ _ _ _ _ _ _ _ _ _ _ _ _ _ _ _ _ _ _ _ _ _ _ _ _ _ _ _ _ _ _ B lF X lN T rfl ?kd ?ku (.head _) (.tail _ (.head _)) (RowsIn.more ?more hro) hx hxl hrows ?fin
    case kd => ktr_room
    case ku => ktr_units
    case more => exact fun p hp => .tail _ (.tail _ (List.mem_append_left _ hp))
    case fin =>
      intro T2 out2 h2 tk2 hol2 F2 N2
      clear lN lF
      have hsame : (outText (runR rows 24 0 xs) != outText (runR rows 24 0 xs)) = false := bne_self_eq_false _
      k_steps
      (rename News _ _ _ _ => lN)
      exact hret _ _ _ (by k_asm) fun q hq => lN q (.tail _ (.tail _ (List.mem_append_left _ (List.mem_append_left _ hq))))

end Mine
end
theorem Mine.reset57 : (1 : Nat) < 2 := by first | (walk1; done) | decide
section
open PySem PySem.W PyProof.Rows
set_option maxHeartbeats 40000000
namespace Mine

theorem two_same {m : Str → Option Value} {x z y : Str} {v u f : Option Value} {F : Str} (h1 : F ≠ x) (h2 : F ≠ z) : (if y = x then v else if y = z then u else if y = F then f else if y = x then v else if y = z then u else m y) = if y = F then f else if y = x then v else if y = z then u else m y := by
  by_cases e1 : y = x
  · subst e1; rw [if_pos rfl, if_neg (Ne.symm h1), if_pos rfl]
  · rw [if_neg e1]
    by_cases e2 : y = z
    · subst e2; rw [if_pos rfl, if_neg (Ne.symm h2), if_neg e1, if_pos rfl]
    · rw [if_neg e2]
theorem pool_fine {x : RV} (h : x ∈ poolRV) : x.fine := by
  simp only [poolRV, List.mem_cons, List.not_mem_nil, or_false] at h
  rcases h with h | h | h | h | h | h | h <;> subst h <;> simp [RV.fine]
theorem fine_snoc {xs : List RV} {x : RV} (h : allFine xs) (hx : x.fine) : allFine (xs ++ [x]) := fun z hz => by
  rcases List.mem_append.mp hz with hz | hz
  · exact h z hz
  · rw [List.mem_singleton.mp hz]; exact hx
theorem first_fine : allFine [.int 5, .bool false, .int 6, .int 7, .int 8] := fun x h => by
  simp only [List.mem_cons, List.not_mem_nil, or_false] at h
  rcases h with h | h | h | h | h <;> subst h <;> simp [RV.fine]
theorem news_swap {h₀ h : Heap} {L : Addr} {p q : Addr × Obj} {n : List (Addr × Obj)} (N : News h₀ L h (p :: q :: n)) : News h₀ L h (q :: p :: n) := fun r hr => N r (by
  simp only [List.mem_cons] at hr ⊢
  rcases hr with h | h | h
  · exact .inr (.inl h)
  · exact .inl h
  · exact .inr (.inr h))
theorem news_turn {h₀ h : Heap} {L : Addr} {p0 p1 p2 : Addr × Obj} {n : List (Addr × Obj)} (N : News h₀ L h (p0 :: p1 :: p2 :: n)) : News h₀ L h (p1 :: p2 :: p0 :: n) := fun r hr => N r (by
  simp only [List.mem_cons] at hr ⊢
  rcases hr with h | h | h | h
  · exact .inr (.inl h)
  · exact .inr (.inr (.inl h))
  · exact .inl h
  · exact .inr (.inr (.inr h)))
theorem news_unturn {h₀ h : Heap} {L : Addr} {p0 p1 p2 : Addr × Obj} {n : List (Addr × Obj)} (N : News h₀ L h (p1 :: p2 :: p0 :: n)) : News h₀ L h (p0 :: p1 :: p2 :: n) := fun r hr => N r (by
  simp only [List.mem_cons] at hr ⊢
  rcases hr with h | h | h | h
  · exact .inr (.inr (.inl h))
  · exact .inl h
  · exact .inr (.inl h)
  · exact .inr (.inr (.inr h)))
theorem keep_lem {m' m₀ g : Str → Option Value} {tv tv' u1 u2 u3 : Option Value} {xt x1 x2 x3 : Str} {ns : List Str} (hxt : xt ∈ ns)
    (hm' : ∀ y, y ∉ ns → m' y = if y = xt then tv else if y = x1 then u1 else if y = x2 then u2 else if y = x3 then u3 else (if y = xt then tv' else over ns g m₀ y))
    (h1 : m₀ x1 = u1) (h2 : m₀ x2 = u2) (h3 : m₀ x3 = u3) : ∀ y, y ∉ ns → m' y = m₀ y := fun y hy => by
  have hyt : y ≠ xt := fun e => hy (e ▸ hxt)
  rw [hm' y hy, if_neg hyt, if_neg hyt, over_neg hy]
  exact put_same h1 (put_same h2 (put_same h3 rfl))
theorem off_two {a c b : Addr} {rest : List (Addr × Obj)} {x y : Obj} (h1 : @Ne Nat a b) (h2 : @Ne Nat c b) (h : ∀ p ∈ rest, p.1 ≠ b) : ∀ p ∈ (a, x) :: (c, y) :: rest, p.1 ≠ b := fun p hp => by
  rcases List.mem_cons.mp hp with rfl | hp
  · exact h1
  rcases List.mem_cons.mp hp with rfl | hp
  · exact h2
  · exact h p hp

local macro_rules | `(tactic| k_ne) => `(tactic| ((try dsimp only); first | assumption | exact Ne.symm (by assumption) | exact Nat.ne_of_gt (by assumption) | exact Nat.ne_of_lt (by assumption)))
local macro_rules | `(tactic| walk_at "call ref") => `(tactic| (first | ((show wpAny _ _ (call (Value.ref 555) _) _ _ _); refine Stop.un ?_) | walk_at "zc"))
local macro_rules | `(tactic| walk_at "subscriptTail Name Call ref int") => `(tactic| (k_here; k_dflt (refine' pool_sub ?k1 ?k2 ?k3 ?k4 ?_; (case k1 => assumption); (case k2 => k_asm); (case k3 => k_asm); (case k4 => with_unfolding_all rfl); k_whole); intro x' v' hxp hxv))
local macro_rules | `(tactic| walk_at "CompSrc") => `(tactic| (refine Stop.un ?_))
local macro_rules | `(tactic| walk_at "execs cons Assign cons") => `(tactic| ((with_reducible show wpAny _ _ (execs (Stmt.Assign [Expr.Name (Str.ofString "told") _] _ _ :: _) _) _ _ _); refine Stop.un ?_))
theorem turn_ok : lawP (stm 88) (by with_unfolding_all rfl) fun s0 s1 s2 tl sc => ∀ (w : World) (p : Program) (loose : List Str) (mean : ExcName → Option Value) (mg mb : Str → Option Value) (dp un : Nat) (a : Addr) (ccd : Value) (A₀ : Around) (base h₀ : Heap) (L : Addr) (gm : Str → Option Value) (s : Shared) (Q : Flow → Shared → Prop) (E : Value → Shared → Prop) (rest : List (Addr × Obj)) (k : Int) (tt : Tok) (b fx wk bn dw : Addr) (g c : Int) (t0 t1 : Tok) (n : Nat) (oc : Obj) (fvs : List Value) (e0 e1 e2 e3 e4 e5 : Tok) (w0 w1 w2 w3 w5 : Value), Below A₀ base [] h₀ → Fr h₀ L s.heap (fun y => if y = Str.ofString "turn" then some (.int k tt) else if y = Str.ofString "fixed" then some (.ref fx) else if y = Str.ofString "works" then some (.ref wk) else if y = Str.ofString "bounds" then some (.ref bn) else gm y) → (Kf w.params).In h₀ → News h₀ L s.heap ((b, listOf [.int g t0, .int c t1].toArray n) :: (L + 1, oc) :: rest) → Top p loose mean mg mb h₀ → dp + 8 < recursionLimit → un + 64 < cLine → (k = 0 ∨ 0 < k) → oc.data = Data.cell (some (.ref b)) → @Ne Nat (L + 1) b → (∀ p ∈ rest, p.1 ≠ b) → (0 ≤ g ∧ g < 2 ^ 400) → (0 ≤ c ∧ c < 1000) → (wk, instObj 412 dw) ∈ rest → (dw, dictOf [⟨PyData.keyHash w.params (Str.ofString "new_table"), .str (Str.ofString "new_table") e0, w0⟩, ⟨PyData.keyHash w.params (Str.ofString "index"), .str (Str.ofString "index") e1, w1⟩, ⟨PyData.keyHash w.params (Str.ofString "put"), .str (Str.ofString "put") e2, w2⟩, ⟨PyData.keyHash w.params (Str.ofString "length"), .str (Str.ofString "length") e3, w3⟩, ⟨PyData.keyHash w.params (Str.ofString "compared"), .str (Str.ofString "compared") e4, .ref 543⟩, ⟨PyData.keyHash w.params (Str.ofString "called"), .str (Str.ofString "called") e5, w5⟩] 6) ∈ rest → (fx, listOf fvs.toArray 0) ∈ rest → RowsIn rest fixedRows fvs →
   (∀ (g' c' : Int) (t0' t1' : Tok) (m' : Str → Option Value) (h' : Heap) (tk' : Nat), (0 ≤ g' ∧ g' < 2 ^ 400) → (0 ≤ c' ∧ c' ≤ c + 65) → Fr h₀ L h' m' → (∀ y, y ∉ [Str.ofString "turn", Str.ofString "registers", Str.ofString "rows", Str.ofString "told"] → m' y = if y = Str.ofString "turn" then some (.int k tt) else if y = Str.ofString "fixed" then some (.ref fx) else if y = Str.ofString "works" then some (.ref wk) else if y = Str.ofString "bounds" then some (.ref bn) else gm y) → News h₀ L h' ((b, listOf [.int g' t0', .int c' t1'].toArray n) :: (L + 1, oc) :: rest) → Q .next { s with heap := h', toks := tk' }) →
   wpAny (model PySem.Challenge.rw_pc0174_02.row.prog w) (ktrTop dp un (some []) (Str.ofString "law") sc L a ccd (cellsFrom (L + 1) sc.names []) []) (execs (s0 :: s1 :: s2 :: tl) (envOfC (Str.ofString "law") sc L a ccd)) Q E s := by
  have htail := tail_ok
  dsimp only [lawP] at htail ⊢
  k_fill
  intro w p loose mean mg mb dp un a ccd A₀ base h₀ L gm s Q E rest k tt b fx wk bn dw g c t0 t1 n oc fvs e0 e1 e2 e3 e4 e5 w0 w1 w2 w3 w5 B F X N T hd9 hu9 hk hoc hLb hrb hg hc hm3 hm4 hm5 hro hret
  obtain ⟨hg0, hg1⟩ := hg
  obtain ⟨hc0, hc1⟩ := hc
  k_steps
  refine Stop.mk ?_
  refine LCg.CompSrc.range (by rfl) (by k_asm) (by k_asm) (by assumption) (by decide) (by rfl) (by exact Nat.le_of_ble_eq_true rfl) ?_
  intro gg
  refine compU_inv (n := 5) (fun i ys nw => ∃ (g' c' : Int) (t0' t1' : Tok) (xs : List RV), nw = (b, listOf [.int g' t0', .int c' t1'].toArray n) :: (L + 1, oc) :: rest ∧ (0 ≤ g' ∧ g' < 2 ^ 400) ∧ (c' = c + i) ∧ RVs xs ys ∧ xs.length = i ∧ allFine xs) ?turn ?fin 5 0 [] _ rfl ⟨g, c, t0, t1, [], rfl, ⟨hg0, hg1⟩, by simp, trivial, rfl, fun _ h => nomatch h⟩
  case turn =>
    intro i2 ys nw v I2 oI C2 oC D2 m₂ h₃ tk₃ E' hi2 hj3 hv hC hx'' F3 N3 off3 ne3
    obtain ⟨g', c', t0', t1', xs, rfl, hg', rfl, hys, hxl, hfn⟩ := hj3
    have hc' : 0 ≤ c + (i2 : Int) ∧ c + (i2 : Int) < 2 ^ 20 := ⟨by omega, by omega⟩
    simp only [LCg.Off3] at off3
    k_steps
    (rename _ ∈ poolRV => hxp); (rename RV.Is _ _ => hxv)
    refine LCg.CompEnd.intro (by k_asm) (by assumption) _ (fun _ hp => hp) (by exact off3) trivial ⟨_, _, _, _, xs ++ [_], rfl, by assumption, by push_cast; omega, RVs.append hys ⟨hxv, trivial⟩, ?_, fine_snoc hfn (pool_fine hxp)⟩
    rw [List.length_append, hxl]; rfl
  case fin =>
    intro ys nw hj3
    obtain ⟨g', c', t0', t1', xs, rfl, hg', rfl, hys, hxl, hfn⟩ := hj3
    (rename Fr _ _ _ _ => lF0); (rename News _ _ _ _ => lN0); clear lF0 lN0
    rcases hk with rfl | hk
    · k_steps
      refine Stop.mk ?_
      (rename Fr _ _ _ _ => lF); (rename News _ _ _ _ => lN)
      refine' htail _ _ _ _ _ _ _ _ _ _ _ _ _ _ _ _ _ _ _ fx _ wk bn dw 0 _ fvs _ fixedRows [.int 5, .bool false, .int 6, .int 7, .int 8] e0 e1 e2 e3 e4 e5 w0 w1 w2 w3 w5 B (fr_as lF fun y => put_same ?h1 (put_same ?h2 (put_same ?h3 (put_same ?h4 rfl)))) X lN T hd9 hu9 ?m1 (.head _) ?m3 ?m4 (hro.more ?mo) ⟨⟨_, rfl⟩, rfl, ⟨_, rfl⟩, ⟨_, rfl⟩, ⟨_, rfl⟩, trivial⟩ rfl first_fine fixed_ok ?fin2
      case h1 => rfl
      case h2 => rfl
      case h3 => rfl
      case h4 => rfl
      case m1 => exact .tail _ (.tail _ (.tail _ (.tail _ hm5)))
      case m3 => exact .tail _ (.tail _ (.tail _ (.tail _ hm3)))
      case m4 => exact .tail _ (.tail _ (.tail _ (.tail _ hm4)))
      case mo => exact fun q hq => .tail _ (.tail _ (.tail _ (.tail _ hq)))
      case fin2 =>
        intro v9 h9 tk9 F9 N9
        exact hret _ _ _ _ _ _ _ hg' ⟨by omega, by omega⟩ F9 (fun y hy => by simp only [List.mem_cons, List.not_mem_nil, or_false, not_or] at hy; simp only [hy, if_false]; exact two_same (by decide +kernel) (by decide +kernel)) fun q hq => N9 q (.tail _ (.tail _ hq))
    · k_steps
      refine Stop.mk ?_
      (rename Fr _ _ _ _ => lF); (rename News _ _ _ _ => lN); (rename _ ∧ _ ∧ LCg.Off1 _ _ => lo)
      refine' program_ok _ _ _ _ _ _ _ _ _ _ _ _ _ _ _ _ _ _ _ _ _ _ _ _ _ _ _ _ _ _ B lF X (news_swap lN) T rfl ?kd ?ku (off_two (Ne.symm lo.1) hLb hrb) hg' ⟨by omega, by omega⟩ ?fin3
      case kd => ktr_room
      case ku => ktr_units
      case fin3 =>
        intro D9 kr9 rvs9 rows9 g9 c9 t09 t19 out9 h9 tk9 hok9 hro9 hg9 hc9 hsub9 hne9 hlt9 F9 N9
        clear lF lN
        k_steps
        refine Stop.mk ?_
        (rename Fr _ _ _ _ => lF); (rename News _ _ _ _ => lN)
        refine' htail _ _ _ _ _ _ _ _ _ _ _ _ _ _ _ _ _ _ _ D9 _ wk bn dw _ ys.length rvs9 ys rows9 xs e0 e1 e2 e3 e4 e5 w0 w1 w2 w3 w5 B (fr_as lF fun y => put_same ?h1 (put_same ?h2 (put_same ?h3 (put_same ?h4 rfl)))) X lN T hd9 hu9 (.head _) ?m2 ?m3 ?m4 (hro9.more ?mo) hys hxl hfn hok9 ?fin2
        case h1 => rfl
        case h2 => rfl
        case h3 => rfl
        case h4 => rfl
        case m2 => exact List.Mem.tail _ (.tail _ (hsub9 (_, LCg.lst ys) (.head _)))
        case m3 => exact .tail _ (.tail _ (hsub9 _ (.tail _ (.tail _ hm3))))
        case m4 => exact .tail _ (.tail _ (hsub9 _ (.tail _ (.tail _ hm4))))
        case mo => exact fun q hq => .tail _ (.tail _ hq)
        case fin2 =>
          intro v9 h9 tk9 F9 N9
          refine hret g9 c9 t09 t19 _ _ _ hg9 ⟨by omega, by omega⟩ F9 (fun y hy => by simp only [List.mem_cons, List.not_mem_nil, or_false, not_or] at hy; simp only [hy, if_false]; exact two_same (by decide +kernel) (by decide +kernel)) fun q hq => N9 q (.tail _ ?_)
          rcases List.mem_cons.mp hq with rfl | hq
          · exact .head _
          · exact .tail _ (hsub9 _ (.tail _ hq))

end Mine
end
theorem Mine.reset59 : (1 : Nat) < 2 := by first | (walk1; done) | decide
section
open PySem PySem.W PyProof.Rows
namespace Mine
theorem deeper_caller (q : Str) (sc : Scope) (L a : Addr) (cd : Value) : callerA.deeper (envOfC q sc L a cd) = ktrTop 302 7 (some []) q sc L a cd (cellsFrom (L + 1) sc.names []) [] := rfl
end Mine
end
section
open PySem PySem.W PyProof.Rows
set_option maxHeartbeats 40000000
open Mine

local macro_rules | `(tactic| walk_at "call ref") => `(tactic| (first | (k_here; k_dflt (apply limits_ok; walk_at "z8"; k_whole); intro x dx es ne h' tk' hlt hlt2 F' N'; (try k_sweep); (try k_lt hlt); (try k_lt2 hlt2)) | walk_at "zc"))

theorem PySem.Challenge.cw_pc0174_02_holds : PySem.Challenge.rw_pc0174_02.Holds := by
  refine holds_law said fun said' => ?_
  refine holds_open (q := vw) (loose := lo) (Xt := Xt vw) (XP := XL vw []) (Yf := Hook.obs H) (Ya := Hook.val H) (YP := Hook.says H) (N := 7500) left (Hook.of H) (Hook.keeps H) (fun s e => xl_of s (Bool.and_eq_true_iff.mp e).1) XL.keeps (by rfl) (by rfl) (by rfl) (fun s e => recFacts_of (Bool.and_eq_true_iff.mp e).2) (by first | rfl) said' (by decide +kernel) ⟨rfl, rfl, rfl, rfl, rfl, by decide +kernel⟩ ?hw ?hc
  case hw => w_witness2
  case hc =>
    delta Mine.H
    k_go0
    simp only [deeper_caller]
    (all_goals try k_fold)
    (rename ¬ ((63 : Int) < _) => hlen)
    (rename IntsAre _ _ => hints)
    have hn63 : List.length _ ≤ 63 := Int.ofNat_le.mp (Int.not_lt.mp hlen)
    k_steps
    refine Stop.mk ?_
    (rename Fr _ _ _ _ => lF'); (rename News _ _ _ _ => lN'); (rename IsRange _ _ _ _ _ _ _ _ => lR')
    have lN2 := news_main lN'
    clear lN'
    simp only [nm_ts, nm_ml.1.1, nm_ml.2.1, nm_ml.2.2] at lN2
    with_unfolding_all refine iter_rangeUnr (n := 4) (by rfl) lR' (by decide) (by decide) lF' lN2 ?_
    clear lF'
    intro I hI
    (rename 0 ≤ _ ∧ _ < 2 ^ 400 => hg0)
    have hturn := turn_ok
    dsimp only [lawP] at hturn
    refine' rangeRest_ofN [Str.ofString "turn", Str.ofString "registers", Str.ofString "rows", Str.ofString "told"]
      (fun i gm nw => ∃ (gb cb : Int) (t0 t1 : Tok), nw = (_, W.listOf #[Value.int gb t0, Value.int cb t1] _) :: (_, _) :: _ ∧ (0 ≤ gb ∧ gb < 2 ^ 400) ∧ (0 ≤ cb ∧ cb ≤ 65 * i)) ?turn ?done ⟨_, _, _, _, rfl, hg0, ?hcz⟩
    case hcz => (constructor <;> simp)
    case turn =>
      intro i gm nw t h₂ tk₂ hi hj F2 N2
      obtain ⟨gb, cb, t0, t1, rfl, hgb, hcb⟩ := hj
      refine' hturn _ _ _ _ _ _ _ _ _ _ _ _ _ _ _ _ _ _ ((_, _) :: (_, instObj 412 _) :: (_, dictOf _ 6) :: (_, W.listOf (List.toArray [_, _, _, _]) 0) :: _) _ _ _ _ _ _ _ _ _ _ _ _ _ [_, _, _, _] _ _ _ _ _ _ _ _ _ _ _ ?kB (fr_as F2 fun y => put_same ?h1 (put_same ?h2 (put_same ?h3 (put_same ?h4 rfl)))) ?kX (news_turn N2) ?kT ?kd ?ku ?k0 ?koc ?kLb ?krb hgb ?kc (.tail _ (.head _)) (.tail _ (.tail _ (.head _))) (.tail _ (.tail _ (.tail _ (.head _)))) ?kro ?kret
      case kB => assumption
      case kX => assumption
      case kT => assumption
      case h1 => exact if_pos rfl
      case h2 => rfl
      case h3 => rfl
      case h4 => rfl
      case kd => decide
      case ku => decide
      case k0 => omega
      case koc => assumption
      case kLb => k_ne
      case krb =>
        refine List.forall_mem_cons.mpr ⟨Nat.ne_of_gt (hI _ (.head _)), ?_⟩
        repeat (first | exact (fun _ h => absurd h List.not_mem_nil) | refine List.forall_mem_cons.mpr ⟨by k_ne, ?_⟩)
      case kc => exact ⟨hcb.1, by omega⟩
      case kro => exact ⟨⟨_, _, _, _, _, rfl, by k_mem⟩, ⟨_, _, _, _, _, rfl, by k_mem⟩, ⟨_, _, _, _, _, rfl, by k_mem⟩, ⟨_, _, _, _, _, rfl, by k_mem⟩, trivial⟩
      case kret =>
        intro g' c' t0' t1' m' h' tk' hg' hc' F' hm' N'
        refine unrEnd_of F' (news_unturn N') 1 (.head _) (lt_same hI) ⟨?keep, g', c', t0', t1', rfl, hg', hc'.1, by push_cast; omega⟩
        exact keep_lem (.head _) hm' (by rfl) (by rfl) (by rfl)
    case done =>
      intro gm nw h₂ tk₂ hj F2 N2
      obtain ⟨gb, cb, t0, t1, rfl, hgb, hcb⟩ := hj
      k_steps
end
