import PyProof.Rows.All
import Wide.All
import OpenK.AllK
import Wide.FinOn
import PySem.Challenge.RW_pq0466_01
set_option Elab.async false
set_option maxRecDepth 100000
set_option compiler.extract_closed false
open PySem PySem.W PyProof.Rows
namespace Gate
def view : PySem.Program := PySem.W.view PySem.Challenge.pw_pq0466_01 [0, 2, 4, 5, 6, 8, 9, 10, 11, 13, 14, 16, 17, 18, 19, 20]
end Gate
local macro_rules | `(tactic| o_head $H:term) => `(tactic| (
  refine PySem.W.holds_open (q := Gate.view) (loose := []) (Xt := fun s => xlAt Gate.view [] s && recOk (RowW.records (OpenRow.toRowW (OpenLaw.row PySem.Challenge.rw_pq0466_01))) s) (XP := XL Gate.view []) (Yf := Hook.obs $H) (Ya := Hook.val $H) (YP := Hook.says $H) (N := 3966) ?hl (Hook.of $H) (Hook.keeps $H) (fun s e => xl_of s (Bool.and_eq_true_iff.mp e).1) XL.keeps (by rfl) (by rfl) (by rfl) (fun s e => recFacts_of (Bool.and_eq_true_iff.mp e).2) (by rfl) (by first | assumption | decide +kernel) (by decide +kernel) ⟨rfl, rfl, rfl, rfl, rfl, by decide +kernel⟩ ?hw ?hc
  (case hl =>
    unfold LeftO openEnds fencedOpening topFrom
    rw [PySem.W.Fast.te4187177175401517315, PySem.W.Fast.te5923862056798008813, PySem.W.Fast.te2368527892694137696, PySem.W.Fast.te14364793385576792824, PySem.W.Fast.te14082659384304107361, PySem.W.Fast.te10274390034422433532, PySem.W.Fast.te14289696077712309145, PySem.W.Fast.te1435165496053646825]
    intro w
    kernel_rfl)))
set_option maxHeartbeats 8000000 in
open_top Gate.hd for PySem.Challenge.rw_pq0466_01

namespace Gate
section
/-- the caller's ground -/
structure Gd (w : World) (mean : ExcName → Option Value) (mg mb : Str → Option Value) (cs : Scope) (A₀ : Around) (base : Heap) (outer : List Env) (h₀ : Heap) (L : Addr) (h : Heap) (m : Str → Option Value) (news : List (Addr × Obj)) : Prop where
  B : Below A₀ base outer h₀
  F : Fr h₀ L h m
  X : (Gate.hd.heap_39 w.params).In h₀
  N : News h₀ L h news
  T : Top Gate.view (looseW Gate.view []) mean mg mb h₀
  hk : cs.kind = .function
abbrev handO (xl : Addr) (k : Int) (tk : Tok) (e : Nat) : Obj := listOf #[.ref xl, .int k tk] e

def CellC (w : World) (mean : ExcName → Option Value) (mg mb : Str → Option Value) : Prop :=
  ∀ (dp un : Nat) (gd : Option (List Code)) (cn : Str) (cs : Scope) (a : Addr) (ccd : Value) (cl : List (Str × Addr)) (outer : List Env) (A₀ : Around) (base h₀ : Heap) (L : Addr) (m : Str → Option Value) (s : Shared) (Q E : Value → Shared → Prop)
    (hl xl : Addr) (vs : List Value) (ns : List Int) (k : Int) (tk : Tok) (e1 e2 : Nat) (frz : List (Addr × Obj)),
    Gd w mean mg mb cs A₀ base outer h₀ L s.heap m ((hl, handO xl k tk e1) :: frz) →
    (xl, listOf vs.toArray e2) ∈ frz → IntsAre vs ns → vs.length ≤ 63 → 0 ≤ k → (∀ p ∈ frz, p.1 ≠ hl) → dp + 5 < recursionLimit → un + 60 < cLine →
    (∀ c t h' t1 t2, Fr h₀ L h' m → News h₀ L h' ((hl, handO xl (k + 1) t1 e1) :: frz) → Q (.int c t) { s with heap := h', toks := t2 }) →
    wpAny (model PySem.Challenge.rw_pq0466_01.row.prog w) (ktrTop dp un gd cn cs L a ccd cl outer) (call (.ref 311) [.ref hl]) Q E s

section
variable {prog : Program} {w : World} {A : Around} {E : Value → Shared → Prop} {s : Shared} {h₀ : Heap} {L l : Addr} {news : List (Addr × Obj)} {vs : List Value} {e : Nat}
theorem gLen {Q : Value → Shared → Prop} (N : News h₀ L s.heap news) (hm : (l, listOf vs.toArray e) ∈ news) (hsz : vs.length ≤ 63)
    (h : Q (.int (vs.length : Int) (s.toks + 1)) { s with toks := s.toks + 1 + 1 }) : wpAny (model prog w) A (call (.builtin "len") [.ref l]) Q E s := by
  have e2 : vs.toArray.size = vs.length := by simp
  exact len_list (News.isList N hm) (by rw [e2]; omega) (by rw [e2]; exact h)
theorem gItemInt {value slice : PySem.Expr} {k : Int} {u : Tok} {ns : List Int} {Q : Value → Shared → Prop} (N : News h₀ L s.heap news) (hm : (l, listOf vs.toArray e) ∈ news) (hi : IntsAre vs ns)
    (h0 : 0 ≤ k) (h1 : k < (vs.length : Int)) (h2 : vs.length ≤ 63) (h : ∀ n t, Q (.int n t) s)
    (hs : subscripted slice false (.ref l) (.int k u) = operate [.ref l, .int k u] (getItem (.ref l) (.int k u))) (hg : ∀ r, letTemporaryGo value (.ref l) r = pure ()) :
    wpAny (model prog w) A (subscriptTail value slice (.ref l) (.int k u)) Q E s := by
  have hlt : k.toNat < ns.length := by rw [← hi.length]; omega
  obtain ⟨t, ht⟩ := hi.get k.toNat ns[k.toNat] (by simp [hlt])
  exact item_list (News.isList N hm) h0 (by omega) (by simpa using ht) (h _ _) hs hg
end
theorem ofAllLt {d : Addr} {l : List (Addr × Obj)} (h : AllLt d l) : ∀ p ∈ l, p.1 < d := ktn_ltOf h
theorem neOfLt {d : Addr} {l : List (Addr × Obj)} (h : ∀ p ∈ l, p.1 < d) : ∀ p ∈ l, p.1 ≠ d := fun p hp => Nat.ne_of_lt (h p hp)
def txt (n : Int) : Str := Str.ofString (toString n)
abbrev tupO (vs : List Value) (e : Nat) : Obj := { cls := .type "tuple", data := .seq vs.toArray e }
theorem newsSub {h₀ h : Heap} {L : Addr} {l l' : List (Addr × Obj)} (N : News h₀ L h l) (hs : ∀ p ∈ l', p ∈ l) : News h₀ L h l' := fun p hp => N p (hs p hp)
theorem log2_36 {n : Int} (hn : n.natAbs < 10 ^ 36) : n.natAbs.log2 < 1920 := by
  by_cases h0 : n.natAbs = 0
  · rw [h0]; decide +kernel
  · refine Nat.lt_of_lt_of_le ((Nat.log2_lt (k := 120) h0).mpr (Nat.lt_of_lt_of_le hn ?_)) (by decide)
    decide +kernel
section
variable {prog : Program} {w : World} {A : Around} {E : Value → Shared → Prop} {s : Shared} {h₀ : Heap} {L l : Addr} {m : Str → Option Value} {news : List (Addr × Obj)} {vs : List Value} {e : Nat}
theorem gStr {n : Int} {t : Tok} {Q : Value → Shared → Prop} (hn : n.natAbs < 10 ^ 36) (h : ∀ t tk, Q (.str (txt n) t) { s with toks := tk }) : wpAny (model prog w) A (call (.type "str") [.int n t]) Q E s :=
  P.str_of_int (log2_36 hn) (h _ _)
theorem gAbs {n : Int} {t : Tok} {Q : Value → Shared → Prop} (h : ∀ u tk, Q (.int (n.natAbs : Int) u) { s with toks := tk }) : wpAny (model prog w) A (call (.builtin "abs") [.int n t]) Q E s :=
  call_abs_int fun u tk => by
    have e : (if n < 0 then -n else n) = (n.natAbs : Int) := by split <;> omega
    rw [e]; exact h u tk
theorem gJoin {x : Str} {t : Tok} {D : Addr} {items : Array Value} {ys : List Str} {Q : Value → Shared → Prop} (N : News h₀ L s.heap news) (hm : (D, listOf items e) ∈ news) (hi : StrsAre items.toList ys) (B : Nat) (hB : ∀ y ∈ ys, y.length ≤ B) (hok : ys.length * (B + x.length) ≤ 16777216)
    (h : ∀ t' k, Q (.str (Txt.join x ys) t') { s with toks := k }) : wpAny (model prog w) A (call (.builtin "str.join") [.str x t, .ref D]) Q E s := by
  refine join_list (News.isList N hm) hi ?_ h
  have key : ∀ l : List Str, (∀ y ∈ l, y.length ≤ B) → (l.map (·.length)).sum + l.length * x.length ≤ l.length * (B + x.length) := by
    intro l
    induction l with
    | nil => intro _; simp
    | cons y r ih =>
      intro hl
      have h1 := hl y (.head _)
      have h2 := ih fun z hz => hl z (.tail _ hz)
      simp only [List.map_cons, List.sum_cons, List.length_cons, Nat.add_mul, Nat.one_mul] at h2 ⊢
      omega
  exact Nat.le_trans (key ys hB) hok
theorem newsTail {x : Addr × Obj} (N : News h₀ L s.heap (x :: news)) : News h₀ L s.heap news := fun p hp => N p (.tail _ hp)
theorem gDivmod {a b : Int} {t u : Tok} {Q : Value → Shared → Prop} (F : Fr h₀ L s.heap m) (N : News h₀ L s.heap news) (hb : 0 < b) (hb2 : b < 10 ^ 36)
    (h : ∀ d h' t1 t2 tk, Fr h₀ L h' m → News h₀ L h' ((d, tupO [.int (a / b) t1, .int (a % b) t2] 0) :: news) → (∀ p ∈ news, p.1 < d) → Q (.ref d) { s with heap := h', toks := tk }) :
    wpAny (model prog w) A (call (.builtin "divmod") [.int a t, .int b u]) Q E s := by
  refine divmod_N F N (by omega) (fun h' F' N' => ?_) (Or.inl (PyProof.noPylong_of_log2 (Nat.lt_trans (log2_36 (by omega)) (by decide))))
  rw [Int.fdiv_eq_ediv_of_nonneg _ (by omega), Int.fmod_eq_emod_of_nonneg _ (by omega)] at N'
  exact h _ _ _ _ _ F' N' fun p hp => Heap.lt_size (N p hp).1
theorem gItemNat {value slice : PySem.Expr} {k : Nat} {u : Tok} {v : Value} {Q : Value → Shared → Prop} (N : News h₀ L s.heap news) (hm : (l, listOf vs.toArray e) ∈ news) (hx : vs[k]? = some v) (h2 : vs.length ≤ 63) (h : Q v s)
    (hs : subscripted slice false (.ref l) (.int (k : Int) u) = operate [.ref l, .int (k : Int) u] (getItem (.ref l) (.int (k : Int) u))) (hg : ∀ r, letTemporaryGo value (.ref l) r = pure ()) :
    wpAny (model prog w) A (subscriptTail value slice (.ref l) (.int (k : Int) u)) Q E s := by
  have hlt : k < vs.length := (List.getElem?_eq_some_iff.mp hx).1
  exact item_list (News.isList N hm) (by omega) (by omega) (by simpa using hx) h hs hg
theorem gNewList {Q : Value → Shared → Prop} (F : Fr h₀ L s.heap m) (N : News h₀ L s.heap news) (hsz : vs.length ≤ 60)
    (h : ∀ l h', Fr h₀ L h' m → News h₀ L h' ((l, listOf vs.toArray 0) :: news) → (∀ p ∈ news, p.1 < l) → Q (.ref l) { s with heap := h' }) : wpAny (model prog w) A (newList vs) Q E s :=
  newList_K F N h (by rw [sizeLine_eq]; omega)
theorem gNewTuple {Q : Value → Shared → Prop} (F : Fr h₀ L s.heap m) (N : News h₀ L s.heap news) (hsz : vs.length ≤ 60)
    (h : ∀ l h', Fr h₀ L h' m → News h₀ L h' ((l, tupO vs 0) :: news) → (∀ p ∈ news, p.1 < l) → Q (.ref l) { s with heap := h' }) : wpAny (model prog w) A (newTuple vs) Q E s :=
  newTuple_N F N (fun h' F' N' => h _ h' F' N' fun p hp => Heap.lt_size (N p hp).1) (by rw [sizeLine_eq]; omega)
theorem gAppend {D : Addr} {n : Nat} {x : Value} {news' : List (Addr × Obj)} {Q : Value → Shared → Prop} (F : Fr h₀ L s.heap m) (N : News h₀ L s.heap news) (U : Upd D (listOf vs.toArray n) (listOf (vs ++ [x]).toArray (n + 1)) news news')
    (hsz : vs.length ≤ 1000) (h : ∀ h', Fr h₀ L h' m → News h₀ L h' news' → Q .none { s with heap := h' }) : wpAny (model prog w) A (call (.builtin "list.append") [.ref D, x]) Q E s :=
  append_K (its := vs.toArray) F N (by simpa using U) h (by rw [sizeLine_eq, List.size_toArray]; omega)
theorem gPow18 {t u : Tok} {Q : Value → Shared → Prop} (h : ∀ t tk, Q (.int 1000000000000000000 t) { s with toks := tk }) : wpAny (model prog w) A (binaryOp .Pow (.int 10 t) (.int 18 u)) Q E s :=
  pow_int_small (by decide) (by decide) (by decide) (by rw [show (10 : Int) ^ (Int.toNat 18) = 1000000000000000000 by decide +kernel]; exact h _ _)
theorem gPow30 {t u : Tok} {Q : Value → Shared → Prop} (h : ∀ t tk, Q (.int 1000000000000000000000000000000 t) { s with toks := tk }) : wpAny (model prog w) A (binaryOp .Pow (.int 10 t) (.int 30 u)) Q E s :=
  pow_int_small (by decide) (by decide) (by decide) (by rw [show (10 : Int) ^ (Int.toNat 30) = 1000000000000000000000000000000 by decide +kernel]; exact h _ _)
theorem gWhlYes {b : Prop} [Decidable b] {T F : Prop} (hb : b) (h : T) : WhlIf (decide b) T F := WhlIf.yes (decide_eq_true hb) h
theorem gWhlNo {b : Prop} [Decidable b] {T F : Prop} (hb : ¬ b) (h : F) : WhlIf (decide b) T F := WhlIf.no (decide_eq_false hb) h
end
theorem z1 {M : Model} {A : Around} {Q : Value → Shared → Prop} {E : Value → Shared → Prop} {s : Shared} {v1 : Addr} (h : wpAny M A (call (Value.builtin "len") [Value.ref v1]) Q E s) : wpAny M A (call (Value.builtin "len") [Value.ref v1]) Q E s := h
theorem z2 {M : Model} {A : Around} {Q : Value → Shared → Prop} {E : Value → Shared → Prop} {s : Shared} {v1 : Addr} {v2 : Int} {v3 : Tok} {v4 : PySem.Expr} {v5 : PySem.Expr} (h : wpAny M A (subscriptTail v4 v5 (Value.ref v1) (Value.int v2 v3)) Q E s) : wpAny M A (subscriptTail v4 v5 (Value.ref v1) (Value.int v2 v3)) Q E s := h
theorem z3 {M : Model} {A : Around} {Q : Value → Shared → Prop} {E : Value → Shared → Prop} {s : Shared} {v1 : Int} {v2 : Tok} (h : wpAny M A (call (Value.builtin "abs") [Value.int v1 v2]) Q E s) : wpAny M A (call (Value.builtin "abs") [Value.int v1 v2]) Q E s := h
theorem z4 {M : Model} {A : Around} {Q : Value → Shared → Prop} {E : Value → Shared → Prop} {s : Shared} {v1 : Int} {v2 : Tok} {v3 : Int} {v4 : Tok} (h : wpAny M A (call (Value.builtin "divmod") [Value.int v1 v2, Value.int v3 v4]) Q E s) : wpAny M A (call (Value.builtin "divmod") [Value.int v1 v2, Value.int v3 v4]) Q E s := h
theorem z5 {M : Model} {A : Around} {Q : Value → Shared → Prop} {E : Value → Shared → Prop} {s : Shared} {v1 : Int} {v2 : Tok} (h : wpAny M A (call (Value.type "str") [Value.int v1 v2]) Q E s) : wpAny M A (call (Value.type "str") [Value.int v1 v2]) Q E s := h
theorem z6 {M : Model} {A : Around} {Q : Value → Shared → Prop} {E : Value → Shared → Prop} {s : Shared} {v1 : Addr} {v2 : Value} (h : wpAny M A (call (Value.builtin "list.append") [Value.ref v1, v2]) Q E s) : wpAny M A (call (Value.builtin "list.append") [Value.ref v1, v2]) Q E s := h
theorem z7 {M : Model} {A : Around} {Q : Value → Shared → Prop} {E : Value → Shared → Prop} {s : Shared} {v1 : Addr} {v2 : Str} {v3 : Tok} (h : wpAny M A (call (Value.builtin "str.join") [Value.str v2 v3, Value.ref v1]) Q E s) : wpAny M A (call (Value.builtin "str.join") [Value.str v2 v3, Value.ref v1]) Q E s := h
theorem z8 {M : Model} {A : Around} {Q : Value → Shared → Prop} {E : Value → Shared → Prop} {s : Shared} {v1 : Int} {v2 : Tok} (h : wpAny M A (call (Value.ref 28) [Value.int v1 v2]) Q E s) : wpAny M A (call (Value.ref 28) [Value.int v1 v2]) Q E s := h
theorem z9 {M : Model} {A : Around} {Q : Value → Shared → Prop} {E : Value → Shared → Prop} {s : Shared} {v1 : Value} (h : wpAny M A (call (Value.ref 208) [v1]) Q E s) : wpAny M A (call (Value.ref 208) [v1]) Q E s := h
theorem z10 {M : Model} {A : Around} {Q : Value → Shared → Prop} {E : Value → Shared → Prop} {s : Shared} {v1 : Addr} {v2 : Nat} {v3 : Tok} {v4 : PySem.Expr} {v5 : PySem.Expr} (h : wpAny M A (subscriptTail v4 v5 (Value.ref v1) (Value.int (Nat.cast v2) v3)) Q E s) : wpAny M A (subscriptTail v4 v5 (Value.ref v1) (Value.int (Nat.cast v2) v3)) Q E s := h
theorem z11 {M : Model} {A : Around} {Q : Value → Shared → Prop} {E : Value → Shared → Prop} {s : Shared} {v1 : Addr} (h : wpAny M A (call (Value.ref 311) [Value.ref v1]) Q E s) : wpAny M A (call (Value.ref 311) [Value.ref v1]) Q E s := h
theorem z12 {M : Model} {A : Around} {Q : Value → Shared → Prop} {E : Value → Shared → Prop} {s : Shared} {v1 : Int} {v2 : Tok} {v3 : Int} {v4 : Tok} (h : wpAny M A (binaryOp Operator.Mod (Value.int v1 v2) (Value.int v3 v4)) Q E s) : wpAny M A (binaryOp Operator.Mod (Value.int v1 v2) (Value.int v3 v4)) Q E s := h
theorem z13 {M : Model} {A : Around} {Q : Value → Shared → Prop} {E : Value → Shared → Prop} {s : Shared} {v1 : Tok} {v2 : Tok} (h : wpAny M A (binaryOp Operator.Pow (Value.int 10 v1) (Value.int 18 v2)) Q E s) : wpAny M A (binaryOp Operator.Pow (Value.int 10 v1) (Value.int 18 v2)) Q E s := h
theorem z14 {M : Model} {A : Around} {Q : Value → Shared → Prop} {E : Value → Shared → Prop} {s : Shared} {v1 : Tok} {v2 : Tok} (h : wpAny M A (binaryOp Operator.Pow (Value.int 10 v1) (Value.int 30 v2)) Q E s) : wpAny M A (binaryOp Operator.Pow (Value.int 10 v1) (Value.int 30 v2)) Q E s := h
theorem z15 {M : Model} {A : Around} {Q : Value → Shared → Prop} {E : Value → Shared → Prop} {s : Shared} {v1 : Int} {v2 : Tok} {v3 : Int} {v4 : Tok} (h : wpAny M A (binaryOp Operator.FloorDiv (Value.int v1 v2) (Value.int v3 v4)) Q E s) : wpAny M A (binaryOp Operator.FloorDiv (Value.int v1 v2) (Value.int v3 v4)) Q E s := h
theorem z16 {M : Model} {A : Around} {Q : Value → Shared → Prop} {E : Value → Shared → Prop} {s : Shared} {v1 : Int} {v2 : Tok} {v3 : Str} {v4 : Tok} {v5 : PySem.Expr} {v6 : PySem.Expr} (h : wpAny M A (subscriptTail v5 v6 (Value.str v3 v4) (Value.int v1 v2)) Q E s) : wpAny M A (subscriptTail v5 v6 (Value.str v3 v4) (Value.int v1 v2)) Q E s := h
theorem z17 {M : Model} {A : Around} {Q : Value → Shared → Prop} {E : Value → Shared → Prop} {s : Shared} {v1 : Str} {v2 : Tok} {v3 : Str} {v4 : Tok} (h : wpAny M A (binaryOp Operator.Add (Value.str v1 v2) (Value.str v3 v4)) Q E s) : wpAny M A (binaryOp Operator.Add (Value.str v1 v2) (Value.str v3 v4)) Q E s := h
theorem z18 {M : Model} {A : Around} {Q : Value → Shared → Prop} {E : Value → Shared → Prop} {s : Shared} {v1 : Str} {v2 : Tok} {v3 : Str} {v4 : Tok} (h : wpAny M A (call (Value.builtin "str.lstrip") [Value.str v1 v2, Value.str v3 v4]) Q E s) : wpAny M A (call (Value.builtin "str.lstrip") [Value.str v1 v2, Value.str v3 v4]) Q E s := h
theorem z19 {M : Model} {A : Around} {Q : Value → Shared → Prop} {E : Value → Shared → Prop} {s : Shared} {v1 : Value} {v2 : Value} (h : wpAny M A (call (Value.ref 316) [v1, v2]) Q E s) : wpAny M A (call (Value.ref 316) [v1, v2]) Q E s := h
theorem z20 {M : Model} {A : Around} {Q : Value → Shared → Prop} {E : Value → Shared → Prop} {s : Shared} {v1 : Addr} {v2 : Tok} {v3 : PySem.Expr} {v4 : PySem.Expr} (h : wpAny M A (subscriptTail v3 v4 (Value.ref v1) (Value.int 0 v2)) Q E s) : wpAny M A (subscriptTail v3 v4 (Value.ref v1) (Value.int 0 v2)) Q E s := h
theorem z21 {M : Model} {A : Around} {Q : Value → Shared → Prop} {E : Value → Shared → Prop} {s : Shared} {v1 : Addr} {v2 : Tok} {v3 : PySem.Expr} {v4 : PySem.Expr} (h : wpAny M A (subscriptTail v3 v4 (Value.ref v1) (Value.int 1 v2)) Q E s) : wpAny M A (subscriptTail v3 v4 (Value.ref v1) (Value.int 1 v2)) Q E s := h
theorem z22 {M : Model} {A : Around} {Q : Value → Shared → Prop} {E : Value → Shared → Prop} {s : Shared} {v1 : Addr} (h : wpAny M A (call (Value.type "tuple") [Value.ref v1]) Q E s) : wpAny M A (call (Value.type "tuple") [Value.ref v1]) Q E s := h
theorem z23 {M : Model} {A : Around} {Q : Value → Shared → Prop} {E : Value → Shared → Prop} {s : Shared} {v1 : Value} {v2 : Value} (h : wpAny M A (call (Value.ref 321) [v1, v2]) Q E s) : wpAny M A (call (Value.ref 321) [v1, v2]) Q E s := h
theorem z24 {M : Model} {A : Around} {Q : Value → Shared → Prop} {E : Value → Shared → Prop} {s : Shared} {v1 : Value} (h : wpAny M A (call (Value.ref 215) [v1]) Q E s) : wpAny M A (call (Value.ref 215) [v1]) Q E s := h
theorem z25 {M : Model} {A : Around} {Q : Value → Shared → Prop} {E : Value → Shared → Prop} {s : Shared} {v1 : Value} (h : wpAny M A (call (Value.ref 311) [v1]) Q E s) : wpAny M A (call (Value.ref 311) [v1]) Q E s := h
theorem z26 {M : Model} {A : Around} {Q : Value → Shared → Prop} {E : Value → Shared → Prop} {s : Shared} {v1 : Int} {v2 : Tok} (h : wpAny M A (call (Value.type "range") [Value.int v1 v2]) Q E s) : wpAny M A (call (Value.type "range") [Value.int v1 v2]) Q E s := h
theorem z27 {M : Model} {A : Around} {Q : Value → Shared → Prop} {E : Value → Shared → Prop} {s : Shared} {v1 : Addr} {v2 : Addr} (h : wpAny M A (binaryOp Operator.Add (Value.ref v1) (Value.ref v2)) Q E s) : wpAny M A (binaryOp Operator.Add (Value.ref v1) (Value.ref v2)) Q E s := h
theorem z28 {M : Model} {A : Around} {Q : Value → Shared → Prop} {E : Value → Shared → Prop} {s : Shared} {v1 : Addr} {v2 : Addr} (h : wpAny M A (compareOp CmpOp.NotEq (Value.ref v1) (Value.ref v2)) Q E s) : wpAny M A (compareOp CmpOp.NotEq (Value.ref v1) (Value.ref v2)) Q E s := h
theorem z29 {M : Model} {A : Around} {Q : Value → Shared → Prop} {E : Value → Shared → Prop} {s : Shared} {v1 : Str} {v2 : Tok} {v3 : Str} {v4 : Tok} (h : wpAny M A (call (Value.builtin "str.split") [Value.str v1 v2, Value.str v3 v4]) Q E s) : wpAny M A (call (Value.builtin "str.split") [Value.str v1 v2, Value.str v3 v4]) Q E s := h
theorem z30 {M : Model} {A : Around} {Q : Value → Shared → Prop} {E : Value → Shared → Prop} {s : Shared} {v1 : Str} {v2 : Tok} (h : wpAny M A (call (Value.type "int") [Value.str v1 v2]) Q E s) : wpAny M A (call (Value.type "int") [Value.str v1 v2]) Q E s := h
theorem z31 {M : Model} {A : Around} {Q : Value → Shared → Prop} {E : Value → Shared → Prop} {s : Shared} {v1 : Addr} {v2 : Tok} {v3 : PySem.Expr} {v4 : PySem.Expr} (h : wpAny M A (subscriptTail v3 v4 (Value.ref v1) (Value.int (-1) v2)) Q E s) : wpAny M A (subscriptTail v3 v4 (Value.ref v1) (Value.int (-1) v2)) Q E s := h
theorem z32 {M : Model} {A : Around} {Q : Value → Shared → Prop} {E : Value → Shared → Prop} {s : Shared} {v1 : Value} (h : wpAny M A (call (Value.ref 203) [v1]) Q E s) : wpAny M A (call (Value.ref 203) [v1]) Q E s := h
theorem z33 {M : Model} {A : Around} {Q : Unit → Shared → Prop} {E : Value → Shared → Prop} {s : Shared} {v1 : Addr} {v2 : Nat} {v3 : Tok} {v4 : Value} (h : wpAny M A (setItem (Value.ref v1) (Value.int (Nat.cast v2) v3) v4) Q E s) : wpAny M A (setItem (Value.ref v1) (Value.int (Nat.cast v2) v3) v4) Q E s := h
theorem z34 {M : Model} {A : Around} {Q : Value → Shared → Prop} {E : Value → Shared → Prop} {s : Shared} {v1 : Addr} {v2 : Tok} {v3 : PySem.Expr} {v4 : PySem.Expr} (h : wpAny M A (subscriptTail v3 v4 (Value.ref v1) (Value.int 2 v2)) Q E s) : wpAny M A (subscriptTail v3 v4 (Value.ref v1) (Value.int 2 v2)) Q E s := h
theorem z35 {M : Model} {A : Around} {Q : Value → Shared → Prop} {E : Value → Shared → Prop} {s : Shared} {v1 : Addr} {v2 : Tok} {v3 : PySem.Expr} {v4 : PySem.Expr} (h : wpAny M A (subscriptTail v3 v4 (Value.ref v1) (Value.int 3 v2)) Q E s) : wpAny M A (subscriptTail v3 v4 (Value.ref v1) (Value.int 3 v2)) Q E s := h
theorem z36 {M : Model} {A : Around} {Q : Value → Shared → Prop} {E : Value → Shared → Prop} {s : Shared} {v1 : Addr} {v2 : Value} (h : wpAny M A (call (Value.ref 189) [v2, Value.ref v1]) Q E s) : wpAny M A (call (Value.ref 189) [v2, Value.ref v1]) Q E s := h
theorem z37 {M : Model} {A : Around} {Q : Value → Shared → Prop} {E : Value → Shared → Prop} {s : Shared} {v1 : Value} {v2 : Value} (h : wpAny M A (call (Value.ref 91) [v1, v2]) Q E s) : wpAny M A (call (Value.ref 91) [v1, v2]) Q E s := h
theorem z38 {M : Model} {A : Around} {Q : Value → Shared → Prop} {E : Value → Shared → Prop} {s : Shared} {v1 : Value} {v2 : Value} (h : wpAny M A (call (Value.ref 70) [v1, v2]) Q E s) : wpAny M A (call (Value.ref 70) [v1, v2]) Q E s := h
theorem lo4 {a k b N : Nat} (h : a + k + b < N) : a + b < N := Nat.lt_of_le_of_lt (Nat.add_le_add_right (Nat.le_add_right a k) b) h
theorem rooms {a b N : Nat} (h : a + b < N) (hb : 20 ≤ b) : a < N ∧ a + 1 < N ∧ a + 1 + 1 < N ∧ a + 1 + 1 + 1 < N ∧ a + 1 + 5 < N ∧ a + 1 + 1 + 8 < N ∧ a + 1 + 1 + 1 + 8 < N := by omega
theorem units {a b N : Nat} (h : a + b < N) (hb : 120 ≤ b) : a + 3 + 60 < N ∧ a + 3 + 3 + 100 < N ∧ a + 3 + 3 + 3 + 100 < N := by omega
theorem deepM {a u d N M : Nat} (h : a + 4 * d + 20 < N) (g : u + 60 * d + 300 < M) (h0 : 0 < d) (h3 : d ≤ 3) : a + 1 + 1 + 4 * (d - 1) + 20 < N ∧ a + 1 + 1 + 1 + 4 * (d - 1) + 20 < N ∧ u + 3 + 3 + 60 * (d - 1) + 300 < M ∧ u + 3 + 3 + 3 + 60 * (d - 1) + 300 < M ∧ d - 1 < d ∧ d - 1 ≤ 3 := by omega
theorem deepO {a u d N M : Nat} {deep : Int} (h : a + 2 * d + 20 < N) (g : u + 20 * d + 200 < M) (h0 : 0 < d) (h3 : d ≤ 3) (hd : deep = 3 - (d : Int)) : a + 1 + 2 * (d - 1) + 20 < N ∧ u + 3 + 20 * (d - 1) + 200 < M ∧ d - 1 < d ∧ d - 1 ≤ 3 ∧ deep + 1 = 3 - ((d - 1 : Nat) : Int) := by omega

end
section
open PySem.NumText
def cl (x : Str) : List Nat := x.cps.toList
theorem str_ext {x y : Str} (h : cl x = cl y) : x = y := by
  cases x; cases y
  simp only [cl] at h
  simp only [Str.mk.injEq]
  exact Array.toList_inj.mp h
theorem cl_append (x y : Str) : cl (x ++ y) = cl x ++ cl y := by
  show (Str.append x y).cps.toList = _
  simp [Str.append, cl]
theorem cl_len (x : Str) : (cl x).length = x.length := by simp [cl, Str.length]
theorem cl_ofList (l : List Char) : cl (Str.ofString (String.ofList l)) = l.map Char.toNat := by
  rw [cl, Str.ofString_eq_toList, String.toList_ofList]
def dg (n : Nat) : List Nat := (Nat.toDigits 10 n).map Char.toNat
theorem cl_txt_nat (n : Nat) : cl (txt (n : Int)) = dg n := by
  show cl (Str.ofString (Nat.repr n)) = _
  rw [Nat.repr_eq_ofList_toDigits, cl_ofList]; rfl
theorem cl_txt_neg {n : Int} (h : n < 0) : cl (txt n) = 45 :: dg n.natAbs := by
  obtain ⟨k, rfl⟩ : ∃ k : Nat, n = Int.negSucc k := ⟨n.natAbs - 1, by omega⟩
  show cl (Str.ofString ("-" ++ Nat.repr (k + 1))) = 45 :: dg (k + 1)
  rw [Nat.repr_eq_ofList_toDigits, show ("-" : String) = String.ofList ['-'] from rfl, ← String.ofList_append, cl_ofList]
  rfl
theorem dg_lt : ∀ {n : Nat}, n < 10 → dg n = [48 + n] := by
  intro n h
  unfold dg
  rw [Nat.toDigits_of_lt_base h]
  have : ∀ m : Nat, m < 10 → (m.digitChar).toNat = 48 + m := by decide
  simp [this n h]
theorem dg_step {n : Nat} (h : 10 ≤ n) : dg n = dg (n / 10) ++ [48 + n % 10] := by
  have e := Nat.toDigits_append_toDigits (b := 10) (n := n / 10) (d := n % 10) (by decide) (by omega) (by omega)
  have e2 : 10 * (n / 10) + n % 10 = n := by omega
  rw [e2] at e
  have e3 : dg (n % 10) = [48 + n % 10] := dg_lt (by omega)
  unfold dg at e3 ⊢
  rw [← e, List.map_append, e3]
theorem val_snoc (cs : List Nat) (c : Nat) : digitsVal (cs ++ [c]) = digitsVal cs * 10 + (c - 48) := by
  unfold digitsVal; rw [List.foldl_append]; rfl
theorem val_append (a b : List Nat) : digitsVal (a ++ b) = digitsVal a * 10 ^ b.length + digitsVal b := by
  have key : ∀ (b : List Nat) (x : Nat), b.foldl (fun acc c => acc * 10 + (c - 48)) x = x * 10 ^ b.length + b.foldl (fun acc c => acc * 10 + (c - 48)) 0 := by
    intro b
    induction b with
    | nil => intro x; simp
    | cons c r ih =>
      intro x
      rw [List.foldl_cons, ih, List.foldl_cons, ih (0 * 10 + (c - 48)), List.length_cons, Nat.pow_succ]
      rw [Nat.add_mul, Nat.zero_mul, Nat.zero_add, Nat.mul_assoc, Nat.mul_comm 10, Nat.add_assoc]
  unfold digitsVal
  rw [List.foldl_append]
  exact key b _
theorem dg_spec (n : Nat) : AllDigits (dg n) ∧ digitsVal (dg n) = n ∧ dg n ≠ [] ∧ (0 < n → ∃ c r, dg n = c :: r ∧ 49 ≤ c) := by
  induction n using Nat.strongRecOn with
  | ind n ih =>
    by_cases h : n < 10
    · rw [dg_lt h]
      refine ⟨fun c hc => ?_, ?_, by simp, fun h0 => ⟨_, _, rfl, by omega⟩⟩
      · have := List.mem_singleton.mp hc; omega
      · show 0 * 10 + (48 + n - 48) = n; omega
    · obtain ⟨h1, h2, h3, h4⟩ := ih (n / 10) (by omega)
      rw [dg_step (by omega)]
      refine ⟨fun c hc => ?_, ?_, by simp, fun _ => ?_⟩
      · rcases List.mem_append.mp hc with hc | hc
        · exact h1 c hc
        · have := List.mem_singleton.mp hc; omega
      · rw [val_snoc, h2]; omega
      · obtain ⟨c, r, e, hc⟩ := h4 (by omega)
        exact ⟨c, r ++ [48 + n % 10], by rw [e]; rfl, hc⟩
theorem ofNat_digits {cs : List Nat} (h : AllDigits cs) : (cs.map Char.ofNat).map Char.toNat = cs := by
  rw [List.map_map]
  have key : ∀ c, 48 ≤ c → c ≤ 57 → (Char.toNat ∘ Char.ofNat) c = c := by
    intro c h1 h2
    have : ∀ m : Nat, m < 58 → 48 ≤ m → (Char.toNat ∘ Char.ofNat) m = m := by decide
    exact this c (by omega) h1
  conv => rhs; rw [← List.map_id cs]
  refine List.map_congr_left fun c hc => ?_
  exact key c (h c hc).1 (h c hc).2
theorem dg_of {cs : List Nat} (h : AllDigits cs) (hc : ∃ c r, cs = c :: r ∧ 49 ≤ c) : dg (digitsVal cs) = cs := by
  obtain ⟨c, r, e, h9⟩ := hc
  have := toDigits_digitsVal r.length cs (by rw [e]; rfl) h (Or.inr ⟨c, r, e, h9⟩)
  unfold dg
  rw [this, ofNat_digits h]
theorem dg_len {n k : Nat} (hk : 0 < k) (h : n < 10 ^ k) : (dg n).length ≤ k := by
  unfold dg
  rw [List.length_map]
  exact (Nat.length_toDigits_le_iff (by decide) hk).mpr h
theorem allD_append {a b : List Nat} (ha : AllDigits a) (hb : AllDigits b) : AllDigits (a ++ b) := fun c hc => (List.mem_append.mp hc).elim (ha c) (hb c)
theorem allD_zeros (k : Nat) : AllDigits (List.replicate k 48) := fun c hc => by rw [(List.mem_replicate.mp hc).2]; decide
theorem val_zeros (k : Nat) : digitsVal (List.replicate k 48) = 0 := by
  induction k with
  | zero => rfl
  | succ k ih => rw [List.replicate_succ]; exact ih
/-- a number by its head and its last eighteen digits -/
theorem dg_split {q r : Nat} (hq : 0 < q) (hr : r < 10 ^ 18) : dg (q * 10 ^ 18 + r) = dg q ++ (List.replicate (18 - (dg r).length) 48 ++ dg r) := by
  obtain ⟨a1, a2, _, a4⟩ := dg_spec q
  obtain ⟨b1, b2, _, _⟩ := dg_spec r
  have hl : (dg r).length ≤ 18 := dg_len (by decide) hr
  have e : digitsVal (dg q ++ (List.replicate (18 - (dg r).length) 48 ++ dg r)) = q * 10 ^ 18 + r := by
    rw [val_append, val_append, val_zeros, a2, b2, List.length_append, List.length_replicate, show 18 - (dg r).length + (dg r).length = 18 by omega]
    omega
  rw [← e]
  refine dg_of (allD_append a1 (allD_append (allD_zeros _) b1)) ?_
  obtain ⟨c, t, h1, h2⟩ := a4 hq
  exact ⟨c, _, by rw [h1]; rfl, h2⟩
theorem len_txt {n : Int} (h : n.natAbs < 10 ^ 36) : (txt n).length ≤ 37 := by
  rw [← cl_len]
  by_cases h0 : n < 0
  · rw [cl_txt_neg h0, List.length_cons]
    have := dg_len (k := 36) (by decide) h
    omega
  · obtain ⟨k, rfl⟩ : ∃ k : Nat, n = (k : Int) := ⟨n.natAbs, by omega⟩
    rw [cl_txt_nat]
    have := dg_len (k := 36) (by decide) (n := k) (by simpa using h)
    omega
theorem len_txt' {n : Int} (h : n.natAbs < 10 ^ 36) : (txt n).length ≤ 100 := Nat.le_trans (len_txt h) (by decide)
theorem cl_join1 (a : Str) : Txt.join (Str.ofString "") [a] = a := rfl
theorem cl_empty : cl (Str.ofString "") = [] := by decide +kernel
theorem cl_join2 (a b : Str) : cl (Txt.join (Str.ofString "") [a, b]) = cl a ++ cl b := by
  show cl (Builtin.Str.glued _ _) = _
  rw [StrLaws.glued_eq_join]
  show cl (a ++ Str.ofString "" ++ b) = _
  rw [cl_append, cl_append, cl_empty, List.append_nil]
theorem cl_join3 (a b c : Str) : cl (Txt.join (Str.ofString "") [a, b, c]) = cl a ++ cl b ++ cl c := by
  show cl (Builtin.Str.glued _ _) = _
  rw [StrLaws.glued_eq_join]
  show cl (a ++ Str.ofString "" ++ (b ++ Str.ofString "" ++ c)) = _
  simp only [cl_append, cl_empty, List.append_nil, List.append_assoc]
theorem cl_minus : cl (Str.ofString "-") = [45] := by decide +kernel
theorem cl_rj (n : Nat) : cl (Txt.rjustF (txt (n : Int)) 18 ((Str.ofString "0").cps.getD 0 0)) = List.replicate (18 - (dg n).length) 48 ++ dg n := by
  have e : (Str.ofString "0").cps.getD 0 0 = 48 := by decide +kernel
  rw [e, cl, rjustF_list, ← cl_len]
  show List.replicate (Int.toNat 18 - _) 48 ++ cl _ = _
  rw [cl_txt_nat]; rfl
theorem len_rj {n : Nat} (h : n < 10 ^ 18) : (Txt.rjustF (txt (n : Int)) 18 ((Str.ofString "0").cps.getD 0 0)).length ≤ 100 := by
  rw [← cl_len, cl_rj, List.length_append, List.length_replicate]
  have := dg_len (k := 18) (by decide) h
  omega
theorem len_rj' {a : Int} (h : 0 ≤ a ∧ a < 1000000000000000000) : (Txt.rjustF (txt a) 18 ((Str.ofString "0").cps.getD 0 0)).length ≤ 100 := by
  obtain ⟨k, rfl⟩ : ∃ k : Nat, a = (k : Int) := ⟨a.toNat, by omega⟩
  exact len_rj (by omega)
theorem whole1 {n : Int} (h0 : 0 ≤ n) : Txt.join (Str.ofString "") [txt (n.natAbs : Int)] = txt n := by
  rw [cl_join1, show ((n.natAbs : Nat) : Int) = n by omega]
theorem whole3 {n : Int} (h0 : n < 0) : Txt.join (Str.ofString "") [Str.ofString "-", txt (n.natAbs : Int)] = txt n := by
  apply str_ext
  rw [cl_join2, cl_minus, cl_txt_nat, cl_txt_neg h0]; rfl
theorem whole_two {k : Nat} (hk : 1000000000000000000 ≤ k) : cl (txt ((k : Int) / 1000000000000000000)) ++ cl (Txt.rjustF (txt ((k : Int) % 1000000000000000000)) 18 ((Str.ofString "0").cps.getD 0 0)) = dg k := by
  have e1 : (k : Int) / 1000000000000000000 = ((k / 1000000000000000000 : Nat) : Int) := by omega
  have e2 : (k : Int) % 1000000000000000000 = ((k % 1000000000000000000 : Nat) : Int) := by omega
  rw [e1, e2, cl_rj, cl_txt_nat, ← dg_split (by omega) (by omega)]
  congr 1
  omega
theorem whole2 {n : Int} (h0 : 1000000000000000000 ≤ n) : Txt.join (Str.ofString "") [txt ((n.natAbs : Int) / 1000000000000000000), Txt.rjustF (txt ((n.natAbs : Int) % 1000000000000000000)) 18 ((Str.ofString "0").cps.getD 0 0)] = txt n := by
  apply str_ext
  rw [cl_join2, whole_two (by omega)]
  obtain ⟨k, rfl⟩ : ∃ k : Nat, n = (k : Int) := ⟨n.natAbs, by omega⟩
  rw [cl_txt_nat]; rfl
theorem whole4 {n : Int} (h0 : n ≤ -1000000000000000000) : Txt.join (Str.ofString "") [Str.ofString "-", txt ((n.natAbs : Int) / 1000000000000000000), Txt.rjustF (txt ((n.natAbs : Int) % 1000000000000000000)) 18 ((Str.ofString "0").cps.getD 0 0)] = txt n := by
  apply str_ext
  rw [cl_join3, List.append_assoc, whole_two (by omega), cl_minus, cl_txt_neg (by omega)]; rfl

end
section
/-- what node_text is asked to tell -/
inductive Node where
  | none
  | bool (b : Bool)
  | int (i : Int)
  | str (x : Str)
  | tup (l : List Node)
abbrev Led := List (Addr × Obj)
mutual
def NodeIn (led : Led) : Value → Node → Prop
  | v, .none => v = .none
  | v, .bool b => v = .bool b
  | v, .int i => ∃ t, v = .int i t
  | v, .str x => ∃ t, v = .str x t
  | v, .tup l => ∃ a vs e, v = .ref a ∧ (a, tupO vs e) ∈ led ∧ NodesIn led vs l
def NodesIn (led : Led) : List Value → List Node → Prop
  | vs, [] => vs = []
  | vs, n :: r => ∃ v ws, vs = v :: ws ∧ NodeIn led v n ∧ NodesIn led ws r
end
mutual
def Node.ok : Nat → Node → Prop
  | _, .none => True
  | _, .bool _ => True
  | _, .int i => i.natAbs < 10 ^ 36
  | _, .str x => x.length ≤ 37 ∧ PyData.strOk x = true
  | d, .tup l => 0 < d ∧ l.length ≤ 5 ∧ Node.oks (d - 1) l
def Node.oks : Nat → List Node → Prop
  | _, [] => True
  | d, n :: r => Node.ok d n ∧ Node.oks d r
end
mutual
def Node.text : Node → Str
  | .none => Str.ofString "-"
  | .bool b => if b = true then Str.ofString "signed" else Str.ofString "unsigned"
  | .int i => txt i
  | .str x => x
  | .tup l => Str.ofString "(" ++ Txt.join (Str.ofString " ") (Node.texts l) ++ Str.ofString ")"
def Node.texts : List Node → List Str
  | [] => []
  | n :: r => Node.text n :: Node.texts r
end
theorem texts_map : ∀ l : List Node, Node.texts l = l.map Node.text
  | [] => rfl
  | n :: r => by rw [Node.texts, texts_map r]; rfl
mutual
theorem NodeIn.mono {led led' : Led} (h : ∀ p ∈ led, p ∈ led') : ∀ {v : Value} {n : Node}, NodeIn led v n → NodeIn led' v n
  | _, .none, x => x
  | _, .bool _, x => x
  | _, .int _, x => x
  | _, .str _, x => x
  | _, .tup _, ⟨a, vs, e, hv, hm, hs⟩ => ⟨a, vs, e, hv, h _ hm, NodesIn.mono h hs⟩
theorem NodesIn.mono {led led' : Led} (h : ∀ p ∈ led, p ∈ led') : ∀ {vs : List Value} {l : List Node}, NodesIn led vs l → NodesIn led' vs l
  | _, [], x => x
  | _, _ :: _, ⟨v, ws, e, h1, h2⟩ => ⟨v, ws, e, NodeIn.mono h h1, NodesIn.mono h h2⟩
end
theorem NodesIn.length {led : Led} : ∀ {vs : List Value} {l : List Node}, NodesIn led vs l → vs.length = l.length
  | _, [], x => by rw [x]; rfl
  | _, _ :: _, ⟨v, ws, e, _, h2⟩ => by rw [e, List.length_cons, List.length_cons, NodesIn.length h2]
theorem NodesIn.get {led : Led} : ∀ {vs : List Value} {l : List Node} {i : Nat} {v : Value}, NodesIn led vs l → vs[i]? = some v → ∃ n, l[i]? = some n ∧ NodeIn led v n
  | _, [], i, v, x, h => by rw [x] at h; cases i <;> cases h
  | _, n :: r, 0, v, ⟨w, ws, e, h1, h2⟩, h => by rw [e] at h; cases h; exact ⟨n, rfl, h1⟩
  | _, n :: r, i + 1, v, ⟨w, ws, e, h1, h2⟩, h => by
    rw [e] at h
    have h' : ws[i]? = some v := by simpa using h
    have z := NodesIn.get (l := r) (i := i) h2 h'
    simpa using z
theorem NodesIn.snoc {led : Led} : ∀ {vs : List Value} {l : List Node} {v : Value} {n : Node}, NodesIn led vs l → NodeIn led v n → NodesIn led (vs ++ [v]) (l ++ [n])
  | _, [], v, n, x, h => by rw [x]; exact ⟨v, [], rfl, h, rfl⟩
  | _, m :: r, v, n, ⟨w, ws, e, h1, h2⟩, h => by rw [e]; exact ⟨w, ws ++ [v], rfl, h1, NodesIn.snoc h2 h⟩
theorem oks_get {d : Nat} : ∀ {l : List Node} {n : Node}, Node.oks d l → n ∈ l → Node.ok d n
  | _ :: _, _, x, .head _ => x.1
  | _ :: _, _, x, .tail _ h => oks_get x.2 h
theorem oks_snoc {d : Nat} : ∀ {l : List Node} {n : Node}, Node.oks d l → Node.ok d n → Node.oks d (l ++ [n])
  | [], _, _, h => ⟨h, trivial⟩
  | _ :: _, _, x, h => ⟨x.1, oks_snoc x.2 h⟩
mutual
theorem Node.ok.mono {d e : Nat} (h : d ≤ e) : ∀ {n : Node}, Node.ok d n → Node.ok e n
  | .none, _ => trivial
  | .bool _, _ => trivial
  | .int _, x => x
  | .str _, x => x
  | .tup _, ⟨a, b, c⟩ => ⟨by omega, b, Node.oks.mono (by omega) c⟩
theorem Node.oks.mono {d e : Nat} (h : d ≤ e) : ∀ {l : List Node}, Node.oks d l → Node.oks e l
  | [], _ => trivial
  | _ :: _, x => ⟨Node.ok.mono h x.1, Node.oks.mono h x.2⟩
end
/-- a bound on the text's length, by the depth -/
def lenB : Nat → Nat
  | 0 => 37
  | d + 1 => 2 + 5 * (lenB d + 1)
theorem lenB_le : ∀ d, 37 ≤ lenB d
  | 0 => Nat.le_refl _
  | d + 1 => by have := lenB_le d; show 37 ≤ 2 + 5 * (lenB d + 1); omega
theorem len_app (x y : Str) : (x ++ y).length = x.length + y.length := by
  rw [← cl_len, cl_append, List.length_append, cl_len, cl_len]
theorem len_join (x : Str) (hx : x.length = 1) (B : Nat) : ∀ l : List Str, (∀ y ∈ l, y.length ≤ B) → (Txt.join x l).length ≤ l.length * (B + 1) := by
  intro l
  show _ → (Builtin.Str.glued x l).length ≤ _
  rw [StrLaws.glued_eq_join]
  induction l with
  | nil => intro _; exact Nat.zero_le _
  | cons a r ih =>
    intro h
    have h1 := h a (.head _)
    have h2 := ih fun y hy => h y (.tail _ hy)
    cases r with
    | nil => show a.length ≤ _; simp; omega
    | cons b r =>
      show (a ++ x ++ Str.join x (b :: r)).length ≤ _
      rw [len_app, len_app, hx, List.length_cons (as := b :: r), Nat.add_mul]
      omega
mutual
theorem len_text : ∀ {d : Nat} {n : Node}, Node.ok d n → (Node.text n).length ≤ lenB d
  | d, .none, _ => Nat.le_trans (by show (Str.ofString "-").length ≤ 37; decide +kernel) (lenB_le d)
  | d, .bool true, _ => Nat.le_trans (by show (Str.ofString "signed").length ≤ 37; decide +kernel) (lenB_le d)
  | d, .bool false, _ => Nat.le_trans (by show (Str.ofString "unsigned").length ≤ 37; decide +kernel) (lenB_le d)
  | d, .int _, h => Nat.le_trans (len_txt h) (lenB_le d)
  | d, .str _, h => Nat.le_trans h.1 (lenB_le d)
  | 0, .tup _, ⟨h, _⟩ => absurd h (Nat.lt_irrefl _)
  | d + 1, .tup l, ⟨_, hl, hs⟩ => by
    have h1 := len_join (Str.ofString " ") (by decide +kernel) (lenB d) (Node.texts l) (len_texts hs)
    have h2 : (Node.texts l).length ≤ 5 := by rw [texts_map, List.length_map]; exact hl
    have h3 : (Node.texts l).length * (lenB d + 1) ≤ 5 * (lenB d + 1) := Nat.mul_le_mul_right _ h2
    show (Str.ofString "(" ++ Txt.join (Str.ofString " ") (Node.texts l) ++ Str.ofString ")").length ≤ 2 + 5 * (lenB d + 1)
    rw [len_app, len_app, show (Str.ofString "(").length = 1 by decide +kernel, show (Str.ofString ")").length = 1 by decide +kernel]
    omega
theorem len_texts : ∀ {d : Nat} {l : List Node}, Node.oks d l → ∀ y ∈ Node.texts l, y.length ≤ lenB d
  | _, [], _, _, hy => nomatch hy
  | _, _ :: _, h, _, hy => by
    rcases List.mem_cons.mp hy with rfl | hy
    · exact len_text h.1
    · exact len_texts h.2 _ hy
end
theorem lenB_6 : lenB 6 ≤ 1000000 := by decide +kernel
theorem lenB_mono : ∀ {d e : Nat}, d ≤ e → lenB d ≤ lenB e := by
  intro d e h
  induction h with
  | refl => exact Nat.le_refl _
  | step _ ih => exact Nat.le_trans ih (by show _ ≤ 2 + 5 * (lenB _ + 1); omega)
theorem len_text6 {d : Nat} {n : Node} (hd : d ≤ 6) (h : Node.ok d n) : (Node.text n).length ≤ 1000000 := Nat.le_trans (len_text h) (Nat.le_trans (lenB_mono hd) lenB_6)
theorem strs_snoc {vs : List Value} {ys : List Str} (h : StrsAre vs ys) (y : Str) (t : Tok) : StrsAre (vs ++ [.str y t]) (ys ++ [y]) := by
  induction h with
  | nil => exact .cons _ _ .nil
  | cons a b _ ih => exact .cons _ _ ih
theorem texts_take {l : List Node} {i : Nat} {n : Node} (h : l[i]? = some n) : Node.texts (l.take (i + 1)) = Node.texts (l.take i) ++ [n.text] := by
  rw [texts_map, texts_map, List.take_add_one, h]; simp
theorem join_ok {d : Nat} (h6 : d ≤ 6) {l : List Node} (hl : l.length ≤ 5) (h : Node.oks d l) :
    (∀ y ∈ Node.texts l, y.length ≤ 1000000) ∧ (Node.texts l).length * (1000000 + (Str.ofString " ").length) ≤ 16777216 ∧ (Txt.join (Str.ofString " ") (Node.texts l)).length ≤ 5000005 := by
  have h1 : ∀ y ∈ Node.texts l, y.length ≤ 1000000 := fun y hy => Nat.le_trans (len_texts h y hy) (Nat.le_trans (lenB_mono h6) lenB_6)
  have h2 : (Node.texts l).length ≤ 5 := by rw [texts_map, List.length_map]; exact hl
  have h3 : (Str.ofString " ").length = 1 := by decide +kernel
  refine ⟨h1, ?_, ?_⟩
  · rw [h3]; exact Nat.le_trans (Nat.mul_le_mul_right _ h2) (by decide)
  · exact Nat.le_trans (len_join _ h3 _ _ h1) (Nat.le_trans (Nat.mul_le_mul_right _ h2) (by decide))
theorem join_ok2 {d : Nat} (h6 : d ≤ 6) {l : List Node} (hl : l.length ≤ 5) (h : Node.oks d l) (x : Str) (hx : x.length ≤ 37) :
    (∀ y ∈ x :: Node.texts l, y.length ≤ 1000000) ∧ (x :: Node.texts l).length * (1000000 + (Str.ofString " ").length) ≤ 16777216 := by
  have h1 : ∀ y ∈ Node.texts l, y.length ≤ 1000000 := fun y hy => Nat.le_trans (len_texts h y hy) (Nat.le_trans (lenB_mono h6) lenB_6)
  have h2 : (x :: Node.texts l).length ≤ 6 := by rw [List.length_cons, texts_map, List.length_map]; omega
  have h3 : (Str.ofString " ").length = 1 := by decide +kernel
  refine ⟨fun y hy => ?_, ?_⟩
  · rcases List.mem_cons.mp hy with rfl | hy
    · omega
    · exact h1 y hy
  · rw [h3]; exact Nat.le_trans (Nat.mul_le_mul_right _ h2) (by decide)
theorem strs_len {vs : List Value} {ys : List Str} (h : StrsAre vs ys) : vs.length = ys.length := by
  induction h with
  | nil => rfl
  | cons _ _ _ ih => simp [ih]
theorem texts_len (l : List Node) : (Node.texts l).length = l.length := by rw [texts_map, List.length_map]
theorem sOk_iff (x : Str) : PyData.strOk x = true ↔ ∀ c ∈ cl x, c < 0x110000 := by
  unfold PyData.strOk cl
  rw [← Array.all_toList, List.all_eq_true]; simp
theorem sOk_app {x y : Str} (hx : PyData.strOk x = true) (hy : PyData.strOk y = true) : PyData.strOk (x ++ y) = true := by
  rw [sOk_iff] at *
  rw [cl_append]
  intro c hc
  exact (List.mem_append.mp hc).elim (hx c) (hy c)
theorem sOk_txt (n : Int) : PyData.strOk (txt n) = true := by
  rw [sOk_iff]
  have key : ∀ k : Nat, ∀ c ∈ dg k, c < 0x110000 := fun k c hc => by have := ((dg_spec k).1 c hc).2; omega
  by_cases h : n < 0
  · rw [cl_txt_neg h]
    intro c hc
    rcases List.mem_cons.mp hc with rfl | hc
    · decide
    · exact key _ c hc
  · rw [show n = (n.natAbs : Int) by omega, cl_txt_nat]; exact key _
theorem sOk_join (x : Str) (hx : PyData.strOk x = true) : ∀ l : List Str, (∀ y ∈ l, PyData.strOk y = true) → PyData.strOk (Txt.join x l) = true := by
  intro l
  show _ → PyData.strOk (Builtin.Str.glued x l) = true
  rw [StrLaws.glued_eq_join]
  induction l with
  | nil => intro _; show PyData.strOk (Str.ofString "") = true; decide +kernel
  | cons a r ih =>
    intro h
    have h1 := h a (.head _)
    have h2 := ih fun y hy => h y (.tail _ hy)
    cases r with
    | nil => exact h1
    | cons b r => exact sOk_app (sOk_app h1 hx) h2
theorem sOk_blank : PyData.strOk (Str.ofString " ") = true := by decide +kernel
mutual
theorem sOk_text : ∀ {d : Nat} {n : Node}, Node.ok d n → PyData.strOk (Node.text n) = true
  | _, .none, _ => by show PyData.strOk (Str.ofString "-") = true; decide +kernel
  | _, .bool true, _ => by show PyData.strOk (Str.ofString "signed") = true; decide +kernel
  | _, .bool false, _ => by show PyData.strOk (Str.ofString "unsigned") = true; decide +kernel
  | _, .int _, _ => sOk_txt _
  | _, .str _, h => h.2
  | _, .tup l, ⟨_, _, hs⟩ => sOk_app (sOk_app (by decide +kernel) (sOk_join _ sOk_blank _ (sOk_texts hs))) (by decide +kernel)
theorem sOk_texts : ∀ {d : Nat} {l : List Node}, Node.oks d l → ∀ y ∈ Node.texts l, PyData.strOk y = true
  | _, [], _, _, hy => nomatch hy
  | _, _ :: _, h, _, hy => by
    rcases List.mem_cons.mp hy with rfl | hy
    · exact sOk_text h.1
    · exact sOk_texts h.2 _ hy
end

end
section
open PySem PySem.W PyProof.Rows PySem.Calls PySem.Spec
open PyProof.Rows.LCg
section
variable {prog : Program} {w : World} {A : Around} {E : Value → Shared → Prop} {s : Shared} {h₀ : Heap} {L : Addr} {m : Str → Option Value} {env : Env}
/-- a comprehension's turns by what holds between them -/
theorem compRest_inv {elt : PySem.Expr} {x : Str} {scope : Scope} {cl : List (Str × Addr)} {S : Led → Prop} {P : Nat → Value → Prop} {Fin : List Value → Led → Prop} (J : Nat → List Value → Led → Prop) {n : Nat}
    (turn : ∀ i ys news v I oI C oC D m₂ h tk (E' : Value → Shared → Prop), i < n → J i ys news → P i v → NsObj oC m₂ → m₂ x = some v → Fr h₀ L h m → News h₀ L h ((I, oI) :: (C, oC) :: (D, lst ys) :: news) → Off3 I C D news → ((@Ne Nat I C) ∧ (@Ne Nat I D) ∧ (@Ne Nat C D)) →
      wpAny (model prog w) A (eval elt (compEnvC scope cl C env)) (CompEnd h₀ L m { s with heap := h, toks := tk } I oI C oC D (lst ys) S (fun y news' => J (i + 1) (ys ++ [y]) news')) E' { s with heap := h, toks := tk })
    (fin : ∀ ys news, J n ys news → Fin ys news) : ∀ k i ys news, i + k = n → J i ys news → CompRest prog w A h₀ L m env elt x scope cl s S P Fin k i ys news := by
  intro k
  induction k with
  | zero => intro i ys news e h; exact CompRest.zero (fin ys news (by have : i = n := by omega
                                                                      rw [← this]; exact h))
  | succ k ih =>
    intro i ys news e hJ
    refine CompRest.succ fun v I oI C oC D m₂ h tk E' hP hC hx F N off ne => ?_
    refine wpAny_mono (turn i ys news v I oI C oC D m₂ h tk E' (by omega) hJ hP hC hx F N off ne) (fun y s' hy => ?_) fun _ _ z => z
    obtain ⟨h', tk', news', e1, e2, e3, e4, e5, e6⟩ := hy
    exact ⟨h', tk', news', e1, e2, e3, e4, e5, ih (i + 1) _ news' (by omega) e6⟩

def TupIn (ax : Addr) (vs : List Value) (e : Nat) (nw : Led) : Prop := (ax, tupO vs e) ∈ nw
theorem tup_st {ax I : Addr} {vs : List Value} {e : Nat} : ∀ i (h h' : Heap) (o : Obj) (nw : Led), (h.IsTupleIter I ax i ∧ h.IsTuple ax vs.toArray) → h.get? I = some o → h'.get? I = some o → (∀ b o, h₀.get? b = some o → h'.get? b = some o) → News h₀ L h' nw → TupIn ax vs e nw → (h'.IsTupleIter I ax i ∧ h'.IsTuple ax vs.toArray) :=
  fun i h h' o nw st e e' k N S => ⟨by obtain ⟨o', q, r⟩ := st.1; rw [e] at q; cases q; exact ⟨o, e', r⟩, ⟨_, (N _ S).1, rfl, _, rfl⟩⟩

def CompSrcT (prog : Program) (w : World) (A : Around) (h₀ : Heap) (L : Addr) (m : Str → Option Value) (env : Env) (elt : PySem.Expr) (x : Str) (scope : Scope) (cl : List (Str × Addr)) (Fin : Shared → List Value → Led → Prop) (xv : Value) (s₁ : Shared) : Prop :=
  ∃ ax vs e news, xv = .ref ax ∧ A.handled = none ∧ Fr h₀ L s₁.heap m ∧ News h₀ L s₁.heap news ∧ (ax, tupO vs e) ∈ news ∧ vs.length ≤ sizeLine ∧
    ∀ s₂ : Shared, (∃ h, s₂ = { s₁ with heap := h }) → CompRest prog w A h₀ L m env elt x scope cl s₂ (TupIn ax vs e) (fun i v => vs[i]? = some v) (Fin s₂) vs.length 0 [] news
theorem CompSrcT.intro {elt : PySem.Expr} {x : Str} {scope : Scope} {cl : List (Str × Addr)} {Fin : Shared → List Value → Led → Prop} {ax : Addr} {vs : List Value} {e : Nat} {news : Led} {s₁ : Shared}
    (hh : A.handled = none) (F : Fr h₀ L s₁.heap m) (N : News h₀ L s₁.heap news) (hm : (ax, tupO vs e) ∈ news) (hsz : vs.length ≤ sizeLine)
    (h : ∀ g, CompRest prog w A h₀ L m env elt x scope cl { s₁ with heap := g } (TupIn ax vs e) (fun i v => vs[i]? = some v) (Fin { s₁ with heap := g }) vs.length 0 [] news) :
    CompSrcT prog w A h₀ L m env elt x scope cl Fin (.ref ax) s₁ := ⟨ax, vs, e, news, rfl, hh, F, N, hm, hsz, fun _ ⟨g, e⟩ => e ▸ h g⟩
/-- a list comprehension over a tuple of the ledger -/
theorem ListComp_T {elt iter : PySem.Expr} {x : Str} {px : Pos} {scope : Scope} {cl : List (Str × Addr)} {pos : Pos} {Q : Value → Shared → Prop} (F₀ : Fr h₀ L s.heap m)
    (hclos : closureFor scope env = pure cl) (hcell : ∀ y ∈ scope.names, y.2 ≠ .cell) (hkind : scope.kind = .function)
    (hnames : ∀ y ∈ scope.names, y.2 = .local → scope.names.lookup y.1 = some .local) (hx : scope.names.lookup x = some .local)
    (h : wpAny (model prog w) A (eval iter env) (CompSrcT prog w A h₀ L m env elt x scope cl (fun s₂ => FinE h₀ L m s₂ Q)) E s)
    (hs : ∀ x, foldedSetIterable iter env x = pure x := by intro _; rfl) :
    wpAny (model prog w) A (eval (.ListComp elt [⟨.Name x px, iter, [], 0⟩] scope pos) env) Q E s := by
  rw [eval_ListComp]
  refine wpAny_comprehension_free (use := none) rfl hs hclos hkind hnames (wpAny_mono h (fun xv s₁ h₁ => ?_) fun _ _ e => e)
  obtain ⟨ax, vs, e, news, rfl, hh, F, N, hm, hsz, R⟩ := h₁
  have hl : s₁.heap.IsTuple ax vs.toArray := ⟨_, (N _ hm).1, rfl, _, rfl⟩
  have hlt : ax < s₁.heap.objs.size := Heap.lt_size (N _ hm).1
  refine wpAny_pyIter_tuple hl ?_
  have up : ∀ b o, s₁.heap.get? b = some o → (s₁.heap.push { cls := .type "tuple_iterator", data := .fields #[.ref ax, .int 0 0] }).get? b = some o := fun b o e => Heap.get?_push_of_some _ e
  have hsz' : vs.toArray.size = vs.length := by simp
  refine block_U (n := vs.length) (hsz' ▸ (Walks.tuple hh s₁.heap.objs.size ax (Nat.ne_of_lt hlt) vs.toArray)) hsz (fun i h st => by obtain ⟨o, e, _⟩ := st.1; exact ⟨o, e⟩) (tup_st (e := e)) hcell hkind hx ⟨⟨_, Heap.get?_push_size _ rfl, rfl, rfl⟩, ⟨_, Heap.get?_push_of_some _ (N _ hm).1, rfl, _, rfl⟩⟩ (fun b hb => ?_)
    (F.keeps up) (N.grown up) (Nat.ne_of_lt F.ns.lt) (next_is_new F) (fun p hp => Nat.ne_of_lt (Heap.lt_size (N p hp).1)) hm (by simpa using R _ ⟨_, rfl⟩) ?_
  · show b < (s₁.heap.push _).objs.size
    rw [Heap.size_push]
    rcases List.mem_cons.mp hb with rfl | hb
    · exact Nat.lt_succ_self _
    · rw [List.mem_singleton.mp hb]; exact Nat.lt_succ_of_lt hlt
  · intro D C h tk m' ys news' F' N' o1 hn hC₀ hD₀ hCL hDL hCD offC fin
    refine ⟨m', hn, fun h'' hs'' => fin D h'' tk (F'.change hs'' hCL hC₀) (fun p hp => ?_) o1⟩
    refine ⟨hs''.extBut _ _ ?_ (N' p hp).1, (N' p hp).2⟩
    rcases List.mem_cons.mp hp with rfl | hp
    · exact Ne.symm hCD
    · exact offC p hp
end

end
section
open PySem PySem.W PyProof.Rows PySem.Calls PySem.Spec
def Hold (P : Prop) : Prop := P
theorem namedN {h₀ h : Heap} {L d : Addr} {o : Obj} {rest : Led} {P : Prop} (_N : News h₀ L h ((d, o) :: rest)) (k : ∀ r, r = d → P) : P := k d rfl
theorem newsTl {h₀ h : Heap} {L : Addr} {x : Addr × Obj} {l : Led} (N : News h₀ L h (x :: l)) : News h₀ L h l := fun p hp => N p (.tail _ hp)
theorem Hold.of {P : Prop} (h : Hold P) : P := h
section
variable {prog : Program} {w : World} {A : Around} {E : Value → Shared → Prop} {s : Shared} {env : Env} {h₀ : Heap} {x : Str} {body : List Stmt} {Q : Flow → Shared → Prop}

def EndJ (h₀ : Heap) (L : Addr) (I : Addr) (oI : Obj) (Jn : (Str → Option Value) → Led → Prop) (s₁ s₂ : Shared) : Prop :=
  ∃ h' tk m' news', s₂ = { s₁ with heap := h', toks := tk } ∧ Fr h₀ L h' m' ∧ News h₀ L h' ((I, oI) :: news') ∧ (∀ p ∈ news', p.1 ≠ I) ∧ Jn m' news'
def TurnJ (h₀ : Heap) (L : Addr) (I : Addr) (oI : Obj) (Jn : (Str → Option Value) → Led → Prop) (s₁ : Shared) (Q : Flow → Shared → Prop) (f : Flow) (s₂ : Shared) : Prop :=
  match f with
  | .ret v => Q (.ret v) s₂
  | .brk => Q .next s₂
  | _ => EndJ h₀ L I oI Jn s₁ s₂
theorem EndJ.intro {L I : Addr} {oI : Obj} {Jn : (Str → Option Value) → Led → Prop} {m' : Str → Option Value} {news' : Led} {s₁ : Shared} {h' : Heap} {tk : Nat} (F : Fr h₀ L h' m') (N : News h₀ L h' ((I, oI) :: news')) (hne : ∀ p ∈ news', p.1 ≠ I)
    (hj : Jn m' news') : EndJ h₀ L I oI Jn s₁ { s₁ with heap := h', toks := tk } := ⟨h', tk, m', news', rfl, F, N, hne, hj⟩

theorem loop_J {I : Addr} {fp : List Addr} {n : Nat} {P : Nat → Value → Prop} {St : Nat → Heap → Prop} {m₀ : Str → Option Value} {news : Led} (J : Nat → (Str → Option Value) → Led → Prop)
    (W : Walks prog w A I fp [I] n P St) (hI0 : h₀.get? I = none) (hob : ∀ i h, St i h → ∃ o, h.get? I = some o)
    (hfp : ∀ b ∈ fp, b = I ∨ (∃ o, h₀.get? b = some o) ∨ ∃ o, ∀ i m nw, J i m nw → (b, o) ∈ nw)
    (hLf : env.locals ∉ fp) (hnw : ∀ p ∈ news, p.1 ≠ I) (hst : St 0 s.heap) (F : Fr h₀ env.locals s.heap m₀) (N : News h₀ env.locals s.heap news) (hJ : J 0 m₀ news)
    (turn : ∀ i v m₁ news₁ oI h tk, i < n → P i v → J i m₁ news₁ → (∀ p ∈ news₁, p.1 ≠ I) → Fr h₀ env.locals h (fun y => if y = x then some v else m₁ y) → News h₀ env.locals h ((I, oI) :: news₁) →
      wpAny (model prog w) A (execs body env) (TurnJ h₀ env.locals I oI (J (i + 1)) { s with heap := h, toks := tk } Q) E { s with heap := h, toks := tk })
    (done : ∀ m' news' h tk, J n m' news' → Fr h₀ env.locals h m' → News h₀ env.locals h news' → Q .next { s with heap := h, toks := tk }) :
    LoopAtV prog w A h₀ env x body Q E (.ref I) s := by
  refine ⟨I, fp, [I], n, P, St, m₀, news, J, rfl, W, hLf, (fun b hb => by rw [List.mem_singleton.mp hb]; exact hI0), (fun p hp hm => hnw p hp (List.mem_singleton.mp hm)), hst, F, N, hJ, ?_, ?_⟩
  · rintro i v m₁ news₁ s₁ own ⟨hh', tk', rfl⟩ hin hP hJ₁ hoff hown _ hall hst' F₁ N₁
    obtain ⟨o, ho⟩ := hob _ _ hst'
    have hIf : I ∈ fp := W.sub I (List.mem_singleton.mpr rfl)
    have hio : (I, o) ∈ own := hall I hIf hI0 o ho
    have hne : ∀ p ∈ news₁, p.1 ≠ I := fun p hp q => hoff p hp (List.mem_singleton.mpr q)
    have N₂ : News h₀ env.locals hh' ((I, o) :: news₁) := fun p hp => by
      rcases List.mem_cons.mp hp with e | hp
      · rw [e]; exact N₁ _ (List.mem_append_left _ hio)
      · exact N₁ _ (List.mem_append_right _ hp)
    refine wpAny_mono (turn i v m₁ news₁ o hh' tk' hin hP hJ₁ hne F₁ N₂) (fun f s₂ p => ?_) fun _ _ e => e
    have fin : EndJ h₀ env.locals I o (J (i + 1)) { s with heap := hh', toks := tk' } s₂ → LoopStepU h₀ env.locals [I] own (J (i + 1)) { s with heap := hh', toks := tk' } .next s₂ := by
      rintro ⟨h', tk, m', news', e, F', N', hne', hj⟩
      refine ⟨rfl, h', tk, m', news', e, F', fun p hp => ?_, (fun p hp hm => hne' p hp (List.mem_singleton.mp hm)), hj⟩
      rcases List.mem_append.mp hp with hp | hp
      · have z := N₁ p (List.mem_append_left _ hp)
        rcases hfp p.1 (hown p hp) with e1 | ⟨q, hq⟩ | hk
        · have e2 : p = (I, o) := by
            have h4 := z.1
            rw [e1] at h4
            have ho' : hh'.get? I = some o := ho
            rw [ho'] at h4
            exact Prod.ext e1 (Option.some.inj h4).symm
          rw [e2]; exact N' _ (.head _)
        · have h5 := z.2.2; rw [hq] at h5; cases h5
        · obtain ⟨o1, hk⟩ := hk
          have hm1 := N₁ _ (List.mem_append_right _ (hk _ _ _ hJ₁))
          have e2 : p = (p.1, o1) := by
            have h4 := z.1
            rw [hm1.1] at h4
            exact Prod.ext rfl (Option.some.inj h4).symm
          rw [e2]; exact N' _ (.tail _ (hk _ _ _ hj))
      · exact N' p (.tail _ hp)
    cases f with
    | ret v => exact .ret p
    | brk => exact .brk p
    | next => exact .next (fin p)
    | cont => exact .cont (fin p)
  · rintro h' tk m' news' F' N' _ hJ'
    exact done m' news' h' tk hJ' F' N'

theorem iterRangeJ {r : Addr} {n : Nat} {b₀ : Int} {t₀ u₀ v₀ : Tok} {m₀ : Str → Option Value} {news : Led} (J : Nat → (Str → Option Value) → Led → Prop)
    (hh : A.handled = none) (hr : IsRange s.heap r 0 b₀ 1 t₀ u₀ v₀) (hsmall : Builtin.Range.small 0 b₀ 1 = true) (hn : Builtin.Range.rangeSize 0 b₀ 1 = (n : Int)) (F : Fr h₀ env.locals s.heap m₀) (N : News h₀ env.locals s.heap news) (hJ : J 0 m₀ news)
    (turn : ∀ i t m₁ news₁ I oI h tk, i < n → J i m₁ news₁ → (∀ p ∈ news₁, p.1 ≠ I) → Fr h₀ env.locals h (fun y => if y = x then some (.int (i : Int) t) else m₁ y) → News h₀ env.locals h ((I, oI) :: news₁) →
      wpAny (model prog w) A (execs body env) (TurnJ h₀ env.locals I oI (J (i + 1)) { s with heap := h, toks := tk } Q) E { s with heap := h, toks := tk })
    (done : ∀ m' news' h tk, J n m' news' → Fr h₀ env.locals h m' → News h₀ env.locals h news' → Q .next { s with heap := h, toks := tk }) :
    wpAny (model prog w) A (pyIter (.ref r)) (fun it s₂ => LoopAtV prog w A h₀ env x body Q E it s₂) E s := by
  refine wpAny_pyIter_range hr hsmall ?_
  have W := LCg.range_walks (prog := prog) (w := w) (A := A) (I := s.heap.objs.size) hh 0 n
  refine loop_J J W (next_is_new F) (fun i h st => ⟨_, st⟩) (fun b hb => .inl (List.mem_singleton.mp hb)) ?_ ?_ (by show IsRangeIter _ _ _ _ _; rw [hn]; simpa using Heap.get?_push_size _ rfl) (F.push _) (fun p hp => ⟨Heap.get?_push_of_some _ (N p hp).1, (N p hp).2⟩) hJ ?_ ?_
  · intro hm
    exact absurd F.ns.lt ((List.mem_singleton.mp hm) ▸ Nat.lt_irrefl _)
  · intro p hp
    exact Nat.ne_of_lt (Heap.lt_size (N p hp).1)
  · rintro i v m₁ news₁ oI h tk hi ⟨t, rfl⟩ hJ₁ hne F₁ N₁
    rw [Int.zero_add] at F₁
    exact turn i t m₁ news₁ _ oI h tk hi hJ₁ hne F₁ N₁
  · exact done

theorem iterTupleJ {ax : Addr} {vs : List Value} {e : Nat} {m₀ : Str → Option Value} {news : Led} (J : Nat → (Str → Option Value) → Led → Prop)
    (hh : A.handled = none) (F : Fr h₀ env.locals s.heap m₀) (N : News h₀ env.locals s.heap news) (hm : (ax, tupO vs e) ∈ news) (hJ : J 0 m₀ news) (hJm : ∀ i m nw, J i m nw → (ax, tupO vs e) ∈ nw)
    (turn : ∀ i v m₁ news₁ I oI h tk, vs[i]? = some v → J i m₁ news₁ → (∀ p ∈ news₁, p.1 ≠ I) → Fr h₀ env.locals h (fun y => if y = x then some v else m₁ y) → News h₀ env.locals h ((I, oI) :: news₁) →
      wpAny (model prog w) A (execs body env) (TurnJ h₀ env.locals I oI (J (i + 1)) { s with heap := h, toks := tk } Q) E { s with heap := h, toks := tk })
    (done : ∀ m' news' h tk, J vs.length m' news' → Fr h₀ env.locals h m' → News h₀ env.locals h news' → Q .next { s with heap := h, toks := tk }) :
    wpAny (model prog w) A (pyIter (.ref ax)) (fun it s₂ => LoopAtV prog w A h₀ env x body Q E it s₂) E s := by
  have hl : s.heap.IsTuple ax vs.toArray := ⟨_, (N _ hm).1, rfl, _, rfl⟩
  have hlt : ax < s.heap.objs.size := Heap.lt_size (N _ hm).1
  have hsz' : vs.toArray.size = vs.length := by simp
  refine wpAny_pyIter_tuple hl ?_
  have W := Walks.tuple (prog := prog) (w := w) (A := A) hh s.heap.objs.size ax (Nat.ne_of_lt hlt) vs.toArray
  rw [hsz'] at W
  refine loop_J J W (next_is_new F) (fun i h st => by obtain ⟨o, e, _⟩ := st.1; exact ⟨o, e⟩) (fun b hb => ?_) ?_ ?_ ⟨⟨_, Heap.get?_push_size _ rfl, rfl, rfl⟩, ⟨_, Heap.get?_push_of_some _ (N _ hm).1, rfl, _, rfl⟩⟩ (F.push _) (fun p hp => ⟨Heap.get?_push_of_some _ (N p hp).1, (N p hp).2⟩) hJ ?_ done
  · rcases List.mem_cons.mp hb with e | hb
    · exact .inl e
    · exact .inr (.inr ⟨_, fun i m nw h => by rw [List.mem_singleton.mp hb]; exact hJm i m nw h⟩)
  · intro hm'
    rcases List.mem_cons.mp hm' with e | hm'
    · exact absurd F.ns.lt (e ▸ Nat.lt_irrefl _)
    · exact (N _ hm).2.1 (List.mem_singleton.mp hm').symm
  · intro p hp
    exact Nat.ne_of_lt (Heap.lt_size (N p hp).1)
  · rintro i v m₁ news₁ oI h tk hi hP hJ₁ hne F₁ N₁
    exact turn i v m₁ news₁ _ oI h tk (by simpa using hP) hJ₁ hne F₁ N₁

theorem form_of {m m₀ : Str → Option Value} {v : Value} {stored : List Str} (hm : ∀ y, y ≠ x → stored.contains y = false → m y = m₀ y) :
    (fun y => if y = x then some v else m y) = fun y => if y = x then some v else if stored.contains y then m y else m₀ y := by
  funext y
  by_cases h1 : y = x
  · simp [h1]
  · simp only [if_neg h1]
    cases h2 : stored.contains y with
    | true => simp
    | false => simp only [Bool.false_eq_true, if_false]; exact hm y h1 h2
theorem form_of' {m m₀ : Str → Option Value} {stored : List Str} (hm : ∀ y, y ≠ x → stored.contains y = false → m y = m₀ y) :
    (fun y => if y = x then m y else if stored.contains y then m y else m₀ y) = m := by
  funext y
  by_cases h1 : y = x
  · simp [h1]
  · simp only [if_neg h1]
    cases h2 : stored.contains y with
    | true => simp
    | false => simp only [Bool.false_eq_true, if_false]; exact (hm y h1 h2).symm
def JS (x : Str) (stored : List Str) (m₀ : Str → Option Value) (J : Nat → (Str → Option Value) → Led → Prop) (i : Nat) (m : Str → Option Value) (nw : Led) : Prop :=
  J i m nw ∧ ∀ y, y ≠ x → stored.contains y = false → m y = m₀ y

theorem iterRangeS {r : Addr} {n : Nat} {b₀ : Int} {t₀ u₀ v₀ : Tok} {m₀ : Str → Option Value} {news : Led} (stored : List Str) (J : Nat → (Str → Option Value) → Led → Prop)
    (hh : A.handled = none) (hr : IsRange s.heap r 0 b₀ 1 t₀ u₀ v₀) (hsmall : Builtin.Range.small 0 b₀ 1 = true) (hn : Builtin.Range.rangeSize 0 b₀ 1 = (n : Int)) (F : Fr h₀ env.locals s.heap m₀) (N : News h₀ env.locals s.heap news) (hJ : J 0 m₀ news)
    (turn : ∀ i t u news₁ I oI h tk, i < n → J i u news₁ → (∀ p ∈ news₁, p.1 ≠ I) → Fr h₀ env.locals h (fun y => if y = x then some (.int (i : Int) t) else if stored.contains y then u y else m₀ y) → News h₀ env.locals h ((I, oI) :: news₁) →
      wpAny (model prog w) A (execs body env) (TurnJ h₀ env.locals I oI (JS x stored m₀ J (i + 1)) { s with heap := h, toks := tk } Q) E { s with heap := h, toks := tk })
    (done : ∀ u news' h tk, J n u news' → Fr h₀ env.locals h (fun y => if y = x then u y else if stored.contains y then u y else m₀ y) → News h₀ env.locals h news' → Q .next { s with heap := h, toks := tk }) :
    wpAny (model prog w) A (pyIter (.ref r)) (fun it s₂ => LoopAtV prog w A h₀ env x body Q E it s₂) E s := by
  refine iterRangeJ (JS x stored m₀ J) hh hr hsmall hn F N ⟨hJ, fun _ _ _ => rfl⟩ ?_ ?_
  · intro i t m₁ news₁ I oI h tk hi hJ₁ hne F₁ N₁
    rw [form_of hJ₁.2] at F₁
    exact turn i t m₁ news₁ I oI h tk hi hJ₁.1 hne F₁ N₁
  · intro m' news' h tk hJ' F' N'
    refine done m' news' h tk hJ'.1 ?_ N'
    rw [form_of' hJ'.2]; exact F'
theorem iterTupleS {ax : Addr} {vs : List Value} {e : Nat} {m₀ : Str → Option Value} {news : Led} (stored : List Str) (J : Nat → (Str → Option Value) → Led → Prop)
    (hh : A.handled = none) (F : Fr h₀ env.locals s.heap m₀) (N : News h₀ env.locals s.heap news) (hm : (ax, tupO vs e) ∈ news) (hJ : J 0 m₀ news) (hJm : ∀ i m nw, J i m nw → (ax, tupO vs e) ∈ nw)
    (turn : ∀ i v u news₁ I oI h tk, vs[i]? = some v → J i u news₁ → (∀ p ∈ news₁, p.1 ≠ I) → Fr h₀ env.locals h (fun y => if y = x then some v else if stored.contains y then u y else m₀ y) → News h₀ env.locals h ((I, oI) :: news₁) →
      wpAny (model prog w) A (execs body env) (TurnJ h₀ env.locals I oI (JS x stored m₀ J (i + 1)) { s with heap := h, toks := tk } Q) E { s with heap := h, toks := tk })
    (done : ∀ u news' h tk, J vs.length u news' → Fr h₀ env.locals h (fun y => if y = x then u y else if stored.contains y then u y else m₀ y) → News h₀ env.locals h news' → Q .next { s with heap := h, toks := tk }) :
    wpAny (model prog w) A (pyIter (.ref ax)) (fun it s₂ => LoopAtV prog w A h₀ env x body Q E it s₂) E s := by
  refine iterTupleJ (JS x stored m₀ J) hh F N hm ⟨hJ, fun _ _ _ => rfl⟩ (fun i m nw h => hJm i m nw h.1) ?_ ?_
  · intro i v m₁ news₁ I oI h tk hi hJ₁ hne F₁ N₁
    rw [form_of hJ₁.2] at F₁
    exact turn i v m₁ news₁ I oI h tk hi hJ₁.1 hne F₁ N₁
  · intro m' news' h tk hJ' F' N'
    refine done m' news' h tk hJ'.1 ?_ N'
    rw [form_of' hJ'.2]; exact F'
theorem range0 {n : Nat} (h : n ≤ 1000) : Builtin.Range.small 0 (n : Int) 1 = true ∧ Builtin.Range.rangeSize 0 (n : Int) 1 = (n : Int) := by
  refine ⟨small_one (by omega) (by omega) (by omega) (by omega), ?_⟩
  unfold Builtin.Range.rangeSize
  rw [if_pos (by decide)]
  split <;> omega
theorem gModE {a b : Int} {t u : Tok} {Q : Value → Shared → Prop} (hb : 0 < b) (h : ∀ r t tk, r = a % b → 0 ≤ r → r < b → Q (.int r t) { s with toks := tk }) : wpAny (model prog w) A (binaryOp .Mod (.int a t) (.int b u)) Q E s :=
  mod_int' (by omega) (by rw [Int.fmod_eq_emod_of_nonneg _ (by omega)]; exact h _ _ _ rfl (Int.emod_nonneg _ (by omega)) (Int.emod_lt_of_pos _ hb))
theorem gIfInt {x y : Int} {test : PySem.Expr} {k1 k2 : _} {p1 p2 pos : Pos} {Q : Value → Shared → Prop}
    (h : wpAny (model prog w) A (isTrue test env (eval test env)) (fun r s₁ => Hold (∀ z t tk, (r = true → z = x) → (r = false → z = y) → Q (.int z t) { s₁ with toks := tk })) E s) :
    wpAny (model prog w) A (eval (.IfExp test (.Constant (.int x) k1 p1) (.Constant (.int y) k2 p2) pos) env) Q E s := by
  refine wpAny_IfExp (wpAny_mono h (fun r s₁ h₁ => ?_) fun _ _ e => e)
  cases r with
  | true => exact wpAny_Constant_int (h₁ x _ _ (fun _ => rfl) (fun e => nomatch e))
  | false => exact wpAny_Constant_int (h₁ y _ _ (fun e => nomatch e) (fun _ => rfl))
theorem form2 {u m₀ : Str → Option Value} {v va vb : Value} {a b : Str} (ha : u a = some va) (hb : u b = some vb) :
    (fun y => if y = x then some v else if [a, b].contains y then u y else m₀ y) = fun y => if y = x then some v else if y = a then some va else if y = b then some vb else m₀ y := by
  funext y
  by_cases h1 : y = x
  · simp [h1]
  · simp only [if_neg h1]
    by_cases h2 : y = a
    · subst h2; simp [ha]
    · by_cases h3 : y = b
      · subst h3; simp [hb, h2]
      · simp [h2, h3]
end

end
section
local macro_rules | `(tactic| ktr_room) => `(tactic| assumption)
local macro_rules | `(tactic| ktr_units) => `(tactic| assumption)
local macro_rules | `(tactic| walk_at "zp") => `(tactic| first | assumption | exact Int.add_nonneg (by assumption) (by decide) | exact Int.add_nonneg (Int.add_nonneg (by assumption) (by decide)) (by decide) | omega)
local macro_rules | `(tactic| walk_at "zk") => `(tactic| first | (all_goals first | (show (_ : Prop); with_reducible assumption) | ((first | (with_reducible show Fr _ _ _ _) | (with_reducible show News _ _ _ _) | (with_reducible show Below _ _ _ _) | (with_reducible show Frag.In _ _) | (with_reducible show Top _ _ _ _ _ _) | (with_reducible show _ ≠ _) | (with_reducible show _ < _) | (with_reducible show _ ≤ _) | (with_reducible show IntsAre _ _) | (with_reducible show StrsAre _ _)); k_asm) | ((with_reducible show _ ∈ _); k_mem) | ((with_reducible show Upd _ _ _ _ _); k_upd) | ((with_reducible show UpdF _ _ _ _); k_updF) | ((with_reducible show _ = _); first | exact rfl | with_unfolding_all rfl) | ((with_reducible show _ ≤ _); first | exact Nat.le_of_ble_eq_true rfl | walk_at "zp" | (simp only [List.length_cons, List.length_nil, List.length_dropLast]; omega)) | ((with_reducible show _ ≠ _); first | exact List.cons_ne_nil _ _ | omega) | ((with_reducible show Gate.NodeIn _ _ _); refine' Gate.NodeIn.mono ?_ (by assumption); intro p hp; simp only [List.mem_cons, List.mem_append, hp, true_or, or_true]) | ((with_reducible show _ < recursionLimit); first | assumption | omega | ktr_room) | ((with_reducible show _ < cLine); first | assumption | omega | ktr_units) | ((with_reducible show _ < _); omega) | ((with_reducible (intro _; show _ = _)); with_unfolding_all rfl) | (fail_if_success first | (with_reducible show _ ∈ _) | (with_reducible show _ = _) | (with_reducible show _ ≤ _) | (with_reducible show _ < _) | (with_reducible show _ ≠ _) | (with_reducible show Upd _ _ _ _ _) | (with_reducible show UpdF _ _ _ _) | (with_reducible show IntsAre _ _) | (with_reducible show StrsAre _ _) | (with_reducible (intro _; show _ = _)))) | fail)
local macro_rules | `(tactic| walk_at "zl") => `(tactic| (intro l' h' F' N' l1; (try k_lt l1); (try k_sweep); (try dsimp only)))
local macro_rules | `(tactic| walk_at "zn") => `(tactic| (intro _ h' _ F' N'; (try dsimp only at N'); (try k_sweep); (try dsimp only)))
local macro_rules | `(tactic| walk_at "zf") => `(tactic| (k_here; (with_reducible rename Fr _ _ _ _ => lF'); (with_unfolding_all refine' For_invVF lF' ?k1 ?k2 ?_; (case k1 => exact rfl); (case k2 => exact rfl); k_whole)))
local macro_rules | `(tactic| walk_at "zt") => `(tactic| ((try k_sweep); (try dsimp only)))
local macro_rules | `(tactic| k_ne) => `(tactic| (refine neN ?_; (try dsimp only); first | assumption | exact Ne.symm (by assumption) | exact Nat.ne_of_gt (by assumption) | exact Nat.ne_of_lt (by assumption) | exact Nat.ne_of_gt (Nat.lt_succ_of_lt (by assumption)) | exact Nat.ne_of_gt (Nat.lt_succ_of_lt (Nat.lt_succ_of_lt (by assumption))) | ((repeat (rename _ ≠ _ ∧ _ => o9; have o8 := And.left o9; replace o9 := And.right o9)); first | assumption | exact Ne.symm (by assumption)) | omega))
local macro_rules | `(tactic| k_all) => `(tactic| first | assumption | exact Gate.neOfLt (by assumption))
local macro_rules | `(tactic| k_lt $h) => `(tactic| (replace $h := allLt_of $h; simp only [AllLt, and_true] at $h:ident; (repeat (have h9 := And.left $h; replace $h := And.right $h)); (try replace $h := Gate.ofAllLt $h)))
local macro_rules | `(tactic| walk_at "call builtin:len") => `(tactic| (k_here; (with_reducible refine Gate.z1 ?_); k_dflt (refine' Gate.gLen ?_ ?_ ?_ ?_; walk_at "zk"; k_whole)))
local macro_rules | `(tactic| walk_at "subscriptTail") => `(tactic| (k_here; (with_reducible refine Gate.z2 ?_); k_dflt (refine' Gate.gItemInt ?_ ?_ ?_ ?_ ?_ ?_ ?_ ?_ ?_; walk_at "zk"; k_whole); intro _ _))
local macro_rules | `(tactic| k_mem) => `(tactic| first | assumption | exact List.Mem.head _ | (refine' List.Mem.tail _ ?_; k_mem))
local macro_rules | `(tactic| walk_at "call builtin:abs") => `(tactic| (k_here; (with_reducible refine Gate.z3 ?_); refine Gate.gAbs ?_; intro _ _; (try dsimp only)))
local macro_rules | `(tactic| walk_at "call builtin:divmod") => `(tactic| (k_here; (with_reducible refine Gate.z4 ?_); refine' Gate.gDivmod ?_ ?_ ?b ?c ?_; (case b => decide); (case c => decide); walk_at "zk"; intro d' h' _ _ _ F' N' l1; (try k_lt l1); (try dsimp only at F' N' ⊢)))
local macro_rules | `(tactic| walk_at "call type:str") => `(tactic| (k_here; (with_reducible refine Gate.z5 ?_); refine' Gate.gStr ?_ ?_; walk_at "zk"; intro _ _; (try dsimp only)))
local macro_rules | `(tactic| walk_at "binaryOp Pow int int") => `(tactic| (k_here; with_unfolding_all (first | refine Gate.gPow18 ?_ | refine Gate.gPow30 ?_); intro _ _; (try dsimp only)))
local macro_rules | `(tactic| walk_at "WhlIf") => `(tactic| first | (refine Gate.gWhlYes (by omega) ?_) | (refine Gate.gWhlNo (by omega) ?_))
local macro_rules | `(tactic| walk_at "call builtin:list.append") => `(tactic| (k_here; (refine Gate.z6 ?_); k_dflt (refine' append_K ?k1 ?k2 ?k3 ?_ ?z; (case k1 => k_asm); (case k2 => k_asm); (case k3 => k_upd); (case z => size_fits); k_whole); intro h' F' N'; (try k_sweep)))
local macro_rules | `(tactic| walk_at "call builtin:str.join") => `(tactic| (k_here; (refine Gate.z7 ?_); k_dflt (first
  | (refine' Gate.gJoin ?N ?m ?i ?B ?b ?z ?_; (case N => k_asm); (case m => k_mem); (case i => assumption); (case b => assumption); (case z => assumption))
  | (refine' Gate.gJoin ?N ?m ?i ?B ?b ?z ?_; (case N => k_asm); (case m => k_mem); (case i => first | exact StrsAre.nil | exact StrsAre.cons _ _ StrsAre.nil | exact StrsAre.cons _ _ (StrsAre.cons _ _ StrsAre.nil) | exact StrsAre.cons _ _ (StrsAre.cons _ _ (StrsAre.cons _ _ StrsAre.nil))); (case B => exact 100); (case b => (simp only [List.forall_mem_cons, List.forall_mem_nil, and_true]; (repeat' apply And.intro) <;> first | exact Gate.len_txt' (by omega) | decide | exact Gate.len_rj' (by omega))); (case z => exact Nat.le_of_ble_eq_true rfl))); intro _ _; (try dsimp only)))
local macro_rules | `(tactic| walk_at "exec For Name Call cons nil") => `(tactic| walk_at "zf")
local macro_rules | `(tactic| walk_at "exec For Name Name cons nil") => `(tactic| walk_at "zf")
local macro_rules | `(tactic| walk_at "exec For Name Subscript cons nil") => `(tactic| walk_at "zf")
local macro_rules | `(tactic| walk_at "pyIter ref") => `(tactic| ((with_reducible show wpAny _ _ (pyIter (Value.ref _)) (fun it s₂ => LoopAtV _ _ _ _ _ _ _ _ _ it s₂) _ _); refine Gate.Hold.of ?_))
local macro_rules | `(tactic| walk_at "subscriptTail") => `(tactic| (k_here; (with_reducible refine Gate.z10 ?_); k_dflt (refine' Gate.gItemNat ?_ ?_ ?_ ?_ ?_ ?_ ?_; walk_at "zk"; k_whole)))
local macro_rules | `(tactic| walk_at "newList") => `(tactic| (k_here; k_dflt (refine' Gate.gNewList ?_ ?_ ?_ ?_; walk_at "zk"; k_whole); walk_at "zl"))
local macro_rules | `(tactic| walk_at "newTuple") => `(tactic| (k_here; k_dflt (refine' Gate.gNewTuple ?_ ?_ ?_ ?_; walk_at "zk"; k_whole); walk_at "zl"))
set_option maxHeartbeats 4000000 in
theorem cellC (w : World) (mean : ExcName → Option Value) (mg mb : Str → Option Value) : CellC w mean mg mb := by
  w_on
  unfold CellC
  intro dp un gd cn cs a ccd cl outer A₀ base h₀ L m s Q E hl xl vs ns k tk e1 e2 frz G hx hi hlen hk0 hne hd hu hret
  obtain ⟨B, F, X, N, T, hk⟩ := G
  revert X; k_fill; intro X
  refine wpAny_call ?_
  k_dflt ktr_enter
  k_steps
  all_goals exact hret _ _ _ _ _ (by assumption) (by assumption)
theorem CellC.use {w : World} {mean : ExcName → Option Value} {mg mb : Str → Option Value} (C : CellC w mean mg mb) {dp un : Nat} {gd : Option (List Code)} {cn : Str} {cs : Scope} {a : Addr} {ccd : Value} {cl : List (Str × Addr)} {outer : List Env} {A₀ : Around} {base h₀ : Heap} {L : Addr} {m : Str → Option Value} {s : Shared} {Q E : Value → Shared → Prop}
    {hl xl : Addr} {vs : List Value} {ns : List Int} {k : Int} {tk : Tok} {e1 e2 : Nat} {led : List (Addr × Obj)} {g : Obj → List (Addr × Obj)}
    (B : Below A₀ base outer h₀) (F : Fr h₀ L s.heap m) (X : (Gate.hd.heap_39 w.params).In h₀) (N : News h₀ L s.heap led) (T : Top Gate.view (looseW Gate.view []) mean mg mb h₀) (hk : cs.kind = .function)
    (U : UpdF hl (handO xl k tk e1) led g) (hx : (xl, listOf vs.toArray e2) ∈ led) (hxl : @Ne Nat xl hl) (hi : IntsAre vs ns) (hlen : vs.length ≤ 63) (hk0 : 0 ≤ k) (hd : dp + 5 < recursionLimit) (hu : un + 60 < cLine)
    (ret : ∀ c t h' t1 t2, Fr h₀ L h' m → News h₀ L h' (g (handO xl (k + 1) t1 e1)) → Q (.int c t) { s with heap := h', toks := t2 }) :
    wpAny (model PySem.Challenge.rw_pq0466_01.row.prog w) (ktrTop dp un gd cn cs L a ccd cl outer) (call (.ref 311) [.ref hl]) Q E s := by
  obtain ⟨own, rest, rfl, hg, h1, h2⟩ := U.split
  refine C dp un gd cn cs a ccd cl outer A₀ base h₀ L m s Q E hl xl vs ns k tk e1 e2 (own ++ rest) ⟨B, F, X, fun p hp => N p ?_, T, hk⟩ ?_ hi hlen hk0 ?_ hd hu fun c t h' t1 t2 F' N' => ret c t h' t1 t2 F' fun p hp => N' p ?_
  · simp only [List.mem_cons, List.mem_append] at hp ⊢; rcases hp with h | h | h <;> simp [h]
  · simp only [List.mem_cons, List.mem_append] at hx ⊢
    rcases hx with h | h | h
    · exact .inl h
    · exact absurd (congrArg Prod.fst h) hxl
    · exact .inr h
  · intro p hp
    rcases List.mem_append.mp hp with h | h
    · exact h1 p h
    · exact h2 p h
  · rw [hg] at hp
    simp only [List.mem_cons, List.mem_append] at hp ⊢; rcases hp with h | h | h <;> simp [h]

def WholeC (w : World) (mean : ExcName → Option Value) (mg mb : Str → Option Value) : Prop :=
  ∀ (dp un : Nat) (gd : Option (List Code)) (cn : Str) (cs : Scope) (a : Addr) (ccd : Value) (cl : List (Str × Addr)) (outer : List Env) (A₀ : Around) (base h₀ : Heap) (L : Addr) (m : Str → Option Value) (s : Shared) (Q E : Value → Shared → Prop)
    (n : Int) (tn : Tok) (frz : List (Addr × Obj)),
    Gd w mean mg mb cs A₀ base outer h₀ L s.heap m frz →
    n.natAbs < 10 ^ 36 → dp + 5 < recursionLimit → un + 60 < cLine →
    (∀ t h' t2, Fr h₀ L h' m → News h₀ L h' frz → Q (.str (txt n) t) { s with heap := h', toks := t2 }) →
    wpAny (model PySem.Challenge.rw_pq0466_01.row.prog w) (ktrTop dp un gd cn cs L a ccd cl outer) (call (.ref 28) [.int n tn]) Q E s
set_option maxHeartbeats 4000000 in
theorem wholeC (w : World) (mean : ExcName → Option Value) (mg mb : Str → Option Value) : WholeC w mean mg mb := by
  w_on
  unfold WholeC
  intro dp un gd cn cs a ccd cl outer A₀ base h₀ L m s Q E n tn frz G hn hd hu hret
  obtain ⟨B, F, X, N, T, hk⟩ := G
  revert X; k_fill; intro X
  have hcase : (n.natAbs : Int) < 1000000000000000000 ∨ 1000000000000000000 ≤ (n.natAbs : Int) := by omega
  rcases hcase with hcase | hcase
  all_goals
    refine wpAny_call ?_
    k_dflt ktr_enter
    k_steps
  all_goals first
    | (rw [whole1 (by omega)]; exact hret _ _ _ (by assumption) (newsSub (by assumption) (fun p hp => by simp only [List.mem_cons, hp, or_true])))
    | (rw [whole3 (by omega)]; exact hret _ _ _ (by assumption) (newsSub (by assumption) (fun p hp => by simp only [List.mem_cons, hp, or_true])))
    | (rw [whole2 (by omega)]; exact hret _ _ _ (by assumption) (newsSub (by assumption) (fun p hp => by simp only [List.mem_cons, hp, or_true])))
    | (rw [whole4 (by omega)]; exact hret _ _ _ (by assumption) (newsSub (by assumption) (fun p hp => by simp only [List.mem_cons, hp, or_true])))
theorem WholeC.use {w : World} {mean : ExcName → Option Value} {mg mb : Str → Option Value} (C : WholeC w mean mg mb) {dp un : Nat} {gd : Option (List Code)} {cn : Str} {cs : Scope} {a : Addr} {ccd : Value} {cl : List (Str × Addr)} {outer : List Env} {A₀ : Around} {base h₀ : Heap} {L : Addr} {m : Str → Option Value} {s : Shared} {Q E : Value → Shared → Prop} {n : Int} {tn : Tok} {frz : List (Addr × Obj)}
    (B : Below A₀ base outer h₀) (F : Fr h₀ L s.heap m) (X : (Gate.hd.heap_39 w.params).In h₀) (N : News h₀ L s.heap frz) (T : Top Gate.view (looseW Gate.view []) mean mg mb h₀) (hk : cs.kind = .function)
    (hn : n.natAbs < 10 ^ 36) (hd : dp + 5 < recursionLimit) (hu : un + 60 < cLine) (ret : ∀ t h' t2, Fr h₀ L h' m → News h₀ L h' frz → Q (.str (txt n) t) { s with heap := h', toks := t2 }) :
    wpAny (model PySem.Challenge.rw_pq0466_01.row.prog w) (ktrTop dp un gd cn cs L a ccd cl outer) (call (.ref 28) [.int n tn]) Q E s :=
  C _ _ _ _ _ _ _ _ _ _ _ _ _ _ _ _ _ _ _ _ ⟨B, F, X, N, T, hk⟩ hn hd hu ret

section
def NodeC (w : World) (mean : ExcName → Option Value) (mg mb : Str → Option Value) (d : Nat) : Prop :=
  ∀ (dp un : Nat) (gd : Option (List Code)) (cn : Str) (cs : Scope) (a : Addr) (ccd : Value) (cl : List (Str × Addr)) (outer : List Env) (A₀ : Around) (base h₀ : Heap) (L : Addr) (m : Str → Option Value) (s : Shared) (Q E : Value → Shared → Prop)
    (v : Value) (n : Node) (frz : Led),
    Below A₀ base outer h₀ → Fr h₀ L s.heap m → (Gate.hd.heap_39 w.params).In h₀ → News h₀ L s.heap frz → Top Gate.view (looseW Gate.view []) mean mg mb h₀ → cs.kind = .function →
    NodeIn frz v n → Node.ok d n → d ≤ 6 → dp + 2 * d + 10 < recursionLimit → un + 20 * d + 100 < cLine →
    (∀ t h' t2, Fr h₀ L h' m → News h₀ L h' frz → Q (.str n.text t) { s with heap := h', toks := t2 }) →
    wpAny (model PySem.Challenge.rw_pq0466_01.row.prog w) (ktrTop dp un gd cn cs L a ccd cl outer) (call (.ref 208) [v]) Q E s
theorem NodeC.use {d : Nat} {w : World} {mean : ExcName → Option Value} {mg mb : Str → Option Value} (C : NodeC w mean mg mb d) {dp un : Nat} {gd : Option (List Code)} {cn : Str} {cs : Scope} {a : Addr} {ccd : Value} {cl : List (Str × Addr)} {outer : List Env} {A₀ : Around} {base h₀ : Heap} {L : Addr} {m : Str → Option Value} {s : Shared} {Q E : Value → Shared → Prop} {v : Value} {n : Node} {frz : Led}
    (B : Below A₀ base outer h₀) (F : Fr h₀ L s.heap m) (X : (Gate.hd.heap_39 w.params).In h₀) (N : News h₀ L s.heap frz) (T : Top Gate.view (looseW Gate.view []) mean mg mb h₀) (hk : cs.kind = .function)
    (hv : NodeIn frz v n) (ok : Node.ok d n) (h6 : d ≤ 6) (hd : dp + 2 * d + 10 < recursionLimit) (hu : un + 20 * d + 100 < cLine) (ret : ∀ t h' t2, Fr h₀ L h' m → News h₀ L h' frz → Q (.str n.text t) { s with heap := h', toks := t2 }) :
    wpAny (model PySem.Challenge.rw_pq0466_01.row.prog w) (ktrTop dp un gd cn cs L a ccd cl outer) (call (.ref 208) [v]) Q E s :=
  C _ _ _ _ _ _ _ _ _ _ _ _ _ _ _ _ _ _ _ _ B F X N T hk hv ok h6 hd hu ret
local macro_rules | `(tactic| walk_at "call ref") => `(tactic| (k_here; (refine Gate.z8 ?_); k_dflt (refine' Gate.WholeC.use (by assumption) ?_ ?_ ?_ ?_ ?_ ?_ ?_ ?_ ?_ ?_; walk_at "zk"; k_whole); walk_at "zn"))
local macro_rules | `(tactic| walk_at "call ref") => `(tactic| (k_here; (refine Gate.z9 ?_); k_dflt (refine' Gate.NodeC.use (by assumption) ?_ ?_ ?_ ?_ ?_ ?_ ?_ ?_ ?_ ?_ ?_ ?_; walk_at "zk"; k_whole); walk_at "zn"))
local macro_rules | `(tactic| walk_at "eval ListComp") => `(tactic| (k_here; k_dflt (refine' Gate.ListComp_T ?F ?c1 ?c2 ?c3 ?c4 ?c5 ?_ ?c6; (case F => k_asm); (case c1 => rfl); (case c2 => decide); (case c3 => rfl); (case c4 => decide); (case c5 => rfl); (case c6 => intro _; rfl); k_whole)))
local macro_rules | `(tactic| walk_at "CompSrcT") => `(tactic| (k_dflt (refine' Gate.CompSrcT.intro ?a ?F ?N ?m ?z ?_; (case a => rfl); (case F => k_asm); (case N => k_asm); (case m => k_mem); (case z => assumption)); intro g'))
set_option maxHeartbeats 4000000 in
theorem nodeC (w : World) (mean : ExcName → Option Value) (mg mb : Str → Option Value) : ∀ d, NodeC w mean mg mb d := by
  w_on
  intro d
  induction d using Nat.strongRecOn with
  | ind d IH =>
  intro dp un gd cn cs a ccd cl outer A₀ base h₀ L m s Q E v n frz B F X N T hk hv hok h6 hd hu hret
  have WC := wholeC w mean mg mb
  revert X; k_fill; intro X
  cases n
  case tup l =>
    obtain ⟨ax, vs, e, rfl, hm, hs⟩ := hv
    obtain ⟨hd0, hl5, hoks⟩ := hok
    have ih := IH (d - 1) (by omega)
    have hvl := NodesIn.length hs
    have hsl : vs.length ≤ sizeLine := by rw [sizeLine_eq]; omega
    refine wpAny_call ?_
    k_dflt ktr_enter
    k_steps
    refine Gate.compRest_inv (fun i ys nw => nw = frz ∧ StrsAre ys (Node.texts (l.take i))) ?turn ?fin _ 0 [] _ (Nat.zero_add _) ⟨rfl, StrsAre.nil⟩
    case turn =>
      intro i ys nw v I oI C oC D m2 h tk E' hi hJ hP hC hx F1 N1 off ne
      obtain ⟨rfl, hst⟩ := hJ
      obtain ⟨n1, hn1, hin1⟩ := NodesIn.get hs hP
      have hok1 := oks_get hoks (List.mem_of_getElem? hn1)
      (try k_unmd)
      (try k_fold)
      k_steps
      all_goals (refine LCg.CompEnd.intro (by assumption) (by assumption) _ (fun _ h => h) off hm ⟨rfl, ?_⟩; rw [texts_take hn1]; exact strs_snoc hst _ _)
    case fin =>
      intro ys nw hJ
      obtain ⟨rfl, hst⟩ := hJ
      rw [hvl, List.take_length] at hst
      obtain ⟨hj1, hj2, hj3⟩ := join_ok (by omega) hl5 hoks
      k_steps
      all_goals exact hret _ _ _ (by assumption) (newsSub (by assumption) (fun p hp => .tail _ hp))
  case none =>
    obtain rfl := hv
    refine wpAny_call ?_
    k_dflt ktr_enter
    k_steps
    all_goals first | exact hret _ _ _ (by assumption) (by assumption) | (subst_vars; exact hret _ _ _ (by assumption) (by assumption))
  case bool b =>
    obtain rfl := hv
    refine wpAny_call ?_
    k_dflt ktr_enter
    k_steps
    all_goals first | exact hret _ _ _ (by assumption) (by assumption) | (subst_vars; exact hret _ _ _ (by assumption) (by assumption))
  case int i =>
    obtain ⟨t, rfl⟩ := hv
    have hok : i.natAbs < 10 ^ 36 := hok
    refine wpAny_call ?_
    k_dflt ktr_enter
    k_steps
    all_goals exact hret _ _ _ (by assumption) (by assumption)
  case str x =>
    obtain ⟨t, rfl⟩ := hv
    refine wpAny_call ?_
    k_dflt ktr_enter
    k_steps
    all_goals first | exact hret _ _ _ (by assumption) (by assumption) | (subst_vars; exact hret _ _ _ (by assumption) (by assumption))

end
def rowText (i : Nat) (l : List Node) : Str := Txt.join (Str.ofString " ") (txt (i : Int) :: Node.texts l)
def rowTexts (rows : List (List Node)) : List Str := rows.mapIdx rowText
theorem rowTexts_take {rows : List (List Node)} {i : Nat} {l : List Node} (h : rows[i]? = some l) : rowTexts (rows.take (i + 1)) = rowTexts (rows.take i) ++ [rowText i l] := by
  unfold rowTexts
  have hi : i < rows.length := (List.getElem?_eq_some_iff.mp h).1
  rw [List.take_add_one, h]
  simp only [Option.toList_some]
  rw [List.mapIdx_concat, List.length_take, Nat.min_eq_left (Nat.le_of_lt hi)]
def CodeTextC (w : World) (mean : ExcName → Option Value) (mg mb : Str → Option Value) : Prop :=
  ∀ (dp un : Nat) (gd : Option (List Code)) (cn : Str) (cs : Scope) (a : Addr) (ccd : Value) (cl : List (Str × Addr)) (outer : List Env) (A₀ : Around) (base h₀ : Heap) (L : Addr) (m : Str → Option Value) (s : Shared) (Q E : Value → Shared → Prop)
    (ca : Addr) (cvs : List Value) (ce : Nat) (rows : List (List Node)) (frz : Led),
    Below A₀ base outer h₀ → Fr h₀ L s.heap m → (Gate.hd.heap_39 w.params).In h₀ → News h₀ L s.heap frz → Top Gate.view (looseW Gate.view []) mean mg mb h₀ → cs.kind = .function →
    (ca, listOf cvs.toArray ce) ∈ frz → NodesIn frz cvs (rows.map Node.tup) → (∀ l ∈ rows, l.length ≤ 5 ∧ Node.oks 5 l) → cvs.length ≤ 60 → dp + 40 < recursionLimit → un + 400 < cLine →
    (∀ r ws e h' t2, Fr h₀ L h' m → News h₀ L h' ((r, listOf ws.toArray e) :: frz) → (∀ p ∈ frz, p.1 ≠ r) → StrsAre ws (rowTexts rows) → Q (.ref r) { s with heap := h', toks := t2 }) →
    wpAny (model PySem.Challenge.rw_pq0466_01.row.prog w) (ktrTop dp un gd cn cs L a ccd cl outer) (call (.ref 215) [.ref ca]) Q E s
local macro_rules | `(tactic| walk_at "call ref") => `(tactic| (k_here; (refine Gate.z8 ?_); k_dflt (refine' Gate.WholeC.use (by assumption) ?_ ?_ ?_ ?_ ?_ ?_ ?_ ?_ ?_ ?_; walk_at "zk"; k_whole); walk_at "zn"))
local macro_rules | `(tactic| walk_at "call ref") => `(tactic| (k_here; (refine Gate.z9 ?_); k_dflt (refine' Gate.NodeC.use (by assumption) ?_ ?_ ?_ ?_ ?_ ?_ ?_ ?_ ?_ ?_ ?_ ?_; walk_at "zk"; k_whole); walk_at "zn"))
local macro_rules | `(tactic| walk_at "call builtin:list.append") => `(tactic| (k_here; (refine Gate.z6 ?_); k_dflt (refine' Gate.gAppend ?_ ?_ ?_ ?_ ?_; walk_at "zk"; k_whole); intro h' F' N'; (try k_sweep)))
local macro_rules | `(tactic| walk_at "call ref") => `(tactic| (k_here; (refine Gate.z11 ?_); k_dflt (refine' Gate.CellC.use (by assumption) ?_ ?_ ?_ ?_ ?_ ?_ ?_ ?_ ?_ ?_ ?_ ?_ ?_ ?_ ?_; walk_at "zk"; k_whole); intro _ _; walk_at "zn"))
local macro_rules | `(tactic| walk_at "binaryOp Mod int int") => `(tactic| (k_here; (with_reducible refine Gate.z12 ?_); refine' Gate.gModE ?b ?_; (case b => first | decide | omega); intro r' _ _ hr1' hr2' hr3'; (try dsimp only)))
local macro_rules | `(tactic| walk_at "binaryOp Pow int int") => `(tactic| (k_here; (first | ((with_reducible refine Gate.z13 ?_); refine Gate.gPow18 ?_) | ((with_reducible refine Gate.z14 ?_); refine Gate.gPow30 ?_)); intro _ _; (try dsimp only)))
set_option maxHeartbeats 4000000 in
theorem codeTextC (w : World) (mean : ExcName → Option Value) (mg mb : Str → Option Value) : CodeTextC w mean mg mb := by
  w_on
  intro dp un gd cn cs a ccd cl outer A₀ base h₀ L m s Q E ca cvs ce rows frz B F X N T hk hm hin hok hlen hd hu hret
  have NC := nodeC w mean mg mb 5
  have hlen63 : cvs.length ≤ 63 := by omega
  revert X; k_fill; intro X
  refine wpAny_call ?_
  k_dflt ktr_enter
  k_steps
  unfold Hold
  (rename IsRange _ _ _ _ _ _ _ _ => hr)
  (rename Fr _ _ _ _ => Fh)
  (rename News _ _ _ _ => Nh)
  refine namedN Nh fun rl hrl => ?_
  subst hrl
  (rename ∀ p ∈ frz, p.1 < rl => hlt)
  have hrne := neOfLt hlt
  have hrl : cvs.length = rows.length := by have := NodesIn.length hin; simpa using this
  obtain ⟨hsm, hsz⟩ := range0 (n := cvs.length) (by omega)
  refine iterRangeS ["row", "words", "part"] (fun i u nw => ∃ ws e, nw = (rl, listOf ws.toArray e) :: frz ∧ StrsAre ws (rowTexts (rows.take i))) rfl hr hsm hsz Fh Nh ⟨[], 0, rfl, StrsAre.nil⟩ ?turn ?done
  case turn =>
    intro i t u nw I oI h tk hi hJ hne Ft Nt
    obtain ⟨ws, e, rfl, hws⟩ := hJ
    obtain ⟨v, hv⟩ : ∃ v, cvs[i]? = some v := ⟨_, List.getElem?_eq_getElem hi⟩
    obtain ⟨nd, hnd, hin1⟩ := NodesIn.get hin hv
    obtain ⟨lr, hlr, rfl⟩ : ∃ lr, rows[i]? = some lr ∧ Node.tup lr = nd := by simpa using hnd
    obtain ⟨ax, vs, e2, rfl, hmx, hins⟩ := hin1
    obtain ⟨hl5, hoks⟩ := hok lr (List.mem_of_getElem? hlr)
    have hvl := NodesIn.length hins
    have hneI : @Ne Nat rl I := hne _ (.head _)
    have hneF : ∀ p ∈ frz, p.1 ≠ I := fun p hp => hne p (.tail _ hp)
    (try k_unmd)
    (try k_fold)
    k_steps
    unfold Hold
    (rename Fr _ _ _ _ => Fw)
    (rename News _ _ _ _ => Nw)
    refine namedN Nw fun wl hwl => ?_
    subst hwl
    (rename ∀ p ∈ frz, p.1 < wl => hltw)
    have hwne := neOfLt hltw
    refine iterTupleS [] (fun j u nw => ∃ ws2 e2, nw = (wl, listOf ws2.toArray e2) :: (I, oI) :: (rl, listOf ws.toArray e) :: frz ∧ StrsAre ws2 (txt (i : Int) :: Node.texts (lr.take j))) rfl Fw Nw (List.Mem.tail _ (List.Mem.tail _ (List.Mem.tail _ hmx))) ⟨[.str (txt (i : Int)) _], 0, rfl, StrsAre.cons _ _ StrsAre.nil⟩ (fun i m nw h => by obtain ⟨_, _, rfl, _⟩ := h; exact List.Mem.tail _ (List.Mem.tail _ (List.Mem.tail _ hmx))) ?turn2 ?done2
    case turn2 =>
      intro j v2 u2 nw2 I2 oI2 h2 tk2 hv2 hJ2 hne2 Ft2 Nt2
      obtain ⟨ws2, e3, rfl, hws2⟩ := hJ2
      obtain ⟨n1, hn1, hin2⟩ := NodesIn.get hins hv2
      have hok1 := oks_get hoks (List.mem_of_getElem? hn1)
      have hne2a : @Ne Nat wl I2 := hne2 _ (.head _)
      have hl2 : ws2.length ≤ 60 := by rw [strs_len hws2, List.length_cons, texts_len, List.length_take]; omega
      (try k_unmd)
      (try k_fold)
      k_steps
      all_goals (dsimp only [TurnJ]; refine EndJ.intro (by assumption) (by assumption) (fun p hp => ?_) ⟨⟨_, _, rfl, ?_⟩, ?_⟩)
      · rcases List.mem_cons.mp hp with rfl | hp
        · exact hne2a
        · exact hne2 p (.tail _ hp)
      · rw [texts_take hn1]; exact strs_snoc hws2 _ _
      · k_same
    case done2 =>
      intro u2 nw2 h2 tk2 hJ2 Fd2 Nd2
      obtain ⟨ws2, e3, rfl, hws2⟩ := hJ2
      rw [hvl, List.take_length] at hws2
      obtain ⟨hj1, hj2⟩ := join_ok2 (by omega) hl5 hoks (txt (i : Int)) (len_txt (by omega))
      have hl3 : ws.length ≤ 60 := by rw [strs_len hws, rowTexts, List.length_mapIdx, List.length_take]; omega
      (try k_unmd)
      (try k_fold)
      k_steps
      all_goals (dsimp only [TurnJ]; refine EndJ.intro (by assumption) (newsTl (by assumption)) (fun p hp => ?_) ⟨⟨_, _, rfl, ?_⟩, ?_⟩)
      · rcases List.mem_cons.mp hp with rfl | hp
        · exact hneI
        · exact hneF p hp
      · rw [rowTexts_take hlr]; exact strs_snoc hws _ _
      · k_same
  case done =>
    intro u nw h tk hJ Fd Nd
    obtain ⟨ws, e, rfl, hws⟩ := hJ
    rw [hrl, List.take_length] at hws
    k_steps
    all_goals exact hret _ _ _ _ _ (by assumption) (by assumption) hrne hws

section
open PySem.NumText PySem.Builtin PySem.Builtin.Str
def dgS (r : Nat) : Str := ⟨#[48 + r]⟩
def padS (a : Nat) : Nat → Str
  | 0 => Str.ofString ""
  | i + 1 => dgS (a / 10 ^ i % 10) ++ padS a i
theorem cl_dgS (r : Nat) : cl (dgS r) = [48 + r] := rfl
theorem pad_spec (a i : Nat) : AllDigits (cl (padS a i)) ∧ digitsVal (cl (padS a i)) = a % 10 ^ i ∧ (cl (padS a i)).length = i := by
  induction i with
  | zero =>
    have e : cl (padS a 0) = [] := by show cl (Str.ofString "") = []; exact cl_empty
    rw [e]
    refine ⟨fun c hc => (nomatch hc), ?_, rfl⟩
    rw [Nat.pow_zero, Nat.mod_one]; rfl
  | succ i ih =>
    obtain ⟨h1, h2, h3⟩ := ih
    have e : cl (padS a (i + 1)) = [48 + a / 10 ^ i % 10] ++ cl (padS a i) := by
      show cl (dgS (a / 10 ^ i % 10) ++ padS a i) = _
      rw [cl_append, cl_dgS]
    rw [e]
    refine ⟨allD_append (fun c hc => ?_) h1, ?_, ?_⟩
    · have := List.mem_singleton.mp hc; omega
    · rw [val_append, h2, h3, Nat.mod_pow_succ]
      have : digitsVal [48 + a / 10 ^ i % 10] = a / 10 ^ i % 10 := by
        show 0 * 10 + (48 + a / 10 ^ i % 10 - 48) = _
        omega
      rw [this, Nat.mul_comm, Nat.add_comm]
    · rw [List.length_append, h3, List.length_singleton]; omega
theorem len_pad (a i : Nat) : (padS a i).length = i := by rw [← cl_len]; exact (pad_spec a i).2.2
theorem cl_lstrip0 (x : Str) : cl (Txt.lstripChars x (Str.ofString "0")) = (cl x).dropWhile (· == 48) := by
  show cl (Txt.stripBy _ true false x) = _
  rw [PyProof.Rows.stripBy_eq, cl, StrLaws.strSub_toList]
  have h1 : stripLo (Str.ofString "0").cps.contains true x = (x.cps.toList.takeWhile (· == 48)).length := by
    show (x.cps.toList.takeWhile _).length = _
    congr 2
    funext c
    show (Str.ofString "0").cps.contains c = _
    rw [show (Str.ofString "0").cps = #[48] by decide +kernel]
    rw [Bool.eq_iff_iff]; simp
  have h2 : stripHi (Str.ofString "0").cps.contains false x (stripLo (Str.ofString "0").cps.contains true x) = x.length := rfl
  rw [h2, h1]
  rw [List.take_of_length_le (by simp [Str.length])]
  show _ = x.cps.toList.dropWhile _
  conv => lhs; arg 2; rw [← List.takeWhile_append_dropWhile (p := (· == 48)) (l := x.cps.toList)]
  rw [List.drop_left]
theorem strip_pad {a : Nat} (h : a < 10 ^ 31) : (Txt.lstripChars (padS a 31) (Str.ofString "0") = Str.ofString "" ∧ txt (a : Int) = Str.ofString "0") ∨ (Txt.lstripChars (padS a 31) (Str.ofString "0") = txt (a : Int) ∧ txt (a : Int) ≠ Str.ofString "") := by
  obtain ⟨h1, h2, h3⟩ := pad_spec a 31
  rw [Nat.mod_eq_of_lt h] at h2
  have e := toDigits_all _ h1
  rw [h2] at e
  have e2 := cl_lstrip0 (padS a 31)
  have hall : AllDigits ((cl (padS a 31)).dropWhile (· == 48)) := fun c hc => h1 c ((List.dropWhile_sublist _).mem hc)
  generalize (cl (padS a 31)).dropWhile (· == 48) = l at e e2 hall
  cases l with
  | nil =>
    refine .inl ⟨str_ext (by rw [e2]; exact cl_empty.symm), str_ext ?_⟩
    rw [cl_txt_nat, dg, e]; decide +kernel
  | cons c r =>
    have e3 : cl (txt (a : Int)) = c :: r := by rw [cl_txt_nat, dg, e]; exact ofNat_digits hall
    refine .inr ⟨str_ext (by rw [e2, e3]), fun hh => ?_⟩
    rw [hh, cl_empty] at e3; cases e3
theorem txt_neg {n : Int} (h : n < 0) : Str.ofString "-" ++ txt (n.natAbs : Int) = txt n := by
  apply str_ext; rw [cl_append, cl_minus, cl_txt_nat, cl_txt_neg h]; rfl
theorem str_nil_append (x : Str) : Str.ofString "" ++ x = x := by
  apply str_ext; rw [cl_append, cl_empty]; rfl
theorem txt_pos {n : Int} (h : ¬ n < 0) : txt (n.natAbs : Int) = txt n := by
  rw [show (n.natAbs : Int) = n by omega]
theorem item_dg : ∀ k : Nat, k < 10 → Txt.item (Str.ofString "0123456789") (k : Int) = dgS k := by decide +kernel
section
variable {prog : Program} {w : World} {A : Around} {E : Value → Shared → Prop} {s : Shared}
theorem gDigit {value slice : PySem.Expr} {r : Int} {t u : Tok} {Q : Value → Shared → Prop} (h0 : 0 ≤ r) (h1 : r < 10) (h : ∀ t tk, Q (.str (dgS r.toNat) t) { s with toks := tk })
    (hs : subscripted slice false (.str (Str.ofString "0123456789") t) (.int r u) = operate [.str (Str.ofString "0123456789") t, .int r u] (getItem (.str (Str.ofString "0123456789") t) (.int r u)))
    (ht : ∀ r, letTemporaryGo value (.str (Str.ofString "0123456789") t) r = pure ()) :
    wpAny (model prog w) A (subscriptTail value slice (.str (Str.ofString "0123456789") t) (.int r u)) Q E s := by
  have hl : (Str.ofString "0123456789").length = 10 := by decide +kernel
  refine item_str (fitsSsize_of (N := 9223372036854775808) (by omega) (by omega) (Int.le_refl _)) (by rw [hl]; omega) (by rw [hl]; omega) (fun _ => ?_) hs ht
  have e := item_dg r.toNat (by omega)
  rw [show ((r.toNat : Nat) : Int) = r by omega] at e
  rw [e]; exact h _ _
theorem gCat {x y : Str} {t u : Tok} {Q : Value → Shared → Prop} (hx : x.length ≤ 6000000) (hy : y.length ≤ 6000000) (h : ∀ t tk, Q (.str (x ++ y) t) { s with toks := tk }) : wpAny (model prog w) A (binaryOp .Add (.str x t) (.str y u)) Q E s := by
  refine P.add_str ?_
  by_cases h1 : x.length = 0
  · rw [if_pos (by simpa using h1)]
    have e : x ++ y = y := by
      apply str_ext; rw [cl_append]
      have : cl x = [] := List.eq_nil_of_length_eq_zero (by rw [cl_len]; exact h1)
      rw [this]; rfl
    have := h u s.toks
    rw [e] at this; exact this
  · rw [if_neg (by simpa using h1)]
    by_cases h2 : y.length = 0
    · rw [if_pos (by simpa using h2)]
      have e : x ++ y = x := by
        apply str_ext; rw [cl_append]
        have : cl y = [] := List.eq_nil_of_length_eq_zero (by rw [cl_len]; exact h2)
        rw [this]; simp
      have := h t s.toks
      rw [e] at this; exact this
    · rw [if_neg (by simpa using h2)]
      refine ⟨?_, h _ _⟩
      have := len_app x y
      show (x ++ y).length ≤ sizeLine
      rw [sizeLine_eq]; omega
theorem gFloorDiv {a b : Int} {t u : Tok} {Q : Value → Shared → Prop} (hb : 0 < b) (hb2 : b < 10 ^ 36) (h : ∀ t tk, Q (.int (a / b) t) { s with toks := tk }) : wpAny (model prog w) A (binaryOp .FloorDiv (.int a t) (.int b u)) Q E s := by
  refine floordiv_int (by omega) ?_ (Or.inl (PyProof.noPylong_of_log2 (Nat.lt_trans (log2_36 (by omega)) (by decide))))
  rw [Int.fdiv_eq_ediv_of_nonneg _ (by omega)]; exact h _ _
end

end
section
/-- pairs (value, its text) -/
def PairsIn (led : Led) : List Value → List Node → Prop
  | vs, [] => vs = []
  | vs, n :: r => ∃ a v t ws, vs = .ref a :: ws ∧ (a, tupO [v, .str n.text t] 0) ∈ led ∧ NodeIn led v n ∧ PairsIn led ws r
theorem PairsIn.mono {led led' : Led} (h : ∀ p ∈ led, p ∈ led') : ∀ {vs : List Value} {l : List Node}, PairsIn led vs l → PairsIn led' vs l
  | _, [], x => x
  | _, _ :: _, ⟨a, v, t, ws, e, h1, h2, h3⟩ => ⟨a, v, t, ws, e, h _ h1, NodeIn.mono h h2, PairsIn.mono h h3⟩
theorem PairsIn.length {led : Led} : ∀ {vs : List Value} {l : List Node}, PairsIn led vs l → vs.length = l.length
  | _, [], x => by rw [x]; rfl
  | _, _ :: _, ⟨a, v, t, ws, e, _, _, h3⟩ => by rw [e, List.length_cons, List.length_cons, PairsIn.length h3]
theorem PairsIn.snoc {led : Led} : ∀ {vs : List Value} {l : List Node} {a : Addr} {v : Value} {t : Tok} {n : Node}, PairsIn led vs l → (a, tupO [v, .str n.text t] 0) ∈ led → NodeIn led v n → PairsIn led (vs ++ [.ref a]) (l ++ [n])
  | _, [], a, v, t, n, x, h, h' => by rw [x]; exact ⟨a, v, t, [], rfl, h, h', rfl⟩
  | _, m :: r, a, v, t, n, ⟨a1, v1, t1, ws, e, h1, h2, h3⟩, h, h' => by rw [e]; exact ⟨a1, v1, t1, ws ++ [.ref a], rfl, h1, h2, PairsIn.snoc h3 h h'⟩
theorem PairsIn.get {led : Led} : ∀ {vs : List Value} {l : List Node} {i : Nat} {x : Value}, PairsIn led vs l → vs[i]? = some x → ∃ n a v t, l[i]? = some n ∧ x = .ref a ∧ (a, tupO [v, .str n.text t] 0) ∈ led ∧ NodeIn led v n
  | _, [], i, x, e, h => by rw [e] at h; cases i <;> cases h
  | _, n :: r, 0, x, ⟨a, v, t, ws, e, h1, h2, h3⟩, h => by rw [e] at h; cases h; exact ⟨n, a, v, t, rfl, rfl, h1, h2⟩
  | _, n :: r, i + 1, x, ⟨a, v, t, ws, e, h1, h2, h3⟩, h => by
    rw [e] at h
    have z := PairsIn.get (l := r) (i := i) h3 (by simpa using h)
    simpa using z
theorem nodes_take {led : Led} {zs : List Value} {l : List Node} {i : Nat} {n : Node} {v : Value} (h : NodesIn led zs (l.take i)) (hn : l[i]? = some n) (hv : NodeIn led v n) : NodesIn led (zs ++ [v]) (l.take (i + 1)) := by
  rw [List.take_add_one, hn]; exact NodesIn.snoc h hv
theorem off1_mem {D : Addr} : ∀ {l : Led}, LCg.Off1 D l → ∀ p ∈ l, p.1 ≠ D
  | [], _, _, h => nomatch h
  | _ :: _, x, p, h => by
    rcases List.mem_cons.mp h with rfl | h
    · exact x.1
    · exact off1_mem x.2 p h
section
variable {prog : Program} {w : World} {A : Around} {E : Value → Shared → Prop} {s : Shared} {h₀ : Heap} {L l : Addr} {m : Str → Option Value} {news : Led} {e : Nat}
theorem gPair0 {value slice : PySem.Expr} {u : Tok} {v : Value} {vs : List Value} {Q : Value → Shared → Prop} (N : News h₀ L s.heap news) (hm : (l, tupO (v :: vs) e) ∈ news) (hsz : vs.length ≤ 60) (h : Q v s)
    (hs : subscripted slice false (.ref l) (.int 0 u) = operate [.ref l, .int 0 u] (getItem (.ref l) (.int 0 u))) :
    wpAny (model prog w) A (subscriptTail value slice (.ref l) (.int 0 u)) Q E s :=
  item_tupleT (j := 0) (News.isTup N hm) (by decide) (by decide) (by unfold seqIndex?; simp) rfl h hs
theorem gPair1 {value slice : PySem.Expr} {u : Tok} {v x : Value} {vs : List Value} {Q : Value → Shared → Prop} (N : News h₀ L s.heap news) (hm : (l, tupO (x :: v :: vs) e) ∈ news) (hsz : vs.length ≤ 60) (h : Q v s)
    (hs : subscripted slice false (.ref l) (.int 1 u) = operate [.ref l, .int 1 u] (getItem (.ref l) (.int 1 u))) :
    wpAny (model prog w) A (subscriptTail value slice (.ref l) (.int 1 u)) Q E s :=
  item_tupleT (j := 1) (News.isTup N hm) (by decide) (by decide) (by unfold seqIndex?; simp; omega) rfl h hs
theorem gTupleOf {zs : List Value} {Q : Value → Shared → Prop} (F : Fr h₀ L s.heap m) (N : News h₀ L s.heap news) (hm : (l, listOf zs.toArray e) ∈ news) (hz : zs.length ≤ 63)
    (h : ∀ D h', Fr h₀ L h' m → News h₀ L h' ((D, tupO zs 0) :: news) → (∀ p ∈ news, p.1 < D) → Q (.ref D) { s with heap := h' }) : wpAny (model prog w) A (call (.type "tuple") [.ref l]) Q E s :=
  kde_tupleOf F N (News.isList N hm) (by simp; omega) rfl h
end

end
section
theorem namedN2 {h₀ h : Heap} {L d1 d2 : Addr} {o1 o2 : Obj} {rest : Led} {P : Prop} (_N : News h₀ L h ((d1, o1) :: (d2, o2) :: rest)) (k : ∀ a b, a = o1 → b = o2 → P) : P := k _ _ rfl rfl
theorem namedNT {h₀ h : Heap} {L d1 d2 : Addr} {o1 o2 : Obj} {rest : Led} {P : Prop} (_N : News h₀ L h ((d1, o1) :: (d2, o2) :: rest)) (k : ∀ a b, a = d1 → b = d2 → P) : P := k _ _ rfl rfl
def Sep (tl led : Led) : Prop := ∀ p ∈ tl, ∀ q ∈ led, p.1 ≠ q.1
theorem Sep.nil {led : Led} : Sep [] led := fun _ h => nomatch h
theorem Sep.one {r : Addr} {o : Obj} {led : Led} (h : ∀ q ∈ led, q.1 < r) : Sep [(r, o)] led := fun p hp q hq => by
  rw [List.mem_singleton.mp hp]; exact Ne.symm (Nat.ne_of_lt (h q hq))
theorem Sep.cons {r : Addr} {o : Obj} {tl led : Led} (h : ∀ q ∈ led, q.1 ≠ r) (ht : Sep tl led) : Sep ((r, o) :: tl) led := fun p hp q hq => by
  rcases List.mem_cons.mp hp with rfl | hp
  · exact Ne.symm (h q hq)
  · exact ht p hp q hq
def OpRet (h₀ : Heap) (L : Addr) (m : Str → Option Value) (hl xl : Addr) (e1 : Nat) (frz : Led) (d : Nat) (s : Shared) (Q : Value → Shared → Prop) : Prop :=
  ∀ r v n x t tl k' h' t1 t2, Fr h₀ L h' m → News h₀ L h' ((hl, handO xl k' t1 e1) :: (tl ++ frz)) → Sep tl ((hl, handO xl k' t1 e1) :: frz) → 0 ≤ k' → (r, tupO [v, .str x t] 0) ∈ tl → NodeIn tl v n → Node.ok d n → x = n.text → Q (.ref r) { s with heap := h', toks := t2 }
theorem opLeaf {h₀ h' : Heap} {L hl xl l' : Addr} {m : Str → Option Value} {e1 d t2 : Nat} {frz : Led} (pre : Led) {s : Shared} {Q : Value → Shared → Prop} {v : Value} {x : Str} {t t1 : Tok} {k' : Int} (n : Node) (ret : OpRet h₀ L m hl xl e1 frz d s Q)
    (F : Fr h₀ L h' m) (N : News h₀ L h' ((l', tupO [v, .str x t] 0) :: (pre ++ (hl, handO xl k' t1 e1) :: frz))) (h1 : hl < l') (h2 : ∀ p ∈ frz, p.1 < l') (h0 : 0 ≤ k') (hin : NodeIn [] v n) (ok : Node.ok d n) (hx : x = n.text) :
    Q (.ref l') { s with heap := h', toks := t2 } := by
  refine ret l' v n x t [(l', tupO [v, .str x t] 0)] k' h' t1 t2 F (newsSub N fun p hp => ?_) (Sep.one fun q hq => ?_) h0 (.head _) (NodeIn.mono (fun p hp => .tail _ hp) hin) ok hx
  · simp only [List.mem_cons, List.mem_append, List.not_mem_nil, or_false] at hp ⊢; rcases hp with h | h | h <;> simp [h]
  · rcases List.mem_cons.mp hq with rfl | hq
    · exact h1
    · exact h2 q hq
theorem opPair {h₀ h' : Heap} {L hl xl l' T : Addr} {m : Str → Option Value} {e1 d t2 : Nat} {frz tl : Led} (pre0 pre : Led) {pre1 : Led} {s : Shared} {Q : Value → Shared → Prop} {x : Str} {t t1 : Tok} {k' : Int} {zs : List Value} {nds : List Node} (ret : OpRet h₀ L m hl xl e1 frz d s Q)
    (F : Fr h₀ L h' m) (N : News h₀ L h' ((l', tupO [.ref T, .str x t] 0) :: (pre0 ++ (T, tupO zs 0) :: (pre ++ (hl, handO xl k' t1 e1) :: (tl ++ frz))))) (h1 : hl < T) (h2 : ∀ p ∈ tl ++ frz, p.1 < T) (h3 : hl < l') (h4 : ∀ p ∈ tl ++ frz, p.1 < l')
    (hsep : Sep tl (pre1 ++ (hl, handO xl k' t1 e1) :: frz)) (h0 : 0 ≤ k') (hz : NodesIn tl zs nds) (ok : Node.ok d (Node.tup nds)) (hx : x = (Node.tup nds).text) :
    Q (.ref l') { s with heap := h', toks := t2 } := by
  refine ret l' (.ref T) (Node.tup nds) x t ((l', tupO [.ref T, .str x t] 0) :: (T, tupO zs 0) :: tl) k' h' t1 t2 F (newsSub N fun p hp => ?s1) ?s2 h0 (.head _) ⟨T, zs, 0, rfl, .tail _ (.head _), NodesIn.mono (fun p hp => .tail _ (.tail _ hp)) hz⟩ ok hx
  case s1 =>
    simp only [List.mem_cons, List.mem_append, List.cons_append] at hp ⊢
    rcases hp with h | h | h | h | h <;> simp [h]
  case s2 =>
    refine Sep.cons (fun q hq => ?_) (Sep.cons (fun q hq => ?_) (fun p hp q hq => hsep p hp q (List.mem_append_right _ hq)))
    · rcases List.mem_cons.mp hq with rfl | hq
      · exact Nat.ne_of_lt h3
      · exact Nat.ne_of_lt (h4 q (List.mem_append_right _ hq))
    · rcases List.mem_cons.mp hq with rfl | hq
      · exact Nat.ne_of_lt h1
      · exact Nat.ne_of_lt (h2 q (List.mem_append_right _ hq))
/-- what holds between the turns of a comprehension of operands -/
def PJ (pre : Led) (hl xl : Addr) (e1 : Nat) (frz : Led) (d : Nat) (i : Nat) (ys : List Value) (nw : Led) : Prop :=
  ∃ k' t1 tl nds, nw = pre ++ (hl, handO xl k' t1 e1) :: (tl ++ frz) ∧ Sep tl (pre ++ (hl, handO xl k' t1 e1) :: frz) ∧ 0 ≤ k' ∧ PairsIn tl ys nds ∧ Node.oks d nds ∧ nds.length = i
theorem PJ.turn {h₀ : Heap} {L hl xl : Addr} {m : Str → Option Value} {e1 d i : Nat} {pre frz tl : Led} {s : Shared} {I C D : Addr} {oI oC : Obj} {ys : List Value} {k' : Int} {t1 : Tok} {nds : List Node}
    (off : LCg.Off3 I C D (pre ++ (hl, handO xl k' t1 e1) :: (tl ++ frz))) (hs : Sep tl (pre ++ (hl, handO xl k' t1 e1) :: frz)) (hp : PairsIn tl ys nds) (ho : Node.oks d nds) (hlen : nds.length = i) :
    OpRet h₀ L m hl xl e1 ((I, oI) :: (C, oC) :: (D, LCg.lst ys) :: (pre ++ (tl ++ frz))) d s (LCg.CompEnd h₀ L m s I oI C oC D (LCg.lst ys) (fun _ => True) (fun y news' => PJ pre hl xl e1 frz d (i + 1) (ys ++ [y]) news')) := by
  intro r v n x t tl2 k2 h2 t2 t3 F2 N2 sep2 hk2 hr2 hin2 hok2 hx2
  subst hx2
  have off := off.mem
  refine LCg.CompEnd.intro F2 N2 (pre ++ (hl, handO xl k2 t2 e1) :: ((tl2 ++ tl) ++ frz)) ?_ (LCg.Off3.of ?_) trivial ⟨k2, t2, tl2 ++ tl, nds ++ [n], rfl, ?_, hk2, ?_, oks_snoc ho hok2, by simp [hlen]⟩
  · intro p hp
    simp only [List.mem_cons, List.mem_append] at hp ⊢
    rcases hp with h | h | h | h | h | (h | h) | h <;> simp [h]
  · intro p hp
    simp only [List.mem_cons, List.mem_append] at hp
    rcases hp with h | h | (h | h) | h
    · exact off p (by simp [h])
    · subst h; exact off (hl, handO xl k' t1 e1) (by simp)
    · exact ⟨sep2 p h (I, oI) (by simp), sep2 p h (C, oC) (by simp), sep2 p h (D, LCg.lst ys) (by simp)⟩
    · exact off p (by simp [h])
    · exact off p (by simp [h])
  · intro p hp q hq
    rcases List.mem_append.mp hp with h | h
    · simp only [List.mem_cons, List.mem_append] at hq
      rcases hq with h' | h' | h'
      · exact sep2 p h q (by simp [h'])
      · subst h'; exact sep2 p h (hl, handO xl k2 t2 e1) (by simp)
      · exact sep2 p h q (by simp [h'])
    · simp only [List.mem_cons, List.mem_append] at hq
      rcases hq with h' | h' | h'
      · exact hs p h q (by simp [h'])
      · subst h'; exact hs p h (hl, handO xl k' t1 e1) (by simp)
      · exact hs p h q (by simp [h'])
  · exact PairsIn.snoc (PairsIn.mono (fun p hp => List.mem_append_right _ hp) hp) (List.mem_append_left _ hr2) (NodeIn.mono (fun p hp => List.mem_append_left _ hp) hin2)

end
section
/-- a drawn statement -/
inductive St where
  | set
  | nba
  | block (l : List St)
  | if1 (a : St)
  | if2 (a b : St)
  | whl (a : St)
def nMade : Node := .tup [.str "lv", .int 1, .tup [.tup [.str "sig", .int 1, .int 3, .none, .tup [.str "at", .int 0]]]]
def nConst : Node := .tup [.str "const", .int 1, .int 1, .int 0]
def nSig (i : Int) : Node := .tup [.str "sig", .int 1, .int i]
mutual
def St.node : St → Node
  | .set => .tup [.str "set", nMade, nConst, .none]
  | .nba => .tup [.str "nba", nMade, nSig 2, .none]
  | .block l => .tup [.str "block", .tup (St.nodes l), .int (-1)]
  | .if1 a => .tup [.str "if", nSig 0, St.node a, .none]
  | .if2 a b => .tup [.str "if", nSig 0, St.node a, St.node b]
  | .whl a => .tup [.str "while", nSig 1, St.node a]
def St.nodes : List St → List Node
  | [] => []
  | a :: r => St.node a :: St.nodes r
end
mutual
def St.ok : Nat → St → Prop
  | _, .set => True
  | _, .nba => True
  | d, .block l => 0 < d ∧ l.length ≤ 2 ∧ St.oks (d - 1) l
  | d, .if1 a => 0 < d ∧ St.ok (d - 1) a
  | d, .if2 a b => 0 < d ∧ St.ok (d - 1) a ∧ St.ok (d - 1) b
  | d, .whl a => 0 < d ∧ St.ok (d - 1) a
def St.oks : Nat → List St → Prop
  | _, [] => True
  | d, a :: r => St.ok d a ∧ St.oks d r
end
theorem stNodes_snoc : ∀ (l : List St) (a : St), St.nodes (l ++ [a]) = St.nodes l ++ [St.node a]
  | [], _ => rfl
  | b :: r, a => by rw [List.cons_append, St.nodes, stNodes_snoc r a]; rfl
theorem stOks_snoc {d : Nat} : ∀ {l : List St} {a : St}, St.oks d l → St.ok d a → St.oks d (l ++ [a])
  | [], _, _, h => ⟨h, trivial⟩
  | _ :: _, _, x, h => ⟨x.1, stOks_snoc x.2 h⟩
theorem stNodes_len : ∀ l : List St, (St.nodes l).length = l.length
  | [] => rfl
  | _ :: r => by rw [St.nodes, List.length_cons, List.length_cons, stNodes_len r]
theorem stNodes_get : ∀ {l : List St} {i : Nat} {n : Node}, (St.nodes l)[i]? = some n → ∃ a, l[i]? = some a ∧ n = St.node a
  | [], i, _, h => by cases i <;> cases h
  | a :: r, 0, n, h => by cases h; exact ⟨a, rfl, rfl⟩
  | a :: r, i + 1, n, h => by
    have z := stNodes_get (l := r) (i := i) (n := n) (by simpa [St.nodes] using h)
    simpa using z
theorem stOks_get {d : Nat} : ∀ {l : List St} {i : Nat} {a : St}, St.oks d l → l[i]? = some a → St.ok d a
  | [], i, _, _, h => by cases i <;> cases h
  | _ :: _, 0, _, x, h => by cases h; exact x.1
  | _ :: r, i + 1, a, x, h => stOks_get (l := r) (i := i) x.2 (by simpa using h)
theorem nNil {led : Led} : NodesIn led [] [] := rfl
theorem nCons {led : Led} {v : Value} {vs : List Value} {n : Node} {l : List Node} (h : NodeIn led v n) (h2 : NodesIn led vs l) : NodesIn led (v :: vs) (n :: l) := ⟨v, vs, rfl, h, h2⟩
theorem nTup {led : Led} {a : Addr} {vs : List Value} {e : Nat} {l : List Node} (hm : (a, tupO vs e) ∈ led) (h : NodesIn led vs l) : NodeIn led (.ref a) (.tup l) := ⟨a, vs, e, rfl, hm, h⟩
theorem nStr {led : Led} {x : Str} {t : Tok} : NodeIn led (.str x t) (.str x) := ⟨t, rfl⟩
theorem nInt {led : Led} {i : Int} {t : Tok} : NodeIn led (.int i t) (.int i) := ⟨t, rfl⟩
theorem nNone {led : Led} : NodeIn led .none .none := rfl
theorem Sep.consLt {r hl : Addr} {o o' : Obj} {tl frz : Led} (h1 : hl < r) (h2 : ∀ p ∈ frz, p.1 < r) (ht : Sep tl ((hl, o) :: frz)) : Sep ((r, o') :: tl) ((hl, o) :: frz) :=
  Sep.cons (fun q hq => by
    rcases List.mem_cons.mp hq with rfl | hq
    · exact Nat.ne_of_lt h1
    · exact Nat.ne_of_lt (h2 q hq)) ht
theorem ltR {l1 l2 : Led} {r : Addr} (h : ∀ p ∈ l1 ++ l2, p.1 < r) : ∀ p ∈ l2, p.1 < r := fun p hp => h p (List.mem_append_right _ hp)
theorem Sep.app {t1 t2 led : Led} (h1 : Sep t1 led) (h2 : Sep t2 led) : Sep (t1 ++ t2) led := fun p hp q hq => (List.mem_append.mp hp).elim (fun h => h1 p h q hq) (fun h => h2 p h q hq)
theorem Sep.mono {tl led led' : Led} (h : Sep tl led) (hs : ∀ p ∈ led', ∃ q ∈ led, q.1 = p.1) : Sep tl led' := fun p hp q hq => by
  obtain ⟨q', h1, h2⟩ := hs q hq
  rw [← h2]; exact h p hp q' h1
theorem namedNT2 {h₀ h : Heap} {L d1 : Addr} {o1 : Obj} {rest : Led} {P : Prop} (_N : News h₀ L h ((d1, o1) :: rest)) (k : ∀ a o, a = d1 → o = o1 → P) : P := k _ _ rfl rfl
def StRet (h₀ : Heap) (L : Addr) (m : Str → Option Value) (hl xl : Addr) (e1 : Nat) (frz : Led) (d : Nat) (s : Shared) (Q : Value → Shared → Prop) : Prop :=
  ∀ v st tl k' h' t1 t2, Fr h₀ L h' m → News h₀ L h' ((hl, handO xl k' t1 e1) :: (tl ++ frz)) → Sep tl ((hl, handO xl k' t1 e1) :: frz) → 0 ≤ k' → NodeIn tl v (St.node st) → St.ok d st → Q v { s with heap := h', toks := t2 }
theorem stEnd {h₀ h' : Heap} {L hl xl : Addr} {m : Str → Option Value} {e1 d t2 : Nat} {frz : Led} (tl pre : Led) {s : Shared} {Q : Value → Shared → Prop} {v : Value} {t1 : Tok} {k' : Int} (st : St) (ret : StRet h₀ L m hl xl e1 frz d s Q)
    (F : Fr h₀ L h' m) (N : News h₀ L h' (tl ++ (pre ++ (hl, handO xl k' t1 e1) :: frz))) (hs : Sep tl ((hl, handO xl k' t1 e1) :: frz)) (h0 : 0 ≤ k') (hin : NodeIn tl v (St.node st)) (ok : St.ok d st) :
    Q v { s with heap := h', toks := t2 } := by
  refine ret v st tl k' h' t1 t2 F (newsSub N fun p hp => ?_) hs h0 hin ok
  simp only [List.mem_cons, List.mem_append] at hp ⊢; rcases hp with h | h | h <;> simp [h]
/-- what holds between the turns of a comprehension of statements -/
def SJ (pre : Led) (hl xl : Addr) (e1 : Nat) (frz : Led) (d : Nat) (i : Nat) (ys : List Value) (nw : Led) : Prop :=
  ∃ k' t1 tl sts, nw = pre ++ (hl, handO xl k' t1 e1) :: (tl ++ frz) ∧ Sep tl (pre ++ (hl, handO xl k' t1 e1) :: frz) ∧ 0 ≤ k' ∧ NodesIn tl ys (St.nodes sts) ∧ St.oks d sts ∧ sts.length = i
theorem SJ.turn {h₀ : Heap} {L hl xl : Addr} {m : Str → Option Value} {e1 d i : Nat} {pre frz tl : Led} {s : Shared} {I C D : Addr} {oI oC : Obj} {ys : List Value} {k' : Int} {t1 : Tok} {sts : List St}
    (off : LCg.Off3 I C D (pre ++ (hl, handO xl k' t1 e1) :: (tl ++ frz))) (hs : Sep tl (pre ++ (hl, handO xl k' t1 e1) :: frz)) (hp : NodesIn tl ys (St.nodes sts)) (ho : St.oks d sts) (hlen : sts.length = i) :
    StRet h₀ L m hl xl e1 ((I, oI) :: (C, oC) :: (D, LCg.lst ys) :: (pre ++ (tl ++ frz))) d s (LCg.CompEnd h₀ L m s I oI C oC D (LCg.lst ys) (fun _ => True) (fun y news' => SJ pre hl xl e1 frz d (i + 1) (ys ++ [y]) news')) := by
  intro v st tl2 k2 h2 t2 t3 F2 N2 sep2 hk2 hin2 hok2
  have off := off.mem
  refine LCg.CompEnd.intro F2 N2 (pre ++ (hl, handO xl k2 t2 e1) :: ((tl2 ++ tl) ++ frz)) ?_ (LCg.Off3.of ?_) trivial ⟨k2, t2, tl2 ++ tl, sts ++ [st], rfl, ?_, hk2, ?_, stOks_snoc ho hok2, by simp [hlen]⟩
  · intro p hp
    simp only [List.mem_cons, List.mem_append] at hp ⊢
    rcases hp with h | h | h | h | h | (h | h) | h <;> simp [h]
  · intro p hp
    simp only [List.mem_cons, List.mem_append] at hp
    rcases hp with h | h | (h | h) | h
    · exact off p (by simp [h])
    · subst h; exact off (hl, handO xl k' t1 e1) (by simp)
    · exact ⟨sep2 p h (I, oI) (by simp), sep2 p h (C, oC) (by simp), sep2 p h (D, LCg.lst ys) (by simp)⟩
    · exact off p (by simp [h])
    · exact off p (by simp [h])
  · intro p hp q hq
    rcases List.mem_append.mp hp with h | h
    · simp only [List.mem_cons, List.mem_append] at hq
      rcases hq with h' | h' | h'
      · exact sep2 p h q (by simp [h'])
      · subst h'; exact sep2 p h (hl, handO xl k2 t2 e1) (by simp)
      · exact sep2 p h q (by simp [h'])
    · simp only [List.mem_cons, List.mem_append] at hq
      rcases hq with h' | h' | h'
      · exact hs p h q (by simp [h'])
      · subst h'; exact hs p h (hl, handO xl k' t1 e1) (by simp)
      · exact hs p h q (by simp [h'])
  · rw [stNodes_snoc]
    exact NodesIn.snoc (NodesIn.mono (fun p hp => List.mem_append_right _ hp) hp) (NodeIn.mono (fun p hp => List.mem_append_left _ hp) hin2)
def OpC (w : World) (mean : ExcName → Option Value) (mg mb : Str → Option Value) (d : Nat) : Prop :=
  ∀ (dp un : Nat) (gd : Option (List Code)) (cn : Str) (cs : Scope) (a : Addr) (ccd : Value) (cl : List (Str × Addr)) (outer : List Env) (A₀ : Around) (base h₀ : Heap) (L : Addr) (m : Str → Option Value) (s : Shared) (Q E : Value → Shared → Prop)
    (hl xl : Addr) (vs : List Value) (ns : List Int) (k : Int) (tk : Tok) (e1 e2 : Nat) (deep : Int) (td : Tok) (frz : Led),
    Below A₀ base outer h₀ → Fr h₀ L s.heap m → (Gate.hd.heap_39 w.params).In h₀ → News h₀ L s.heap ((hl, handO xl k tk e1) :: frz) → Top Gate.view (looseW Gate.view []) mean mg mb h₀ → cs.kind = .function →
    (xl, listOf vs.toArray e2) ∈ frz → IntsAre vs ns → vs.length ≤ 63 → 0 ≤ k → (∀ p ∈ frz, p.1 ≠ hl) → d ≤ 3 → deep = 3 - (d : Int) → dp + 2 * d + 20 < recursionLimit → un + 20 * d + 200 < cLine →
    OpRet h₀ L m hl xl e1 frz d s Q →
    wpAny (model PySem.Challenge.rw_pq0466_01.row.prog w) (ktrTop dp un gd cn cs L a ccd cl outer) (call (.ref 316) [.ref hl, .int deep td]) Q E s
def StC (w : World) (mean : ExcName → Option Value) (mg mb : Str → Option Value) (d : Nat) : Prop :=
  ∀ (dp un : Nat) (gd : Option (List Code)) (cn : Str) (cs : Scope) (a : Addr) (ccd : Value) (cl : List (Str × Addr)) (outer : List Env) (A₀ : Around) (base h₀ : Heap) (L : Addr) (m : Str → Option Value) (s : Shared) (Q E : Value → Shared → Prop)
    (hl xl : Addr) (vs : List Value) (ns : List Int) (k : Int) (tk : Tok) (e1 e2 : Nat) (deep : Int) (td : Tok) (frz : Led),
    Below A₀ base outer h₀ → Fr h₀ L s.heap m → (Gate.hd.heap_39 w.params).In h₀ → News h₀ L s.heap ((hl, handO xl k tk e1) :: frz) → Top Gate.view (looseW Gate.view []) mean mg mb h₀ → cs.kind = .function →
    (xl, listOf vs.toArray e2) ∈ frz → IntsAre vs ns → vs.length ≤ 63 → 0 ≤ k → (∀ p ∈ frz, p.1 ≠ hl) → d ≤ 3 → deep = 3 - (d : Int) → dp + 2 * d + 20 < recursionLimit → un + 20 * d + 200 < cLine →
    StRet h₀ L m hl xl e1 frz d s Q →
    wpAny (model PySem.Challenge.rw_pq0466_01.row.prog w) (ktrTop dp un gd cn cs L a ccd cl outer) (call (.ref 321) [.ref hl, .int deep td]) Q E s
theorem subCons {x : Addr × Obj} {l led : Led} (h : x ∈ led) (hs : ∀ p ∈ l, p ∈ led) : ∀ p ∈ x :: l, p ∈ led := fun p hp => (List.mem_cons.mp hp).elim (fun e => e ▸ h) (hs p)
theorem neCons {x : Addr × Obj} {l : Led} {hl : Addr} (h : @Ne Nat x.1 hl) (hs : ∀ p ∈ l, p.1 ≠ hl) : ∀ p ∈ x :: l, p.1 ≠ hl := fun p hp => (List.mem_cons.mp hp).elim (fun e => e ▸ h) (hs p)
theorem StC.use {w : World} {mean : ExcName → Option Value} {mg mb : Str → Option Value} {d : Nat} (C : StC w mean mg mb d) {dp un : Nat} {gd : Option (List Code)} {cn : Str} {cs : Scope} {a : Addr} {ccd : Value} {cl : List (Str × Addr)} {outer : List Env} {A₀ : Around} {base h₀ : Heap} {L : Addr} {m : Str → Option Value} {s : Shared} {Q E : Value → Shared → Prop}
    {hl xl : Addr} {vs : List Value} {ns : List Int} {k : Int} {tk : Tok} {e1 e2 : Nat} {deep : Int} {td : Tok} {led : Led} (frz : Led)
    (B : Below A₀ base outer h₀) (F : Fr h₀ L s.heap m) (X : (Gate.hd.heap_39 w.params).In h₀) (N : News h₀ L s.heap led) (T : Top Gate.view (looseW Gate.view []) mean mg mb h₀) (hk : cs.kind = .function)
    (hh : (hl, handO xl k tk e1) ∈ led) (hs : ∀ p ∈ frz, p ∈ led) (hx : (xl, listOf vs.toArray e2) ∈ frz) (hi : IntsAre vs ns) (hlen : vs.length ≤ 63) (hk0 : 0 ≤ k) (hne : ∀ p ∈ frz, p.1 ≠ hl) (hd3 : d ≤ 3) (hdeep : deep = 3 - (d : Int)) (hd : dp + 2 * d + 20 < recursionLimit) (hu : un + 20 * d + 200 < cLine)
    (ret : StRet h₀ L m hl xl e1 frz d s Q) :
    wpAny (model PySem.Challenge.rw_pq0466_01.row.prog w) (ktrTop dp un gd cn cs L a ccd cl outer) (call (.ref 321) [.ref hl, .int deep td]) Q E s :=
  C dp un gd cn cs a ccd cl outer A₀ base h₀ L m s Q E hl xl vs ns k tk e1 e2 deep td frz B F X (newsSub N (subCons hh hs)) T hk hx hi hlen hk0 hne hd3 hdeep hd hu ret
theorem OpC.use {w : World} {mean : ExcName → Option Value} {mg mb : Str → Option Value} {d : Nat} (C : OpC w mean mg mb d) {dp un : Nat} {gd : Option (List Code)} {cn : Str} {cs : Scope} {a : Addr} {ccd : Value} {cl : List (Str × Addr)} {outer : List Env} {A₀ : Around} {base h₀ : Heap} {L : Addr} {m : Str → Option Value} {s : Shared} {Q E : Value → Shared → Prop}
    {hl xl : Addr} {vs : List Value} {ns : List Int} {k : Int} {tk : Tok} {e1 e2 : Nat} {deep : Int} {td : Tok} {led : Led} (frz : Led)
    (B : Below A₀ base outer h₀) (F : Fr h₀ L s.heap m) (X : (Gate.hd.heap_39 w.params).In h₀) (N : News h₀ L s.heap led) (T : Top Gate.view (looseW Gate.view []) mean mg mb h₀) (hk : cs.kind = .function)
    (hh : (hl, handO xl k tk e1) ∈ led) (hs : ∀ p ∈ frz, p ∈ led) (hx : (xl, listOf vs.toArray e2) ∈ frz) (hi : IntsAre vs ns) (hlen : vs.length ≤ 63) (hk0 : 0 ≤ k) (hne : ∀ p ∈ frz, p.1 ≠ hl) (hd3 : d ≤ 3) (hdeep : deep = 3 - (d : Int)) (hd : dp + 2 * d + 20 < recursionLimit) (hu : un + 20 * d + 200 < cLine)
    (ret : OpRet h₀ L m hl xl e1 frz d s Q) :
    wpAny (model PySem.Challenge.rw_pq0466_01.row.prog w) (ktrTop dp un gd cn cs L a ccd cl outer) (call (.ref 316) [.ref hl, .int deep td]) Q E s :=
  C dp un gd cn cs a ccd cl outer A₀ base h₀ L m s Q E hl xl vs ns k tk e1 e2 deep td frz B F X (newsSub N (subCons hh hs)) T hk hx hi hlen hk0 hne hd3 hdeep hd hu ret
theorem stEnd2 {h₀ h' : Heap} {L hl xl : Addr} {m : Str → Option Value} {e1 d t2 : Nat} {frz tl1 : Led} (own pre : Led) {s : Shared} {Q : Value → Shared → Prop} {v : Value} {t1 : Tok} {k' : Int} (st : St) (ret : StRet h₀ L m hl xl e1 frz d s Q)
    (F : Fr h₀ L h' m) (N : News h₀ L h' (own ++ (pre ++ (hl, handO xl k' t1 e1) :: (tl1 ++ frz)))) (h0 : 0 ≤ k') (hs : Sep own ((hl, handO xl k' t1 e1) :: frz)) (hs1 : ∀ p ∈ tl1, ∀ q ∈ (hl, handO xl k' t1 e1) :: frz, p.1 ≠ q.1) (hin : NodeIn (own ++ tl1) v (St.node st)) (ok : St.ok d st) :
    Q v { s with heap := h', toks := t2 } := by
  refine ret v st (own ++ tl1) k' h' t1 t2 F (newsSub N fun p hp => ?_) (Sep.app hs hs1) h0 hin ok
  simp only [List.mem_cons, List.mem_append] at hp ⊢; rcases hp with h | (h | h) | h <;> simp [h]
theorem sepHd {tl frz pre : Led} {hl : Addr} {o o' : Obj} (h : Sep tl (pre ++ (hl, o) :: frz)) : ∀ p ∈ tl, ∀ q ∈ (hl, o') :: frz, p.1 ≠ q.1 := fun p hp q hq => by
  rcases List.mem_cons.mp hq with rfl | hq
  · exact h p hp (hl, o) (List.mem_append_right _ (.head _))
  · exact h p hp q (List.mem_append_right _ (.tail _ hq))
theorem sepHd2 {tl frz : Led} {hl : Addr} {o o' : Obj} {x y : Addr × Obj} (h : Sep tl ((hl, o) :: x :: y :: frz)) : ∀ p ∈ tl, ∀ q ∈ (hl, o') :: frz, p.1 ≠ q.1 := fun p hp q hq => by
  rcases List.mem_cons.mp hq with rfl | hq
  · exact h p hp (hl, o) (.head _)
  · exact h p hp q (.tail _ (.tail _ (.tail _ hq)))
theorem sepHd3 {tl1 tl2 frz : Led} {hl : Addr} {o o2 o' : Obj} {x y z x' y' : Addr × Obj} (h : Sep tl1 ((hl, o) :: x :: y :: frz)) (h2 : Sep tl2 ((hl, o2) :: z :: x' :: y' :: (tl1 ++ frz))) : ∀ p ∈ tl2 ++ tl1, ∀ q ∈ (hl, o') :: frz, p.1 ≠ q.1 := fun p hp q hq => by
  rcases List.mem_append.mp hp with hp | hp
  · rcases List.mem_cons.mp hq with rfl | hq
    · exact h2 p hp (hl, o2) (.head _)
    · exact h2 p hp q (.tail _ (.tail _ (.tail _ (.tail _ (List.mem_append_right _ hq)))))
  · exact sepHd2 h p hp q hq
theorem perm3 {h₀ h : Heap} {L : Addr} {a x y z : Addr × Obj} {tl1 tl2 frz : Led} (N : News h₀ L h (a :: (tl2 ++ x :: y :: z :: (tl1 ++ frz)))) : News h₀ L h (x :: y :: z :: a :: ((tl2 ++ tl1) ++ frz)) :=
  newsSub N fun p hp => by simp only [List.mem_cons, List.mem_append] at hp ⊢; rcases hp with h | h | h | h | (h | h) | h <;> simp [h]
theorem perm3' {h₀ h : Heap} {L : Addr} {a x y z : Addr × Obj} {tl2 frz : Led} (N : News h₀ L h (a :: (tl2 ++ x :: y :: z :: frz))) : News h₀ L h (x :: y :: z :: a :: (tl2 ++ frz)) :=
  newsSub N fun p hp => by simp only [List.mem_cons, List.mem_append] at hp ⊢; rcases hp with h | h | h | h | h | h <;> simp [h]
theorem sepHd4 {tl frz : Led} {hl : Addr} {o o' : Obj} {x y z : Addr × Obj} (h : Sep tl ((hl, o) :: x :: y :: z :: frz)) : ∀ p ∈ tl, ∀ q ∈ (hl, o') :: frz, p.1 ≠ q.1 := fun p hp q hq => by
  rcases List.mem_cons.mp hq with rfl | hq
  · exact h p hp (hl, o) (.head _)
  · exact h p hp q (.tail _ (.tail _ (.tail _ (.tail _ hq))))
theorem appR {t1 t2 : Led} {p : Addr × Obj} (h : p ∈ t2) : p ∈ t1 ++ t2 := List.mem_append_right _ h
theorem appL {t1 t2 : Led} {p : Addr × Obj} (h : p ∈ t1) : p ∈ t1 ++ t2 := List.mem_append_left _ h
theorem namedIA {vs : List Value} {ns : List Int} {P : Prop} (_N : IntsAre vs ns) (k : ∀ a b, a = vs → b = ns → P) : P := k _ _ rfl rfl
theorem namedLd {h₀ h : Heap} {L : Addr} {news : Led} {P : Prop} (_N : News h₀ L h news) (k : ∀ l, l = news → P) : P := k _ rfl
theorem named6 {h₀ h : Heap} {L d1 d2 d3 d4 d5 d6 : Addr} {o1 o2 o3 o4 o5 o6 : Obj} {P : Prop} (_N : News h₀ L h [(d1, o1), (d2, o2), (d3, o3), (d4, o4), (d5, o5), (d6, o6)]) (k : ∀ a1 a2 a3 a4 p6, a1 = d1 → a2 = d2 → a3 = d3 → a4 = d4 → p6 = o6 → P) : P := k _ _ _ _ _ rfl rfl rfl rfl rfl
/-- between the law's rows -/
def LJ (ul rl hl xl : Addr) (e1 : Nat) (frz : Led) (i : Nat) (nw : Led) : Prop :=
  ∃ k' t1 rvs er uvs eu tl rows, nw = (ul, listOf uvs.toArray eu) :: (rl, listOf rvs.toArray er) :: (hl, handO xl k' t1 e1) :: (frz ++ tl) ∧ (∀ p ∈ tl, p.1 ≠ ul ∧ p.1 ≠ rl ∧ p.1 ≠ hl) ∧ (∀ p ∈ tl, ∀ q ∈ frz, p.1 ≠ q.1) ∧ 0 ≤ k' ∧ NodesIn tl rvs (rows.map Node.tup) ∧ StrsAre uvs (rowTexts rows) ∧ rows.length = i ∧ ∀ l ∈ rows, l.length ≤ 5 ∧ Node.oks 3 l
theorem permC {h₀ h : Heap} {L : Addr} {a b c d x y z u v w : Addr × Obj} {tl1 tl2 : Led} (N : News h₀ L h (a :: b :: c :: ([d, x, y] ++ z :: (tl2 ++ u :: v :: w :: tl1)))) : News h₀ L h (a :: b :: c :: d :: x :: y :: z :: u :: v :: w :: (tl2 ++ tl1)) :=
  newsSub N fun p hp => by simp only [List.mem_cons, List.mem_append, List.cons_append, List.nil_append] at hp ⊢; rcases hp with h | h | h | h | h | h | h | h | h | h | h | h <;> simp [h]
theorem rowTexts_snoc (rows : List (List Node)) (l : List Node) : rowTexts (rows ++ [l]) = rowTexts rows ++ [rowText rows.length l] := by
  unfold rowTexts; rw [List.mapIdx_concat]

end
theorem namedL {h₀ h : Heap} {L : Addr} {news : Led} {P : Prop} (_N : News h₀ L h news) (k : ∀ l, l = news → P) : P := k _ rfl
theorem namedI {a b : Int} {P : Prop} (_N : a < b) (k : ∀ r, r = a → P) : P := k _ rfl
section
variable {prog : Program} {w : World} {A : Around} {E : Value → Shared → Prop} {s : Shared} {h₀ : Heap} {L l : Addr} {m : Str → Option Value} {news : List (Addr × Obj)} {e : Nat} {x : Str}
theorem okw {x : Str} {t : Tok} {r : List Value} (h : x.length ≤ 37 ∧ PyData.strOk x = true) (hr : ∀ v ∈ r, ∃ x t, v = Value.str x t ∧ x.length ≤ 37 ∧ PyData.strOk x = true) : ∀ v ∈ Value.str x t :: r, ∃ x t, v = Value.str x t ∧ x.length ≤ 37 ∧ PyData.strOk x = true := List.forall_mem_cons.mpr ⟨⟨x, t, rfl, h.1, h.2⟩, hr⟩
theorem gWord {value slice : PySem.Expr} {k : Int} {u : Tok} {items : List Value} {Q : Value → Shared → Prop} (N : News h₀ L s.heap news) (hm : (l, listOf items.toArray e) ∈ news) (hi : ∀ v ∈ items, ∃ x t, v = .str x t ∧ x.length ≤ 37 ∧ PyData.strOk x = true)
    (h0 : 0 ≤ k) (h1 : k < (items.length : Int)) (h2 : items.length ≤ 63) (h : ∀ x t, (x.length ≤ 37 ∧ PyData.strOk x = true) → Q (.str x t) s)
    (hs : subscripted slice false (.ref l) (.int k u) = operate [.ref l, .int k u] (getItem (.ref l) (.int k u))) (hg : ∀ r, letTemporaryGo value (.ref l) r = pure ()) :
    wpAny (model prog w) A (subscriptTail value slice (.ref l) (.int k u)) Q E s := by
  have hlt : k.toNat < items.length := by omega
  obtain ⟨x, t, hx, hl⟩ := hi _ (List.getElem_mem hlt)
  have : items[k.toNat]? = some (.str x t) := by rw [List.getElem?_eq_getElem hlt, hx]
  exact item_list (News.isList N hm) h0 (by omega) (by simpa using this) (h _ _ hl) hs hg
theorem form2' {u m₀ : Str → Option Value} {va vb : Value} {a b : Str} (ha : u a = some va) (hb : u b = some vb) :
    (fun y => if y = x then u y else if [a, b].contains y then u y else m₀ y) = fun y => if y = x then u x else if y = a then some va else if y = b then some vb else m₀ y := by
  funext y
  by_cases h1 : y = x
  · simp [h1]
  · simp only [if_neg h1]
    by_cases h2 : y = a
    · subst h2; simp [ha]
    · by_cases h3 : y = b
      · subst h3; simp [hb, h2]
      · simp [h2, h3]
end
theorem num_text {P : Str} {A : Nat} {n : Int} (hA : A = n.natAbs) (hz : (Txt.lstripChars P (Str.ofString "0") = Str.ofString "" ∧ txt (A : Int) = Str.ofString "0") ∨ (Txt.lstripChars P (Str.ofString "0") = txt (A : Int) ∧ txt (A : Int) ≠ Str.ofString "")) :
    (n < 0 → (Txt.lstripChars P (Str.ofString "0") != Str.ofString "") = true → Str.ofString "-" ++ Txt.lstripChars P (Str.ofString "0") = txt n) ∧ (n < 0 → (Txt.lstripChars P (Str.ofString "0") != Str.ofString "") = false → Str.ofString "-" ++ Str.ofString "0" = txt n) ∧
    (¬ n < 0 → (Txt.lstripChars P (Str.ofString "0") != Str.ofString "") = true → Str.ofString "" ++ Txt.lstripChars P (Str.ofString "0") = txt n) ∧ (¬ n < 0 → (Txt.lstripChars P (Str.ofString "0") != Str.ofString "") = false → Str.ofString "" ++ Str.ofString "0" = txt n) := by
  subst hA
  rcases hz with ⟨h1, h2⟩ | ⟨h1, h2⟩
  · rw [h1]
    refine ⟨fun _ h => ?_, fun h _ => by rw [← h2]; exact txt_neg h, fun _ h => ?_, fun h _ => by rw [← h2, str_nil_append]; exact txt_pos h⟩
    · simp at h
    · simp at h
  · rw [h1]
    refine ⟨fun h _ => txt_neg h, fun _ h => ?_, fun h _ => by rw [str_nil_append]; exact txt_pos h, fun _ h => ?_⟩
    · simp at h; exact absurd h h2
    · simp at h; exact absurd h h2
local macro_rules | `(tactic| walk_at "exec Assign cons ListComp") => `(tactic| (k_here; k_dflt (refine LCg.Assign_ListComp_U (F₀ := by k_asm) (by rfl) (by with_unfolding_all rfl) (by with_unfolding_all rfl) (by decide) (by rfl) (by decide) (by rfl) (by rfl) (by rfl) ?_)))
local macro_rules | `(tactic| walk_at "eval ListComp") => `(tactic| (k_here; k_dflt (refine LCg.ListComp_U (F₀ := by k_asm) (by with_unfolding_all rfl) (by decide) (by rfl) (by decide) (by rfl) ?_)))
local macro_rules | `(tactic| walk_at "CompSrc") => `(tactic| (refine Gate.Hold.of ?_))
local macro_rules | `(tactic| walk_at "eval IfExp") => `(tactic| (k_here; (with_reducible show wpAny _ _ (eval (Expr.IfExp _ (Expr.Constant (Const.int _) _ _) (Expr.Constant (Const.int _) _ _) _) _) _ _ _); refine Gate.gIfInt ?_))
local macro_rules | `(tactic| walk_at "binaryOp FloorDiv int int") => `(tactic| (k_here; (with_reducible refine Gate.z15 ?_); refine' Gate.gFloorDiv ?a ?b ?_; (case a => decide); (case b => decide); intro _ _; (try dsimp only)))
local macro_rules | `(tactic| walk_at "subscriptTail") => `(tactic| (k_here; (with_reducible refine Gate.z16 ?_); k_dflt (refine' Gate.gDigit ?_ ?_ ?_ ?_ ?_; walk_at "zk"; k_whole); intro _ _; (try dsimp only)))
local macro_rules | `(tactic| walk_at "binaryOp Add str str") => `(tactic| (k_here; (with_reducible refine Gate.z17 ?_); refine' Gate.gCat ?a ?b ?_; (case a => first | assumption | omega | exact Nat.le_of_ble_eq_true rfl | decide +kernel); (case b => first | assumption | omega | exact Nat.le_of_ble_eq_true rfl | decide +kernel); intro _ _; (try dsimp only)))
local macro_rules | `(tactic| walk_at "call builtin:str.lstrip") => `(tactic| (k_here; (with_reducible refine Gate.z18 ?_); (refine KXw.lstripChars (by assumption) (by assumption) ?_); intro _ _; (try dsimp only)))
local macro_rules | `(tactic| walk_at "subscriptTail") => `(tactic| (k_here; (with_reducible refine Gate.z2 ?_); k_dflt (refine' Gate.gWord ?N ?m ?i ?_ ?b ?_ ?_ ?_ ?_; (case N => k_asm); (case m => k_mem); (case i => (repeat refine Gate.okw (by decide +kernel) ?_); exact List.forall_mem_nil _); (case b => first | assumption | (show _ < (4 : Int); omega) | (show _ < (2 : Int); omega)); walk_at "zk"; k_whole); intro _ _ _))
local macro_rules | `(tactic| walk_at "call ref") => `(tactic| (k_here; (refine Gate.z19 ?_); refine Gate.Hold.of ?_))
local macro_rules | `(tactic| walk_at "subscriptTail") => `(tactic| (k_here; (with_reducible refine Gate.z20 ?_); k_dflt (refine' Gate.gPair0 ?_ ?_ ?_ ?_ ?_; walk_at "zk"; k_whole)))
local macro_rules | `(tactic| walk_at "subscriptTail") => `(tactic| (k_here; (with_reducible refine Gate.z21 ?_); k_dflt (refine' Gate.gPair1 ?_ ?_ ?_ ?_ ?_; walk_at "zk"; k_whole)))
local macro_rules | `(tactic| walk_at "call type:tuple") => `(tactic| (k_here; (with_reducible refine Gate.z22 ?_); k_dflt (refine' Gate.gTupleOf ?_ ?_ ?_ ?_ ?_; walk_at "zk"; k_whole); walk_at "zl"))
local macro_rules | `(tactic| walk_at "call ref") => `(tactic| (k_here; (refine Gate.z23 ?_); refine Gate.Hold.of ?_))
local macro_rules | `(tactic| walk_at "call ref") => `(tactic| (k_here; (refine Gate.z24 ?_); refine Gate.Hold.of ?_))
set_option maxHeartbeats 4000000 in
theorem opC (w : World) (mean : ExcName → Option Value) (mg mb : Str → Option Value) : ∀ d, OpC w mean mg mb d := by
  w_on
  intro d
  induction d using Nat.strongRecOn with
  | ind d IH =>
  intro dp un gd cn cs a ccd cl outer A₀ base h₀ L m s Q E hl xl vs ns k tk e1 e2 deep td frz B F X N T hk hx hi hlen hk0 hne hd3 hdeep hd hu hret
  have CC := cellC w mean mg mb
  obtain ⟨r0, r1, r2, r3, r4, _, _⟩ := rooms (lo4 hd) (Nat.le_refl 20)
  obtain ⟨u0, _, _⟩ := units (lo4 hu) (Nat.le_of_ble_eq_true rfl)
  have hxl : @Ne Nat xl hl := hne _ hx
  revert X; k_fill; intro X
  refine wpAny_call ?_
  k_dflt (refine' code_defC ?k1 ?k2 ?k3 ?k4 ?k5 ?kA ?kF ?kK ?k6 ?k7 ?k8 ?k9 ?kB ?kD ?_ ?c2 ?c3 ?c4; (case kA => exact rfl); (case kF => exact rfl); (case kK => assumption); (case k1 => k_asm); (case k2 => k_asm); (case k3 => k_asm); (case k4 => k_asm); (case k5 => k_asm); (case k6 => k_is); (case k7 => k_is); (case k8 => ktr_room); (case k9 => exact BindsTo.of_eq rfl); (case kB => exact rfl); (case kD => decide +kernel); (case c2 => exact rfl); (case c3 => exact rfl); (case c4 => exact rfl); k_whole; intro g' L' h' tk' cells' FG' F' N' Y' B' X' T' l1; (try k_lt l1); k_cells Y'; (try simp only [List.cons_append, List.nil_append] at N'); (try dsimp only); (try k_lift B'); (try k_fold))
  k_steps
  unfold Hold
  intro md tmd tkm hm1 hm2
  have hmd : (0 < d → md = 6) ∧ (d = 0 → md = 4) := ⟨fun h => hm1 (decide_eq_true (by omega)), fun h => hm2 (decide_eq_false (by omega))⟩
  clear hm1 hm2
  have hmd0 : 4 ≤ md ∧ md ≤ 6 := by omega
  (try k_unmd)
  (try dsimp only)
  (try k_fold)
  k_steps
  · exact opLeaf [_, _] Node.none hret (by assumption) (by assumption) (by assumption) (by assumption) (by walk_at "zp") rfl trivial rfl
  · refine opLeaf [_, _] (Node.bool true) hret (by assumption) (by assumption) (by assumption) (by assumption) (by walk_at "zp") ?_ trivial rfl
    (rename _ = (1 : Int) => h1)
    show Value.bool _ = Value.bool _
    rw [beq_iff_eq.mpr h1]
  · refine opLeaf [_, _] (Node.bool false) hret (by assumption) (by assumption) (by assumption) (by assumption) (by walk_at "zp") ?_ trivial rfl
    (rename _ ≠ (1 : Int) => h1)
    show Value.bool _ = Value.bool _
    rw [beq_eq_false_iff_ne.mpr h1]
  · unfold Hold
    (rename _ < 2 * (1000000000000000000000000000000 : Int) => hr3)
    refine namedI hr3 fun rr hrr => ?_
    subst hrr
    (rename 0 ≤ rr => hr0)
    (rename IsRange _ _ _ _ _ _ _ _ => hr)
    (rename Fr _ _ _ _ => Fh)
    (rename News _ _ _ _ => Nh)
    refine namedL Nh fun led0 hled => ?_
    rw [← hled] at Nh
    obtain ⟨A, hA⟩ : ∃ A : Nat, A = (rr - 1000000000000000000000000000000).natAbs := ⟨_, rfl⟩
    rw [← hA] at Fh
    refine iterRangeS (n := 31) ["shown", "rest"] (fun i u nw => nw = led0 ∧ ∃ t t2, u "shown" = some (.str (padS A i) t) ∧ u "rest" = some (.int ((A / 10 ^ i : Nat) : Int) t2)) rfl hr (by decide) (by decide) Fh Nh ⟨rfl, _, _, (if_neg (by decide)).trans (if_pos rfl), (by rw [Nat.pow_zero, Nat.div_one]; exact if_pos rfl)⟩ ?turn ?done
    case turn =>
      intro i t u nw I oI h tk hi1 hJ hne1 Ft Nt
      obtain ⟨rfl, t5, t6, hs5, hs6⟩ := hJ
      rw [form2 hs5 hs6] at Ft
      have hp1 : (padS A i).length ≤ 6000000 := by rw [len_pad]; omega
      (try k_unmd)
      (try k_fold)
      k_steps
      dsimp only [TurnJ]
      (rename _ = ((A / 10 ^ i : Nat) : Int) % 10 => hr9)
      refine' EndJ.intro ?f ?n hne1 ⟨⟨rfl, _, _, ?h1, ?h2⟩, ?h3⟩
      case f => assumption
      case n => assumption
      case h1 =>
        have e2 : padS A (i + 1) = dgS (A / 10 ^ i % 10) ++ padS A i := rfl
        rw [e2, show A / 10 ^ i % 10 = Int.toNat (((A / 10 ^ i : Nat) : Int) % 10) by omega, ← hr9]
        refine (if_neg (by decide)).trans ?_
        exact (if_pos rfl)
      case h2 =>
        rw [Nat.pow_succ, ← Nat.div_div_eq_div_mul, show ((A / 10 ^ i / 10 : Nat) : Int) = ((A / 10 ^ i : Nat) : Int) / 10 by omega]
        exact if_pos rfl
      case h3 => k_same
    case done =>
      intro u nw h tk hJ Fd Nd
      obtain ⟨rfl, t5, t6, hs5, hs6⟩ := hJ
      rw [form2' hs5 hs6] at Fd
      clear hs5 hs6
      subst hled
      have hp1 : (padS A 31).length ≤ sizeLine := by rw [len_pad, sizeLine_eq]; omega
      have hz := strip_pad (a := A) (by omega)
      have ht1 := len_txt' (n := (A : Int)) (by omega)
      have ht2 : (txt (A : Int)).length ≤ 6000000 := Nat.le_trans ht1 (by decide)
      have hp3 : (Txt.lstripChars (padS A 31) (Str.ofString "0")).length ≤ 6000000 := Nat.le_trans (len_lstripChars _ _) (by rw [len_pad]; omega)
      obtain ⟨q1, q2, q3, q4⟩ := num_text hA hz
      generalize padS A 31 = P at Fd hp1 hp3 q1 q2 q3 q4
      generalize A / 10 ^ 31 = R at Fd
      clear hz ht1 ht2
      (try k_unmd)
      (try k_fold)
      k_steps
      · exact opLeaf [_, _] (Node.int _) hret (by assumption) (by assumption) (by assumption) (by assumption) (by walk_at "zp") ⟨_, rfl⟩ (by show Int.natAbs _ < _; omega) (q1 (by assumption) (by assumption))
      · exact opLeaf [_, _] (Node.int _) hret (by assumption) (by assumption) (by assumption) (by assumption) (by walk_at "zp") ⟨_, rfl⟩ (by show Int.natAbs _ < _; omega) (q2 (by assumption) (by assumption))
      · exact opLeaf [_, _] (Node.int _) hret (by assumption) (by assumption) (by assumption) (by assumption) (by walk_at "zp") ⟨_, rfl⟩ (by show Int.natAbs _ < _; omega) (q3 (by assumption) (by assumption))
      · exact opLeaf [_, _] (Node.int _) hret (by assumption) (by assumption) (by assumption) (by assumption) (by walk_at "zp") ⟨_, rfl⟩ (by show Int.natAbs _ < _; omega) (q4 (by assumption) (by assumption))
  · exact opLeaf [_, _, _] (Node.str _) hret (by assumption) (by assumption) (by assumption) (by assumption) (by walk_at "zp") ⟨_, rfl⟩ (by assumption) rfl
  · unfold Hold
    have hd0 : 0 < d := Nat.pos_of_ne_zero (fun h => by have := hmd.2 h; omega)
    obtain ⟨q1, q2, q3, q4, q5⟩ := deepO hd hu hd0 hd3 hdeep
    (rename IsRange _ _ _ _ _ _ _ _ => hr)
    (rename Fr _ _ _ _ => Fh)
    (rename News _ _ _ _ => Nh)
    (rename _ < (4 : Int) => hr3)
    refine namedI hr3 fun rr hrr => ?_
    subst hrr
    (rename 0 ≤ rr => hr0)
    obtain ⟨n, rfl⟩ : ∃ n : Nat, rr = (n : Int) := ⟨rr.toNat, by omega⟩
    obtain ⟨hsm, hsz⟩ := range0 (n := n) (by omega)
    refine namedN2 Nh fun o2 o1 ho2 ho1 => ?_
    subst ho2 ho1
    (rename News _ _ _ ((L' + 1 + 1, o2) :: (L' + 1, o1) :: _) => Nh)
    refine LCg.CompSrc.range rfl Fh Nh hr hsm hsz (by rw [sizeLine_eq]; omega) ?_
    intro g9
    have hpre : ∀ p ∈ [((L' + 1 + 1, o2) : Addr × Obj), (L' + 1, o1)], p.1 ≠ hl := by
      intro p hp
      simp only [List.mem_cons, List.not_mem_nil, or_false] at hp
      rcases hp with rfl | rfl
      · k_ne
      · k_ne
    refine compRest_inv (PJ [(L' + 1 + 1, o2), (L' + 1, o1)] hl xl e1 frz (d - 1)) ?turn ?fin n 0 [] _ (Nat.zero_add n) ⟨_, _, [], [], rfl, Sep.nil, by omega, rfl, trivial, rfl⟩
    case turn =>
      intro i ys nw v I oI C oC D m2 h tk E' hi1 hJ hP hC hx1 F1 N1 off ne
      obtain ⟨k', t1, tl, nds, rfl, hsep, hk', hprs, hoks, hnl⟩ := hJ
      simp only [List.cons_append, List.nil_append] at N1
      (try k_unmd)
      (try k_fold)
      k_steps
      unfold Hold
      k_dflt (refine' IH (d - 1) q3 _ _ _ _ _ _ _ _ _ _ _ _ _ _ _ _ _ hl xl vs ns k' t1 e1 e2 _ _ ((I, oI) :: (C, oC) :: (D, LCg.lst ys) :: ([(L' + 1 + 1, o2), (L' + 1, o1)] ++ (tl ++ frz))) ?B ?F ?X ?N ?T ?hk ?hx hi hlen hk' ?ne q4 ?dd ?r ?u ?ret; (case B => k_asm); (case F => k_asm); (case X => k_asm); (case N => exact newsSub N1 (fun p hp => by simp only [List.cons_append, List.nil_append, List.mem_cons, List.mem_append] at hp ⊢; rcases hp with h | h | h | h | h | h | h | h <;> simp [h])); (case T => k_asm); (case hk => first | exact rfl | assumption); (case hx => simp [hx]); (case dd => exact q5); (case r => first | assumption | omega | ktr_room); (case u => first | assumption | omega | ktr_units); k_whole)
      case ne =>
        intro p hp
        have off2 := off.mem (hl, handO xl k' t1 e1) (by simp)
        simp only [List.cons_append, List.nil_append, List.mem_cons, List.mem_append] at hp
        rcases hp with h | h | h | h | h | h | h
        · subst h; exact Ne.symm off2.1
        · subst h; exact Ne.symm off2.2.1
        · subst h; exact Ne.symm off2.2.2
        · exact hpre p (by simp [h])
        · exact hpre p (by simp [h])
        · exact hsep p h (hl, handO xl k' t1 e1) (by simp)
        · exact hne p h
      case ret => exact PJ.turn off hsep hprs hoks hnl
    case fin =>
      intro ys nw hJ
      obtain ⟨k', t1, tl, nds, rfl, hsep, hk', hprs, hoks, hnl⟩ := hJ
      simp only [List.cons_append, List.nil_append]
      have hyl := hprs.length
      (try k_unmd)
      (try k_fold)
      k_steps
      unfold Hold
      (rename News _ _ _ ((_, LCg.lst ys) :: _) => Nd)
      (rename Fr _ _ _ _ => Fd)
      refine namedN Nd fun D hD => ?_
      subst hD
      refine LCg.CompSrc.ledger (k := ys.length) rfl Fd Nd (.head _) (by rw [sizeLine_eq, List.size_toArray]; omega) ?_
      intro g8
      refine compRest_inv (fun i zs nw => nw = (D, LCg.lst ys) :: (L' + 1 + 1, o2) :: (L' + 1, o1) :: (hl, handO xl k' t1 e1) :: (tl ++ frz) ∧ NodesIn tl zs (nds.take i)) ?turn2 ?fin2 _ 0 [] _ (Nat.zero_add _) ⟨rfl, rfl⟩
      case turn2 =>
        intro i zs nw v I oI C oC D2 m2 h tk E' hi1 hJ hP hC hx1 F1 N1 off ne
        obtain ⟨rfl, hz⟩ := hJ
        obtain ⟨n1, a1, v1, tq, hn1, rfl, hm1, hin1⟩ := PairsIn.get hprs (by simpa using hP)
        have hm2 : (a1, tupO [v1, .str n1.text tq] 0) ∈ tl ++ frz := List.mem_append_left _ hm1
        (try k_unmd)
        (try k_fold)
        k_steps
        all_goals (refine LCg.CompEnd.intro (by assumption) (by assumption) _ (fun _ h => h) off (.inr ⟨_, .head _, rfl, _, rfl⟩) ⟨rfl, nodes_take hz hn1 hin1⟩)
      case fin2 =>
        intro zs nw hJ
        obtain ⟨rfl, hz⟩ := hJ
        rw [List.size_toArray, hyl, List.take_length] at hz
        have hzl := hz.length
        have hz63 : zs.length ≤ 63 := by omega
        (try k_unmd)
        (try k_fold)
        k_steps
        unfold Hold
        (rename News _ _ _ ((_, tupO zs 0) :: (_, LCg.lst zs) :: (D, LCg.lst ys) :: _) => Nt)
        (rename Fr _ _ _ _ => Ft)
        refine namedNT Nt fun T9 Z9 hT hZ => ?_
        subst hT hZ
        refine LCg.CompSrc.ledger (k := ys.length) rfl Ft Nt (.tail _ (.tail _ (.head _))) (by rw [sizeLine_eq, List.size_toArray]; omega) ?_
        intro g7
        refine compRest_inv (fun i zs2 nw => nw = (T9, tupO zs 0) :: (Z9, LCg.lst zs) :: (D, LCg.lst ys) :: (L' + 1 + 1, o2) :: (L' + 1, o1) :: (hl, handO xl k' t1 e1) :: (tl ++ frz) ∧ StrsAre zs2 (Node.texts (nds.take i))) ?turn3 ?fin3 _ 0 [] _ (Nat.zero_add _) ⟨rfl, StrsAre.nil⟩
        case turn3 =>
          intro i zs2 nw v I oI C oC D2 m2 h tk E' hi1 hJ hP hC hx1 F1 N1 off ne
          obtain ⟨rfl, hz2⟩ := hJ
          obtain ⟨n1, a1, v1, tq, hn1, rfl, hm1, hin1⟩ := PairsIn.get hprs (by simpa using hP)
          have hm2 : (a1, tupO [v1, .str n1.text tq] 0) ∈ tl ++ frz := List.mem_append_left _ hm1
          (try k_unmd)
          (try k_fold)
          k_steps
          all_goals (refine LCg.CompEnd.intro (by assumption) (by assumption) _ (fun _ h => h) off (.inr ⟨_, .tail _ (.tail _ (.head _)), rfl, _, rfl⟩) ⟨rfl, ?_⟩; rw [texts_take hn1]; exact strs_snoc hz2 _ _)
        case fin3 =>
          intro zs2 nw hJ
          obtain ⟨rfl, hz2⟩ := hJ
          rw [List.size_toArray, hyl, List.take_length] at hz2
          obtain ⟨hj1, hj2, hj3⟩ := join_ok (by omega) (by omega) hoks
          have hj4 : (Str.ofString "(" ++ Txt.join (Str.ofString " ") (Node.texts nds)).length ≤ 6000000 := by rw [len_app, show (Str.ofString "(").length = 1 by decide +kernel]; omega
          have hj5 : (Txt.join (Str.ofString " ") (Node.texts nds)).length ≤ 6000000 := by omega
          (try k_unmd)
          (try k_fold)
          k_steps
          (rename ∀ p ∈ tl ++ frz, p.1 < T9 => hT9)
          (rename ∀ p ∈ tl ++ frz, _ => hl9)
          exact opPair [_] [_, _, _, _] hret (by assumption) (by assumption) (by assumption) hT9 (by assumption) hl9 hsep hk' hz ⟨hd0, by omega, hoks⟩ rfl

set_option maxHeartbeats 4000000 in
theorem stC (w : World) (mean : ExcName → Option Value) (mg mb : Str → Option Value) : ∀ d, StC w mean mg mb d := by
  w_on
  intro d
  induction d using Nat.strongRecOn with
  | ind d IH =>
  intro dp un gd cn cs a ccd cl outer A₀ base h₀ L m s Q E hl xl vs ns k tk e1 e2 deep td frz B F X N T hk hx hi hlen hk0 hne hd3 hdeep hd hu hret
  have CC := cellC w mean mg mb
  obtain ⟨r0, r1, r2, r3, r4, _, _⟩ := rooms (lo4 hd) (Nat.le_refl 20)
  obtain ⟨u0, _, _⟩ := units (lo4 hu) (Nat.le_of_ble_eq_true rfl)
  have hxl : @Ne Nat xl hl := hne _ hx
  revert X; k_fill; intro X
  refine wpAny_call ?_
  k_dflt (refine' code_defC ?k1 ?k2 ?k3 ?k4 ?k5 ?kA ?kF ?kK ?k6 ?k7 ?k8 ?k9 ?kB ?kD ?_ ?c2 ?c3 ?c4; (case kA => exact rfl); (case kF => exact rfl); (case kK => assumption); (case k1 => k_asm); (case k2 => k_asm); (case k3 => k_asm); (case k4 => k_asm); (case k5 => k_asm); (case k6 => k_is); (case k7 => k_is); (case k8 => ktr_room); (case k9 => exact BindsTo.of_eq rfl); (case kB => exact rfl); (case kD => decide +kernel); (case c2 => exact rfl); (case c3 => exact rfl); (case c4 => exact rfl); k_whole; intro g' L' h' tk' cells' FG' F' N' Y' B' X' T' l1; (try k_lt l1); k_cells Y'; (try simp only [List.cons_append, List.nil_append] at N'); (try dsimp only); (try k_lift B'); (try k_fold))
  k_steps
  unfold Hold
  intro md tmd tkm hm1 hm2
  have hmd : (0 < d → md = 5) ∧ (d = 0 → md = 2) := ⟨fun h => hm1 (decide_eq_true (by omega)), fun h => hm2 (decide_eq_false (by omega))⟩
  clear hm1 hm2
  have hmd0 : 2 ≤ md ∧ md ≤ 5 := by omega
  (try k_unmd)
  (try dsimp only)
  (try k_fold)
  k_steps
  · refine stEnd [_, _, _, _, _, _] [_, _] St.set hret (by assumption) (by assumption) ?_ (by walk_at "zp") ?_ trivial
    · repeat' first | exact Sep.nil | refine Sep.consLt (by assumption) (by assumption) ?_
    · rw [St.node, nMade, nConst]
      repeat' first | exact nNil | exact nStr | exact nInt | exact nNone | refine nCons ?_ ?_ | refine nTup (by k_mem) ?_
  · refine stEnd [_, _, _, _, _, _] [_, _] St.nba hret (by assumption) (by assumption) ?_ (by walk_at "zp") ?_ trivial
    · repeat' first | exact Sep.nil | refine Sep.consLt (by assumption) (by assumption) ?_
    · rw [St.node, nMade, nSig]
      repeat' first | exact nNil | exact nStr | exact nInt | exact nNone | refine nCons ?_ ?_ | refine nTup (by k_mem) ?_
  · unfold Hold
    have hd0 : 0 < d := Nat.pos_of_ne_zero (fun h => by have := hmd.2 h; omega)
    obtain ⟨q1, q2, q3, q4, q5⟩ := deepO hd hu hd0 hd3 hdeep
    (rename IsRange _ _ _ _ _ _ _ _ => hr)
    (rename Fr _ _ _ _ => Fh)
    (rename News _ _ _ _ => Nh0)
    have Nh := newsTl (newsTl (newsTl (newsTl Nh0)))
    (rename _ < (3 : Int) => hr3)
    refine namedI hr3 fun rr hrr => ?_
    subst hrr
    (rename 0 ≤ rr => hr0)
    obtain ⟨n, rfl⟩ : ∃ n : Nat, rr = (n : Int) := ⟨rr.toNat, by omega⟩
    obtain ⟨hsm, hsz⟩ := range0 (n := n) (by omega)
    refine namedN2 Nh fun o2 o1 ho2 ho1 => ?_
    subst ho2 ho1
    refine LCg.CompSrc.range rfl Fh Nh hr hsm hsz (by rw [sizeLine_eq]; omega) ?_
    intro g9
    have hpre : ∀ p ∈ [((L' + 1 + 1, o2) : Addr × Obj), (L' + 1, o1)], p.1 ≠ hl := by
      intro p hp
      simp only [List.mem_cons, List.not_mem_nil, or_false] at hp
      rcases hp with rfl | rfl
      · k_ne
      · k_ne
    refine compRest_inv (SJ [(L' + 1 + 1, o2), (L' + 1, o1)] hl xl e1 frz (d - 1)) ?turn ?fin n 0 [] _ (Nat.zero_add n) ⟨_, _, [], [], rfl, Sep.nil, by omega, rfl, trivial, rfl⟩
    case turn =>
      intro i ys nw v I oI C oC D m2 h tk E' hi1 hJ hP hC hx1 F1 N1 off ne
      obtain ⟨k', t1, tl, nds, rfl, hsep, hk', hprs, hoks, hnl⟩ := hJ
      simp only [List.cons_append, List.nil_append] at N1
      have hx1 : (xl, listOf vs.toArray e2) ∈ tl ++ frz := List.mem_append_right _ hx
      (try k_unmd)
      (try k_fold)
      k_steps
      unfold Hold
      k_dflt (refine' StC.use (IH (d - 1) q3) ((I, oI) :: (C, oC) :: (D, LCg.lst ys) :: (L' + 1 + 1, o2) :: (L' + 1, o1) :: (tl ++ frz)) ?B ?F ?X ?N ?T ?hk ?hh ?hs ?hx hi hlen ?k0 ?ne q4 ?dd ?r ?u ?ret; (case B => k_asm); (case F => k_asm); (case X => k_asm); (case N => k_asm); (case T => k_asm); (case hk => first | exact rfl | assumption); (case hh => k_mem); (case hs => (repeat refine subCons (by k_mem) ?_); intro p hp; k_mem); (case hx => k_mem); (case k0 => walk_at "zp"); (case dd => exact q5); (case r => first | assumption | omega | ktr_room); (case u => first | assumption | omega | ktr_units); k_whole)
      case ne =>
        intro p hp
        have off2 := off.mem (hl, handO xl k' t1 e1) (by simp)
        simp only [List.cons_append, List.nil_append, List.mem_cons, List.mem_append] at hp
        rcases hp with h | h | h | h | h | h | h
        · subst h; exact Ne.symm off2.1
        · subst h; exact Ne.symm off2.2.1
        · subst h; exact Ne.symm off2.2.2
        · exact hpre p (by simp [h])
        · exact hpre p (by simp [h])
        · exact hsep p h (hl, handO xl k' t1 e1) (by simp)
        · exact hne p h
      case ret => exact SJ.turn off hsep hprs hoks hnl
    case fin =>
      intro ys nw hJ
      obtain ⟨k', t1, tl, sts, rfl, hsep, hk', hprs, hoks, hnl⟩ := hJ
      simp only [List.cons_append, List.nil_append]
      have hyl := hprs.length
      rw [stNodes_len] at hyl
      have hy63 : ys.length ≤ 63 := by omega
      (try k_unmd)
      (try k_fold)
      k_steps
      refine stEnd2 [_, _] [_, _, _] (St.block sts) hret (by assumption) (by assumption) hk' ?_ (sepHd (pre := [(L' + 1 + 1, o2), (L' + 1, o1)]) hsep) ?_ ⟨hd0, by omega, hoks⟩
      · repeat' first | exact Sep.nil | refine Sep.consLt (by assumption) (by first | assumption | exact ltR (by assumption)) ?_
      · rw [St.node]
        refine nTup (.head _) (nCons nStr (nCons (nTup (.tail _ (.head _)) (NodesIn.mono (fun p hp => .tail _ (.tail _ hp)) hprs)) (nCons nInt nNil)))
  · unfold Hold
    have hd0 : 0 < d := Nat.pos_of_ne_zero (fun h => by have := hmd.2 h; omega)
    obtain ⟨q1, q2, q3, q4, q5⟩ := deepO hd hu hd0 hd3 hdeep
    (rename News _ _ _ _ => Nh0)
    have Nh := newsTl (newsTl (newsTl (newsTl Nh0)))
    refine namedN2 Nh fun o2 o1 ho2 ho1 => ?_
    subst ho2 ho1
    k_dflt (refine' StC.use (IH (d - 1) q3) ((L' + 1 + 1, o2) :: (L' + 1, o1) :: frz) ?B ?F ?X ?N ?T ?hk ?hh ?hs ?hx hi hlen ?k0 ?ne q4 ?dd ?r ?u ?ret; (case B => k_asm); (case F => k_asm); (case X => k_asm); (case N => k_asm); (case T => k_asm); (case hk => first | exact rfl | assumption); (case hh => k_mem); (case hs => (repeat refine subCons (by k_mem) ?_); intro p hp; k_mem); (case hx => k_mem); (case k0 => walk_at "zp"); (case dd => exact q5); (case r => first | assumption | omega | ktr_room); (case u => first | assumption | omega | ktr_units); k_whole)
    case ne =>
      intro p hp
      rcases List.mem_cons.mp hp with rfl | hp
      · k_ne
      · rcases List.mem_cons.mp hp with rfl | hp
        · k_ne
        · exact hne p hp
    case ret =>
      intro v1 st1 tl1 k1 h1 t1 t2 F1 N1 sep1 hk1 hin1 hok1
      have hne1 : ∀ p ∈ tl1 ++ frz, p.1 ≠ hl := fun p hp => (List.mem_append.mp hp).elim (fun h => sep1 p h _ (.head _)) (hne p)
      have N2 : News g' L' h1 ((L' + 1 + 1, o2) :: (L' + 1, o1) :: (hl, handO xl k1 t1 e1) :: (tl1 ++ frz)) := newsSub N1 (fun p hp => by simp only [List.mem_cons, List.mem_append] at hp ⊢; rcases hp with h | h | h | h | h <;> simp [h])
      clear N1
      have hx1 : (xl, listOf vs.toArray e2) ∈ tl1 ++ frz := List.mem_append_right _ hx
      (try k_unmd)
      (try k_fold)
      k_steps
      · refine stEnd2 [_, _] [_, _] (St.if1 st1) hret (by assumption) (by assumption) (by walk_at "zp") ?_ (sepHd2 sep1) ?_ ⟨hd0, hok1⟩
        · repeat' first | exact Sep.nil | refine Sep.consLt (by assumption) (by first | assumption | exact ltR (by assumption)) ?_
        · rw [St.node, nSig]
          refine nTup (.head _) (nCons nStr (nCons (nTup (.tail _ (.head _)) (nCons nStr (nCons nInt (nCons nInt nNil)))) (nCons (NodeIn.mono (fun p hp => .tail _ (.tail _ hp)) hin1) (nCons nNone nNil))))
      · unfold Hold
        (rename News _ _ _ _ => Nh2)
        refine namedNT2 Nh2 fun S0 oS hS hoS => ?_
        subst hS
        k_dflt (refine' StC.use (IH (d - 1) q3) ((S0, _) :: (L' + 1 + 1, o2) :: (L' + 1, o1) :: (tl1 ++ frz)) ?B ?F ?X ?N ?T ?hk ?hh ?hs ?hx hi hlen ?k0 ?ne q4 ?dd ?r ?u ?ret; (case B => k_asm); (case F => k_asm); (case X => k_asm); (case N => k_asm); (case T => k_asm); (case hk => first | exact rfl | assumption); (case hh => k_mem); (case hs => (repeat refine subCons (by k_mem) ?_); intro p hp; k_mem); (case hx => k_mem); (case k0 => walk_at "zp"); (case dd => exact q5); (case r => first | assumption | omega | ktr_room); (case u => first | assumption | omega | ktr_units); k_whole)
        case ne => exact neCons (by k_ne) (neCons (by k_ne) (neCons (by k_ne) hne1))
        case ret =>
          intro v2 st2 tl2 k2 h2 t1b t2b F2 N2b sep2 hk2 hin2 hok2
          have N3 := perm3 N2b
          clear N2b
          (try k_unmd)
          (try k_fold)
          k_steps
          refine stEnd2 [_, _] [_, _] (St.if2 st1 st2) hret (by assumption) (by assumption) hk2 ?_ (sepHd3 sep1 sep2) ?_ ⟨hd0, hok1, hok2⟩
          · repeat' first | exact Sep.nil | refine Sep.consLt (by assumption) (by first | assumption | exact ltR (by assumption)) ?_
          · rw [St.node, nSig]
            refine nTup (.head _) (nCons nStr (nCons (nTup (.tail _ (.head _)) (nCons nStr (nCons nInt (nCons nInt nNil)))) (nCons (NodeIn.mono (fun p hp => .tail _ (.tail _ (appR (t1 := []) (appR hp)))) hin1) (nCons (NodeIn.mono (fun p hp => .tail _ (.tail _ (appR (t1 := []) (appL hp)))) hin2) nNil))))
  · unfold Hold
    have hd0 : 0 < d := Nat.pos_of_ne_zero (fun h => by have := hmd.2 h; omega)
    obtain ⟨q1, q2, q3, q4, q5⟩ := deepO hd hu hd0 hd3 hdeep
    (rename News _ _ _ _ => Nh0)
    refine namedNT2 Nh0 fun S0 oS hS hoS => ?_
    subst hS
    have Nh := newsTl (newsTl (newsTl (newsTl (newsTl Nh0))))
    refine namedN2 Nh fun o2 o1 ho2 ho1 => ?_
    subst ho2 ho1
    clear Nh
    k_dflt (refine' StC.use (IH (d - 1) q3) ((S0, _) :: (L' + 1 + 1, o2) :: (L' + 1, o1) :: frz) ?B ?F ?X ?N ?T ?hk ?hh ?hs ?hx hi hlen ?k0 ?ne q4 ?dd ?r ?u ?ret; (case B => k_asm); (case F => k_asm); (case X => k_asm); (case N => k_asm); (case T => k_asm); (case hk => first | exact rfl | assumption); (case hh => k_mem); (case hs => (repeat refine subCons (by k_mem) ?_); intro p hp; k_mem); (case hx => k_mem); (case k0 => walk_at "zp"); (case dd => exact q5); (case r => first | assumption | omega | ktr_room); (case u => first | assumption | omega | ktr_units); k_whole)
    case ne => exact neCons (by k_ne) (neCons (by k_ne) (neCons (by k_ne) hne))
    case ret =>
      intro v1 st1 tl1 k1 h1 t1 t2 F1 N1b sep1 hk1 hin1 hok1
      have N1 := perm3' N1b
      clear N1b
      (try k_unmd)
      (try k_fold)
      k_steps
      refine stEnd2 [_, _] [_, _] (St.whl st1) hret (by assumption) (by assumption) hk1 ?_ (sepHd4 sep1) ?_ ⟨hd0, hok1⟩
      · repeat' first | exact Sep.nil | refine Sep.consLt (by assumption) (by first | assumption | exact ltR (by assumption)) ?_
      · rw [St.node, nSig]
        refine nTup (.head _) (nCons nStr (nCons (nTup (.tail _ (.head _)) (nCons nStr (nCons nInt (nCons nInt nNil)))) (nCons (NodeIn.mono (fun p hp => .tail _ (.tail _ hp)) hin1) nNil)))

section
open PySem PySem.W PyProof.Rows PySem.Spec PySem.Calls
theorem named3 {h₀ h : Heap} {L d1 d2 d3 : Addr} {o1 o2 o3 : Obj} {rest : Led} {P : Prop} (_N : News h₀ L h ((d1, o1) :: (d2, o2) :: (d3, o3) :: rest)) (k : ∀ a b c, a = d1 → b = d2 → c = d3 → P) : P := k _ _ _ rfl rfl rfl
theorem strs_canLay : ∀ ns : List Str, (∀ y ∈ ns, PyData.strOk y = true) → PyData.canLayAll0 (ns.map PyData.str) = true
  | [], _ => rfl
  | a :: r, h => by
    have h1 := h a (.head _)
    have h2 := strs_canLay r fun y hy => h y (.tail _ hy)
    simp [PyData.canLayAll0, PyData.canLay0, h1, h2]
theorem strs_depth : ∀ ns : List Str, PyData.depthAll (ns.map PyData.str) = 0
  | [] => rfl
  | _ :: r => by simp [PyData.depthAll, PyData.depth, strs_depth r]
theorem strs_shaped (ns : List Str) (h : ∀ y ∈ ns, PyData.strOk y = true) : SeqAt.shaped (.list (ns.map PyData.str)) = true := by
  simp [SeqAt.shaped, PyData.canLay0, PyData.depth, strs_canLay ns h, strs_depth]
theorem rowTexts_ok {d : Nat} {rows : List (List Node)} (h : ∀ l ∈ rows, l.length ≤ 5 ∧ Node.oks d l) : ∀ y ∈ rowTexts rows, PyData.strOk y = true := by
  intro y hy
  unfold rowTexts at hy
  obtain ⟨i, hi, rfl⟩ := List.mem_mapIdx.mp hy
  refine sOk_join _ sOk_blank _ fun z hz => ?_
  rcases List.mem_cons.mp hz with rfl | hz
  · exact sOk_txt _
  · exact sOk_texts (h _ (List.getElem_mem hi)).2 z hz
section
variable {prog : Program} {w : World} {A : Around} {E : Value → Shared → Prop} {s : Shared} {h₀ : Heap} {L a b : Addr} {m : Str → Option Value} {news : Led} {xs ys : List Value} {e1 e2 : Nat}
theorem gListCat {Q : Value → Shared → Prop} (F : Fr h₀ L s.heap m) (N : News h₀ L s.heap news) (ha : (a, listOf xs.toArray e1) ∈ news) (hb : (b, listOf ys.toArray e2) ∈ news) (hz : xs.length + ys.length ≤ 200)
    (h : ∀ D h', Fr h₀ L h' m → News h₀ L h' ((D, listOf (xs ++ ys).toArray 0) :: news) → (∀ p ∈ news, p.1 < D) → Q (.ref D) { s with heap := h' }) : wpAny (model prog w) A (binaryOp .Add (.ref a) (.ref b)) Q E s :=
  kmk_add_lit (its := xs.toArray) (its2 := ys.toArray) F N (News.isList N ha) (News.isList N hb) rfl h (by rw [sizeLine_eq]; show xs.length + ys.length ≤ _; omega)
theorem gNeStrs {ts : List Str} {Q : Value → Shared → Prop} (N : News h₀ L s.heap news) (ha : (a, listOf xs.toArray e1) ∈ news) (hb : (b, listOf ys.toArray e2) ∈ news) (hi : StrsAre xs ts) (hj : StrsAre ys ts) (hok : ∀ y ∈ ts, PyData.strOk y = true) (hu : A.units + 64 < cLine) (h : Q (.bool false) s) :
    wpAny (model prog w) A (compareOp .NotEq (.ref a) (.ref b)) Q E s := by
  refine ne_dataH_same (reads_newData (News.isList N ha) hi.carried) (reads_newData (News.isList N hb) hj.carried) (strs_shaped _ hok) (strs_shaped _ hok) hu (SeqAt.noMix_of_shape (.list .str) rfl _ _ (list_map_has fun _ => rfl) (list_map_has fun _ => rfl)) ?_
  rw [PyProof.Rows.same_refl]; exact h
end

end
section
open PySem PySem.W PyProof.Rows PySem.Spec PySem.Calls
abbrev mkD (w : World) (k1 k2 t0 : Tok) (cl : Addr) : Obj := dictOf [⟨PyData.keyHash w.params (Str.ofString "slots"), .str (Str.ofString "slots") k1, .int 0 t0⟩, ⟨PyData.keyHash w.params (Str.ofString "code"), .str (Str.ofString "code") k2, .ref cl⟩] 2
theorem setL_some (v : Value) : ∀ (l : List Value) (k : Nat), k < l.length → ki_setL l k v = some (l.set k v)
  | [], k, h => absurd h (Nat.not_lt_zero _)
  | a :: r, 0, _ => rfl
  | a :: r, k + 1, h => by
    have := setL_some v r k (by simpa using h)
    simp [ki_setL, this]
theorem adjust_but (n : Nat) (hn : 1 ≤ n) : Builtin.Slice.sliceAdjust none (some (-1 : Int)) 1 (n : Int) = (0, (n : Int) - 1) := by
  unfold Builtin.Slice.sliceAdjust
  have h1 : ¬ ((1 : Int) < 0) := by omega
  have h2 : ((-1 : Int) < 0) := by omega
  simp only [h1, h2, if_false, if_true]
  congr 1
  omega
theorem places_but (n : Nat) (hn : 1 ≤ n) : Builtin.Slice.slicePlaces 0 ((n : Int) - 1) 1 = n - 1 := by
  unfold Builtin.Slice.slicePlaces
  have h1 : (1 : Int) > 0 := by omega
  simp only [h1, if_true, Int.ediv_one]
  split <;> omega
theorem pick_but (xs : Array Value) : ((List.range (xs.size - 1)).filterMap fun (k : Nat) => xs[((0 : Int) + (k : Int) * 1).toNat]?).toArray = xs.toList.dropLast.toArray := by
  have e : (fun (k : Nat) => xs[((0 : Int) + (k : Int) * 1).toNat]?) = fun k => xs[0 + k]? := by
    funext k
    have : ((0 : Int) + (k : Int) * 1).toNat = 0 + k := by omega
    rw [this]
  rw [e]
  have := pick_run xs 0 (xs.size - 1)
  rw [List.filterMap_map] at this
  have e2 : ((fun x => xs[x]?) ∘ fun x => 0 + x) = fun k => xs[0 + k]? := rfl
  rw [e2] at this
  rw [this, List.drop_zero, List.dropLast_eq_take, Array.length_toList]
section
variable {prog : Program} {w : World} {A : Around} {E : Value → Shared → Prop} {s : Shared} {h₀ : Heap} {L : Addr} {m : Str → Option Value} {news : Led}
theorem applied_but {sl : Addr} {n : Nat} {u : Tok} {Q : Int × Int × Nat → Shared → Prop} (hs : s.heap.IsSliceOf sl .none (.int (-1) u) .none) (hn : 1 ≤ n) (h : Q (0, 1, n - 1) s) :
    wpAny (model prog w) A (Builtin.Slice.sliceApplied (.ref sl) (pure (n : Int))) Q E s := by
  obtain ⟨os, hos, hcs, hds⟩ := id hs
  unfold Builtin.Slice.sliceApplied Builtin.Slice.sliceFields
  refine wpAny_bind (wpAny_bind (wpAny_field hos hds (x := .none) rfl (wpAny_bind (wpAny_field hos hds (x := .int (-1) u) rfl (wpAny_bind (wpAny_field hos hds (x := .none) rfl (wpAny_pure ?_)))))))
  refine wpAny_bind (slicePart_none ?_)
  show wpAny _ _ (if ((1 : Int) == 0) = true then _ else _) _ _ s
  rw [if_neg (by decide)]
  refine wpAny_bind (slicePart_none (wpAny_bind (slicePart_int (wpAny_bind (wpAny_pure ?_)))))
  show wpAny _ _ (match Builtin.Slice.sliceAdjust none (some (-1 : Int)) 1 (n : Int) with | (lo, hi) => pure (lo, (1 : Int), Builtin.Slice.slicePlaces lo hi 1)) _ _ s
  rw [adjust_but n hn]
  show wpAny _ _ (pure ((0 : Int), (1 : Int), Builtin.Slice.slicePlaces 0 ((n : Int) - 1) 1)) _ _ s
  rw [places_but n hn]
  exact wpAny_pure h
theorem getItem_but {t sl : Addr} {items : Array Value} {u : Tok} {Q : Value → Shared → Prop} (ht : IsTup s.heap t items) (hs : s.heap.IsSliceOf sl .none (.int (-1) u) .none) (h1 : 1 ≤ items.size) (hsz : items.size ≤ 100)
    (h : Q (.ref s.heap.objs.size) { s with heap := s.heap.push { cls := .type "tuple", data := .seq items.toList.dropLast.toArray } }) : wpAny (model prog w) A (getItem (.ref t) (.ref sl)) Q E s := by
  have hdrop : sizeOk (.seq items.toList.dropLast.toArray) := by
    show items.toList.dropLast.toArray.size ≤ sizeLine
    rw [List.size_toArray, List.length_dropLast, Array.length_toList, sizeLine_eq]
    omega
  obtain ⟨os, hos, hcs, hds⟩ := id hs
  have hTs : s.TypeIs (.ref sl) "slice" := ⟨os, hos, hcs⟩
  unfold getItem
  try with_reducible refine wpAny_holding ?_
  first | refine wpAny_bind (wpAny_pure ?_) | skip
  refine wpAny_bind (wpAny_sequenceKey ht.typeIs (by decide) ?_)
  refine wpAny_bind (wpAny_callSpecial?_slot (name := Str.ofString "__getitem__") ht.typeIs slot_tuple_getitem
    (wpAny_call_entry slot_tuple_getitem ht.typeIs entry_tuple_getitem ?_ (args_tuple_getitem _ _)))
  show wpAny _ _ (Builtin.Tuple.tupleItemsOf (.ref t) >>= _) _ _ s
  refine wpAny_bind (tupleItemsOf_ ht ?_)
  refine wpAny_bind (wpAny_typeOf hTs ?_)
  rw [if_pos (by decide)]
  refine wpAny_bind (applied_but hs h1 ?_)
  have hno : ¬ (((0 : Int) == 0 && (1 : Int) == 1 && (items.size - 1) == items.size) = true) := by
    have : ((items.size - 1) == items.size) = false := by rw [beq_eq_false_iff_ne]; omega
    rw [this]; simp
  show wpAny _ _ (if ((0 : Int) == 0 && (1 : Int) == 1 && (items.size - 1) == items.size) = true then _ else _) _ _ s
  rw [if_neg hno, pick_but items]
  first
    | exact wpAny_bind (m := Builtin.Tuple.tupleExact _) (wpAny_newObj_type (wpAny_pure ⟨_, rfl, wpAny_pure h⟩) hdrop)
    | exact wpAny_bind (wpAny_bind (m := Builtin.Tuple.tupleExact _) (wpAny_newObj_type (wpAny_pure (wpAny_pure ⟨_, rfl, wpAny_pure h⟩)) hdrop))
    | exact wpAny_bind (m := Builtin.Tuple.tupleExact _) (wpAny_newObj_type (wpAny_bind (wpAny_pure (wpAny_pure ⟨_, rfl, wpAny_pure h⟩))) hdrop)
theorem gButLast {value slice : PySem.Expr} {t : Addr} {vs : List Value} {e : Nat} {u : Tok} {Q : Value → Shared → Prop}
    (F : Fr h₀ L s.heap m) (N : News h₀ L s.heap news) (hm : (t, tupO vs e) ∈ news) (h1 : 1 ≤ vs.length) (hsz : vs.length ≤ 60)
    (h : ∀ D h', Fr h₀ L h' m → News h₀ L h' ((D, tupO vs.dropLast 0) :: news) → (∀ p ∈ news, p.1 < D) → Q (.ref D) { s with heap := h' })
    (hs : subscripted slice false (.ref t) (.ref s.heap.objs.size) = operate [.ref s.heap.objs.size, .ref t] (getItem (.ref t) (.ref s.heap.objs.size)))
    (hg : ∀ r, letTemporaryGo value (.ref t) r = pure ()) :
    wpAny (model prog w) A (subscriptTail value slice (.ref t) (.ref s.heap.objs.size)) Q E { s with heap := s.heap.push { cls := .type "slice", data := .fields #[.none, .int (-1) u, .none] } } := by
  have ht : IsTup s.heap t vs.toArray := News.isTup N hm
  have ht' : IsTup (s.heap.push { cls := .type "slice", data := .fields #[.none, .int (-1) u, .none] }) t vs.toArray := ht.keeps fun _ _ e => Heap.get?_push_of_some _ e
  have z : vs.toArray.size = vs.length := by simp
  refine subscriptTail_ops (s := { s with heap := s.heap.push { cls := .type "slice", data := .fields #[.none, .int (-1) u, .none] } }) ht'.typeIs slot_tuple_getitem.lookup
    (getItem_but ht' (Heap.IsSliceOf.new ..) (by rw [z]; exact h1) (by rw [z]; omega) ?_) hs hg
  have N0 : News h₀ L (s.heap.push { cls := .type "slice", data := .fields #[.none, .int (-1) u, .none] }) news := N.grown fun _ _ e => Heap.get?_push_of_some _ e
  have N1 := News.push (F.push { cls := .type "slice", data := .fields #[.none, .int (-1) u, .none] }) N0 { cls := .type "tuple", data := .seq vs.toArray.toList.dropLast.toArray }
  exact h _ _ ((F.push _).push _) N1 fun p hp => Heap.lt_size (N0 p hp).1
theorem gPair2 {l : Addr} {e : Nat} {value slice : PySem.Expr} {u : Tok} {v x y : Value} {vs : List Value} {Q : Value → Shared → Prop} (N : News h₀ L s.heap news) (hm : (l, tupO (x :: y :: v :: vs) e) ∈ news) (hsz : vs.length ≤ 60) (h : Q v s)
    (hs : subscripted slice false (.ref l) (.int 2 u) = operate [.ref l, .int 2 u] (getItem (.ref l) (.int 2 u))) :
    wpAny (model prog w) A (subscriptTail value slice (.ref l) (.int 2 u)) Q E s :=
  item_tupleT (j := 2) (News.isTup N hm) (by decide) (by decide) (by unfold seqIndex?; simp; omega) rfl h hs
theorem gPair3 {l : Addr} {e : Nat} {value slice : PySem.Expr} {u : Tok} {v x y z : Value} {vs : List Value} {Q : Value → Shared → Prop} (N : News h₀ L s.heap news) (hm : (l, tupO (x :: y :: z :: v :: vs) e) ∈ news) (hsz : vs.length ≤ 60) (h : Q v s)
    (hs : subscripted slice false (.ref l) (.int 3 u) = operate [.ref l, .int 3 u] (getItem (.ref l) (.int 3 u))) :
    wpAny (model prog w) A (subscriptTail value slice (.ref l) (.int 3 u)) Q E s :=
  item_tupleT (j := 3) (News.isTup N hm) (by decide) (by decide) (by unfold seqIndex?; simp; omega) rfl h hs
theorem gTupCat {a b : Addr} {xs ys : List Value} {e1 e2 : Nat} {Q : Value → Shared → Prop} (F : Fr h₀ L s.heap m) (N : News h₀ L s.heap news) (ha : (a, tupO xs e1) ∈ news) (hb : (b, tupO ys e2) ∈ news) (hx : xs ≠ []) (hy : ys ≠ []) (hz : xs.length + ys.length ≤ 100)
    (h : ∀ D h', Fr h₀ L h' m → News h₀ L h' ((D, tupO (xs ++ ys) 0) :: news) → (∀ p ∈ news, p.1 < D) → Q (.ref D) { s with heap := h' }) : wpAny (model prog w) A (binaryOp .Add (.ref a) (.ref b)) Q E s :=
  kde_addT F N (News.isTup N ha) (News.isTup N hb) hx hy (by show xs.length + ys.length ≤ 16384; omega) rfl h
theorem gSetItem {D : Addr} {cvs : List Value} {n k : Nat} {t : Tok} {v : Value} {news' : Led} {Q : Unit → Shared → Prop} (F : Fr h₀ L s.heap m) (N : News h₀ L s.heap news) (hk : k < cvs.length) (hl : cvs.length ≤ 60) (U : Upd D (listOf cvs.toArray n) (listOf (cvs.set k v).toArray n) news news')
    (h : ∀ h', Fr h₀ L h' m → News h₀ L h' news' → Q () { s with heap := h' }) : wpAny (model prog w) A (setItem (.ref D) (.int (k : Int) t) v) Q E s :=
  ki_set (its := cvs.toArray) F N (by omega) (by omega) (by show ki_setL cvs ((k : Int)).toNat v = _; rw [Int.toNat_natCast]; exact setL_some v cvs k hk) U h
end
theorem dropTwo {h₀ h : Heap} {L : Addr} {a x y : Addr × Obj} {b : Led} (N : News h₀ L h (a :: x :: y :: b)) : News h₀ L h (a :: b) := newsSub N fun p hp => (List.mem_cons.mp hp).elim (fun e => e ▸ .head _) (fun h => .tail _ (.tail _ (.tail _ h)))
/-- a row of made code -/
def nmOk (x : Str) : Bool := !(cl x).contains 32 && decide (x.length ≤ 37) && PyData.strOk x && (x != Str.ofString "")
def Good (len : Nat) (l : List Node) : Prop := ∃ name rest, l = .str name :: rest ∧ nmOk name = true ∧ rest.length ≤ 4 ∧ Node.oks 5 rest ∧ (name = Str.ofString "jump" → ∃ t : Int, rest = [.int t] ∧ 0 ≤ t ∧ t ≤ (len : Int))
theorem Good.mono {a b : Nat} (h : a ≤ b) {l : List Node} : Good a l → Good b l := fun ⟨n, r, h1, h2, h3, h4, h5⟩ => ⟨n, r, h1, h2, h3, h4, fun e => by obtain ⟨t, e1, e2, e3⟩ := h5 e; exact ⟨t, e1, e2, by omega⟩⟩
def bnd : Nat → Nat
  | 0 => 1
  | d + 1 => 2 * bnd d + 2
theorem bnd_mono : ∀ {a b : Nat}, a ≤ b → bnd a ≤ bnd b := by
  intro a b h
  induction h with
  | refl => exact Nat.le_refl _
  | step _ ih => exact Nat.le_trans ih (by show _ ≤ 2 * bnd _ + 2; omega)
theorem bnd_pos (d : Nat) : 1 ≤ bnd d := bnd_mono (Nat.zero_le d)
theorem bnd_step {d : Nat} (h : 0 < d) : bnd d = 2 * bnd (d - 1) + 2 := by
  obtain ⟨k, rfl⟩ : ∃ k, d = k + 1 := ⟨d - 1, by omega⟩
  rfl
def MkRet (w : World) (h₀ : Heap) (L : Addr) (m : Str → Option Value) (mk dx cc : Addr) (k1 k2 t0 : Tok) (cvs : List Value) (frz src : Led) (b : Nat) (s : Shared) (Q : Value → Shared → Prop) : Prop :=
  ∀ (nvs : List Value) (new : List (List Node)) (tl : Led) (ce' : Nat) (h' : Heap) (t2 : Nat), Fr h₀ L h' m → News h₀ L h' ((mk, instObj 192 dx) :: (dx, mkD w k1 k2 t0 cc) :: (cc, listOf (cvs ++ nvs).toArray ce') :: (tl ++ frz)) → (∀ p ∈ tl, p.1 ≠ cc) → Sep tl frz → NodesIn (tl ++ src) nvs (new.map Node.tup) → (∀ l ∈ new, Good (cvs.length + nvs.length) l) → nvs.length ≤ b → Q .none { s with heap := h', toks := t2 }
theorem mkEnd {w : World} {h₀ h' : Heap} {L mk dx cc : Addr} {m : Str → Option Value} {k1 k2 t0 : Tok} {cvs X : List Value} {frz src led : Led} {b ce' t2 : Nat} {s : Shared} {Q : Value → Shared → Prop} (ret : MkRet w h₀ L m mk dx cc k1 k2 t0 cvs frz src b s Q)
    (nvs : List Value) (new : List (List Node)) (tl : Led) (F : Fr h₀ L h' m) (N : News h₀ L h' led) (m1 : (mk, instObj 192 dx) ∈ led) (m2 : (dx, mkD w k1 k2 t0 cc) ∈ led) (m3 : (cc, listOf X.toArray ce') ∈ led) (hX : X = cvs ++ nvs) (hs : ∀ p ∈ tl ++ frz, p ∈ led)
    (hcc : ∀ p ∈ tl, p.1 ≠ cc) (hsep : Sep tl frz) (hin : NodesIn (tl ++ src) nvs (new.map Node.tup)) (hg : ∀ l ∈ new, Good (cvs.length + nvs.length) l) (hb : nvs.length ≤ b) : Q .none { s with heap := h', toks := t2 } := by
  subst hX
  exact ret nvs new tl ce' h' t2 F (newsSub N (subCons m1 (subCons m2 (subCons m3 hs)))) hcc hsep hin hg hb
def MakeC (w : World) (mean : ExcName → Option Value) (mg mb : Str → Option Value) (d : Nat) : Prop :=
  ∀ (dp un : Nat) (gd : Option (List Code)) (cn : Str) (cs : Scope) (a : Addr) (ccd : Value) (cl : List (Str × Addr)) (outer : List Env) (A₀ : Around) (base h₀ : Heap) (L : Addr) (m : Str → Option Value) (s : Shared) (Q E : Value → Shared → Prop)
    (mk dx cc : Addr) (k1 k2 t0 : Tok) (cvs : List Value) (ce : Nat) (v : Value) (st : St) (frz src : Led),
    Below A₀ base outer h₀ → Fr h₀ L s.heap m → (Gate.hd.heap_39 w.params).In h₀ → News h₀ L s.heap ((mk, instObj 192 dx) :: (dx, mkD w k1 k2 t0 cc) :: (cc, listOf cvs.toArray ce) :: frz) → Top Gate.view (looseW Gate.view []) mean mg mb h₀ → cs.kind = .function →
    (@Ne Nat mk cc) → (@Ne Nat dx cc) → (∀ p ∈ frz, p.1 ≠ cc) → d ≤ 3 → cvs.length + bnd d ≤ 50 → (∀ p ∈ src, p ∈ frz) → NodeIn src v (St.node st) → St.ok d st → dp + 4 * d + 20 < recursionLimit → un + 60 * d + 300 < cLine →
    MkRet w h₀ L m mk dx cc k1 k2 t0 cvs frz src (bnd d) s Q →
    wpAny (model PySem.Challenge.rw_pq0466_01.row.prog w) (ktrTop dp un gd cn cs L a ccd cl outer) (call (.ref 189) [.ref mk, v]) Q E s
theorem MakeC.use {w : World} {mean : ExcName → Option Value} {mg mb : Str → Option Value} {d : Nat} (C : MakeC w mean mg mb d) {dp un : Nat} {gd : Option (List Code)} {cn : Str} {cs : Scope} {a : Addr} {ccd : Value} {cl : List (Str × Addr)} {outer : List Env} {A₀ : Around} {base h₀ : Heap} {L : Addr} {m : Str → Option Value} {s : Shared} {Q E : Value → Shared → Prop}
    {mk dx cc : Addr} {k1 k2 t0 : Tok} {cvs : List Value} {ce : Nat} {v : Value} {st : St} {led src : Led} (frz : Led)
    (B : Below A₀ base outer h₀) (F : Fr h₀ L s.heap m) (X : (Gate.hd.heap_39 w.params).In h₀) (N : News h₀ L s.heap led) (T : Top Gate.view (looseW Gate.view []) mean mg mb h₀) (hk : cs.kind = .function)
    (m1 : (mk, instObj 192 dx) ∈ led) (m2 : (dx, mkD w k1 k2 t0 cc) ∈ led) (m3 : (cc, listOf cvs.toArray ce) ∈ led) (hs : ∀ p ∈ frz, p ∈ led)
    (hn1 : @Ne Nat mk cc) (hn2 : @Ne Nat dx cc) (hn3 : ∀ p ∈ frz, p.1 ≠ cc) (hd3 : d ≤ 3) (hlen : cvs.length + bnd d ≤ 50) (hsrc : ∀ p ∈ src, p ∈ frz) (hv : NodeIn src v (St.node st)) (ok : St.ok d st) (hd : dp + 4 * d + 20 < recursionLimit) (hu : un + 60 * d + 300 < cLine)
    (ret : MkRet w h₀ L m mk dx cc k1 k2 t0 cvs frz src (bnd d) s Q) :
    wpAny (model PySem.Challenge.rw_pq0466_01.row.prog w) (ktrTop dp un gd cn cs L a ccd cl outer) (call (.ref 189) [.ref mk, v]) Q E s :=
  C _ _ _ _ _ _ _ _ _ _ _ _ _ _ _ _ _ mk dx cc k1 k2 t0 cvs ce v st frz src B F X (newsSub N (subCons m1 (subCons m2 (subCons m3 hs)))) T hk hn1 hn2 hn3 hd3 hlen hsrc hv ok hd hu ret
theorem nodes1 {led : Led} {vs : List Value} {n : Node} {l : List Node} (h : NodesIn led vs (n :: l)) : ∃ v ws, vs = v :: ws ∧ NodeIn led v n ∧ NodesIn led ws l := h
theorem Good.plain {len : Nat} {name : Str} {rest : List Node} (h : nmOk name = true) (hj : name ≠ Str.ofString "jump") (hl : rest.length ≤ 4) (ho : Node.oks 5 rest) : Good len (.str name :: rest) := ⟨name, rest, rfl, h, hl, ho, fun e => absurd e hj⟩
theorem Good.jump {len : Nat} {t : Int} (h0 : 0 ≤ t) (h1 : t ≤ (len : Int)) (hl : len ≤ 1000) : Good len [.str (Str.ofString "jump"), .int t] := ⟨_, _, rfl, by decide +kernel, Nat.le_of_ble_eq_true rfl, ⟨by show t.natAbs < _; omega, trivial⟩, fun _ => ⟨t, rfl, h0, h1⟩⟩
theorem Good.unless {len : Nat} {t i : Int} (h0 : 0 ≤ t) (h1 : t ≤ 1000) (hi : i.natAbs < 100) : Good len [.str (Str.ofString "unless"), nSig i, .int t] :=
  .plain (by decide +kernel) (by decide +kernel) (Nat.le_of_ble_eq_true rfl) ⟨⟨by decide, Nat.le_of_ble_eq_true rfl, ⟨by decide +kernel, by decide +kernel⟩, by show Int.natAbs 1 < _; decide, by show i.natAbs < _; omega, trivial⟩, by show t.natAbs < _; omega, trivial⟩
theorem okMade : Node.ok 5 nMade := by simp only [nMade, Node.ok, Node.oks]; decide +kernel
theorem okConst : Node.ok 5 nConst := by simp only [nConst, Node.ok, Node.oks]; decide +kernel
theorem okSig2 : Node.ok 5 (nSig 2) := by simp only [nSig, Node.ok, Node.oks]; decide +kernel
theorem getMid (c n : List Value) (a : Value) : ((c ++ [a]) ++ n)[c.length]? = some a := by simp
theorem setMid (c n : List Value) (a x : Value) : ((c ++ [a]) ++ n).set c.length x = c ++ (x :: n) := by
  rw [List.append_assoc]
  induction c with
  | nil => rfl
  | cons b r ih => simpa using ih
theorem stRef {led : Led} {v : Value} : ∀ {st : St}, NodeIn led v (St.node st) → ∃ a, v = .ref a
  | .set, h => by rw [St.node] at h; obtain ⟨a, _, _, e, _⟩ := h; exact ⟨a, e⟩
  | .nba, h => by rw [St.node] at h; obtain ⟨a, _, _, e, _⟩ := h; exact ⟨a, e⟩
  | .block _, h => by rw [St.node] at h; obtain ⟨a, _, _, e, _⟩ := h; exact ⟨a, e⟩
  | .if1 _, h => by rw [St.node] at h; obtain ⟨a, _, _, e, _⟩ := h; exact ⟨a, e⟩
  | .if2 _ _, h => by rw [St.node] at h; obtain ⟨a, _, _, e, _⟩ := h; exact ⟨a, e⟩
  | .whl _, h => by rw [St.node] at h; obtain ⟨a, _, _, e, _⟩ := h; exact ⟨a, e⟩
theorem permM {h₀ h : Heap} {L : Addr} {a b c x : Addr × Obj} {tl frz : Led} (N : News h₀ L h (a :: b :: c :: (tl ++ x :: frz))) : News h₀ L h (a :: b :: c :: x :: (tl ++ frz)) :=
  newsSub N fun p hp => by simp only [List.mem_cons, List.mem_append] at hp ⊢; rcases hp with h | h | h | h | h | h <;> simp [h]
theorem nodes_app {led : Led} : ∀ {xs ys : List Value} {l k : List Node}, NodesIn led xs l → NodesIn led ys k → NodesIn led (xs ++ ys) (l ++ k)
  | _, _, [], _, h, h2 => by rw [show _ = _ from h]; exact h2
  | _, _, _ :: _, _, ⟨v, ws, e, h1, h3⟩, h2 => by rw [e]; exact ⟨v, ws ++ _, rfl, h1, nodes_app h3 h2⟩
theorem ccApp {t1 t2 : Led} {cc : Addr} (h1 : ∀ p ∈ t1, p.1 ≠ cc) (h2 : ∀ p ∈ t2, p.1 ≠ cc) : ∀ p ∈ t1 ++ t2, p.1 ≠ cc := fun p hp => (List.mem_append.mp hp).elim (h1 p) (h2 p)
theorem goodCons {len : Nat} {l : List Node} {r : List (List Node)} (h : Good len l) (hr : ∀ k ∈ r, Good len k) : ∀ k ∈ l :: r, Good len k := fun k hk => (List.mem_cons.mp hk).elim (fun e => e ▸ h) (hr k)
theorem goodApp {len : Nat} {l r : List (List Node)} (h : ∀ k ∈ l, Good len k) (hr : ∀ k ∈ r, Good len k) : ∀ k ∈ l ++ r, Good len k := fun k hk => (List.mem_append.mp hk).elim (h k) (hr k)
theorem goodMono {a b : Nat} (h : a ≤ b) {l : List (List Node)} (hl : ∀ k ∈ l, Good a k) : ∀ k ∈ l, Good b k := fun k hk => Good.mono h (hl k hk)
theorem blkEnd {h₀ h : Heap} {L : Addr} {a b c x : Addr × Obj} {t1 t2 frz : Led} (N : News h₀ L h (a :: b :: c :: x :: (t1 ++ (t2 ++ frz)))) : News h₀ L h (x :: a :: b :: c :: ((t1 ++ t2) ++ frz)) :=
  newsSub N fun p hp => by simp only [List.mem_cons, List.mem_append] at hp ⊢; rcases hp with h | h | h | h | (h | h) | h <;> simp [h]
theorem nodesApp2 {t1 t2 src : Led} {xs ys : List Value} {l k : List (List Node)} (h : NodesIn (t2 ++ src) xs (l.map Node.tup)) (h2 : NodesIn (t1 ++ src) ys (k.map Node.tup)) : NodesIn ((t1 ++ t2) ++ src) (xs ++ ys) ((l ++ k).map Node.tup) := by
  rw [List.map_append]
  exact nodes_app (NodesIn.mono (fun p hp => by simp only [List.mem_append] at hp ⊢; rcases hp with h | h <;> simp [h]) h) (NodesIn.mono (fun p hp => by simp only [List.mem_append] at hp ⊢; rcases hp with h | h <;> simp [h]) h2)
theorem Sep.lt1 {r : Addr} {o : Obj} {tl frz : Led} (h : ∀ p ∈ frz, p.1 < r) (ht : Sep tl frz) : Sep ((r, o) :: tl) frz := Sep.cons (fun q hq => Nat.ne_of_lt (h q hq)) ht
theorem Sep.tl1 {t frz : Led} {x : Addr × Obj} (h : Sep t (x :: frz)) : Sep t frz := fun p hp q hq => h p hp q (.tail _ hq)
theorem Sep.tlA {t a frz : Led} (h : Sep t (a ++ frz)) : Sep t frz := fun p hp q hq => h p hp q (appR hq)
theorem named4 {h₀ h : Heap} {L d : Addr} {a b c : Addr × Obj} {o : Obj} {rest : Led} {P : Prop} (_N : News h₀ L h (a :: b :: c :: (d, o) :: rest)) (k : ∀ r, r = d → P) : P := k _ rfl
theorem getMid' (c n m : List Value) (a : Value) : (((c ++ [a]) ++ n) ++ m)[c.length]? = some a := by simp
theorem setMid' (c n m : List Value) (a x : Value) : (((c ++ [a]) ++ n) ++ m).set c.length x = (c ++ (x :: n)) ++ m := by
  rw [List.append_assoc (c ++ [a]), setMid, List.append_assoc]; rfl
theorem permM2 {h₀ h : Heap} {L : Addr} {a b c x y : Addr × Obj} {tl frz : Led} (N : News h₀ L h (a :: b :: c :: (tl ++ x :: y :: frz))) : News h₀ L h (a :: b :: c :: x :: y :: (tl ++ frz)) :=
  newsSub N fun p hp => by simp only [List.mem_cons, List.mem_append] at hp ⊢; rcases hp with h | h | h | h | h | h | h <;> simp [h]
theorem memA {p x y : Addr × Obj} {t1 t2 s : Led} (h : p ∈ t1 ++ s) : p ∈ (x :: y :: (t2 ++ t1)) ++ s := by
  simp only [List.cons_append, List.mem_cons, List.mem_append] at h ⊢; rcases h with h | h <;> simp [h]
theorem memB {p x y : Addr × Obj} {t1 t2 s : Led} (h : p ∈ t2 ++ s) : p ∈ (x :: y :: (t2 ++ t1)) ++ s := by
  simp only [List.cons_append, List.mem_cons, List.mem_append] at h ⊢; rcases h with h | h <;> simp [h]

end
section
open PySem PySem.W PyProof.Rows PySem.Spec PySem.Calls
theorem LJ.fin {h₀ h : Heap} {L I T ul rl hl xl : Addr} {oI oh : Obj} {j1 j2 j3 j4 j5 x0 x1 x2 : Addr × Obj} {zs rvs uvs rvs0 uvs0 : List Value} {eu er eu0 er0 i : Nat} {x : Str} {t t2 : Tok} {k2 : Int} {tl2 tl : Led} {nds : List Node} {rows : List (List Node)}
    (N : News h₀ L h (j1 :: j2 :: j3 :: (T, tupO zs 0) :: j4 :: j5 :: (I, oI) :: (ul, listOf (uvs ++ [Value.str x t]).toArray eu) :: (rl, listOf (rvs ++ [Value.ref T]).toArray er) :: (hl, handO xl k2 t2 0) :: (tl2 ++ x0 :: x1 :: x2 :: tl)))
    (hx : x = Txt.join (Str.ofString " ") (txt (i : Int) :: Node.texts nds)) (hrv : NodesIn tl rvs (rows.map Node.tup)) (huv : StrsAre uvs (rowTexts rows)) (hrl : rows.length = i) (hok : ∀ l ∈ rows, l.length ≤ 5 ∧ Node.oks 3 l) (hz : NodesIn tl2 zs nds) (hoks : Node.oks 3 nds) (hn5 : nds.length ≤ 5)
    (hsep : Sep tl2 ([(I, oI), (ul, listOf uvs0.toArray eu0), (rl, listOf rvs0.toArray er0)] ++ (hl, oh) :: x0 :: x1 :: x2 :: tl)) (htl1 : ∀ p ∈ tl, p.1 ≠ ul ∧ p.1 ≠ rl ∧ p.1 ≠ hl) (htl2 : ∀ p ∈ tl, ∀ q ∈ [x0, x1, x2], p.1 ≠ q.1) (ht4 : ∀ p ∈ tl, p.1 ≠ I)
    (hT1 : ul < T) (hT2 : rl < T) (hT3 : hl < T) (hT4 : I < T) (hT5 : ∀ p ∈ tl2 ++ x0 :: x1 :: x2 :: tl, p.1 < T) (hI1 : @Ne Nat ul I) (hI2 : @Ne Nat rl I) (hI3 : @Ne Nat hl I) (hI4 : @Ne Nat x0.1 I) (hI5 : @Ne Nat x1.1 I) (hI6 : @Ne Nat x2.1 I) (hk2 : 0 ≤ k2) :
    ∃ nw', News h₀ L h ((I, oI) :: nw') ∧ (∀ p ∈ nw', p.1 ≠ I) ∧ LJ ul rl hl xl 0 [x0, x1, x2] (i + 1) nw' := by
  refine ⟨(ul, listOf (uvs ++ [Value.str x t]).toArray eu) :: (rl, listOf (rvs ++ [Value.ref T]).toArray er) :: (hl, handO xl k2 t2 0) :: ([x0, x1, x2] ++ ((T, tupO zs 0) :: (tl2 ++ tl))), newsSub N fun p hp => ?_, ?_,
    k2, t2, rvs ++ [Value.ref T], er, uvs ++ [Value.str x t], eu, (T, tupO zs 0) :: (tl2 ++ tl), rows ++ [nds], rfl, ?_, ?_, hk2, ?_, ?_, ?_, ?_⟩
  · simp only [List.mem_cons, List.mem_append, List.not_mem_nil, or_false, List.cons_append, List.nil_append] at hp ⊢
    rcases hp with h | h | h | h | h | h | h | h | h | h <;> simp [h]
  · intro p hp
    simp only [List.mem_cons, List.mem_append, List.not_mem_nil, or_false, List.cons_append, List.nil_append] at hp
    rcases hp with h | h | h | h | h | h | h | h | h
    · subst h; exact hI1
    · subst h; exact hI2
    · subst h; exact hI3
    · subst h; exact hI4
    · subst h; exact hI5
    · subst h; exact hI6
    · subst h; exact Nat.ne_of_gt hT4
    · exact hsep p h (I, oI) (by simp)
    · exact ht4 p h
  · intro p hp
    simp only [List.mem_cons, List.mem_append] at hp
    rcases hp with h | h | h
    · subst h; exact ⟨Nat.ne_of_gt hT1, Nat.ne_of_gt hT2, Nat.ne_of_gt hT3⟩
    · exact ⟨hsep p h (ul, listOf uvs0.toArray eu0) (by simp), hsep p h (rl, listOf rvs0.toArray er0) (by simp), hsep p h (hl, oh) (by simp)⟩
    · exact htl1 p h
  · intro p hp q hq
    simp only [List.mem_cons, List.mem_append] at hp
    rcases hp with h | h | h
    · subst h
      refine Nat.ne_of_gt (hT5 q ?_)
      simp only [List.mem_cons, List.mem_append, List.not_mem_nil, or_false] at hq ⊢
      rcases hq with h | h | h <;> simp [h]
    · refine hsep p h q ?_
      simp only [List.mem_cons, List.mem_append, List.not_mem_nil, or_false, List.cons_append, List.nil_append] at hq ⊢
      rcases hq with h | h | h <;> simp [h]
    · exact htl2 p h q hq
  · rw [List.map_append]
    exact NodesIn.snoc (NodesIn.mono (fun p hp => .tail _ (List.mem_append_right _ hp)) hrv) ⟨T, zs, 0, rfl, .head _, NodesIn.mono (fun p hp => .tail _ (List.mem_append_left _ hp)) hz⟩
  · rw [rowTexts_snoc, hrl, hx]
    exact strs_snoc huv _ _
  · simp [hrl]
  · intro l hl
    rcases List.mem_append.mp hl with h | h
    · exact hok l h
    · rw [List.mem_singleton.mp h]; exact ⟨hn5, hoks⟩

end
section
open PySem PySem.W PyProof.Rows PySem.Spec PySem.Calls
theorem strs_get {vs : List Value} {ys : List Str} {i : Nat} {y : Str} (h : StrsAre vs ys) (hy : ys[i]? = some y) : ∃ t, vs[i]? = some (.str y t) := by
  induction h generalizing i with
  | nil => cases i <;> cases hy
  | cons a b _ ih =>
    cases i with
    | zero => cases hy; exact ⟨_, rfl⟩
    | succ i => simpa using ih (by simpa using hy)
theorem strs_cons {vs : List Value} {y : Str} {r : List Str} (h : StrsAre vs (y :: r)) : ∃ t ws, vs = .str y t :: ws ∧ StrsAre ws r := by
  cases h with
  | cons a b h => exact ⟨_, _, rfl, h⟩
theorem sp_blank : Str.ofString " " = ⟨#[32]⟩ := by decide +kernel
/-- codes of a join with blanks -/
def jn : List (List Nat) → List Nat
  | [] => []
  | [a] => a
  | a :: b :: r => a ++ 32 :: jn (b :: r)
theorem cl_join : ∀ l : List Str, cl (Str.join (Str.ofString " ") l) = jn (l.map cl)
  | [] => cl_empty
  | [a] => rfl
  | a :: b :: r => by
    show cl (a ++ Str.ofString " " ++ Str.join (Str.ofString " ") (b :: r)) = _
    rw [cl_append, cl_append, cl_join (b :: r)]
    show (cl a ++ cl (Str.ofString " ")) ++ _ = cl a ++ 32 :: jn (cl b :: r.map cl)
    rw [show cl (Str.ofString " ") = [32] by decide +kernel, List.append_assoc]; rfl
theorem upto : ∀ {a b x y : List Nat}, 32 ∉ a → 32 ∉ b → a ++ 32 :: x = b ++ 32 :: y → a = b ∧ x = y
  | [], [], _, _, _, _, h => ⟨rfl, by simpa using h⟩
  | [], c :: b, _, _, _, hb, h => by
    have : (32 : Nat) = c := by simpa using (List.cons.inj h).1
    exact absurd (this ▸ List.mem_cons_self) hb
  | c :: a, [], _, _, ha, _, h => by
    have : c = (32 : Nat) := by simpa using (List.cons.inj h).1
    exact absurd (this ▸ List.mem_cons_self) ha
  | c :: a, d :: b, x, y, ha, hb, h => by
    obtain ⟨h1, h2⟩ := List.cons.inj h
    obtain ⟨h3, h4⟩ := upto (fun q => ha (List.mem_cons_of_mem _ q)) (fun q => hb (List.mem_cons_of_mem _ q)) h2
    exact ⟨by rw [h1, h3], h4⟩
theorem jn_step {P : List (List Nat)} {a b : List Nat} {r : List (List Nat)} (hP : ∀ p ∈ P, 32 ∉ p) (hne : P ≠ []) (ha : 32 ∉ a) (h : jn P = jn (a :: b :: r)) : ∃ P', P = a :: P' ∧ P' ≠ [] ∧ jn P' = jn (b :: r) := by
  cases P with
  | nil => exact absurd rfl hne
  | cons p P' =>
    cases P' with
    | nil =>
      have e : p = a ++ 32 :: jn (b :: r) := h
      exact absurd (by rw [e]; simp) (hP p (.head _))
    | cons q P' =>
      have e : p ++ 32 :: jn (q :: P') = a ++ 32 :: jn (b :: r) := h
      obtain ⟨h1, h2⟩ := upto (hP p (.head _)) ha e
      exact ⟨q :: P', by rw [h1], List.cons_ne_nil _ _, h2⟩
theorem jn_one {P : List (List Nat)} {a : List Nat} (hne : P ≠ []) (ha : 32 ∉ a) (h : jn P = a) : P = [a] := by
  cases P with
  | nil => exact absurd rfl hne
  | cons p P' =>
    cases P' with
    | nil => have e : p = a := h; rw [e]
    | cons q P' =>
      have e : p ++ 32 :: jn (q :: P') = a := h
      exact absurd (by rw [← e]; simp) ha
theorem no_blank_txt (n : Int) : 32 ∉ cl (txt n) := by
  intro h
  have := (sOk_iff (txt n)).mp (sOk_txt n)
  by_cases hn : n < 0
  · rw [cl_txt_neg hn] at h
    rcases List.mem_cons.mp h with h | h
    · cases h
    · have := ((dg_spec n.natAbs).1 _ h).1; omega
  · rw [show n = (n.natAbs : Int) by omega, cl_txt_nat] at h
    have := ((dg_spec n.natAbs).1 _ h).1; omega
theorem map_cl_inj {l : List Str} {a : Str} {r : List (List Nat)} (h : l.map cl = cl a :: r) : ∃ l', l = a :: l' ∧ l'.map cl = r := by
  cases l with
  | nil => cases h
  | cons b l' =>
    obtain ⟨h1, h2⟩ := List.cons.inj h
    exact ⟨l', by rw [str_ext h1], h2⟩
theorem split_facts (x : Str) : (∀ p ∈ (Txt.split x (Str.ofString " ")).map cl, 32 ∉ p) ∧ jn ((Txt.split x (Str.ofString " ")).map cl) = cl x := by
  constructor
  · intro p hp
    obtain ⟨q, hq, rfl⟩ := List.mem_map.mp hp
    rw [sp_blank] at hq
    exact StrLaws.split_free x 32 q hq
  · rw [← cl_join, StrLaws.join_split]
/-- the first two words of a row, and the third of a jump's -/
theorem split_row {i : Nat} {name : Str} {rest : List Node} (hn : 32 ∉ cl name) : ∃ more, Txt.split (rowText i (.str name :: rest)) (Str.ofString " ") = txt (i : Int) :: name :: more ∧ (∀ t : Int, rest = [.int t] → more = [txt t]) := by
  obtain ⟨h1, h2⟩ := split_facts (rowText i (.str name :: rest))
  generalize hS : Txt.split (rowText i (.str name :: rest)) (Str.ofString " ") = S at h1 h2
  have e : cl (rowText i (.str name :: rest)) = jn (cl (txt (i : Int)) :: cl name :: (Node.texts rest).map cl) := by
    show cl (Builtin.Str.glued (Str.ofString " ") (txt (i : Int) :: Node.texts (.str name :: rest))) = _
    rw [StrLaws.glued_eq_join, cl_join]; rfl
  rw [e] at h2
  have hne : S.map cl ≠ [] := by
    intro q
    rw [q] at h2
    have := congrArg List.length h2
    simp [jn] at this
  obtain ⟨P', hP, hne', h3⟩ := jn_step h1 hne (no_blank_txt _) h2
  obtain ⟨S', rfl, hS'⟩ := map_cl_inj hP
  subst hS'
  have h1' : ∀ p ∈ S'.map cl, 32 ∉ p := fun p hp => h1 p (List.mem_cons_of_mem _ hp)
  cases rest with
  | nil =>
    have := jn_one hne' hn h3
    obtain ⟨S'', rfl, hS''⟩ := map_cl_inj this
    exact ⟨S'', rfl, fun t ht => nomatch ht⟩
  | cons n r =>
    obtain ⟨P'', hP', hne'', h4⟩ := jn_step h1' hne' hn h3
    obtain ⟨S'', rfl, hS''⟩ := map_cl_inj hP'
    refine ⟨S'', rfl, fun t ht => ?_⟩
    obtain ⟨rfl, rfl⟩ := List.cons.inj ht
    subst hS''
    have h5 : jn (S''.map cl) = cl (txt t) := h4
    have := jn_one hne'' (no_blank_txt _) h5
    obtain ⟨S3, rfl, hS3⟩ := map_cl_inj this
    rw [List.map_eq_nil_iff.mp hS3]
section
variable {prog : Program} {w : World} {A : Around} {E : Value → Shared → Prop} {s : Shared} {h₀ : Heap} {L l : Addr} {m : Str → Option Value} {news : Led} {e : Nat}
theorem gSplit {x : Str} {t u : Tok} {Q : Value → Shared → Prop} (F : Fr h₀ L s.heap m) (N : News h₀ L s.heap news) (hz : x.length + 2 ≤ sizeLine)
    (h : Hold (∀ D vs h' k, StrsAre vs (Txt.split x (Str.ofString " ")) → Fr h₀ L h' m → News h₀ L h' ((D, listOf vs.toArray 0) :: news) → (∀ p ∈ news, p.1 < D) → Q (.ref D) { s with heap := h', toks := k })) :
    wpAny (model prog w) A (call (.builtin "str.split") [.str x t, .str (Str.ofString " ") u]) Q E s :=
  KSpl.split1 F N (by decide +kernel) (fun D l h' k e a F' N' l1 => h D _ h' k (e ▸ a) F' N' l1) hz
theorem gLst0 {value slice : PySem.Expr} {u : Tok} {v : Value} {vs : List Value} {Q : Value → Shared → Prop} (N : News h₀ L s.heap news) (hm : (l, listOf (v :: vs).toArray e) ∈ news) (h : Q v s)
    (hs : subscripted slice false (.ref l) (.int 0 u) = operate [.ref l, .int 0 u] (getItem (.ref l) (.int 0 u))) (hg : ∀ r, letTemporaryGo value (.ref l) r = pure ()) :
    wpAny (model prog w) A (subscriptTail value slice (.ref l) (.int 0 u)) Q E s :=
  item_list (News.isList N hm) (by decide) (by decide) rfl h hs hg
theorem gLst1 {value slice : PySem.Expr} {u : Tok} {x v : Value} {vs : List Value} {Q : Value → Shared → Prop} (N : News h₀ L s.heap news) (hm : (l, listOf (x :: v :: vs).toArray e) ∈ news) (h : Q v s)
    (hs : subscripted slice false (.ref l) (.int 1 u) = operate [.ref l, .int 1 u] (getItem (.ref l) (.int 1 u))) (hg : ∀ r, letTemporaryGo value (.ref l) r = pure ()) :
    wpAny (model prog w) A (subscriptTail value slice (.ref l) (.int 1 u)) Q E s :=
  item_list (News.isList N hm) (by decide) (by decide) rfl h hs hg
theorem gLstM {value slice : PySem.Expr} {u : Tok} {a b v : Value} {Q : Value → Shared → Prop} (N : News h₀ L s.heap news) (hm : (l, listOf [a, b, v].toArray e) ∈ news) (h : Q v s)
    (hs : subscripted slice false (.ref l) (.int (-1) u) = operate [.ref l, .int (-1) u] (getItem (.ref l) (.int (-1) u))) :
    wpAny (model prog w) A (subscriptTail value slice (.ref l) (.int (-1) u)) Q E s :=
  kde_neg (vs := [a, b, v]) (j := 2) (News.isList N hm) (by decide) (by decide) rfl rfl h hs
end
theorem TurnJ.nxt {h₀ : Heap} {L I : Addr} {oI : Obj} {Jn : (Str → Option Value) → Led → Prop} {s₁ s₂ : Shared} {Q : Flow → Shared → Prop} (h : EndJ h₀ L I oI Jn s₁ s₂) : TurnJ h₀ L I oI Jn s₁ Q .next s₂ := h
theorem dropIf {y a b : Str} {v w u z : Option Value} {d1 : Decidable (y = a)} {d2 : Decidable (y = b)} {d3 : Decidable ([a].contains y = true)} (h1 : y ≠ b) (h2 : [a].contains y = false) : (if y = a then v else if y = b then w else if [a].contains y = true then u else z) = z := by
  have h3 : y ≠ a := by intro e; subst e; simp at h2
  rw [if_neg h3, if_neg h1, if_neg (by rw [h2]; exact Bool.false_ne_true)]
theorem namedD {h₀ h : Heap} {L lp x d1 : Addr} {y9 y8 y7 y6 y5 y3 y2 y1 y0 : Addr × Obj} {o1 o2 o3 : Obj} {rest : Led} {P : Prop} (_N : News h₀ L h (y9 :: y8 :: y7 :: y6 :: y5 :: (lp, o1) :: y3 :: y2 :: y1 :: y0 :: (x, o2) :: (d1, o3) :: rest)) (k : ∀ p q r, p = lp → q = x → r = d1 → P) : P := k _ _ _ rfl rfl rfl
theorem permS {h₀ h : Heap} {L : Addr} {a x y z u : Addr × Obj} {tl : Led} (N : News h₀ L h (a :: (tl ++ [x, y, z, u]))) : News h₀ L h (x :: y :: z :: tl) :=
  newsSub N fun p hp => by simp only [List.mem_cons, List.mem_append] at hp ⊢; rcases hp with h | h | h | h <;> simp [h]
theorem named5 {h₀ h : Heap} {L a b c d e : Addr} {o1 o2 o3 o4 o5 : Obj} {rest : Led} {P : Prop} (_N : News h₀ L h ((a, o1) :: (b, o2) :: (c, o3) :: (d, o4) :: (e, o5) :: rest)) (k : ∀ a' b' c' d' e', a' = a → b' = b → c' = c → d' = d → e' = e → P) : P := k _ _ _ _ _ rfl rfl rfl rfl rfl

end
section
open PySem PySem.W PyProof.Rows PySem.Spec PySem.Calls
theorem nm_facts {x : Str} (h : nmOk x = true) : 32 ∉ cl x ∧ x.length ≤ 37 ∧ PyData.strOk x = true := by
  unfold nmOk at h
  simp only [Bool.and_eq_true, Bool.not_eq_true', decide_eq_true_eq] at h
  exact ⟨fun q => by have := h.1.1.1; simp [q] at this, h.1.1.2, h.1.2⟩
theorem good_ok {len : Nat} {l : List Node} : Good len l → l.length ≤ 5 ∧ Node.oks 5 l := fun ⟨name, rest, e, hn, hl, ho, _⟩ => by
  obtain ⟨_, h2, h3⟩ := nm_facts hn
  subst e
  exact ⟨by simp only [List.length_cons]; omega, ⟨h2, h3⟩, ho⟩
theorem row_size {len i : Nat} {l : List Node} (h : Good len l) (hi : i < 1000) : (rowText i l).length + 2 ≤ sizeLine := by
  obtain ⟨h1, h2⟩ := good_ok h
  obtain ⟨h3, h4⟩ := join_ok2 (by omega) h1 h2 (txt (i : Int)) (len_txt (by omega))
  have h5 := len_join (Str.ofString " ") (by decide +kernel) 1000000 _ h3
  have h6 : (txt (i : Int) :: Node.texts l).length ≤ 6 := by rw [List.length_cons, texts_len]; omega
  have h7 := Nat.mul_le_mul_right (1000000 + 1) h6
  show (Txt.join (Str.ofString " ") (txt (i : Int) :: Node.texts l)).length + 2 ≤ sizeLine
  rw [sizeLine_eq]; omega
theorem rowTexts_get {rows : List (List Node)} {i : Nat} {l : List Node} (h : rows[i]? = some l) : (rowTexts rows)[i]? = some (rowText i l) := by
  unfold rowTexts; rw [List.getElem?_mapIdx, h]; rfl
theorem rowTexts_len (rows : List (List Node)) : (rowTexts rows).length = rows.length := by unfold rowTexts; simp
theorem named2T {h₀ h : Heap} {L a b : Addr} {o1 o2 : Obj} {rest : Led} {P : Prop} (_N : News h₀ L h ((a, o1) :: (b, o2) :: rest)) (k : ∀ a' b', a' = a → b' = b → P) : P := k _ _ rfl rfl
/-- a row of the ledger by its place -/
theorem row_get {led : Led} {cv : List Value} {rows : List (List Node)} {i len : Nat} (hin : NodesIn led cv (rows.map Node.tup)) (hg : ∀ l ∈ rows, Good len l) (hi : i < cv.length) :
    ∃ l name rest ra tn rvs re, rows[i]? = some l ∧ l = .str name :: rest ∧ Good len l ∧ cv[i]? = some (.ref ra) ∧ (ra, tupO (.str name tn :: rvs) re) ∈ led ∧ 32 ∉ cl name ∧ (name = Str.ofString "jump" → ∃ t : Int, rest = [.int t] ∧ 0 ≤ t ∧ t ≤ (len : Int)) ∧ rvs.length ≤ 60 := by
  have hv : cv[i]? = some cv[i] := List.getElem?_eq_getElem hi
  obtain ⟨n, hn, hnin⟩ := NodesIn.get hin hv
  obtain ⟨l, hl, rfl⟩ : ∃ l, rows[i]? = some l ∧ Node.tup l = n := by simpa using hn
  have hgl := hg l (List.mem_of_getElem? hl)
  obtain ⟨name, rest, e, hn1, hl1, _, hj1⟩ := id hgl
  subst e
  obtain ⟨ra, vs, re, e1, hm, hvs⟩ := hnin
  obtain ⟨v1, rvs, rfl, ⟨tn, rfl⟩, hrest⟩ := nodes1 hvs
  exact ⟨_, name, rest, ra, tn, rvs, re, hl, rfl, hgl, by rw [hv, e1], hm, (nm_facts hn1).1, hj1, by rw [hrest.length]; omega⟩
def FrOf {h₀ h : Heap} {L : Addr} {m : Str → Option Value} (_F : Fr h₀ L h m) (h' : Heap) : Prop := Fr h₀ L h' m
def NewsOf {h₀ h : Heap} {L : Addr} {l : Led} (_N : News h₀ L h l) (h' : Heap) (l' : Led) : Prop := News h₀ L h' l'
theorem emitDrop {h₀ h : Heap} {L : Addr} {r a b c p d : Addr × Obj} {tl : Led} (N : News h₀ L h (r :: a :: b :: c :: p :: d :: tl)) : News h₀ L h (r :: a :: b :: c :: tl) :=
  newsSub N fun q hq => by simp only [List.mem_cons] at hq ⊢; rcases hq with h | h | h | h | h <;> simp [h]
def Mark : Prop := True

end
section
def AimC (w : World) (mean : ExcName → Option Value) (mg mb : Str → Option Value) : Prop :=
  ∀ (dp un : Nat) (gd : Option (List Code)) (cn : Str) (cs : Scope) (a : Addr) (ccd : Value) (cl : List (Str × Addr)) (outer : List Env) (A₀ : Around) (base h₀ : Heap) (L : Addr) (m : Str → Option Value) (s : Shared) (Q E : Value → Shared → Prop)
    (mk dx cc ra : Addr) (k1 k2 t0 : Tok) (cvs rest : List Value) (ce re k : Nat) (tk tn : Tok) (nm : Str) (frz : Led),
    Below A₀ base outer h₀ → Fr h₀ L s.heap m → (Gate.hd.heap_39 w.params).In h₀ → News h₀ L s.heap ((mk, instObj 192 dx) :: (dx, mkD w k1 k2 t0 cc) :: (cc, listOf cvs.toArray ce) :: frz) → Top Gate.view (looseW Gate.view []) mean mg mb h₀ → cs.kind = .function →
    (@Ne Nat mk cc) → (@Ne Nat dx cc) → (∀ p ∈ frz, p.1 ≠ cc) → cvs.length ≤ 60 → cvs[k]? = some (.ref ra) → (ra, tupO (.str nm tn :: rest) re) ∈ frz → rest ≠ [] → rest.length ≤ 5 → nm ≠ Str.ofString "enter" → dp + 8 < recursionLimit → un + 100 < cLine →
    (∀ r2 t' ce' h' t2, Fr h₀ L h' m → News h₀ L h' ((r2, tupO (.str nm tn :: (rest.dropLast ++ [.int (cvs.length : Int) t'])) 0) :: (mk, instObj 192 dx) :: (dx, mkD w k1 k2 t0 cc) :: (cc, listOf (cvs.set k (.ref r2)).toArray ce') :: frz) → (mk < r2 ∧ dx < r2 ∧ cc < r2 ∧ ∀ p ∈ frz, p.1 < r2) → Q .none { s with heap := h', toks := t2 }) →
    wpAny (model PySem.Challenge.rw_pq0466_01.row.prog w) (ktrTop dp un gd cn cs L a ccd cl outer) (call (.ref 91) [.ref mk, .int (k : Int) tk]) Q E s
local macro_rules | `(tactic| walk_at "zd") => `(tactic| (refine' code_def ?k1 ?k2 ?k3 ?k4 ?k5 ?kA ?kF ?kK ?k6 ?k7 ?k8 ?k9 ?kB ?_ ?c2 ?c3 ?c4 ?c5; (case kA => exact rfl); (case kF => exact rfl); (case kK => first | exact rfl | assumption); (case k1 => k_asm); (case k2 => k_asm); (case k3 => k_asm); (case k4 => k_asm); (case k5 => k_asm); (case k6 => k_is); (case k7 => k_is); (case k8 => ktr_room); (case k9 => exact BindsTo.of_eq rfl); (case c5 => decide); (case kB => exact locs rfl); (case c2 => exact rfl); (case c3 => exact rfl); (case c4 => exact rfl); k_whole; intro g' L' h' FG' F' N' B' X' T'; (try dsimp only); (try k_fold)))
local macro_rules | `(tactic| walk_at "call ref") => `(tactic| (k_here; k_dflt (first
  | (refine' call_cls ?k1 ?k2 ?k3 ?k4 ?k5 ?k6 ?_; (case k1 => k_asm); (case k2 => k_asm); (case k3 => k_asm); (case k4 => k_is); (case k5 => k_is); (case k6 => k_is); k_whole; intro x' d' h' F' N' l1 l2; (try k_lt l1); (try k_lt2 l2); (try k_sweep); walk_at "zd")
  | (refine wpAny_call ?_; walk_at "zd"))))
local macro_rules | `(tactic| walk_at "subscriptTail") => `(tactic| (k_here; (with_reducible show wpAny _ _ (subscriptTail _ (Expr.Slice none (some _) none _) (Value.ref _) (Value.ref _)) _ _ _); k_dflt (refine' Gate.gButLast ?_ ?_ ?_ ?_ ?_ ?_ ?_ ?_; walk_at "zk"; k_whole); walk_at "zl"))
local macro_rules | `(tactic| walk_at "binaryOp Add ref ref") => `(tactic| (k_here; (with_reducible refine Gate.z27 ?_); k_dflt (refine' Gate.gTupCat ?_ ?_ ?_ ?_ ?_ ?_ ?_ ?_; walk_at "zk"; k_whole); walk_at "zl"))
local macro_rules | `(tactic| walk_at "setItem ref int") => `(tactic| (k_here; (with_reducible refine Gate.z33 ?_); k_dflt (refine' Gate.gSetItem ?_ ?_ ?_ ?_ ?_ ?_; walk_at "zk"; k_whole); intro h' F' N'; (try dsimp only at N'); (try k_sweep)))
set_option maxHeartbeats 4000000 in
theorem aimC (w : World) (mean : ExcName → Option Value) (mg mb : Str → Option Value) : AimC w mean mg mb := by
  w_on
  intro dp un gd cn cs a ccd cl outer A₀ base h₀ L m s Q E mk dx cc ra k1 k2 t0 cvs rest ce re k tk tn nm frz B F X N T hk hn1 hn2 hn3 hlen hget hrow hrne hrl hnm hd hu hret
  have hlen63 : cvs.length ≤ 63 := by omega
  revert X; k_fill; intro X
  refine wpAny_call ?_
  k_dflt ktr_enter
  have hk1 : k < cvs.length := (List.getElem?_eq_some_iff.mp hget).1
  have hdl : (Value.str nm tn :: rest).dropLast = Value.str nm tn :: rest.dropLast := List.dropLast_cons_of_ne_nil hrne
  have hx1 : (Value.str nm tn :: rest).dropLast ≠ [] := by rw [hdl]; exact List.cons_ne_nil _ _
  have hx2 : (Value.str nm tn :: rest).dropLast.length + 1 ≤ 100 := by rw [hdl, List.length_cons, List.length_dropLast]; omega
  k_steps
  · (rename (nm == Str.ofString "enter") = true => he)
    exact absurd (by simpa using he) hnm
  · (rename News h₀ _ _ _ => kN)
    rw [hdl, List.cons_append] at kN
    exact hret _ _ _ _ _ (by assumption) (dropTwo kN) ⟨by assumption, by assumption, by assumption, by assumption⟩
theorem AimC.use {w : World} {mean : ExcName → Option Value} {mg mb : Str → Option Value} (C : AimC w mean mg mb) {dp un : Nat} {gd : Option (List Code)} {cn : Str} {cs : Scope} {a : Addr} {ccd : Value} {cl : List (Str × Addr)} {outer : List Env} {A₀ : Around} {base h₀ : Heap} {L : Addr} {m : Str → Option Value} {s : Shared} {Q E : Value → Shared → Prop}
    {mk dx cc ra : Addr} {k1 k2 t0 : Tok} {cvs rest : List Value} {ce re : Nat} {kk : Int} {tk tn : Tok} {nm : Str} {led : Led} (k : Nat) (frz : Led)
    (B : Below A₀ base outer h₀) (F : Fr h₀ L s.heap m) (X : (Gate.hd.heap_39 w.params).In h₀) (N : News h₀ L s.heap led) (T : Top Gate.view (looseW Gate.view []) mean mg mb h₀) (hk : cs.kind = .function)
    (m1 : (mk, instObj 192 dx) ∈ led) (m2 : (dx, mkD w k1 k2 t0 cc) ∈ led) (m3 : (cc, listOf cvs.toArray ce) ∈ led) (hs : ∀ p ∈ frz, p ∈ led)
    (hn1 : @Ne Nat mk cc) (hn2 : @Ne Nat dx cc) (hn3 : ∀ p ∈ frz, p.1 ≠ cc) (hlen : cvs.length ≤ 60) (hkk : kk = (k : Int)) (hget : cvs[k]? = some (.ref ra)) (hrow : (ra, tupO (.str nm tn :: rest) re) ∈ frz) (hrne : rest ≠ []) (hrl : rest.length ≤ 5) (hnm : nm ≠ Str.ofString "enter") (hd : dp + 8 < recursionLimit) (hu : un + 100 < cLine)
    (ret : ∀ r2 t' ce' h' t2, Fr h₀ L h' m → News h₀ L h' ((r2, tupO (.str nm tn :: (rest.dropLast ++ [.int (cvs.length : Int) t'])) 0) :: (mk, instObj 192 dx) :: (dx, mkD w k1 k2 t0 cc) :: (cc, listOf (cvs.set k (.ref r2)).toArray ce') :: frz) → (mk < r2 ∧ dx < r2 ∧ cc < r2 ∧ ∀ p ∈ frz, p.1 < r2) → Q .none { s with heap := h', toks := t2 }) :
    wpAny (model PySem.Challenge.rw_pq0466_01.row.prog w) (ktrTop dp un gd cn cs L a ccd cl outer) (call (.ref 91) [.ref mk, .int kk tk]) Q E s := by
  subst hkk
  exact C _ _ _ _ _ _ _ _ _ _ _ _ _ _ _ _ _ mk dx cc ra k1 k2 t0 cvs rest ce re k tk tn nm frz B F X (newsSub N (subCons m1 (subCons m2 (subCons m3 hs)))) T hk hn1 hn2 hn3 hlen hget hrow hrne hrl hnm hd hu ret
def EmitC (w : World) (mean : ExcName → Option Value) (mg mb : Str → Option Value) : Prop :=
  ∀ (dp un : Nat) (gd : Option (List Code)) (cn : Str) (cs : Scope) (a : Addr) (ccd : Value) (cl : List (Str × Addr)) (outer : List Env) (A₀ : Around) (base h₀ : Heap) (L : Addr) (m : Str → Option Value) (s : Shared) (Q E : Value → Shared → Prop)
    (mk dx cc : Addr) (k1 k2 t0 : Tok) (cvs : List Value) (ce : Nat) (v : Value) (frz : Led),
    Below A₀ base outer h₀ → Fr h₀ L s.heap m → (Gate.hd.heap_39 w.params).In h₀ → News h₀ L s.heap ((mk, instObj 192 dx) :: (dx, mkD w k1 k2 t0 cc) :: (cc, listOf cvs.toArray ce) :: frz) → Top Gate.view (looseW Gate.view []) mean mg mb h₀ → cs.kind = .function →
    (@Ne Nat mk cc) → (@Ne Nat dx cc) → (∀ p ∈ frz, p.1 ≠ cc) → cvs.length ≤ 60 → dp + 8 < recursionLimit → un + 100 < cLine →
    (∀ t h' t2, Fr h₀ L h' m → News h₀ L h' ((mk, instObj 192 dx) :: (dx, mkD w k1 k2 t0 cc) :: (cc, listOf (cvs ++ [v]).toArray (ce + 1)) :: frz) → Q (.int (cvs.length : Int) t) { s with heap := h', toks := t2 }) →
    wpAny (model PySem.Challenge.rw_pq0466_01.row.prog w) (ktrTop dp un gd cn cs L a ccd cl outer) (call (.ref 70) [.ref mk, v]) Q E s
set_option maxHeartbeats 4000000 in
theorem emitC (w : World) (mean : ExcName → Option Value) (mg mb : Str → Option Value) : EmitC w mean mg mb := by
  w_on
  intro dp un gd cn cs a ccd cl outer A₀ base h₀ L m s Q E mk dx cc k1 k2 t0 cvs ce v frz B F X N T hk hn1 hn2 hn3 hlen hd hu hret
  have hl2 : (cvs ++ [v]).length ≤ 63 := by simp; omega
  revert X; k_fill; intro X
  refine wpAny_call ?_
  k_dflt ktr_enter
  k_steps
  have e : ((cvs ++ [v]).length : Int) - 1 = (cvs.length : Int) := by simp
  rw [e]
  exact hret _ _ _ (by assumption) (by assumption)
theorem EmitC.use {w : World} {mean : ExcName → Option Value} {mg mb : Str → Option Value} (C : EmitC w mean mg mb) {dp un : Nat} {gd : Option (List Code)} {cn : Str} {cs : Scope} {a : Addr} {ccd : Value} {cl : List (Str × Addr)} {outer : List Env} {A₀ : Around} {base h₀ : Heap} {L : Addr} {m : Str → Option Value} {s : Shared} {Q E : Value → Shared → Prop}
    {mk dx cc : Addr} {k1 k2 t0 : Tok} {cvs : List Value} {ce : Nat} {v : Value} {led led' : Led}
    (B : Below A₀ base outer h₀) (F : Fr h₀ L s.heap m) (X : (Gate.hd.heap_39 w.params).In h₀) (N : News h₀ L s.heap led) (T : Top Gate.view (looseW Gate.view []) mean mg mb h₀) (hk : cs.kind = .function)
    (m1 : (mk, instObj 192 dx) ∈ led) (m2 : (dx, mkD w k1 k2 t0 cc) ∈ led) (U : Upd cc (listOf cvs.toArray ce) (listOf (cvs ++ [v]).toArray (ce + 1)) led led')
    (hn1 : @Ne Nat mk cc) (hn2 : @Ne Nat dx cc) (hlen : cvs.length ≤ 60) (hd : dp + 8 < recursionLimit) (hu : un + 100 < cLine)
    (ret : ∀ t h' t2, Fr h₀ L h' m → News h₀ L h' led' → Q (.int (cvs.length : Int) t) { s with heap := h', toks := t2 }) :
    wpAny (model PySem.Challenge.rw_pq0466_01.row.prog w) (ktrTop dp un gd cn cs L a ccd cl outer) (call (.ref 70) [.ref mk, v]) Q E s := by
  obtain ⟨pre, post, rfl, rfl, h1, h2⟩ := U.split
  refine C _ _ _ _ _ _ _ _ _ _ _ _ _ _ _ _ _ mk dx cc k1 k2 t0 cvs ce v (pre ++ post) B F X (newsSub N (subCons m1 (subCons m2 ?_))) T hk hn1 hn2 ?_ hlen hd hu fun t h' t2 F' N' => ret t h' t2 F' (newsSub N' ?_)
  · intro p hp; simp only [List.mem_cons, List.mem_append] at hp ⊢; rcases hp with h | h | h <;> simp [h]
  · intro p hp; exact (List.mem_append.mp hp).elim (h1 p) (h2 p)
  · intro p hp; simp only [List.mem_cons, List.mem_append] at hp ⊢; rcases hp with h | h | h <;> simp [h]

local macro_rules | `(tactic| walk_at "subscriptTail") => `(tactic| (k_here; (with_reducible refine Gate.z34 ?_); k_dflt (refine' Gate.gPair2 ?_ ?_ ?_ ?_ ?_; walk_at "zk"; k_whole)))
local macro_rules | `(tactic| walk_at "subscriptTail") => `(tactic| (k_here; (with_reducible refine Gate.z35 ?_); k_dflt (refine' Gate.gPair3 ?_ ?_ ?_ ?_ ?_; walk_at "zk"; k_whole)))
local macro_rules | `(tactic| walk_at "call ref") => `(tactic| (k_here; (first | (refine Gate.z36 ?_) | (refine Gate.z37 ?_)); refine Gate.Hold.of ?_))
local macro_rules | `(tactic| walk_at "call ref") => `(tactic| (k_here; (refine Gate.z38 ?_); k_dflt (refine' Gate.EmitC.use (Gate.emitC _ _ _ _) ?_ ?_ ?_ ?_ ?_ ?_ ?_ ?_ ?_ ?_ ?_ ?_ ?_ ?_ ?_; walk_at "zk"; k_whole); walk_at "zn"))
set_option maxHeartbeats 8000000 in
theorem makeC (w : World) (mean : ExcName → Option Value) (mg mb : Str → Option Value) : ∀ d, MakeC w mean mg mb d := by
  w_on
  intro d
  induction d using Nat.strongRecOn with
  | ind d IH =>
  intro dp un gd cn cs a ccd cl outer A₀ base h₀ L m s Q E mk dx cc k1 k2 t0 cvs ce v st frz src B F X N T hk hn1 hn2 hn3 hd3 hlen hsrc hv ok hd hu hret
  have AC := aimC w mean mg mb
  have hlen63 : cvs.length ≤ 63 := by omega
  obtain ⟨r0, r1, r2, r3, _, r5, r6⟩ := rooms (lo4 hd) (Nat.le_refl 20)
  obtain ⟨_, u1, u2⟩ := units (lo4 hu) (Nat.le_of_ble_eq_true rfl)
  revert X; k_fill; intro X
  cases st
  case set =>
    rw [St.node] at hv
    obtain ⟨sa, svs, se, rfl, hm0, hs0⟩ := hv
    have hm := hsrc _ hm0
    obtain ⟨_, _, rfl, ⟨ts, rfl⟩, hs1⟩ := nodes1 hs0
    obtain ⟨x1, _, rfl, hx1, hs2⟩ := nodes1 hs1
    obtain ⟨x2, _, rfl, hx2, hs3⟩ := nodes1 hs2
    obtain ⟨_, _, rfl, h3, hs4⟩ := nodes1 hs3
    obtain rfl := h3
    obtain rfl := hs4
    refine wpAny_call ?_
    k_dflt ktr_enter
    k_steps
    refine' mkEnd hret [.ref _] [[.str "set", nMade, nConst]] [(_, tupO [.str (Str.ofString "set") _, x1, x2] 0)] ?F ?N ?m1 ?m2 ?m3 rfl ?hs ?hcc ?sep ?hin ?hg ?hb
    case F => assumption
    case N => assumption
    case m1 => k_mem
    case m2 => k_mem
    case m3 => k_mem
    case hs => refine subCons (by k_mem) ?_; intro p hp; k_mem
    case hcc => exact neCons (Nat.ne_of_gt (by assumption)) (fun p hp => nomatch hp)
    case sep => exact Sep.lt1 (by assumption) Sep.nil
    case hin => exact nCons (nTup (.head _) (nCons nStr (nCons (NodeIn.mono (fun p hp => .tail _ hp) hx1) (nCons (NodeIn.mono (fun p hp => .tail _ hp) hx2) nNil)))) nNil
    case hg => exact goodCons (.plain (by decide +kernel) (by decide +kernel) (by decide) ⟨okMade, okConst, trivial⟩) (fun k hk => nomatch hk)
    case hb => exact bnd_pos d
  case nba =>
    rw [St.node] at hv
    obtain ⟨sa, svs, se, rfl, hm0, hs0⟩ := hv
    have hm := hsrc _ hm0
    obtain ⟨_, _, rfl, ⟨ts, rfl⟩, hs1⟩ := nodes1 hs0
    obtain ⟨x1, _, rfl, hx1, hs2⟩ := nodes1 hs1
    obtain ⟨x2, _, rfl, hx2, hs3⟩ := nodes1 hs2
    obtain ⟨_, _, rfl, h3, hs4⟩ := nodes1 hs3
    obtain rfl := h3
    obtain rfl := hs4
    refine wpAny_call ?_
    k_dflt ktr_enter
    k_steps
    refine' mkEnd hret [.ref _] [[.str "nba", nMade, nSig 2, .none]] [(_, tupO [.str (Str.ofString "nba") _, x1, x2, .none] 0)] ?F ?N ?m1 ?m2 ?m3 rfl ?hs ?hcc ?sep ?hin ?hg ?hb
    case F => assumption
    case N => assumption
    case m1 => k_mem
    case m2 => k_mem
    case m3 => k_mem
    case hs => refine subCons (by k_mem) ?_; intro p hp; k_mem
    case hcc => exact neCons (Nat.ne_of_gt (by assumption)) (fun p hp => nomatch hp)
    case sep => exact Sep.lt1 (by assumption) Sep.nil
    case hin => exact nCons (nTup (.head _) (nCons nStr (nCons (NodeIn.mono (fun p hp => .tail _ hp) hx1) (nCons (NodeIn.mono (fun p hp => .tail _ hp) hx2) (nCons nNone nNil))))) nNil
    case hg => exact goodCons (.plain (by decide +kernel) (by decide +kernel) (by decide) ⟨okMade, okSig2, trivial, trivial⟩) (fun k hk => nomatch hk)
    case hb => exact bnd_pos d
  case block l =>
    obtain ⟨hd0, hl2, hoks⟩ := ok
    have hbs := bnd_step hd0
    obtain ⟨q1, q2, q3, q4, q5, q6⟩ := deepM hd hu hd0 hd3
    rw [St.node] at hv
    obtain ⟨sa, svs, se, rfl, hm0, hs0⟩ := hv
    have hm := hsrc _ hm0
    obtain ⟨_, _, rfl, ⟨ts, rfl⟩, hs1⟩ := nodes1 hs0
    obtain ⟨x1, _, rfl, hx1, hs2⟩ := nodes1 hs1
    obtain ⟨x2, _, rfl, hx2, hs3⟩ := nodes1 hs2
    obtain rfl := hs3
    obtain ⟨t2, rfl⟩ := hx2
    obtain ⟨la, lvs, le, rfl, hml0, hls⟩ := hx1
    have hml := hsrc _ hml0
    have hlvl := hls.length
    rw [stNodes_len] at hlvl
    refine wpAny_call ?_
    k_dflt ktr_enter
    k_steps
    unfold Hold
    (rename Fr _ _ _ _ => Fw)
    (rename News _ _ _ _ => Nw)
    refine iterTupleS [] (fun i u nw => ∃ nvs new tl ce', nw = (mk, instObj 192 dx) :: (dx, mkD w k1 k2 t0 cc) :: (cc, listOf (cvs ++ nvs).toArray ce') :: (tl ++ frz) ∧ (∀ p ∈ tl, p.1 ≠ cc) ∧ Sep tl frz ∧ NodesIn (tl ++ src) nvs (new.map Node.tup) ∧ (∀ l ∈ new, Good (cvs.length + nvs.length) l) ∧ nvs.length ≤ i * bnd (d - 1)) rfl Fw Nw (List.Mem.tail _ (List.Mem.tail _ (List.Mem.tail _ hml))) ⟨[], [], [], ce, by simp, (fun p hp => nomatch hp), Sep.nil, rfl, (fun p hp => nomatch hp), Nat.zero_le _⟩ (fun i m nw h => by obtain ⟨_, _, _, _, rfl, _⟩ := h; exact List.Mem.tail _ (List.Mem.tail _ (List.Mem.tail _ (appR hml)))) ?turn ?done
    case turn =>
      intro j v2 u2 nw2 I2 oI2 h2 tk2 hv2 hJ2 hne2 Ft2 Nt2
      obtain ⟨nvs, new, tl, ce', rfl, hcc, hsep, hin, hg, hb⟩ := hJ2
      obtain ⟨n2, hn2', hin2⟩ := NodesIn.get hls hv2
      obtain ⟨b, hb2, rfl⟩ := stNodes_get hn2'
      obtain ⟨va, rfl⟩ := stRef hin2
      have hokb := stOks_get hoks hb2
      have hj : j < 2 := by have := (List.getElem?_eq_some_iff.mp hb2).1; omega
      have hjb : j * bnd (d - 1) ≤ bnd (d - 1) := by rcases (by omega : j = 0 ∨ j = 1) with rfl | rfl <;> omega
      have hI3 : @Ne Nat cc I2 := hne2 _ (.tail _ (.tail _ (.head _)))
      have hsrc2 : ∀ p ∈ src, p ∈ (I2, oI2) :: (tl ++ frz) := fun p hp => .tail _ (appR (hsrc p hp))
      (try k_unmd)
      (try k_fold)
      k_steps
      unfold Hold
      k_dflt (refine' MakeC.use (IH (d - 1) q5) ((I2, oI2) :: (tl ++ frz)) ?B ?F ?X ?N ?T ?hk ?m1 ?m2 ?m3 ?hs hn1 hn2 ?n3 q6 ?z hsrc2 hin2 hokb ?r ?u ?ret; (case B => k_asm); (case F => k_asm); (case X => k_asm); (case N => k_asm); (case T => k_asm); (case hk => first | exact rfl | assumption); (case m1 => k_mem); (case m2 => k_mem); (case m3 => k_mem); (case hs => (repeat refine subCons (by k_mem) ?_); intro p hp; k_mem); (case z => first | omega | (simp only [List.length_append, List.length_cons, List.length_nil]; omega)); (case r => first | assumption | omega | ktr_room); (case u => first | assumption | omega | ktr_units); k_whole)
      case n3 => exact neCons (Ne.symm hI3) (ccApp hcc hn3)
      case ret =>
        intro nvs3 new3 tl3 ce3 h3 t3 F3 N3 hc3 sep3 hin3 hg3 hb3
        have N4 := permM N3
        rw [List.append_assoc] at N4
        clear N3
        (try k_unmd)
        (try k_fold)
        k_steps
        dsimp only [TurnJ]
        refine EndJ.intro (by assumption) (blkEnd N4) ?ne ⟨⟨nvs ++ nvs3, new ++ new3, tl3 ++ tl, ce3, rfl, ccApp hc3 hcc, Sep.app sep3.tl1.tlA hsep, ?i1, ?i2, ?i3⟩, ?same⟩
        case ne =>
          intro p hp
          simp only [List.mem_cons, List.mem_append] at hp
          rcases hp with h | h | h | (h | h) | h
          · subst h; exact hne2 (mk, instObj 192 dx) (.head _)
          · subst h; exact hne2 (dx, mkD w k1 k2 t0 cc) (.tail _ (.head _))
          · subst h; exact hI3
          · exact sep3 p h (I2, oI2) (.head _)
          · exact hne2 p (.tail _ (.tail _ (.tail _ (appL h))))
          · exact hne2 p (.tail _ (.tail _ (.tail _ (appR h))))
        case i1 => exact nodesApp2 hin hin3
        case i2 => exact goodApp (goodMono (by simp only [List.length_append]; omega) hg) (goodMono (by simp only [List.length_append]; omega) hg3)
        case i3 => simp only [List.length_append]; rw [Nat.add_mul]; omega
        case same => k_same
    case done =>
      intro u2 nw2 h2 tk2 hJ2 Fd2 Nd2
      obtain ⟨nvs, new, tl, ce', rfl, hcc, hsep, hin, hg, hb⟩ := hJ2
      have hm2 := appR (t1 := tl) hm
      (try k_unmd)
      (try k_fold)
      k_steps
      rw [hlvl] at hb
      refine mkEnd hret nvs new tl (by assumption) (by assumption) (by k_mem) (by k_mem) (by k_mem) rfl (fun p hp => .tail _ (.tail _ (.tail _ hp))) hcc hsep hin hg ?_
      rcases (by omega : l.length = 0 ∨ l.length = 1 ∨ l.length = 2) with e | e | e <;> rw [e] at hb <;> omega
  case if1 b =>
    obtain ⟨hd0, hokb⟩ := ok
    have hbs := bnd_step hd0
    obtain ⟨q1, q2, q3, q4, q5, q6⟩ := deepM hd hu hd0 hd3
    rw [St.node] at hv
    obtain ⟨sa, svs, se, rfl, hm0, hs0⟩ := hv
    have hm := hsrc _ hm0
    obtain ⟨_, _, rfl, ⟨ts, rfl⟩, hs1⟩ := nodes1 hs0
    obtain ⟨x1, _, rfl, hx1, hs2⟩ := nodes1 hs1
    obtain ⟨x2, _, rfl, hx2, hs3⟩ := nodes1 hs2
    obtain ⟨_, _, rfl, h3, hs4⟩ := nodes1 hs3
    obtain rfl := h3
    obtain rfl := hs4
    obtain ⟨va, rfl⟩ := stRef hx2
    refine wpAny_call ?_
    k_dflt ktr_enter
    k_steps
    unfold Hold
    k_dflt (refine' MakeC.use (IH (d - 1) q5) ((_, tupO [.str (Str.ofString "unless") _, x1, .int (-1) _] 0) :: frz) ?B ?F ?X ?N ?T ?hk ?m1 ?m2 ?m3 ?hs hn1 hn2 ?n3 q6 ?z (fun p hp => .tail _ (hsrc p hp)) hx2 hokb ?r ?u ?ret; (case B => k_asm); (case F => k_asm); (case X => k_asm); (case N => k_asm); (case T => k_asm); (case hk => first | exact rfl | assumption); (case m1 => k_mem); (case m2 => k_mem); (case m3 => k_mem); (case hs => (repeat refine subCons (by k_mem) ?_); intro p hp; k_mem); (case z => (simp only [List.length_append, List.length_cons, List.length_nil]; omega)); (case r => first | assumption | omega | ktr_room); (case u => first | assumption | omega | ktr_units); k_whole)
    case n3 => exact neCons (Nat.ne_of_gt (by assumption)) hn3
    case ret =>
      intro nvs1 new1 tl1 ce1 h1 t1 F1 N1 hc1 sep1 hin1 hg1 hb1
      have N1b := permM N1
      clear N1
      refine named4 N1b fun R hR => ?_
      subst hR
      have hm' := appR (t1 := tl1) hm
      have hcc1 : ∀ p ∈ tl1 ++ frz, p.1 ≠ cc := ccApp hc1 hn3
      (try k_unmd)
      (try k_fold)
      k_steps
      unfold Hold
      k_dflt (refine' AimC.use AC cvs.length ((R, _) :: (tl1 ++ frz)) ?B ?F ?X ?N ?T ?hk ?m1 ?m2 ?m3 ?hs hn1 hn2 ?n3 ?z ?kk ?get ?row ?rne ?rl ?nm ?r ?u ?ret; (case B => k_asm); (case F => k_asm); (case X => k_asm); (case N => k_asm); (case T => k_asm); (case hk => first | exact rfl | assumption); (case m1 => k_mem); (case m2 => k_mem); (case m3 => k_mem); (case hs => (repeat refine subCons (by k_mem) ?_); intro p hp; k_mem); (case get => exact getMid _ _ _); (case row => exact .head _); (case rne => exact List.cons_ne_nil _ _); (case rl => exact Nat.le_of_ble_eq_true rfl); (case nm => decide +kernel); (case kk => rfl); (case z => (simp only [List.length_append, List.length_cons, List.length_nil]; omega)); (case r => first | assumption | omega | ktr_room); (case u => first | assumption | omega | ktr_units); k_whole)
      case n3 => exact neCons (Nat.ne_of_gt (by assumption)) hcc1
      case ret =>
        intro r2 t' ce2 h2 t2 F2 N2 hlt
        obtain ⟨hl1, hl2, hl3, hl4⟩ := hlt
        rw [setMid] at N2
        simp only [List.dropLast, List.cons_append, List.nil_append] at N2
        (try k_unmd)
        (try k_fold)
        k_steps
        refine' mkEnd hret (.ref r2 :: nvs1) ([.str "unless", nSig 0, .int (((cvs ++ [Value.ref R] ++ nvs1).length : Nat) : Int)] :: new1) ((r2, tupO [.str (Str.ofString "unless") _, x1, .int _ _] 0) :: tl1) ?F ?N ?m1 ?m2 ?m3 rfl ?hs ?hcc ?sep ?hin ?hg ?hb
        case F => assumption
        case N => assumption
        case m1 => k_mem
        case m2 => k_mem
        case m3 => k_mem
        case hs => refine subCons (by k_mem) ?_; intro p hp; k_mem
        case hcc => exact neCons (Nat.ne_of_gt (by assumption)) hc1
        case sep => exact Sep.lt1 (fun p hp => hl4 p (.tail _ (appR hp))) sep1.tl1
        case hin => exact nCons (nTup (.head _) (nCons nStr (nCons (NodeIn.mono (fun p hp => .tail _ (appR hp)) hx1) (nCons nInt nNil)))) (NodesIn.mono (fun p hp => .tail _ hp) hin1)
        case hg => exact goodCons (Good.unless (Int.natCast_nonneg _) (by simp only [List.length_append, List.length_cons, List.length_nil]; omega) (by decide)) (goodMono (by simp only [List.length_append, List.length_cons, List.length_nil]; omega) hg1)
        case hb => simp only [List.length_cons]; omega
  case if2 b c =>
    obtain ⟨hd0, hokb, hokc⟩ := ok
    have hbs := bnd_step hd0
    obtain ⟨q1, q2, q3, q4, q5, q6⟩ := deepM hd hu hd0 hd3
    rw [St.node] at hv
    obtain ⟨sa, svs, se, rfl, hm0, hs0⟩ := hv
    have hm := hsrc _ hm0
    obtain ⟨_, _, rfl, ⟨ts, rfl⟩, hs1⟩ := nodes1 hs0
    obtain ⟨x1, _, rfl, hx1, hs2⟩ := nodes1 hs1
    obtain ⟨x2, _, rfl, hx2, hs3⟩ := nodes1 hs2
    obtain ⟨x3, _, rfl, hx3, hs4⟩ := nodes1 hs3
    obtain rfl := hs4
    obtain ⟨va, rfl⟩ := stRef hx2
    obtain ⟨vb, rfl⟩ := stRef hx3
    refine wpAny_call ?_
    k_dflt ktr_enter
    k_steps
    unfold Hold
    k_dflt (refine' MakeC.use (IH (d - 1) q5) ((_, tupO [.str (Str.ofString "unless") _, x1, .int (-1) _] 0) :: frz) ?B ?F ?X ?N ?T ?hk ?m1 ?m2 ?m3 ?hs hn1 hn2 ?n3 q6 ?z (fun p hp => .tail _ (hsrc p hp)) hx2 hokb ?r ?u ?ret; (case B => k_asm); (case F => k_asm); (case X => k_asm); (case N => k_asm); (case T => k_asm); (case hk => first | exact rfl | assumption); (case m1 => k_mem); (case m2 => k_mem); (case m3 => k_mem); (case hs => (repeat refine subCons (by k_mem) ?_); intro p hp; k_mem); (case z => (simp only [List.length_append, List.length_cons, List.length_nil]; omega)); (case r => first | assumption | omega | ktr_room); (case u => first | assumption | omega | ktr_units); k_whole)
    case n3 => exact neCons (Nat.ne_of_gt (by assumption)) hn3
    case ret =>
      intro nvs1 new1 tl1 ce1 h1 t1 F1 N1 hc1 sep1 hin1 hg1 hb1
      have N1b := permM N1
      clear N1
      refine named4 N1b fun R hR => ?_
      subst hR
      have hm' := appR (t1 := tl1) hm
      have hcc1 : ∀ p ∈ tl1 ++ frz, p.1 ≠ cc := ccApp hc1 hn3
      have hz1 : (cvs ++ [Value.ref R] ++ nvs1).length ≤ 60 := by simp only [List.length_append, List.length_cons, List.length_nil]; omega
      (try k_unmd)
      (try k_fold)
      k_steps
      unfold Hold
      (rename News _ _ _ _ => Nj)
      refine namedN Nj fun R2 hR2 => ?_
      subst hR2
      k_dflt (refine' AimC.use AC cvs.length ((R2, _) :: (R, _) :: (tl1 ++ frz)) ?B ?F ?X ?N ?T ?hk ?m1 ?m2 ?m3 ?hs hn1 hn2 ?n3 ?z ?kk ?get ?row ?rne ?rl ?nm ?r ?u ?ret; (case B => k_asm); (case F => k_asm); (case X => k_asm); (case N => k_asm); (case T => k_asm); (case hk => first | exact rfl | assumption); (case m1 => k_mem); (case m2 => k_mem); (case m3 => k_mem); (case hs => (repeat refine subCons (by k_mem) ?_); intro p hp; k_mem); (case get => exact getMid' _ _ _ _); (case row => exact .tail _ (.head _)); (case rne => exact List.cons_ne_nil _ _); (case rl => exact Nat.le_of_ble_eq_true rfl); (case nm => decide +kernel); (case kk => rfl); (case z => (simp only [List.length_append, List.length_cons, List.length_nil]; omega)); (case r => first | assumption | omega | ktr_room); (case u => first | assumption | omega | ktr_units); k_whole)
      case n3 => exact neCons (Nat.ne_of_gt (by assumption)) (neCons (Nat.ne_of_gt (by assumption)) hcc1)
      case ret =>
        intro r2 t' ce2 h2 t2 F2 N2 hlt
        obtain ⟨hl1, hl2, hl3, hl4⟩ := hlt
        rw [setMid'] at N2
        simp only [List.dropLast, List.cons_append, List.nil_append] at N2
        (try k_unmd)
        (try k_fold)
        k_steps
        unfold Hold
        k_dflt (refine' MakeC.use (IH (d - 1) q5) ((r2, _) :: (R2, _) :: (tl1 ++ frz)) ?B ?F ?X ?N ?T ?hk ?m1 ?m2 ?m3 ?hs hn1 hn2 ?n3 q6 ?z (fun p hp => .tail _ (.tail _ (appR (hsrc p hp)))) hx3 hokc ?r ?u ?ret; (case B => k_asm); (case F => k_asm); (case X => k_asm); (case N => k_asm); (case T => k_asm); (case hk => first | exact rfl | assumption); (case m1 => k_mem); (case m2 => k_mem); (case m3 => k_mem); (case hs => (repeat refine subCons (by k_mem) ?_); intro p hp; k_mem); (case z => (simp only [List.length_append, List.length_cons, List.length_nil]; omega)); (case r => first | assumption | omega | ktr_room); (case u => first | assumption | omega | ktr_units); k_whole)
        case n3 => exact neCons (Nat.ne_of_gt (by assumption)) (neCons (Nat.ne_of_gt (by assumption)) hcc1)
        case ret =>
          intro nvs2 new2 tl2 ce3 h3 t3 F3 N3 hc2 sep2 hin2 hg2 hb2
          have N3b := permM2 N3
          clear N3
          have hcc2 : ∀ p ∈ tl2 ++ (tl1 ++ frz), p.1 ≠ cc := ccApp hc2 hcc1
          (try k_unmd)
          (try k_fold)
          k_steps
          unfold Hold
          k_dflt (refine' AimC.use AC (cvs ++ (Value.ref r2 :: nvs1)).length ((r2, _) :: (R2, _) :: (tl2 ++ (tl1 ++ frz))) ?B ?F ?X ?N ?T ?hk ?m1 ?m2 ?m3 ?hs hn1 hn2 ?n3 ?z ?kk ?get ?row ?rne ?rl ?nm ?r ?u ?ret; (case B => k_asm); (case F => k_asm); (case X => k_asm); (case N => k_asm); (case T => k_asm); (case hk => first | exact rfl | assumption); (case m1 => k_mem); (case m2 => k_mem); (case m3 => k_mem); (case hs => (repeat refine subCons (by k_mem) ?_); intro p hp; k_mem); (case get => exact getMid _ _ _); (case row => exact .tail _ (.head _)); (case rne => exact List.cons_ne_nil _ _); (case rl => exact Nat.le_of_ble_eq_true rfl); (case nm => decide +kernel); (case kk => (simp only [List.length_append, List.length_cons, List.length_nil]; omega)); (case z => (simp only [List.length_append, List.length_cons, List.length_nil]; omega)); (case r => first | assumption | omega | ktr_room); (case u => first | assumption | omega | ktr_units); k_whole)
          case n3 => exact neCons (Nat.ne_of_gt (by assumption)) (neCons (Nat.ne_of_gt (by assumption)) hcc2)
          case ret =>
            intro r4 t'' ce4 h4 t4 F4 N4 hlt4
            obtain ⟨hq1, hq2, hq3, hq4⟩ := hlt4
            rw [setMid] at N4
            simp only [List.dropLast, List.nil_append] at N4
            (try k_unmd)
            (try k_fold)
            k_steps
            refine' mkEnd hret ((.ref r2 :: nvs1) ++ (.ref r4 :: nvs2)) (([.str "unless", nSig 0, .int (((cvs ++ [Value.ref R] ++ nvs1 ++ [Value.ref R2]).length : Nat) : Int)] :: new1) ++ ([.str "jump", .int (((cvs ++ (Value.ref r2 :: nvs1) ++ [Value.ref R2] ++ nvs2).length : Nat) : Int)] :: new2)) ((r4, tupO [.str (Str.ofString "jump") _, .int _ _] 0) :: (r2, tupO [.str (Str.ofString "unless") _, x1, .int _ _] 0) :: (tl2 ++ tl1)) ?F ?N ?m1 ?m2 ?m3 (List.append_assoc _ _ _) ?hs ?hcc ?sep ?hin ?hg ?hb
            case F => assumption
            case N => assumption
            case m1 => k_mem
            case m2 => k_mem
            case m3 => k_mem
            case hs =>
              refine subCons (by k_mem) (subCons (by k_mem) ?_)
              intro p hp
              have hp2 : p ∈ tl2 ++ (tl1 ++ frz) := by rw [← List.append_assoc]; exact hp
              k_mem
            case hcc => exact neCons (Nat.ne_of_gt (by assumption)) (neCons (Nat.ne_of_gt (by assumption)) (ccApp hc2 hc1))
            case sep => exact Sep.lt1 (fun p hp => hq4 p (.tail _ (.tail _ (appR (appR hp))))) (Sep.lt1 (fun p hp => hl4 p (.tail _ (.tail _ (appR hp)))) (Sep.app sep2.tl1.tl1.tlA sep1.tl1))
            case hin =>
              rw [List.map_append]
              exact nodes_app (nCons (nTup (.tail _ (.head _)) (nCons nStr (nCons (NodeIn.mono (fun p hp => .tail _ (.tail _ (appR hp))) hx1) (nCons nInt nNil)))) (NodesIn.mono (fun p hp => memA hp) hin1)) (nCons (nTup (.head _) (nCons nStr (nCons nInt nNil))) (NodesIn.mono (fun p hp => memB hp) hin2))
            case hg => exact goodApp (goodCons (Good.unless (Int.natCast_nonneg _) (by simp only [List.length_append, List.length_cons, List.length_nil]; omega) (by decide)) (goodMono (by simp only [List.length_append, List.length_cons, List.length_nil]; omega) hg1)) (goodCons (Good.jump (by omega) (by simp only [List.length_append, List.length_cons, List.length_nil]; omega) (by simp only [List.length_append, List.length_cons, List.length_nil]; omega)) (goodMono (by simp only [List.length_append, List.length_cons, List.length_nil]; omega) hg2))
            case hb => simp only [List.length_append, List.length_cons]; omega
  case whl b =>
    obtain ⟨hd0, hokb⟩ := ok
    have hbs := bnd_step hd0
    obtain ⟨q1, q2, q3, q4, q5, q6⟩ := deepM hd hu hd0 hd3
    rw [St.node] at hv
    obtain ⟨sa, svs, se, rfl, hm0, hs0⟩ := hv
    have hm := hsrc _ hm0
    obtain ⟨_, _, rfl, ⟨ts, rfl⟩, hs1⟩ := nodes1 hs0
    obtain ⟨x1, _, rfl, hx1, hs2⟩ := nodes1 hs1
    obtain ⟨x2, _, rfl, hx2, hs3⟩ := nodes1 hs2
    obtain rfl := hs3
    obtain ⟨va, rfl⟩ := stRef hx2
    refine wpAny_call ?_
    k_dflt ktr_enter
    k_steps
    unfold Hold
    k_dflt (refine' MakeC.use (IH (d - 1) q5) ((_, tupO [.str (Str.ofString "unless") _, x1, .int (-1) _] 0) :: frz) ?B ?F ?X ?N ?T ?hk ?m1 ?m2 ?m3 ?hs hn1 hn2 ?n3 q6 ?z (fun p hp => .tail _ (hsrc p hp)) hx2 hokb ?r ?u ?ret; (case B => k_asm); (case F => k_asm); (case X => k_asm); (case N => k_asm); (case T => k_asm); (case hk => first | exact rfl | assumption); (case m1 => k_mem); (case m2 => k_mem); (case m3 => k_mem); (case hs => (repeat refine subCons (by k_mem) ?_); intro p hp; k_mem); (case z => (simp only [List.length_append, List.length_cons, List.length_nil]; omega)); (case r => first | assumption | omega | ktr_room); (case u => first | assumption | omega | ktr_units); k_whole)
    case n3 => exact neCons (Nat.ne_of_gt (by assumption)) hn3
    case ret =>
      intro nvs1 new1 tl1 ce1 h1 t1 F1 N1 hc1 sep1 hin1 hg1 hb1
      have N1b := permM N1
      clear N1
      refine named4 N1b fun R hR => ?_
      subst hR
      have hm' := appR (t1 := tl1) hm
      have hcc1 : ∀ p ∈ tl1 ++ frz, p.1 ≠ cc := ccApp hc1 hn3
      have hz1 : (cvs ++ [Value.ref R] ++ nvs1).length ≤ 60 := by simp only [List.length_append, List.length_cons, List.length_nil]; omega
      (try k_unmd)
      (try k_fold)
      k_steps
      unfold Hold
      (rename News _ _ _ _ => Nj)
      refine namedN Nj fun R2 hR2 => ?_
      subst hR2
      k_dflt (refine' AimC.use AC cvs.length ((R2, _) :: (R, _) :: (tl1 ++ frz)) ?B ?F ?X ?N ?T ?hk ?m1 ?m2 ?m3 ?hs hn1 hn2 ?n3 ?z ?kk ?get ?row ?rne ?rl ?nm ?r ?u ?ret; (case B => k_asm); (case F => k_asm); (case X => k_asm); (case N => k_asm); (case T => k_asm); (case hk => first | exact rfl | assumption); (case m1 => k_mem); (case m2 => k_mem); (case m3 => k_mem); (case hs => (repeat refine subCons (by k_mem) ?_); intro p hp; k_mem); (case get => exact getMid' _ _ _ _); (case row => exact .tail _ (.head _)); (case rne => exact List.cons_ne_nil _ _); (case rl => exact Nat.le_of_ble_eq_true rfl); (case nm => decide +kernel); (case kk => rfl); (case z => (simp only [List.length_append, List.length_cons, List.length_nil]; omega)); (case r => first | assumption | omega | ktr_room); (case u => first | assumption | omega | ktr_units); k_whole)
      case n3 => exact neCons (Nat.ne_of_gt (by assumption)) (neCons (Nat.ne_of_gt (by assumption)) hcc1)
      case ret =>
        intro r2 t' ce2 h2 t2 F2 N2 hlt
        obtain ⟨hl1, hl2, hl3, hl4⟩ := hlt
        rw [setMid'] at N2
        simp only [List.dropLast, List.cons_append, List.nil_append] at N2
        (try k_unmd)
        (try k_fold)
        k_steps
        refine' mkEnd hret ((.ref r2 :: nvs1) ++ [.ref R2]) (([.str "unless", nSig 1, .int (((cvs ++ [Value.ref R] ++ nvs1 ++ [Value.ref R2]).length : Nat) : Int)] :: new1) ++ [[.str "jump", .int (cvs.length : Int)]]) ((r2, tupO [.str (Str.ofString "unless") _, x1, .int _ _] 0) :: (R2, tupO [.str (Str.ofString "jump") _, .int _ _] 0) :: tl1) ?F ?N ?m1 ?m2 ?m3 (List.append_assoc _ _ _) ?hs ?hcc ?sep ?hin ?hg ?hb
        case F => assumption
        case N => assumption
        case m1 => k_mem
        case m2 => k_mem
        case m3 => k_mem
        case hs => refine subCons (by k_mem) (subCons (by k_mem) ?_); intro p hp; k_mem
        case hcc => exact neCons (Nat.ne_of_gt (by assumption)) (neCons (Nat.ne_of_gt (by assumption)) hc1)
        case sep => exact Sep.lt1 (fun p hp => hl4 p (.tail _ (.tail _ (appR hp)))) (Sep.lt1 (by first | assumption | exact ltR (by assumption)) sep1.tl1)
        case hin =>
          rw [List.map_append]
          exact nodes_app (nCons (nTup (.head _) (nCons nStr (nCons (NodeIn.mono (fun p hp => .tail _ (.tail _ (appR hp))) hx1) (nCons nInt nNil)))) (NodesIn.mono (fun p hp => .tail _ (.tail _ hp)) hin1)) (nCons (nTup (.tail _ (.head _)) (nCons nStr (nCons nInt nNil))) nNil)
        case hg => exact goodApp (goodCons (Good.unless (Int.natCast_nonneg _) (by simp only [List.length_append, List.length_cons, List.length_nil]; omega) (by decide)) (goodMono (by simp only [List.length_append, List.length_cons, List.length_nil]; omega) hg1)) (goodCons (Good.jump (by omega) (by simp only [List.length_append, List.length_cons, List.length_nil]; omega) (by simp only [List.length_append, List.length_cons, List.length_nil]; omega)) (fun k hk => nomatch hk))
        case hb => simp only [List.length_append, List.length_cons, List.length_nil]; omega

abbrev prD (w : World) (j1 j2 j3 j4 j5 : Tok) (v1 : Value) (kx : Str) (kt : Tok) (sa : Addr) (v4 v5 : Value) : Obj := dictOf [⟨PyData.keyHash w.params (Str.ofString "number"), .str (Str.ofString "number") j1, v1⟩, ⟨PyData.keyHash w.params (Str.ofString "kind"), .str (Str.ofString "kind") j2, .str kx kt⟩, ⟨PyData.keyHash w.params (Str.ofString "body"), .str (Str.ofString "body") j3, .ref sa⟩, ⟨PyData.keyHash w.params (Str.ofString "path"), .str (Str.ofString "path") j4, v4⟩, ⟨PyData.keyHash w.params (Str.ofString "at"), .str (Str.ofString "at") j5, v5⟩] 5
def CompRet (h₀ : Heap) (L : Addr) (m : Str → Option Value) (s : Shared) (Q : Value → Shared → Prop) : Prop :=
  ∀ (R cc : Addr) (k : Int) (t : Tok) (ce : Nat) (cvs : List Value) (rows : List (List Node)) (tl : Led) (h' : Heap) (t2 : Nat), Fr h₀ L h' m → News h₀ L h' ((R, tupO [.ref cc, .int k t] 0) :: (cc, listOf cvs.toArray ce) :: tl) → NodesIn tl cvs (rows.map Node.tup) → (∀ l ∈ rows, Good cvs.length l) → cvs.length ≤ 23 → Q (.ref R) { s with heap := h', toks := t2 }
theorem compEnd {h₀ h' : Heap} {L : Addr} {m : Str → Option Value} {s : Shared} {Q : Value → Shared → Prop} (ret : CompRet h₀ L m s Q) {led tl : Led} {nvs rv : List Value} {new : List (List Node)} {R R8 cc : Addr} {k : Int} {t : Tok} {ce t2 : Nat} {last : List Node}
    (F : Fr h₀ L h' m) (N : News h₀ L h' led) (m1 : (R, tupO [.ref cc, .int k t] 0) ∈ led) (m2 : (cc, listOf (nvs ++ [Value.ref R8]).toArray ce) ∈ led) (m3 : (R8, tupO rv 0) ∈ led) (hs : ∀ p ∈ tl, p ∈ led)
    (hin : NodesIn tl nvs (new.map Node.tup)) (hr : NodesIn tl rv last) (hg : ∀ l ∈ new, Good nvs.length l) (hl : Good (nvs.length + 1) last) (hb : nvs.length ≤ 22) : Q (.ref R) { s with heap := h', toks := t2 } := by
  refine ret R cc k t ce (nvs ++ [Value.ref R8]) (new ++ [last]) ((R8, tupO rv 0) :: tl) h' t2 F (newsSub N (subCons m1 (subCons m2 (subCons m3 hs)))) ?_ ?_ ?_
  · rw [List.map_append]
    exact nodes_app (NodesIn.mono (fun p hp => .tail _ hp) hin) (nCons (nTup (.head _) (NodesIn.mono (fun p hp => .tail _ hp) hr)) nNil)
  · rw [List.length_append]
    exact goodApp (goodMono (Nat.le_add_right _ _) hg) (goodCons hl (fun k hk => nomatch hk))
  · rw [List.length_append]; exact Nat.add_le_add_right hb 1
def CompC (w : World) (mean : ExcName → Option Value) (mg mb : Str → Option Value) : Prop :=
  ∀ (dp un : Nat) (gd : Option (List Code)) (cn : Str) (cs : Scope) (a : Addr) (ccd : Value) (cl : List (Str × Addr)) (outer : List Env) (A₀ : Around) (base h₀ : Heap) (L : Addr) (m : Str → Option Value) (s : Shared) (Q E : Value → Shared → Prop)
    (pp pd sa : Addr) (j1 j2 j3 j4 j5 kt : Tok) (kx : Str) (v1 v4 v5 : Value) (st : St) (frz : Led),
    Below A₀ base outer h₀ → Fr h₀ L s.heap m → (Gate.hd.heap_39 w.params).In h₀ → News h₀ L s.heap ((pp, instObj 232 pd) :: (pd, prD w j1 j2 j3 j4 j5 v1 kx kt sa v4 v5) :: frz) → Top Gate.view (looseW Gate.view []) mean mg mb h₀ → cs.kind = .function →
    NodeIn frz (.ref sa) (St.node st) → St.ok 3 st → dp + 40 < recursionLimit → un + 600 < cLine →
    CompRet h₀ L m s Q →
    wpAny (model PySem.Challenge.rw_pq0466_01.row.prog w) (ktrTop dp un gd cn cs L a ccd cl outer) (call (.ref 203) [.ref pp]) Q E s
set_option maxHeartbeats 4000000 in
theorem compC (w : World) (mean : ExcName → Option Value) (mg mb : Str → Option Value) : CompC w mean mg mb := by
  w_on
  intro dp un gd cn cs a ccd cl outer A₀ base h₀ L m s Q E pp pd sa j1 j2 j3 j4 j5 kt kx v1 v4 v5 st frz B F X N T hk hin ok hd hu hret
  revert X; k_fill; intro X
  refine wpAny_call ?_
  k_dflt ktr_enter
  k_steps
  unfold Hold
  (rename News _ _ _ (_ :: (_, instObj 192 _) :: _) => Nw)
  refine named5 Nw fun cc mk dx pp dp e1 e2 e3 e4 e5 => ?_
  subst e1 e2 e3 e4 e5
  have hmk : @Ne Nat mk cc := by omega
  have hdx : @Ne Nat dx cc := by omega
  have hcc9 : ∀ p ∈ frz, p.1 ≠ cc := neOfLt (by assumption)
  k_dflt (refine' MakeC.use (makeC _ _ _ _ 3) ((pp, _) :: (dp, _) :: frz) ?B ?F ?X ?N ?T ?hk ?m1 ?m2 ?m3 ?hs hmk hdx ?n3 (by omega) ?mz (fun p hp => .tail _ (.tail _ hp)) hin ok ?r ?u ?ret3; (case B => k_asm); (case F => k_asm); (case X => k_asm); (case N => exact Nw); (case T => k_asm); (case hk => first | exact rfl | assumption); (case m1 => k_mem); (case m2 => k_mem); (case m3 => k_mem); (case hs => (repeat refine subCons (by k_mem) ?_); intro p hp; k_mem); (case mz => decide); (case r => first | assumption | omega | ktr_room | decide); (case u => first | assumption | omega | ktr_units | decide); k_whole)
  case n3 => exact neCons (by k_ne) (neCons (by k_ne) hcc9)
  case ret3 =>
    intro nvs new tl ce1 h11 t11 F11 N11 hc10 sep10 hin10 hg10 hb10
    have N12 := permM2 N11
    simp only [List.nil_append] at N12
    clear N11
    have hcc10 : ∀ p ∈ tl ++ frz, p.1 ≠ cc := ccApp hc10 hcc9
    have hnl : nvs.length ≤ 22 := hb10
    have hnl60 : nvs.length ≤ 60 := by omega
    simp only [List.length_nil, Nat.zero_add] at hg10
    (try k_unmd)
    (try k_fold)
    k_steps
    · exact compEnd hret (by assumption) (by assumption) (.head _) (.tail _ (.tail _ (.tail _ (.tail _ (.head _))))) (.tail _ (.head _)) (fun p hp => .tail _ (.tail _ (.tail _ (.tail _ (.tail _ (.tail _ (.tail _ hp))))))) hin10 (nCons nStr (nCons nInt nNil)) hg10 (Good.jump (Int.le_refl 0) (Int.natCast_nonneg _) (by omega)) hnl
    · exact compEnd hret (by assumption) (by assumption) (.head _) (.tail _ (.tail _ (.tail _ (.tail _ (.head _))))) (.tail _ (.head _)) (fun p hp => .tail _ (.tail _ (.tail _ (.tail _ (.tail _ (.tail _ (.tail _ hp))))))) hin10 (nCons nStr nNil) hg10 (.plain (by decide +kernel) (by decide +kernel) (Nat.le_of_ble_eq_true rfl) trivial) hnl
theorem CompC.use {w : World} {mean : ExcName → Option Value} {mg mb : Str → Option Value} (C : CompC w mean mg mb) {dp un : Nat} {gd : Option (List Code)} {cn : Str} {cs : Scope} {a : Addr} {ccd : Value} {cl : List (Str × Addr)} {outer : List Env} {A₀ : Around} {base h₀ : Heap} {L : Addr} {m : Str → Option Value} {s : Shared} {Q E : Value → Shared → Prop}
    {pp pd sa : Addr} {j1 j2 j3 j4 j5 kt : Tok} {kx : Str} {v1 v4 v5 : Value} {st : St} {led : Led} (frz : Led)
    (B : Below A₀ base outer h₀) (F : Fr h₀ L s.heap m) (X : (Gate.hd.heap_39 w.params).In h₀) (N : News h₀ L s.heap led) (T : Top Gate.view (looseW Gate.view []) mean mg mb h₀) (hk : cs.kind = .function)
    (m1 : (pp, instObj 232 pd) ∈ led) (m2 : (pd, prD w j1 j2 j3 j4 j5 v1 kx kt sa v4 v5) ∈ led) (hs : ∀ p ∈ frz, p ∈ led) (hin : NodeIn frz (.ref sa) (St.node st)) (ok : St.ok 3 st) (hd : dp + 40 < recursionLimit) (hu : un + 600 < cLine)
    (ret : CompRet h₀ L m s Q) :
    wpAny (model PySem.Challenge.rw_pq0466_01.row.prog w) (ktrTop dp un gd cn cs L a ccd cl outer) (call (.ref 203) [.ref pp]) Q E s :=
  C _ _ _ _ _ _ _ _ _ _ _ _ _ _ _ _ _ pp pd sa j1 j2 j3 j4 j5 kt kx v1 v4 v5 st frz B F X (newsSub N (subCons m1 (subCons m2 hs))) T hk hin ok hd hu ret

end
local macro_rules | `(tactic| walk_at "call ref") => `(tactic| (k_here; (refine Gate.z25 ?_); refine Gate.Hold.of ?_))
local macro_rules | `(tactic| walk_at "call ref") => `(tactic| (k_here; (refine Gate.z11 ?_); k_dflt (refine' Gate.CellC.use (Gate.cellC _ _ _ _) ?_ ?_ ?_ ?_ ?_ ?_ ?_ ?_ ?_ ?_ ?_ ?_ ?_ ?_ ?_; walk_at "zk"; k_whole); intro _ _; walk_at "zn"))
local macro_rules | `(tactic| walk_at "call type:range") => `(tactic| (k_here; (with_reducible refine Gate.z26 ?_); k_dflt (refine' range1_rows ?_ ?_ ?_; walk_at "zk"; k_whole); intro _ _ _ _ _ _ _ _ _))
local macro_rules | `(tactic| walk_at "binaryOp Add ref ref") => `(tactic| (k_here; (with_reducible refine Gate.z27 ?_); k_dflt (refine' Gate.gListCat ?_ ?_ ?_ ?_ ?_ ?_; walk_at "zk"; k_whole); walk_at "zl"))
local macro_rules | `(tactic| walk_at "call builtin:str.join") => `(tactic| (k_here; (refine Gate.z7 ?_); k_dflt (refine' Gate.gJoin ?N ?m ?i ?B ?b ?z ?_; (case N => k_asm); (case m => k_mem); (case i => exact StrsAre.cons _ _ (by assumption)); (case b => assumption); (case z => assumption)); intro _ _; (try dsimp only)))
local macro_rules | `(tactic| walk_at "compareOp NotEq ref ref") => `(tactic| (k_here; (with_reducible refine Gate.z28 ?_); k_dflt (refine' Gate.gNeStrs ?_ ?_ ?_ ?_ ?_ ?_ ?u ?_; (case u => first | omega | units_room | exact Nat.le_of_ble_eq_true rfl | ktr_units); walk_at "zk"; k_whole)))
local macro_rules | `(tactic| walk_at "call builtin:str.split") => `(tactic| (k_here; (with_reducible refine Gate.z29 ?_); refine' Gate.gSplit ?_ ?_ ?_ ?_; walk_at "zk"))
local macro_rules | `(tactic| walk_at "subscriptTail") => `(tactic| (k_here; (with_reducible refine Gate.z20 ?_); k_dflt (refine' Gate.gLst0 ?_ ?_ ?_ ?_ ?_; walk_at "zk"; k_whole)))
local macro_rules | `(tactic| walk_at "subscriptTail") => `(tactic| (k_here; (with_reducible refine Gate.z21 ?_); k_dflt (refine' Gate.gLst1 ?_ ?_ ?_ ?_ ?_; walk_at "zk"; k_whole)))
local macro_rules | `(tactic| walk_at "call type:int") => `(tactic| (k_here; (with_reducible refine Gate.z30 ?_); (refine KIN.call_num (by omega) (by omega) ?_)))
local macro_rules | `(tactic| walk_at "subscriptTail") => `(tactic| (k_here; (with_reducible show wpAny _ _ (subscriptTail (Expr.List _ _) _ (Value.ref _) (Value.int _ _)) _ _ _); k_dflt (refine kba_turn (value' := PySem.Expr.Name (PySem.Str.ofString "_") ⟨0, 0, 0, 0⟩) (fun _ => rfl) ?_)))
local macro_rules | `(tactic| walk_at "subscriptTail") => `(tactic| (k_here; (with_reducible refine Gate.z31 ?_); refine Gate.Hold.of ?_))
local macro_rules | `(tactic| walk_at "call ref") => `(tactic| (k_here; (refine Gate.z32 ?_); refine Gate.Hold.of ?_))
set_option maxHeartbeats 8000000 in
theorem lawHolds : PySem.Challenge.rw_pq0466_01.Holds := by
  refine Gate.hd ?_
  w_on
  w_strict (
    k_go0
    (rename Shared => s1)
    (rename World => w0)
    (all_goals try k_fold)
    k_steps
    unfold Gate.Hold
    have y1 : 301 + 1 + 5 < 1000 := by decide
    have y2 : 4 + 3 + 60 < 9900 := by decide
    have y3 : 301 + 1 + 40 < 1000 := by decide
    have y4 : 4 + 3 + 400 < 9900 := by decide
    have y5 : 301 + 1 + 2 * 3 + 20 < 1000 := by decide
    have y6 : 4 + 3 + 20 * 3 + 200 < 9900 := by decide
    have y7 : 4 + 3 + 600 < 9900 := by decide
    (rename IntsAre _ (List.take 50 _) => hI2)
    (rename Fr _ _ _ _ => Fo)
    (rename News _ _ _ _ => No)
    refine Gate.namedNT No fun D0 c0 hD0 hc0 => ?_
    subst hD0
    refine Gate.namedIA hI2 fun ws ns hws hns => ?_
    subst hws
    subst hns
    refine LCg.CompSrc.ledger (k := 0) rfl Fo No (.head _) (by rw [sizeLine_eq, List.size_toArray, hI2.length, List.length_take]; omega) ?_
    intro g8
    refine Gate.namedLd No fun led0 hled => ?_
    rw [← hled]
    refine Gate.compRest_inv (fun i ys nw => nw = led0 ∧ ys = ws.take i) ?turn ?fin _ 0 [] _ (Nat.zero_add _) ⟨rfl, rfl⟩
    case turn =>
      intro i ys nw v I oI C oC D m2 h tk E' hi1 hJ hP hC hx1 F1 N1 off ne
      obtain ⟨rfl, rfl⟩ := hJ
      have hP2 : ws[i]? = some v := by simpa using hP
      subst hled
      (try k_fold)
      k_steps
      refine LCg.CompEnd.intro (by assumption) (by assumption) _ (fun _ h => h) off (.inr ⟨_, .head _, rfl, _, rfl⟩) ⟨rfl, ?_⟩
      rw [List.take_add_one, hP2]; rfl
    case fin =>
      intro ys nw hJ
      obtain ⟨rfl, hys⟩ := hJ
      have hys2 : ws = ys := by rw [hys]; simp
      subst hys2
      clear hys
      subst hled
      have hints := hI2
      have hlen : ws.length ≤ 63 := by have := hI2.length; rw [List.length_take] at this; omega
      (try k_fold)
      k_steps
      unfold Hold
      (rename IsRange _ _ _ _ _ _ _ _ => hr)
      (rename Fr _ _ _ _ => Fh)
      (rename News _ _ _ _ => Nh)
      refine Gate.named6 Nh fun ul rl hl xl o6 hU hR hH hX h6 => ?_
      subst hU hR hH hX h6
      (rename _ < (9 : Int) => hr3)
      refine Gate.namedI hr3 fun rr hrr => ?_
      subst hrr
      (rename 0 ≤ rr => hr0)
      obtain ⟨n, rfl⟩ : ∃ n : Nat, rr = (n : Int) := ⟨rr.toNat, by omega⟩
      obtain ⟨hsm, hsz⟩ := Gate.range0 (n := n) (by omega)
      refine Gate.namedLd Nh fun led0 hled => ?_
      have hx0 : (xl, PySem.W.listOf ws.toArray ws.length) ∈ [(xl, LCg.lst ws), (D0, PySem.W.listOf ws.toArray 0), (s1.heap.objs.size + 1, o6)] := .head _
      refine Gate.iterRangeS ["pairs"] (fun i u nw => Gate.LJ ul rl hl xl 0 [(xl, LCg.lst ws), (D0, PySem.W.listOf ws.toArray 0), (s1.heap.objs.size + 1, o6)] i nw) rfl hr hsm hsz Fh Nh ⟨_, _, [], 0, [], 0, [], [], rfl, (fun p hp => nomatch hp), (fun p hp => nomatch hp), by omega, rfl, StrsAre.nil, rfl, (fun p hp => nomatch hp)⟩ ?turn2 ?done2
      case turn2 =>
        intro i t u nw I oI h tk hi1 hJ hne1 Ft Nt
        obtain ⟨k', t1, rvs, er, uvs, eu, tl, rows, rfl, htl1, htl2, hk', hrv, huv, hrl, hok⟩ := hJ
        simp only [List.cons_append, List.nil_append] at Nt
        have hI1 : @Ne Nat ul I := hne1 _ (.head _)
        have hI2 : @Ne Nat rl I := hne1 _ (.tail _ (.head _))
        have hI3 : @Ne Nat hl I := hne1 _ (.tail _ (.tail _ (.head _)))
        have hI4 : @Ne Nat xl I := hne1 _ (.tail _ (.tail _ (.tail _ (.head _))))
        have hI5 : @Ne Nat D0 I := hne1 _ (.tail _ (.tail _ (.tail _ (.tail _ (.head _)))))
        have hI6 : @Ne Nat (s1.heap.objs.size + 1) I := hne1 _ (.tail _ (.tail _ (.tail _ (.tail _ (.tail _ (.head _))))))
        have ht1 : ∀ p ∈ tl, p.1 ≠ ul := fun p hp => (htl1 p hp).1
        have ht2 : ∀ p ∈ tl, p.1 ≠ rl := fun p hp => (htl1 p hp).2.1
        have ht3 : ∀ p ∈ tl, p.1 ≠ hl := fun p hp => (htl1 p hp).2.2
        have ht4 : ∀ p ∈ tl, p.1 ≠ I := fun p hp => hne1 p (.tail _ (.tail _ (.tail _ (List.mem_append_right _ hp))))
        (try k_fold)
        k_steps
        unfold Hold
        (rename IsRange _ _ _ _ _ _ _ _ => hr2)
        (rename Fr _ _ _ _ => Fh2)
        (rename News _ _ _ _ => Nh2)
        (rename _ < (3 : Int) => hr5)
        refine Gate.namedI hr5 fun rr hrr => ?_
        subst hrr
        (rename 0 ≤ rr => hr6)
        obtain ⟨n2, hn2⟩ : ∃ n2 : Nat, 1 + rr = (n2 : Int) := ⟨(1 + rr).toNat, by omega⟩
        rw [hn2] at hr2
        obtain ⟨hsm2, hsz2⟩ := Gate.range0 (n := n2) (by omega)
        refine LCg.CompSrc.range rfl Fh2 Nh2 hr2 hsm2 hsz2 (by rw [sizeLine_eq]; omega) ?_
        intro g7
        have hxm : (xl, PySem.W.listOf ws.toArray ws.length) ∈ (xl, LCg.lst ws) :: (D0, PySem.W.listOf ws.toArray 0) :: (s1.heap.objs.size + 1, o6) :: tl := .head _
        refine Gate.compRest_inv (Gate.PJ [(I, oI), (ul, PySem.W.listOf uvs.toArray eu), (rl, PySem.W.listOf rvs.toArray er)] hl xl 0 ((xl, LCg.lst ws) :: (D0, PySem.W.listOf ws.toArray 0) :: (s1.heap.objs.size + 1, o6) :: tl) 3) ?turn3 ?fin3 n2 0 [] _ (Nat.zero_add n2) ⟨_, _, [], [], rfl, Gate.Sep.nil, by omega, rfl, trivial, rfl⟩
        case turn3 =>
          intro i2 ys nw v Ic oIc C oC D m2 h tk E' hi2 hJ hP hC hx1 F1 N1 off ne
          obtain ⟨k2, t2, tl2, nds, rfl, hsep, hk2, hprs, hoks, hnl⟩ := hJ
          have N2 := Gate.permC N1
          clear N1
          (try k_fold)
          k_steps
          unfold Hold
          k_dflt (refine' Gate.OpC.use (Gate.opC _ _ _ _ 3) ((Ic, oIc) :: (C, oC) :: (D, LCg.lst ys) :: ([(I, oI), (ul, PySem.W.listOf uvs.toArray eu), (rl, PySem.W.listOf rvs.toArray er)] ++ (tl2 ++ (xl, LCg.lst ws) :: (D0, PySem.W.listOf ws.toArray 0) :: (s1.heap.objs.size + 1, o6) :: tl))) ?B ?F ?X ?N ?T ?hk ?hh ?hs ?hx hints hlen ?k0 ?ne (Nat.le_of_ble_eq_true rfl) ?dd ?r ?u ?ret; (case B => k_asm); (case F => k_asm); (case X => k_asm); (case N => k_asm); (case T => k_asm); (case hk => first | exact rfl | assumption); (case hh => k_mem); (case hs => intro p hp; simp only [List.cons_append, List.nil_append, List.mem_cons, List.mem_append] at hp ⊢; rcases hp with h | h | h | h | h | h | h | h | h | h | h <;> simp [h]); (case hx => exact .tail _ (.tail _ (.tail _ (.tail _ (.tail _ (.tail _ (Gate.appR (t1 := []) (Gate.appR hxm)))))))); (case k0 => walk_at "zp"); (case dd => omega); (case r => first | assumption | omega | ktr_room); (case u => first | assumption | omega | ktr_units); k_whole)
          case ne =>
            have off2 := off.mem (hl, handO xl k2 t2 0) (by simp)
            intro p hp
            simp only [List.cons_append, List.nil_append, List.mem_cons, List.mem_append] at hp
            rcases hp with h | h | h | h | h | h | h | h | h | h | h
            · subst h; exact Ne.symm off2.1
            · subst h; exact Ne.symm off2.2.1
            · subst h; exact Ne.symm off2.2.2
            · subst h; exact Ne.symm hI3
            · subst h; k_ne
            · subst h; k_ne
            · exact hsep p h (hl, handO xl k2 t2 0) (by simp)
            · subst h; k_ne
            · subst h; k_ne
            · subst h; k_ne
            · exact ht3 p h
          case ret => exact Gate.PJ.turn off hsep hprs hoks hnl
        case fin3 =>
          intro ys nw hJ
          obtain ⟨k2, t2, tl2, nds, rfl, hsep, hk2, hprs, hoks, hnl⟩ := hJ
          simp only [List.cons_append, List.nil_append]
          have hyl := hprs.length
          (try k_fold)
          k_steps
          unfold Hold
          (rename News _ _ _ ((_, LCg.lst ys) :: _) => Nd)
          (rename Fr _ _ _ _ => Fd)
          refine Gate.namedN Nd fun D hD => ?_
          subst hD
          (rename _ ≠ D ∧ _ => oD)
          obtain ⟨oD1, oD2, oD3, oD4, _⟩ := oD
          refine LCg.CompSrc.ledger (k := ys.length) rfl Fd Nd (.head _) (by rw [sizeLine_eq, List.size_toArray]; omega) ?_
          intro g6
          refine Gate.namedLd Nd fun led1 hled1 => ?_
          refine Gate.compRest_inv (fun i zs nw => nw = led1 ∧ Gate.NodesIn tl2 zs (nds.take i)) ?turn4 ?fin4 _ 0 [] _ (Nat.zero_add _) ⟨hled1.symm, rfl⟩
          case turn4 =>
            intro i3 zs nw v Ic oIc C oC D2 m2 h tk E' hi3 hJ hP hC hx1 F1 N1 off ne
            obtain ⟨rfl, hz⟩ := hJ
            subst hled1
            obtain ⟨n1, a1, v1, tq, hn1, rfl, hm1, hin1⟩ := Gate.PairsIn.get hprs (by simpa using hP)
            have hm2 : (a1, Gate.tupO [v1, .str n1.text tq] 0) ∈ tl2 ++ ((xl, LCg.lst ws) :: (D0, PySem.W.listOf ws.toArray 0) :: (s1.heap.objs.size + 1, o6) :: tl) := List.mem_append_left _ hm1
            (try k_fold)
            k_steps
            refine LCg.CompEnd.intro (by assumption) (by assumption) _ (fun _ h => h) off (.inr ⟨_, .head _, rfl, _, rfl⟩) ⟨rfl, Gate.nodes_take hz hn1 hin1⟩
          case fin4 =>
            intro zs nw hJ
            obtain ⟨rfl, hz⟩ := hJ
            subst hled1
            rw [List.size_toArray, hyl, List.take_length] at hz
            have hzl := hz.length
            have hz63 : zs.length ≤ 63 := by omega
            have hrvl : rvs.length ≤ 60 := by rw [hrv.length, List.length_map]; omega
            have huvl : uvs.length ≤ 60 := by rw [Gate.strs_len huv, Gate.rowTexts, List.length_mapIdx]; omega
            have hq0 : ∀ p ∈ tl2 ++ ((xl, LCg.lst ws) :: (D0, PySem.W.listOf ws.toArray 0) :: (s1.heap.objs.size + 1, o6) :: tl), p.1 ≠ hl ∧ p.1 ≠ ul ∧ p.1 ≠ rl ∧ p.1 ≠ I := by
              intro p hp
              simp only [List.mem_append, List.mem_cons] at hp
              rcases hp with h | h | h | h | h
              · exact ⟨hsep p h (hl, handO xl k2 t2 0) (by simp), hsep p h (ul, PySem.W.listOf uvs.toArray eu) (by simp), hsep p h (rl, PySem.W.listOf rvs.toArray er) (by simp), hsep p h (I, oI) (by simp)⟩
              · subst h; exact ⟨by k_ne, by k_ne, by k_ne, hI4⟩
              · subst h; exact ⟨by k_ne, by k_ne, by k_ne, hI5⟩
              · subst h; exact ⟨by k_ne, by k_ne, by k_ne, hI6⟩
              · exact ⟨ht3 p h, ht1 p h, ht2 p h, ht4 p h⟩
            have hq1 : ∀ p ∈ tl2 ++ ((xl, LCg.lst ws) :: (D0, PySem.W.listOf ws.toArray 0) :: (s1.heap.objs.size + 1, o6) :: tl), p.1 ≠ ul := fun p hp => (hq0 p hp).2.1
            have hq2 : ∀ p ∈ tl2 ++ ((xl, LCg.lst ws) :: (D0, PySem.W.listOf ws.toArray 0) :: (s1.heap.objs.size + 1, o6) :: tl), p.1 ≠ rl := fun p hp => (hq0 p hp).2.2.1
            (try k_fold)
            k_steps
            unfold Hold
            (rename News _ _ _ ((_, _) :: (_, tupO zs 0) :: (_, LCg.lst zs) :: (D, LCg.lst ys) :: _) => Nt9)
            (rename Fr _ _ _ _ => Ft9)
            refine named3 Nt9 fun S9 T9 Z9 hS hT hZ => ?_
            subst hS hT hZ
            refine LCg.CompSrc.ledger (k := ys.length) rfl Ft9 Nt9 (.tail _ (.tail _ (.tail _ (.head _)))) (by rw [sizeLine_eq, List.size_toArray]; omega) ?_
            intro g5
            refine namedLd Nt9 fun led2 hled2 => ?_
            refine compRest_inv (fun i zs2 nw => nw = led2 ∧ StrsAre zs2 (Node.texts (nds.take i))) ?turn5 ?fin5 _ 0 [] _ (Nat.zero_add _) ⟨hled2.symm, StrsAre.nil⟩
            case turn5 =>
              intro i3 zs2 nw v Ic oIc C oC D2 m2 h tk E' hi3 hJ hP hC hx1 F1 N1 off ne
              obtain ⟨rfl, hz2⟩ := hJ
              subst hled2
              obtain ⟨n1, a1, v1, tq, hn1, rfl, hm1, hin1⟩ := PairsIn.get hprs (by simpa using hP)
              have hm2 : (a1, tupO [v1, .str n1.text tq] 0) ∈ tl2 ++ ((xl, LCg.lst ws) :: (D0, PySem.W.listOf ws.toArray 0) :: (s1.heap.objs.size + 1, o6) :: tl) := List.mem_append_left _ hm1
              (try k_fold)
              k_steps
              refine LCg.CompEnd.intro (by assumption) (by assumption) _ (fun _ h => h) off (.inr ⟨_, .tail _ (.tail _ (.tail _ (.head _))), rfl, _, rfl⟩) ⟨rfl, ?_⟩
              rw [texts_take hn1]; exact strs_snoc hz2 _ _
            case fin5 =>
              intro zs2 nw hJ
              obtain ⟨rfl, hz2⟩ := hJ
              subst hled2
              rw [List.size_toArray, hyl, List.take_length] at hz2
              have hz2l := strs_len hz2
              rw [texts_len] at hz2l
              obtain ⟨hj1, hj2⟩ := join_ok2 (by omega) (by omega) hoks (txt (i : Int)) (len_txt (by omega))
              (try k_fold)
              k_steps
              dsimp only [TurnJ]
              (rename News _ _ _ (_ :: _ :: _ :: (T9, _) :: _) => Nf)
              obtain ⟨nw', Nf2, hne2, hJ2⟩ := LJ.fin Nf rfl hrv huv hrl hok hz hoks (by omega) hsep htl1 htl2 ht4 (by assumption) (by assumption) (by assumption) (by assumption) (by assumption) hI1 hI2 hI3 hI4 hI5 hI6 hk2
              exact EndJ.intro (by assumption) Nf2 hne2 ⟨hJ2, by k_same⟩
      case done2 =>
        intro u nw h tk hJ Fd Nd
        obtain ⟨k', t1, rvs, er, uvs, eu, tl, rows, rfl, htl1, htl2, hk', hrv, huv, hrl, hok⟩ := hJ
        simp only [List.cons_append, List.nil_append] at Nd
        have hk0' : 0 ≤ k' := hk'
        have hrvl : rvs.length ≤ 60 := by rw [hrv.length, List.length_map]; omega
        have ht3 : ∀ p ∈ tl, p.1 ≠ hl := fun p hp => (htl1 p hp).2.2
        have hokT := rowTexts_ok hok
        (try k_fold)
        k_steps
        unfold Hold
        (rename Fr _ _ _ _ => Fc)
        k_dflt (refine' codeTextC _ _ _ _ _ _ _ _ _ _ _ _ _ _ _ _ _ _ _ _ _ rl rvs er rows _ ?B ?F ?X ?N ?T ?hk ?m ?hin ?hok ?hl ?r ?u ?ret; (case B => k_asm); (case F => k_asm); (case X => k_asm); (case N => exact Nd); (case T => k_asm); (case hk => first | exact rfl | assumption); (case m => k_mem); (case hin => exact NodesIn.mono (fun p hp => .tail _ (.tail _ (.tail _ (.tail _ (.tail _ (.tail _ hp)))))) hrv); (case hok => exact fun l hl => ⟨(hok l hl).1, Node.oks.mono (by omega) (hok l hl).2⟩); (case hl => exact hrvl); (case r => first | assumption | omega | ktr_room | decide); (case u => first | assumption | omega | ktr_units | decide); k_whole)
        case ret =>
          intro r1 ws1 e4 h4 t4 F4 N4 hr1 hst1
          have hr1h : @Ne Nat r1 hl := Ne.symm (hr1 _ (.tail _ (.tail _ (.head _))))
          (try k_fold)
          k_steps
          unfold Hold
          (rename News _ _ _ (_ :: _ :: _ :: _ :: _ :: _ :: _ :: _ :: _ :: _ :: (_, instObj 295 _) :: _) => Nw)
          refine namedD Nw fun lp xd d1 hlp hxd hd1 => ?_
          subst hlp hxd hd1
          k_dflt (refine' StC.use (stC _ _ _ _ 3) [(xd, _), (d1, _), (lp, PySem.W.listOf #[] 0), (xl, LCg.lst ws)] ?B ?F ?X ?N ?T ?hk ?hh ?hs ?hx hints hlen ?k0 ?ne (Nat.le_of_ble_eq_true rfl) ?dd ?r ?u ?ret2; (case B => k_asm); (case F => k_asm); (case X => k_asm); (case N => exact Nw); (case T => k_asm); (case hk => first | exact rfl | assumption); (case hh => k_mem); (case hs => (repeat refine subCons (by k_mem) ?_); exact fun p hp => nomatch hp); (case hx => k_mem); (case k0 => walk_at "zp"); (case dd => omega); (case r => first | assumption | omega | ktr_room | decide); (case u => first | assumption | omega | ktr_units | decide); k_whole)
          case ne => exact neCons (by k_ne) (neCons (by k_ne) (neCons (by k_ne) (neCons (by k_ne) (fun p hp => nomatch hp))))
          case ret2 =>
            intro sv st tl9 k9 h9 t9 t10 F9 N9 sep9 hk9 hin9 hok9
            have N10 := permS N9
            clear N9
            obtain ⟨sa, rfl⟩ := stRef hin9
            have hlp9 : ∀ p ∈ tl9, p.1 ≠ lp := fun p hp => sep9 p hp (lp, _) (.tail _ (.tail _ (.tail _ (.head _))))
            have hd19 : ∀ p ∈ tl9, p.1 ≠ d1 := fun p hp => sep9 p hp (d1, _) (.tail _ (.tail _ (.head _)))
            (try k_fold)
            k_steps
            unfold Hold
            (rename News _ _ _ ((_, instObj 232 _) :: _) => Nw2)
            k_dflt (refine' CompC.use (compC _ _ _ _) tl9 ?B ?F ?X ?N ?T ?hk ?m1 ?m2 ?hs hin9 hok9 ?r ?u ?ret3; (case B => k_asm); (case F => k_asm); (case X => k_asm); (case N => exact Nw2); (case T => k_asm); (case hk => first | exact rfl | assumption); (case m1 => k_mem); (case m2 => k_mem); (case hs => intro p hp; k_mem); (case r => first | assumption | omega | ktr_room | decide); (case u => first | assumption | omega | ktr_units | decide); k_whole)
            case ret3 =>
              intro R8 cc k8 t8 ce8 cvs rowsF tl8 h8 t9 F8 N8 hinF hgF hcv
              have hcv60 : cvs.length ≤ 60 := by omega
              (try k_fold)
              k_steps
              unfold Hold
              (rename News _ _ _ ((_, tupO [_, _] 0) :: (_, listOf _ _) :: _) => Nx)
              k_dflt (refine' codeTextC _ _ _ _ _ _ _ _ _ _ _ _ _ _ _ _ _ _ _ _ _ cc _ _ rowsF _ ?B ?F ?X ?N ?T ?hk ?m ?hin ?hok ?hl ?r ?u ?ret5; (case B => k_asm); (case F => k_asm); (case X => k_asm); (case N => exact Nx); (case T => k_asm); (case hk => first | exact rfl | assumption); (case m => k_mem); (case hin => exact NodesIn.mono (fun p hp => .tail _ (.tail _ hp)) hinF); (case hok => exact fun l hl => good_ok (hgF l hl)); (case hl => exact hcv60); (case r => first | assumption | omega | ktr_room | decide); (case u => first | assumption | omega | ktr_units | decide); k_whole)
              case ret5 =>
                intro r2 ws2 e5 h5 t5 F5 N5 hr2 hst2
                have hwl := strs_len hst2
                rw [rowTexts_len] at hwl
                have hcl := hinF.length
                rw [List.length_map] at hcl
                have hw63 : ws2.length ≤ 63 := by omega
                have hc63 : cvs.length ≤ 63 := by omega
                (try k_fold)
                k_steps
                unfold Hold
                (rename IsRange _ _ _ _ _ _ _ _ => hr7)
                (rename Fr _ _ _ _ => Fh7)
                (rename News _ _ _ _ => Nh7)
                obtain ⟨hsm7, hsz7⟩ := range0 (n := cvs.length) (by omega)
                refine namedLd Nh7 fun led7 hled7 => ?_
                have hinG : NodesIn led7 cvs (rowsF.map Node.tup) := by
                  rw [hled7]; exact NodesIn.mono (fun p hp => by k_mem) hinF
                have hr2m : (r2, PySem.W.listOf ws2.toArray e5) ∈ led7 := by rw [hled7]; exact .head _
                have hccm : (cc, PySem.W.listOf cvs.toArray ce8) ∈ led7 := by rw [hled7]; k_mem
                rw [← hled7] at Nh7
                refine iterRangeS ["words"] (fun i u nw => nw = led7) rfl hr7 hsm7 hsz7 Fh7 Nh7 rfl ?turn7 ?done7
                case turn7 =>
                  intro i t u nw I oI h tk hi7 hJ hne7 Ft Nt
                  rw [hJ] at Nt hne7
                  clear hJ hled7
                  obtain ⟨l, name, rest, ra, tn, rvs3, re3, hl, hle, hgl, hcv, hram, hnm, hjp, hrl3⟩ := row_get hinG hgF hi7
                  obtain ⟨t9, hws⟩ := strs_get hst2 (rowTexts_get hl)
                  have hsz9 := row_size (i := i) hgl (by omega)
                  (try k_fold)
                  k_steps
                  unfold Hold
                  intro D9 vs9 h9 k9 hvs F9 N9 l9
                  obtain ⟨more, hsp, hjm⟩ := split_row (i := i) (rest := rest) hnm
                  rw [hle, hsp] at hvs
                  obtain ⟨ta, va, rfl, hva⟩ := strs_cons hvs
                  obtain ⟨tb, vb, rfl, hvb⟩ := strs_cons hva
                  (try k_fold)
                  k_steps
                  · (rename (txt _ != txt _) = true => hbad)
                    simp at hbad
                  · (rename (name != name) = true => hbad)
                    simp at hbad
                  · unfold Hold
                    (rename (name == Str.ofString "jump") = true => hjn)
                    obtain ⟨tj, hrj, hj0, hj1⟩ := hjp (by simpa using hjn)
                    have hmo := hjm tj hrj
                    subst hmo
                    obtain ⟨tc, vc, rfl, hvc⟩ := strs_cons hvb
                    cases hvc
                    k_dflt (refine' gLstM ?N9a ?m9a ?_ ?hs9; (case N9a => k_asm); (case m9a => k_mem); (case hs9 => with_unfolding_all rfl))
                    (try k_fold)
                    k_steps
                    (rename News _ _ _ ((_, listOf _ _) :: _) => N9z)
                    (rename Fr _ _ _ _ => F9z)
                    refine TurnJ.nxt (EndJ.intro F9z (newsTl N9z) hne7 ⟨rfl, fun y9 hy1 hy2 => dropIf hy1 hy2⟩)
                  · (rename News _ _ _ ((_, listOf _ _) :: _) => N9z)
                    (rename Fr _ _ _ _ => F9z)
                    refine TurnJ.nxt (EndJ.intro F9z (newsTl N9z) hne7 ⟨rfl, fun y9 hy1 hy2 => dropIf hy1 hy2⟩)
                case done7 =>
                  intro u nw h tk hJ Fd Nd
                  (try k_fold)
                  k_steps)

end
end Gate
theorem PySem.Challenge.cw_pq0466_01_holds : PySem.Challenge.rw_pq0466_01.Holds := by
  exact Gate.lawHolds
