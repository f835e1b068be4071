import PyProof.Rows.All
import Wide.All
import OpenK.AllK
import Wide.FinOn
import PySem.Challenge.RW_qd0178_01
open PySem PySem.W PySem.Spec PySem.Calls PyProof.Rows
set_option Elab.async false
set_option maxRecDepth 100000
set_option rowWalk.seconds 0
set_option linter.unusedVariables false
set_option linter.unusedSimpArgs false
namespace Mine
section
local macro_rules | `(tactic| o_head $H) => `(tactic| assumption)
set_option maxHeartbeats 8000000 in
theorem kept (h : PySem.Challenge.rw_qd0178_01.row.Holds) : PySem.Challenge.rw_qd0178_01.row.Holds := by
  k_head
end

/-- what a call of the def at f does, wherever a def calls it: the ledger ahead, what comes back, the ledger behind -/
def Spec (w : World) (f : Addr) (vs : List Value) (d u : Nat) (Pre : List (Addr × Obj) → Prop) (Post : List (Addr × Obj) → Value → List (Addr × Obj) → Prop) : Prop :=
  ∀ (p : Program) (loose : List Str) (mean : ExcName → Option Value) (mg mb : Str → Option Value) (dp un : Nat) (gd : Option (List Code)) (cn : Str) (cs : Scope) (a : Addr) (ccd : Value) (cl : List (Str × Addr)) (outer : List Env) (A₀ : Around)
    (base h₀ : Heap) (L : Addr) (m : Str → Option Value) (news : List (Addr × Obj)) (s : Shared) (Q E : Value → Shared → Prop),
    Below A₀ base outer h₀ → Fr h₀ L s.heap m → (kept.heap_1 w.params).In h₀ → News h₀ L s.heap news → Top p loose mean mg mb h₀ → cs.kind = .function → Pre news → dp + d < recursionLimit → un + u < cLine →
    (∀ r news' h' tk', Fr h₀ L h' m → News h₀ L h' news' → Post news r news' → Q r { s with heap := h', toks := tk' }) →
    wpAny (model PySem.Challenge.rw_qd0178_01.row.prog w) (ktrTop dp un gd cn cs L a ccd cl outer) (call (.ref f) vs) Q E s
theorem Spec.use {w : World} {f : Addr} {vs : List Value} {d u : Nat} {Pre : List (Addr × Obj) → Prop} {Post : List (Addr × Obj) → Value → List (Addr × Obj) → Prop} (C : Spec w f vs d u Pre Post)
    {p : Program} {loose : List Str} {mean : ExcName → Option Value} {mg mb : Str → Option Value} {dp un : Nat} {gd : Option (List Code)} {cn : Str} {cs : Scope} {a : Addr} {ccd : Value} {cl : List (Str × Addr)} {outer : List Env} {A₀ : Around}
    {base h₀ : Heap} {L : Addr} {m : Str → Option Value} {news : List (Addr × Obj)} {s : Shared} {Q E : Value → Shared → Prop}
    (B : Below A₀ base outer h₀) (F : Fr h₀ L s.heap m) (X : (kept.heap_1 w.params).In h₀) (N : News h₀ L s.heap news) (T : Top p loose mean mg mb h₀) (hk : cs.kind = .function) (hp : Pre news) (hd : dp + d < recursionLimit) (hu : un + u < cLine)
    (ret : ∀ r news' h' tk', Fr h₀ L h' m → News h₀ L h' news' → Post news r news' → Q r { s with heap := h', toks := tk' }) :
    wpAny (model PySem.Challenge.rw_qd0178_01.row.prog w) (ktrTop dp un gd cn cs L a ccd cl outer) (call (.ref f) vs) Q E s := C _ _ _ _ _ _ _ _ _ _ _ _ _ _ _ _ _ _ _ _ _ _ _ B F X N T hk hp hd hu ret

/-- the ledger bears at x a double of one item, the whole number n -/
inductive NumAt (w : World) (news : List (Addr × Obj)) (x dx li tp : Addr) (sb : Bool) (e : Nat) (n : Int) : Prop
  | mk (t1 t2 t3 t4 t5 t6 t7 t8 : Tok) (h1 : (x, instObj 297 dx) ∈ news)
      (h2 : (dx, dictOf [⟨PyData.keyHash w.params (Str.ofString "kind"), .str (Str.ofString "kind") t1, .str (Str.ofString "double") t2⟩, ⟨PyData.keyHash w.params (Str.ofString "items"), .str (Str.ofString "items") t3, .ref li⟩,
        ⟨PyData.keyHash w.params (Str.ofString "attrs"), .str (Str.ofString "attrs") t4, .none⟩, ⟨PyData.keyHash w.params (Str.ofString "shared"), .str (Str.ofString "shared") t5, .bool sb⟩, ⟨PyData.keyHash w.params (Str.ofString "loose"), .str (Str.ofString "loose") t6, .bool false⟩] 5) ∈ news)
      (h3 : (li, W.listOf #[.ref tp] e) ∈ news) (h4 : (tp, ({ cls := .type "tuple", data := .seq #[.int n t7, .int 1 t8] } : Obj)) ∈ news) : NumAt w news x dx li tp sb e n
theorem NumAt.mono {w : World} {news news' : List (Addr × Obj)} {x dx li tp : Addr} {sb : Bool} {e : Nat} {n : Int} (h : NumAt w news x dx li tp sb e n) (hs : ∀ p ∈ news, p ∈ news') : NumAt w news' x dx li tp sb e n :=
  let ⟨t1, t2, t3, t4, t5, t6, t7, t8, a, b, c, d⟩ := h; ⟨t1, t2, t3, t4, t5, t6, t7, t8, hs _ a, hs _ b, hs _ c, hs _ d⟩
inductive IsNum (w : World) (news : List (Addr × Obj)) (x : Addr) : Prop
  | mk (dx li tp : Addr) (sb : Bool) (e : Nat) (n : Int) (t1 t2 t3 t4 t5 t6 t7 t8 : Tok) (h1 : (x, instObj 297 dx) ∈ news)
      (h2 : (dx, dictOf [⟨PyData.keyHash w.params (Str.ofString "kind"), .str (Str.ofString "kind") t1, .str (Str.ofString "double") t2⟩, ⟨PyData.keyHash w.params (Str.ofString "items"), .str (Str.ofString "items") t3, .ref li⟩,
        ⟨PyData.keyHash w.params (Str.ofString "attrs"), .str (Str.ofString "attrs") t4, .none⟩, ⟨PyData.keyHash w.params (Str.ofString "shared"), .str (Str.ofString "shared") t5, .bool sb⟩, ⟨PyData.keyHash w.params (Str.ofString "loose"), .str (Str.ofString "loose") t6, .bool false⟩] 5) ∈ news)
      (h3 : (li, W.listOf #[.ref tp] e) ∈ news) (h4 : (tp, ({ cls := .type "tuple", data := .seq #[.int n t7, .int 1 t8] } : Obj)) ∈ news) : IsNum w news x
theorem IsNum.mono {w : World} {news news' : List (Addr × Obj)} {x : Addr} (h : IsNum w news x) (hs : ∀ p ∈ news, p ∈ news') : IsNum w news' x :=
  let ⟨dx, li, tp, sb, e, n, t1, t2, t3, t4, t5, t6, t7, t8, a, b, c, d⟩ := h; ⟨dx, li, tp, sb, e, n, t1, t2, t3, t4, t5, t6, t7, t8, hs _ a, hs _ b, hs _ c, hs _ d⟩
theorem NumAt.isNum {w : World} {news : List (Addr × Obj)} {x dx li tp : Addr} {sb : Bool} {e : Nat} {n : Int} (h : NumAt w news x dx li tp sb e n) : IsNum w news x :=
  let ⟨t1, t2, t3, t4, t5, t6, t7, t8, a, b, c, d⟩ := h; ⟨dx, li, tp, sb, e, n, t1, t2, t3, t4, t5, t6, t7, t8, a, b, c, d⟩
/-- what a call hands back, and the ledger behind it -/
inductive Same (v : Value) (news : List (Addr × Obj)) : Value → List (Addr × Obj) → Prop
  | mk : Same v news v news
theorem Same.of {v v' : Value} {news : List (Addr × Obj)} (e : v' = v) : Same v news v' news := e ▸ .mk
inductive RInt (k : Int) (news : List (Addr × Obj)) : Value → List (Addr × Obj) → Prop
  | mk (t : Tok) : RInt k news (.int k t) news
theorem RInt.of {k k' : Int} {t : Tok} {news : List (Addr × Obj)} (e : k' = k) : RInt k news (.int k' t) news := e ▸ .mk t
inductive RStr (x : Str) (news : List (Addr × Obj)) : Value → List (Addr × Obj) → Prop
  | mk (t : Tok) : RStr x news (.str x t) news
inductive NewT (n : Int) (news : List (Addr × Obj)) : Value → List (Addr × Obj) → Prop
  | mk (z : Addr) (t5 t6 : Tok) (h : ∀ q ∈ news, q.1 < z) : NewT n news (.ref z) ((z, ({ cls := .type "tuple", data := .seq #[.int n t5, .int 1 t6] } : Obj)) :: news)
inductive NewL (n : Int) (news : List (Addr × Obj)) : Value → List (Addr × Obj) → Prop
  | mk (z li : Addr) (t5 t6 : Tok) (e3 : Nat) (h1 : ∀ q ∈ news, q.1 < z) (h2 : ∀ q ∈ news, @Ne Nat q.1 li) (h3 : @Ne Nat z li) :
      NewL n news (.ref li) ((li, W.listOf #[.ref z] e3) :: (z, ({ cls := .type "tuple", data := .seq #[.int n t5, .int 1 t6] } : Obj)) :: news)
inductive NewV (w : World) (n : Int) (news : List (Addr × Obj)) : Value → List (Addr × Obj) → Prop
  | mk (x dx li z : Addr) (t1 t2 t3 t4 t5 t6 t7 t8 : Tok) (e3 : Nat) (l9 : ∀ q ∈ news, q.1 < z) (o9 : ∀ q ∈ news, @Ne Nat q.1 li) (q9 : @Ne Nat z li) (m9 : @LT.lt Nat _ li dx ∧ @LT.lt Nat _ z dx ∧ AllLt dx news) (k9 : @LT.lt Nat _ dx x) :
      NewV w n news (.ref x) ((x, instObj 297 dx) :: (dx, dictOf [⟨PyData.keyHash w.params (Str.ofString "kind"), .str (Str.ofString "kind") t1, .str (Str.ofString "double") t2⟩, ⟨PyData.keyHash w.params (Str.ofString "items"), .str (Str.ofString "items") t3, .ref li⟩, ⟨PyData.keyHash w.params (Str.ofString "attrs"), .str (Str.ofString "attrs") t4, .none⟩,
        ⟨PyData.keyHash w.params (Str.ofString "shared"), .str (Str.ofString "shared") t5, .bool false⟩, ⟨PyData.keyHash w.params (Str.ofString "loose"), .str (Str.ofString "loose") t6, .bool false⟩] 5) :: (li, W.listOf #[.ref z] e3) :: (z, ({ cls := .type "tuple", data := .seq #[.int n t7, .int 1 t8] } : Obj)) :: news)
inductive PVec (w : World) (kd : Str) (li : Addr) (t0 : Tok) (av : Value) (news : List (Addr × Obj)) : Value → List (Addr × Obj) → Prop
  | mk (x dx : Addr) (t1 t2 t3 t4 t5 : Tok) (l9 : AllLt dx news) (m9 : @LT.lt Nat _ dx x) :
      PVec w kd li t0 av news (.ref x) ((x, instObj 297 dx) :: (dx, dictOf [⟨PyData.keyHash w.params (Str.ofString "kind"), .str (Str.ofString "kind") t1, .str kd t0⟩, ⟨PyData.keyHash w.params (Str.ofString "items"), .str (Str.ofString "items") t2, .ref li⟩, ⟨PyData.keyHash w.params (Str.ofString "attrs"), .str (Str.ofString "attrs") t3, av⟩,
        ⟨PyData.keyHash w.params (Str.ofString "shared"), .str (Str.ofString "shared") t4, .bool false⟩, ⟨PyData.keyHash w.params (Str.ofString "loose"), .str (Str.ofString "loose") t5, .bool false⟩] 5) :: news)
inductive PSym (w : World) (nm : Str) (t0 : Tok) (news : List (Addr × Obj)) : Value → List (Addr × Obj) → Prop
  | mk (x dx : Addr) (t1 t2 t3 t4 : Tok) (l9 : AllLt dx news) (m9 : @LT.lt Nat _ dx x) :
      PSym w nm t0 news (.ref x) ((x, instObj 318 dx) :: (dx, dictOf [⟨PyData.keyHash w.params (Str.ofString "kind"), .str (Str.ofString "kind") t1, .str (Str.ofString "symbol") t2⟩, ⟨PyData.keyHash w.params (Str.ofString "name"), .str (Str.ofString "name") t3, .str nm t0⟩, ⟨PyData.keyHash w.params (Str.ofString "attrs"), .str (Str.ofString "attrs") t4, .none⟩] 3) :: news)
inductive PCall (w : World) (li tg : Addr) (news : List (Addr × Obj)) : Value → List (Addr × Obj) → Prop
  | mk (x dx : Addr) (t1 t2 t3 t4 t5 t6 : Tok) (l9 : AllLt dx news) (m9 : @LT.lt Nat _ dx x) :
      PCall w li tg news (.ref x) ((x, instObj 340 dx) :: (dx, dictOf [⟨PyData.keyHash w.params (Str.ofString "kind"), .str (Str.ofString "kind") t1, .str (Str.ofString "language") t2⟩, ⟨PyData.keyHash w.params (Str.ofString "items"), .str (Str.ofString "items") t3, .ref li⟩, ⟨PyData.keyHash w.params (Str.ofString "tags"), .str (Str.ofString "tags") t4, .ref tg⟩,
        ⟨PyData.keyHash w.params (Str.ofString "attrs"), .str (Str.ofString "attrs") t5, .none⟩, ⟨PyData.keyHash w.params (Str.ofString "code"), .str (Str.ofString "code") t6, .none⟩] 5) :: news)
inductive PClo (w : World) (lf b : Addr) (news : List (Addr × Obj)) : Value → List (Addr × Obj) → Prop
  | mk (x dx : Addr) (t1 t2 t3 t4 t5 t6 : Tok) (l9 : AllLt dx news) (m9 : @LT.lt Nat _ dx x) :
      PClo w lf b news (.ref x) ((x, instObj 362 dx) :: (dx, dictOf [⟨PyData.keyHash w.params (Str.ofString "kind"), .str (Str.ofString "kind") t1, .str (Str.ofString "closure") t2⟩, ⟨PyData.keyHash w.params (Str.ofString "formals"), .str (Str.ofString "formals") t3, .ref lf⟩, ⟨PyData.keyHash w.params (Str.ofString "body"), .str (Str.ofString "body") t4, .ref b⟩,
        ⟨PyData.keyHash w.params (Str.ofString "env"), .str (Str.ofString "env") t5, .none⟩, ⟨PyData.keyHash w.params (Str.ofString "attrs"), .str (Str.ofString "attrs") t6, .none⟩] 5) :: news)
inductive PMis (w : World) (news : List (Addr × Obj)) : Value → List (Addr × Obj) → Prop
  | mk (x dx : Addr) (t1 t2 t3 : Tok) (l9 : AllLt dx news) (m9 : @LT.lt Nat _ dx x) :
      PMis w news (.ref x) ((x, instObj 268 dx) :: (dx, dictOf [⟨PyData.keyHash w.params (Str.ofString "kind"), .str (Str.ofString "kind") t1, .str (Str.ofString "missing") t2⟩, ⟨PyData.keyHash w.params (Str.ofString "attrs"), .str (Str.ofString "attrs") t3, .none⟩] 2) :: news)
inductive PNum (w : World) (n : Int) (news : List (Addr × Obj)) : Value → List (Addr × Obj) → Prop
  | mk (x dx li tp : Addr) (t1 t2 t3 t4 t5 t6 t7 t8 : Tok) (l9 : AllLt tp news) (m9 : @LT.lt Nat _ tp li) (q9 : @LT.lt Nat _ li dx) (o9 : @LT.lt Nat _ dx x) :
      PNum w n news (.ref x) ((x, instObj 297 dx) :: (dx, dictOf [⟨PyData.keyHash w.params (Str.ofString "kind"), .str (Str.ofString "kind") t1, .str (Str.ofString "double") t6⟩, ⟨PyData.keyHash w.params (Str.ofString "items"), .str (Str.ofString "items") t2, .ref li⟩, ⟨PyData.keyHash w.params (Str.ofString "attrs"), .str (Str.ofString "attrs") t3, .none⟩,
        ⟨PyData.keyHash w.params (Str.ofString "shared"), .str (Str.ofString "shared") t4, .bool false⟩, ⟨PyData.keyHash w.params (Str.ofString "loose"), .str (Str.ofString "loose") t5, .bool false⟩] 5) :: (li, W.listOf #[.ref tp] 0) :: (tp, ({ cls := .type "tuple", data := .seq #[.int n t7, .int 1 t8] } : Obj)) :: news)
theorem room2 {dp a b d R : Nat} (h : dp + d < R) (e : a + b ≤ d) : dp + a + b < R := by omega
theorem room1 {dp b d R : Nat} (h : dp + d < R) (e : b ≤ d) : dp + b < R := by omega
theorem room3 {dp a b c d R : Nat} (h : dp + d < R) (e : a + b + c ≤ d) : dp + a + b + c < R := by omega
theorem lt_len {α : Type} {l : List α} {n : Nat} {k : Int} (h : l.length = n) (e : k < (n : Int)) : k < (l.length : Int) := by rw [h]; exact e
theorem mcut {P Q : Prop} (h : P) (k : P → Q) : Q := k h

/-- the ledger bears at x a call without tags of the name nm on a and b -/
inductive CallAt (w : World) (news : List (Addr × Obj)) (x dx li tg f df a b : Addr) (e1 e2 : Nat) (nm : Str) : Prop
  | mk (t1 t2 t3 t4 t5 t6 u1 u2 u3 u4 u5 : Tok) (h1 : (x, instObj 340 dx) ∈ news)
      (h2 : (dx, dictOf [⟨PyData.keyHash w.params (Str.ofString "kind"), .str (Str.ofString "kind") t1, .str (Str.ofString "language") t2⟩, ⟨PyData.keyHash w.params (Str.ofString "items"), .str (Str.ofString "items") t3, .ref li⟩,
        ⟨PyData.keyHash w.params (Str.ofString "tags"), .str (Str.ofString "tags") t4, .ref tg⟩, ⟨PyData.keyHash w.params (Str.ofString "attrs"), .str (Str.ofString "attrs") t5, .none⟩, ⟨PyData.keyHash w.params (Str.ofString "code"), .str (Str.ofString "code") t6, .none⟩] 5) ∈ news)
      (h3 : (li, W.listOf #[.ref f, .ref a, .ref b] e1) ∈ news) (h4 : (tg, W.listOf #[.none, .none, .none] e2) ∈ news) (h5 : (f, instObj 318 df) ∈ news)
      (h6 : (df, dictOf [⟨PyData.keyHash w.params (Str.ofString "kind"), .str (Str.ofString "kind") u1, .str (Str.ofString "symbol") u2⟩, ⟨PyData.keyHash w.params (Str.ofString "name"), .str (Str.ofString "name") u3, .str nm u5⟩,
        ⟨PyData.keyHash w.params (Str.ofString "attrs"), .str (Str.ofString "attrs") u4, .none⟩] 3) ∈ news) : CallAt w news x dx li tg f df a b e1 e2 nm
theorem CallAt.mono {w : World} {news news' : List (Addr × Obj)} {x dx li tg f df a b : Addr} {e1 e2 : Nat} {nm : Str} (h : CallAt w news x dx li tg f df a b e1 e2 nm) (hs : ∀ p ∈ news, p ∈ news') : CallAt w news' x dx li tg f df a b e1 e2 nm :=
  let ⟨t1, t2, t3, t4, t5, t6, u1, u2, u3, u4, u5, a, b, c, d, e, f⟩ := h; ⟨t1, t2, t3, t4, t5, t6, u1, u2, u3, u4, u5, hs _ a, hs _ b, hs _ c, hs _ d, hs _ e, hs _ f⟩
inductive PCO (w : World) (a b : Addr) (nm : Str) (news : List (Addr × Obj)) : Value → List (Addr × Obj) → Prop
  | mk (x dx li tg f df : Addr) (e1 e2 : Nat) (add : List (Addr × Obj)) (c9 : CallAt w add x dx li tg f df a b e1 e2 nm) (o9 : ∀ q ∈ news, ∀ p ∈ add, @Ne Nat q.1 p.1) : PCO w a b nm news (.ref x) (add ++ news)
/-- the ledger bears at x a tree of such calls over doubles of one item: its value, its calls, how deep they stand -/
inductive ExprIn (w : World) (news : List (Addr × Obj)) (nm : Str) (f : Int → Int → Int) : Addr → Int → Nat → Nat → Prop
  | num {x dx li tp : Addr} {sb : Bool} {e : Nat} {n : Int} (h : NumAt w news x dx li tp sb e n) (h0 : -100000 ≤ n) (h1 : n ≤ 100000) : ExprIn w news nm f x n 0 0
  | bin {x dx li tg s ds a b : Addr} {e1 e2 : Nat} {va vb : Int} {ka kb da db : Nat} (h : CallAt w news x dx li tg s ds a b e1 e2 nm) (ha : ExprIn w news nm f a va ka da) (hb : ExprIn w news nm f b vb kb db) (h0 : -100000 ≤ f va vb) (h1 : f va vb ≤ 100000) :
      ExprIn w news nm f x (f va vb) (ka + kb + 1) (max da db + 1)
theorem ExprIn.mono {w : World} {news news' : List (Addr × Obj)} {nm : Str} {f : Int → Int → Int} {x : Addr} {v : Int} {k d : Nat} (h : ExprIn w news nm f x v k d) (hs : ∀ p ∈ news, p ∈ news') : ExprIn w news' nm f x v k d := by
  induction h with
  | num h h0 h1 => exact .num (h.mono hs) h0 h1
  | bin h _ _ h0 h1 ia ib => exact .bin (h.mono hs) ia ib h0 h1
theorem ExprIn.bound {w : World} {news : List (Addr × Obj)} {nm : Str} {f : Int → Int → Int} {x : Addr} {v : Int} {k d : Nat} (h : ExprIn w news nm f x v k d) : -100000 ≤ v ∧ v ≤ 100000 := by
  cases h with
  | num _ h0 h1 => exact ⟨h0, h1⟩
  | bin _ _ _ h0 h1 => exact ⟨h0, h1⟩

/-- the ledger bears at sf the names that can be folded -/
inductive SafeAt (news : List (Addr × Obj)) (sf : Addr) : Prop
  | mk (t1 t2 t3 t4 t5 t6 t7 t8 t9 t10 t11 t12 t13 t14 t15 t16 t17 : Tok) (h : (sf, ({ cls := .type "tuple", data := .seq #[.str (Str.ofString "+") t1, .str (Str.ofString "-") t2, .str (Str.ofString "*") t3, .str (Str.ofString "/") t4, .str (Str.ofString "^") t5, .str (Str.ofString "%%") t6, .str (Str.ofString "%/%") t7,
    .str (Str.ofString "==") t8, .str (Str.ofString "!=") t9, .str (Str.ofString "<") t10, .str (Str.ofString "<=") t11, .str (Str.ofString ">") t12, .str (Str.ofString ">=") t13, .str (Str.ofString "&") t14, .str (Str.ofString "|") t15, .str (Str.ofString "!") t16, .str (Str.ofString "(") t17] } : Obj)) ∈ news) : SafeAt news sf
inductive PSafe (news : List (Addr × Obj)) : Value → List (Addr × Obj) → Prop
  | mk (sf : Addr) (add : List (Addr × Obj)) (c9 : SafeAt add sf) (o9 : ∀ q ∈ news, ∀ p ∈ add, @Ne Nat q.1 p.1) : PSafe news (.ref sf) (add ++ news)
inductive FoldPre (base rest : List (Addr × Obj)) (sf rm : Addr) (k d : Int) (tk : Tok) (ek : Nat) : List (Addr × Obj) → Prop
  | mk (hb : ∀ p ∈ base, p ∈ rest) (hs : SafeAt rest sf) (hr : ∀ p ∈ rest, @Ne Nat p.1 rm) (k0 : 0 ≤ k) (k1 : k ≤ 200) (d0 : 0 ≤ d) (d1 : d ≤ 40) : FoldPre base rest sf rm k d tk ek ((rm, W.listOf #[.int k tk] ek) :: rest)
inductive FoldPost (w : World) (base rest : List (Addr × Obj)) (rm : Addr) (v : Int) (c dep : Nat) (k d : Int) : Value → List (Addr × Obj) → Prop
  | yes (tr : Addr) (k' : Int) (tk' : Tok) (ek' : Nat) (tl : List (Addr × Obj)) (o1 : ∀ q ∈ rest, ∀ p ∈ tl, @Ne Nat p.1 q.1) (o2 : ∀ p ∈ tl, @Ne Nat p.1 rm) (kk0 : 0 ≤ k') (kk1 : k' ≤ 200) (d1 : (dep : Int) ≤ d) (d2 : (c : Int) ≤ k) (d3 : k' = k - c)
      (y dx li tp : Addr) (sb : Bool) (e : Nat) (tm : (tr, ({ cls := .type "tuple", data := .seq #[.bool true, .ref y] } : Obj)) ∈ tl) (yn : NumAt w (base ++ tl) y dx li tp sb e v) : FoldPost w base rest rm v c dep k d (.ref tr) ((rm, W.listOf #[.int k' tk'] ek') :: (rest ++ tl))
  | no (tr : Addr) (k' : Int) (tk' : Tok) (ek' : Nat) (tl : List (Addr × Obj)) (o1 : ∀ q ∈ rest, ∀ p ∈ tl, @Ne Nat p.1 q.1) (o2 : ∀ p ∈ tl, @Ne Nat p.1 rm) (kk0 : 0 ≤ k') (kk1 : k' ≤ 200) (d1 : ¬ ((dep : Int) ≤ d ∧ (c : Int) ≤ k))
      (tm : (tr, ({ cls := .type "tuple", data := .seq #[.bool false, .none] } : Obj)) ∈ tl) : FoldPost w base rest rm v c dep k d (.ref tr) ((rm, W.listOf #[.int k' tk'] ek') :: (rest ++ tl))
inductive PFold (w : World) (v : Int) (c dep : Nat) (news : List (Addr × Obj)) : Value → List (Addr × Obj) → Prop
  | yes (tr : Addr) (tl : List (Addr × Obj)) (o1 : ∀ q ∈ news, ∀ p ∈ tl, @Ne Nat p.1 q.1) (d1 : dep ≤ 40) (d2 : c ≤ 200) (y dx li tp : Addr) (sb : Bool) (e : Nat) (tm : (tr, ({ cls := .type "tuple", data := .seq #[.bool true, .ref y] } : Obj)) ∈ tl) (yn : NumAt w (news ++ tl) y dx li tp sb e v) : PFold w v c dep news (.ref tr) (news ++ tl)
  | no (tr : Addr) (tl : List (Addr × Obj)) (o1 : ∀ q ∈ news, ∀ p ∈ tl, @Ne Nat p.1 q.1) (d1 : ¬ (dep ≤ 40 ∧ c ≤ 200)) (tm : (tr, ({ cls := .type "tuple", data := .seq #[.bool false, .none] } : Obj)) ∈ tl) : PFold w v c dep news (.ref tr) (news ++ tl)
def FoldSpec (w : World) (base : List (Addr × Obj)) (x : Addr) (v : Int) (c dep : Nat) : Prop :=
  ∀ (rest : List (Addr × Obj)) (sf rm : Addr) (k d : Int) (td tk : Tok) (ek : Nat), Spec w 825 [.ref x, .ref sf, .ref rm, .int d td] (60 + dep) (500 + 10 * dep) (FoldPre base rest sf rm k d tk ek) (fun _ => FoldPost w base rest rm v c dep k d)
theorem dec_lo {k z : Int} (e : z = k) (h : 0 ≤ k) (n : z ≠ 0) : 0 ≤ z - 1 := by omega
theorem dec_hi {k z b : Int} (e : z = k) (h : k ≤ b) : z - 1 ≤ b := by omega
theorem dec_lo' {k : Int} (h : 0 ≤ k) (n : k ≠ 0) : 0 ≤ k - 1 := by omega
theorem dec_hi' {k b : Int} (h : k ≤ b) : k - 1 ≤ b := by omega
theorem fb_no0 {da db ka kb : Nat} {d k : Int} (h : d = 0) : ¬ (((max da db + 1 : Nat) : Int) ≤ d ∧ ((ka + kb + 1 : Nat) : Int) ≤ k) := by omega
theorem fb_no1 {da db ka kb : Nat} {d k z : Int} (e : z = k) (h : z = 0) : ¬ (((max da db + 1 : Nat) : Int) ≤ d ∧ ((ka + kb + 1 : Nat) : Int) ≤ k) := by omega
theorem fb_no2 {da db ka kb : Nat} {d k z : Int} (e : z = k) (h : ¬ ((da : Int) ≤ d - 1 ∧ (ka : Int) ≤ z - 1)) : ¬ (((max da db + 1 : Nat) : Int) ≤ d ∧ ((ka + kb + 1 : Nat) : Int) ≤ k) := by omega
theorem fb_no3 {da db ka kb : Nat} {d k z k9 : Int} (e : z = k) (h9 : k9 = z - 1 - (ka : Int)) (h : ¬ ((db : Int) ≤ d - 1 ∧ (kb : Int) ≤ k9)) : ¬ (((max da db + 1 : Nat) : Int) ≤ d ∧ ((ka + kb + 1 : Nat) : Int) ≤ k) := by omega
theorem fb_yes5 {da db : Nat} {d : Int} (h1 : (da : Int) ≤ d - 1) (h2 : (db : Int) ≤ d - 1) : ((max da db + 1 : Nat) : Int) ≤ d := by omega
theorem fb_yes6 {ka kb : Nat} {k z k9 : Int} (e : z = k) (h9 : k9 = z - 1 - (ka : Int)) (h : (kb : Int) ≤ k9) : ((ka + kb + 1 : Nat) : Int) ≤ k := by omega
theorem fb_yes7 {ka kb : Nat} {k z k9 k10 : Int} (e : z = k) (h9 : k9 = z - 1 - (ka : Int)) (h : k10 = k9 - (kb : Int)) : k10 = k - ((ka + kb + 1 : Nat) : Int) := by omega
theorem room_a {dp a b R : Nat} (h : dp + (60 + (max a b + 1)) < R) : dp + 1 + (60 + a) < R := by omega
theorem room_b {dp a b R : Nat} (h : dp + (60 + (max a b + 1)) < R) : dp + 1 + (60 + b) < R := by omega
theorem unit_a {dp a b R : Nat} (h : dp + (500 + 10 * (max a b + 1)) < R) : dp + 3 + (500 + 10 * a) < R := by omega
theorem unit_b {dp a b R : Nat} (h : dp + (500 + 10 * (max a b + 1)) < R) : dp + 3 + (500 + 10 * b) < R := by omega
theorem room4 {dp a b c x R : Nat} (h : dp + (b + x) < R) (e : a + c ≤ b) : dp + a + c < R := by omega
theorem neg_100 {va : Int} {a b : Int} (h : a ≤ va ∧ va ≤ b) : a ≤ va := h.1


/-- the ledger bears at v a value of the program's, whose parts are n, each counted as often as it stands -/
inductive NodeIn (w : World) (news : List (Addr × Obj)) : Value → Nat → Prop
  | dbl {x dx li : Addr} {t1 t2 t3 t4 t5 t6 : Tok} (h1 : (x, instObj 297 dx) ∈ news)
      (h2 : (dx, dictOf [⟨PyData.keyHash w.params (Str.ofString "kind"), .str (Str.ofString "kind") t1, .str (Str.ofString "double") t2⟩, ⟨PyData.keyHash w.params (Str.ofString "items"), .str (Str.ofString "items") t3, .ref li⟩,
        ⟨PyData.keyHash w.params (Str.ofString "attrs"), .str (Str.ofString "attrs") t4, .none⟩, ⟨PyData.keyHash w.params (Str.ofString "shared"), .str (Str.ofString "shared") t5, .bool false⟩, ⟨PyData.keyHash w.params (Str.ofString "loose"), .str (Str.ofString "loose") t6, .bool false⟩] 5) ∈ news) :
      NodeIn w news (.ref x) 1
  | chr {x dx li : Addr} {t1 t2 t3 t4 t5 t6 : Tok} (h1 : (x, instObj 297 dx) ∈ news)
      (h2 : (dx, dictOf [⟨PyData.keyHash w.params (Str.ofString "kind"), .str (Str.ofString "kind") t1, .str (Str.ofString "character") t2⟩, ⟨PyData.keyHash w.params (Str.ofString "items"), .str (Str.ofString "items") t3, .ref li⟩,
        ⟨PyData.keyHash w.params (Str.ofString "attrs"), .str (Str.ofString "attrs") t4, .none⟩, ⟨PyData.keyHash w.params (Str.ofString "shared"), .str (Str.ofString "shared") t5, .bool false⟩, ⟨PyData.keyHash w.params (Str.ofString "loose"), .str (Str.ofString "loose") t6, .bool false⟩] 5) ∈ news) :
      NodeIn w news (.ref x) 1
  | sym {x dx : Addr} {t1 t2 t3 t4 t5 : Tok} {nm : Str} (h1 : (x, instObj 318 dx) ∈ news)
      (h2 : (dx, dictOf [⟨PyData.keyHash w.params (Str.ofString "kind"), .str (Str.ofString "kind") t1, .str (Str.ofString "symbol") t2⟩, ⟨PyData.keyHash w.params (Str.ofString "name"), .str (Str.ofString "name") t3, .str nm t5⟩,
        ⟨PyData.keyHash w.params (Str.ofString "attrs"), .str (Str.ofString "attrs") t4, .none⟩] 3) ∈ news) :
      NodeIn w news (.ref x) 1
  | mis {x dx : Addr} {t1 t2 t3 : Tok} (h1 : (x, instObj 268 dx) ∈ news)
      (h2 : (dx, dictOf [⟨PyData.keyHash w.params (Str.ofString "kind"), .str (Str.ofString "kind") t1, .str (Str.ofString "missing") t2⟩, ⟨PyData.keyHash w.params (Str.ofString "attrs"), .str (Str.ofString "attrs") t3, .none⟩] 2) ∈ news) :
      NodeIn w news (.ref x) 1
  | call {x dx li tg : Addr} {t1 t2 t3 t4 t5 t6 : Tok} {f a b : Addr} {p q : Nat} (h1 : (x, instObj 340 dx) ∈ news)
      (h2 : (dx, dictOf [⟨PyData.keyHash w.params (Str.ofString "kind"), .str (Str.ofString "kind") t1, .str (Str.ofString "language") t2⟩, ⟨PyData.keyHash w.params (Str.ofString "items"), .str (Str.ofString "items") t3, .ref li⟩,
        ⟨PyData.keyHash w.params (Str.ofString "tags"), .str (Str.ofString "tags") t4, .ref tg⟩, ⟨PyData.keyHash w.params (Str.ofString "attrs"), .str (Str.ofString "attrs") t5, .none⟩, ⟨PyData.keyHash w.params (Str.ofString "code"), .str (Str.ofString "code") t6, .none⟩] 5) ∈ news)
      (h3 : (li, W.listOf #[.ref f, .ref a, .ref b] 0) ∈ news) (k0 : NodeIn w news (.ref f) 1) (k1 : NodeIn w news (.ref a) p) (k2 : NodeIn w news (.ref b) q) :
      NodeIn w news (.ref x) (2 + p + q)
  | lst {x dx li da c : Addr} {t1 t2 t3 t4 t5 t6 t7 : Tok} {a b : Addr} {p q : Nat} (h1 : (x, instObj 297 dx) ∈ news)
      (h2 : (dx, dictOf [⟨PyData.keyHash w.params (Str.ofString "kind"), .str (Str.ofString "kind") t1, .str (Str.ofString "list") t2⟩, ⟨PyData.keyHash w.params (Str.ofString "items"), .str (Str.ofString "items") t3, .ref li⟩,
        ⟨PyData.keyHash w.params (Str.ofString "attrs"), .str (Str.ofString "attrs") t4, .ref da⟩, ⟨PyData.keyHash w.params (Str.ofString "shared"), .str (Str.ofString "shared") t5, .bool false⟩, ⟨PyData.keyHash w.params (Str.ofString "loose"), .str (Str.ofString "loose") t6, .bool false⟩] 5) ∈ news)
      (h3 : (li, W.listOf #[.ref a, .ref b] 0) ∈ news) {od : Obj} (h4 : (da, od) ∈ news) (hd : Obj.IsDictOf (strKind PySem.Challenge.rw_qd0178_01.row.prog w) od (strPairs [(.str (Str.ofString "names") t7, .ref c)])) (lo : (da == sysModules) = false)
      (k0 : NodeIn w news (.ref c) 1) (k1 : NodeIn w news (.ref a) p) (k2 : NodeIn w news (.ref b) q) :
      NodeIn w news (.ref x) (2 + p + q)
  | clo {x dx lf u1 u2 : Addr} {t1 t2 t3 t4 t5 t6 t7 t8 : Tok} {m a b : Addr} {s1 s2 : Str} {p q : Nat} (h1 : (x, instObj 362 dx) ∈ news)
      (h2 : (dx, dictOf [⟨PyData.keyHash w.params (Str.ofString "kind"), .str (Str.ofString "kind") t1, .str (Str.ofString "closure") t2⟩, ⟨PyData.keyHash w.params (Str.ofString "formals"), .str (Str.ofString "formals") t3, .ref lf⟩,
        ⟨PyData.keyHash w.params (Str.ofString "body"), .str (Str.ofString "body") t4, .ref b⟩, ⟨PyData.keyHash w.params (Str.ofString "env"), .str (Str.ofString "env") t5, .none⟩, ⟨PyData.keyHash w.params (Str.ofString "attrs"), .str (Str.ofString "attrs") t6, .none⟩] 5) ∈ news)
      (h3 : (lf, W.listOf #[.ref u1, .ref u2] 0) ∈ news) (h4 : (u1, ({ cls := .type "tuple", data := .seq #[.str s1 t7, .ref m] } : Obj)) ∈ news) (h5 : (u2, ({ cls := .type "tuple", data := .seq #[.str s2 t8, .ref a] } : Obj)) ∈ news)
      (k0 : NodeIn w news (.ref m) 1) (k1 : NodeIn w news (.ref a) p) (k2 : NodeIn w news (.ref b) q) :
      NodeIn w news (.ref x) (2 + p + q)
theorem NodeIn.mono {w : World} {news news' : List (Addr × Obj)} {v : Value} {n : Nat} (h : NodeIn w news v n) (hs : ∀ p ∈ news, p ∈ news') : NodeIn w news' v n := by
  induction h with
  | dbl h1 h2 => exact .dbl (hs _ h1) (hs _ h2)
  | chr h1 h2 => exact .chr (hs _ h1) (hs _ h2)
  | sym h1 h2 => exact .sym (hs _ h1) (hs _ h2)
  | mis h1 h2 => exact .mis (hs _ h1) (hs _ h2)
  | call h1 h2 h3 _ _ _ i0 i1 i2 => exact .call (hs _ h1) (hs _ h2) (hs _ h3) i0 i1 i2
  | lst h1 h2 h3 h4 hd lo _ _ _ i0 i1 i2 => exact .lst (hs _ h1) (hs _ h2) (hs _ h3) (hs _ h4) hd lo i0 i1 i2
  | clo h1 h2 h3 h4 h5 _ _ _ i0 i1 i2 => exact .clo (hs _ h1) (hs _ h2) (hs _ h3) (hs _ h4) (hs _ h5) i0 i1 i2
/-- several of them, their sizes together -/
inductive NodesIn (w : World) (news : List (Addr × Obj)) : List Value → Nat → Prop
  | nil : NodesIn w news [] 0
  | snoc {vs : List Value} {k : Nat} {a : Addr} {n : Nat} : NodesIn w news vs k → NodeIn w news (.ref a) n → NodesIn w news (vs ++ [.ref a]) (k + n)
theorem NodesIn.pos {w : World} {news : List (Addr × Obj)} {v : Value} {n : Nat} (h : NodeIn w news v n) : 0 < n := by
  cases h <;> omega


section
variable {prog : Program} {w : World} {A : Around} {E : Value → Shared → Prop} {s : Shared} {h₀ : Heap} {L D b : Addr} {m : Str → Option Value} {news news' : List (Addr × Obj)} {n n2 : Nat}
/-- a list that ends so, its last item taken -/
theorem lw_pop {vs : List Value} {y : Value} {Q : Value → Shared → Prop} (F : Fr h₀ L s.heap m) (N : News h₀ L s.heap news) (U : Upd D (W.listOf (vs ++ [y]).toArray n) (W.listOf vs.toArray (n + 1)) news news')
    (hz : (vs ++ [y]).length ≤ 1000000) (h : ∀ h', Fr h₀ L h' m → News h₀ L h' news' → Q y { s with heap := h' }) : wpAny (model prog w) A (call (.builtin "list.pop") [.ref D]) Q E s :=
  kl_pop F N (kpa_last y vs) U (by show (vs ++ [y]).length ≤ sizeLine; rw [sizeLine_eq]; omega) h
theorem lw_append {vs : List Value} {y : Value} {Q : Value → Shared → Prop} (F : Fr h₀ L s.heap m) (N : News h₀ L s.heap news) (U : Upd D (W.listOf vs.toArray n) (W.listOf (vs ++ [y]).toArray (n + 1)) news news')
    (hz : vs.length ≤ 1000000) (h : ∀ h', Fr h₀ L h' m → News h₀ L h' news' → Q .none { s with heap := h' }) : wpAny (model prog w) A (call (.builtin "list.append") [.ref D, y]) Q E s :=
  append_K F N (by rw [List.push_toArray]; exact U) h (by rw [List.size_toArray, sizeLine_eq]; omega)
theorem lw_extend {vs ys : List Value} {Q : Value → Shared → Prop} (F : Fr h₀ L s.heap m) (N : News h₀ L s.heap news) (hb : (b, W.listOf ys.toArray n2) ∈ news) (hne : ys.length ≠ 0)
    (U : Upd D (W.listOf vs.toArray n) (W.listOf (vs ++ ys).toArray (n + 1)) news news') (hz : vs.length ≤ 1000000) (hy : ys.length ≤ 1000)
    (h : ∀ h', Fr h₀ L h' m → News h₀ L h' news' → Q .none { s with heap := h' }) : wpAny (model prog w) A (call (.builtin "list.extend") [.ref D, .ref b]) Q E s :=
  kl_extend F N hb rfl hne U (extend_door (by rw [List.size_toArray, List.size_toArray, sizeLine_eq]; omega)) (by show vs.length ≤ sizeLine; rw [sizeLine_eq]; omega) (by rw [List.size_toArray, List.size_toArray, sizeLine_eq]; omega) h
theorem lw_len {us : List Value} {c : Nat} {Q : Value → Shared → Prop} (N : News h₀ L s.heap news) (hm : (D, W.listOf us.toArray c) ∈ news) (hfit : us.length ≤ 1000000)
    (h : Q (.int (us.length : Int) (s.toks + 1)) { s with toks := s.toks + 1 + 1 }) : wpAny (model prog w) A (call (.builtin "len") [.ref D]) Q E s :=
  kst_len N hm rfl (by omega) h
end

open LCg LCt
def SrcV (prog : Program) (w : World) (A : Around) (h₀ : Heap) (L : Addr) (m : Str → Option Value) (env : Env) (ct elt : Expr) (x : Str) (scope : Scope) (cl : List (Str × Addr)) (Fin : Shared → List Value → List (Addr × Obj) → Prop) (xv : Value) (s₁ : Shared) : Prop :=
  ∃ (v d c ep : Nat) (k : Str) (news : List (Addr × Obj)) (od : Obj), xv = .ref v ∧ A.handled = none ∧ Fr h₀ L s₁.heap m ∧ News h₀ L s₁.heap news ∧ s₁.heap.IsValuesView v d ∧ (d, od) ∈ news ∧
    (∀ h : Heap, h.get? d = some od → h.DictAt (strKind prog w) d [(k, Value.ref c)] ep) ∧
    ∀ g, CompRestT prog w A h₀ L m env ct elt x scope cl { s₁ with heap := g } (fun nw => (d, od) ∈ nw) (fun _ v => ∃ _ : Nat, v = .ref c) (Fin { s₁ with heap := g }) 1 0 [] news
section
variable {prog : Program} {w : World} {A : Around} {E : Value → Shared → Prop} {s : Shared} {h₀ : Heap} {L : Addr} {m : Str → Option Value} {env : Env}
theorem walks_weak {I d c ep : Nat} {k : Str} (W : Walks prog w A I [I, d] [I] [(k, Value.ref c)].length (fun i v => ∃ k', [(k, Value.ref c)][i]? = some (k', v)) (fun i h => h.IsValIter I d i [(k, Value.ref c)].length ep ∧ h.DictAt (strKind prog w) d [(k, Value.ref c)] ep)) :
    Walks prog w A I [I, d] [I] 1 (fun _ v => ∃ _ : Nat, v = .ref c) (fun i h => h.IsValIter I d i 1 ep ∧ h.DictAt (strKind prog w) d [(k, Value.ref c)] ep) where
  sub := W.sub
  frame := W.frame
  item := fun i s Q E hi st hQ => W.item i s Q E hi st fun v h' tk hP => hQ v h' tk (by
    obtain ⟨k', e⟩ := hP
    have hi0 : i = 0 := by omega
    subst hi0
    simp at e
    exact ⟨0, e.2.symm⟩)
  done := W.done
  self := W.self
theorem ListComp_V {ct elt iter : Expr} {x : Str} {px : Pos} {scope : Scope} {cl : List (Str × Addr)} {pos : Pos} {Q : Value → Shared → Prop} (F₀ : Fr h₀ L s.heap m)
    (hclos : closureFor scope env = pure cl) (hcell : ∀ y ∈ scope.names, y.2 ≠ .cell) (hkind : scope.kind = .function)
    (hnames : ∀ y ∈ scope.names, y.2 = .local → scope.names.lookup y.1 = some .local) (hx : scope.names.lookup x = some .local)
    (h : wpAny (model prog w) A (eval iter env) (SrcV prog w A h₀ L m env ct elt x scope cl (fun s₂ => FinE h₀ L m s₂ Q)) E s)
    (hs : ∀ x, foldedSetIterable iter env x = pure x := by intro _; rfl) :
    wpAny (model prog w) A (eval (.ListComp elt [⟨.Name x px, iter, [ct], 0⟩] scope pos) env) Q E s := by
  rw [eval_ListComp]
  refine wpAny_comprehension_free (use := none) rfl hs hclos hkind hnames (wpAny_mono h (fun xv s₁ h₁ => ?_) fun _ _ e => e)
  obtain ⟨v, d, c, ep, k, news, od, rfl, hh, F, N, hv, hd, hD, R⟩ := h₁
  have hDat := hD _ (N _ hd).1
  have hlt : d < s₁.heap.objs.size := Heap.lt_size (N _ hd).1
  refine wpAny_pyIter_values hv hDat ?_
  have up : ∀ b o, s₁.heap.get? b = some o → (s₁.heap.push { cls := .type "dict_valueiterator", data := .fields #[.ref d, .int 0 0, .int ([(k, Value.ref c)].length) 0, .int ep 0] }).get? b = some o := fun b o e => Heap.get?_push_of_some _ e
  refine block_T (walks_weak (Walks.dictValues hh s₁.heap.objs.size d (Nat.ne_of_lt hlt) [(k, Value.ref c)] ep)) (by rw [sizeLine_eq]; omega) (fun i h st => by obtain ⟨o, e, _⟩ := st.1; exact ⟨o, e⟩)
    (fun i h h' o nw st e e' kp N' S' => ⟨by obtain ⟨o', q, r⟩ := st.1; rw [e] at q; cases q; exact ⟨o, e', r⟩, hD _ (N' _ S').1⟩) hcell hkind hx ⟨⟨_, Heap.get?_push_size _ rfl, rfl, rfl⟩, hD _ (up _ _ (N _ hd).1)⟩ (fun b hb => ?_)
    (F.keeps up) (N.grown up) (Nat.ne_of_lt F.ns.lt) (next_is_new F) (fun p hp => Nat.ne_of_lt (Heap.lt_size (N p hp).1)) hd (R _) ?_
  · show b < (s₁.heap.push _).objs.size
    rw [Heap.size_push]
    rcases List.mem_cons.mp hb with rfl | hb
    · exact Nat.lt_succ_self _
    · rw [List.mem_singleton.mp hb]; exact Nat.lt_succ_of_lt hlt
  · intro D C h tk m' ys news' F' N' o1 hn hC₀ hD₀ hCL hDL hCD offC fin
    refine ⟨m', hn, fun h'' hs'' => fin D h'' tk (F'.change hs'' hCL hC₀) (fun p hp => ?_) o1⟩
    refine ⟨hs''.extBut _ _ ?_ (N' p hp).1, (N' p hp).2⟩
    rcases List.mem_cons.mp hp with rfl | hp
    · exact Ne.symm hCD
    · exact offC p hp
theorem lw_values {d : Addr} {od : Obj} {kvs : List (Str × Value)} {news : List (Addr × Obj)} {Q : Value → Shared → Prop} (F : Fr h₀ L s.heap m) (N : News h₀ L s.heap news) (hm : (d, od) ∈ news) (hd : Obj.IsDictOf (strKind prog w) od kvs) (lo : (d == sysModules) = false)
    (h : ∀ v h' o, h'.IsValuesView v d → Fr h₀ L h' m → News h₀ L h' ((v, o) :: news) → (∀ p ∈ news, p.1 < v) → Q (.ref v) { s with heap := h' }) : wpAny (model prog w) A (call (.builtin "dict.values") [.ref d]) Q E s :=
  have D : s.heap.DictOf (strKind prog w) d kvs := Heap.dictOf_iff.mpr ⟨od, (N _ hm).1, hd⟩
  call_meetsIn PySem.F.slot_dict_values D.typeIs PySem.F.entry_dict_values (PySem.F.args_dict_values_1 _) (meets_dict_values (strKind prog w) d lo)
    ⟨⟨kvs, D⟩, h _ _ _ ⟨_, Heap.get?_push_size _ rfl, rfl, rfl⟩ (F.push _) (News.push F N _) fun p hp => Heap.lt_size (N p hp).1⟩
theorem lw_dictMethod {d : Addr} {od : Obj} {kvs : List (Str × Value)} {news : List (Addr × Obj)} {name : Str} {id : String} {pl : Sem Bool} {Q : Value × List Value → Shared → Prop} (N : News h₀ L s.heap news) (hm : (d, od) ∈ news) (hd : Obj.IsDictOf (strKind prog w) od kvs)
    (slot : Slot "dict" name id) (hty : typeOf (.builtin id) = pure (.type "method_descriptor")) (h : Q (.builtin id, [.ref d]) s) : wpAny (model prog w) A (getMethod (.ref d) name pl) Q E s :=
  kdl_method slot hty N hm hd h
theorem SrcV.intro {ct elt : Expr} {x : Str} {scope : Scope} {cl : List (Str × Addr)} {Fin : Shared → List Value → List (Addr × Obj) → Prop} {v d c : Addr} {k : Str} {od : Obj} {news : List (Addr × Obj)} (hh : A.handled = none) (F : Fr h₀ L s.heap m) (N : News h₀ L s.heap news) (hv : s.heap.IsValuesView v d) (hm : (d, od) ∈ news)
    (hd : Obj.IsDictOf (strKind prog w) od [(k, Value.ref c)])
    (R : ∀ g, CompRestT prog w A h₀ L m env ct elt x scope cl { s with heap := g } (fun nw => (d, od) ∈ nw) (fun _ v => ∃ _ : Nat, v = .ref c) (Fin { s with heap := g }) 1 0 [] news) : SrcV prog w A h₀ L m env ct elt x scope cl Fin (.ref v) s := by
  obtain ⟨es, ep, h1, h2, h3, h4, h5⟩ := hd
  exact ⟨v, d, c, ep, k, news, od, rfl, hh, F, N, hv, hm, fun h e => ⟨od, es, e, h1, h2, h3, h4, h5⟩, R⟩
end


/-- the law's two lists: what is made, and the size told of each -/
inductive Made (w : World) (news : List (Addr × Obj)) : List Value → List Value → Prop
  | nil : Made w news [] []
  | snoc {vs us : List Value} {a : Addr} {n : Nat} {t : Tok} : Made w news vs us → NodeIn w news (.ref a) n → n ≤ 4 ^ vs.length → Made w news (vs ++ [.ref a]) (us ++ [.int n t])
theorem Made.len {w : World} {news : List (Addr × Obj)} {vs us : List Value} (h : Made w news vs us) : us.length = vs.length := by
  induction h with
  | nil => rfl
  | snoc _ _ _ ih => rw [List.length_append, List.length_append, ih]; rfl
theorem Made.mono {w : World} {news news' : List (Addr × Obj)} {vs us : List Value} (h : Made w news vs us) (hs : ∀ p ∈ news, p ∈ news') : Made w news' vs us := by
  induction h with
  | nil => exact .nil
  | snoc _ hn hb ih => exact .snoc ih (hn.mono hs) hb
theorem Made.get {w : World} {news : List (Addr × Obj)} {vs us : List Value} (h : Made w news vs us) : ∀ {k : Nat}, k < vs.length → ∃ a n t, vs[k]? = some (.ref a) ∧ us[k]? = some (.int ((n : Nat) : Int) t) ∧ NodeIn w news (.ref a) n ∧ n ≤ 4 ^ k := by
  induction h with
  | nil => intro k hk; exact absurd hk (Nat.not_lt_zero _)
  | @snoc vs us a n t hm hn hb ih =>
    intro k hk
    rw [List.length_append] at hk
    have hk' : k < vs.length + 1 := hk
    by_cases hl : k < vs.length
    · obtain ⟨a', n', t', e1, e2, e3, e4⟩ := ih hl
      refine ⟨a', n', t', ?_, ?_, e3, e4⟩
      · rw [List.getElem?_append_left hl]; exact e1
      · rw [List.getElem?_append_left (by rw [hm.len]; exact hl)]; exact e2
    · have e : k = vs.length := by omega
      subst e
      refine ⟨a, n, t, ?_, ?_, hn, hb⟩
      · simp
      · have := hm.len; rw [← this]; simp
/-- what the two readings at one place say together -/
theorem Made.both {w : World} {news : List (Addr × Obj)} {vs us : List Value} (h : Made w news vs us) {k : Nat} {a : Addr} {z : Int} {t : Tok} (e1 : vs[k]? = some (.ref a)) (e2 : us[k]? = some (.int z t)) : ∃ n : Nat, z = (n : Int) ∧ NodeIn w news (.ref a) n ∧ n ≤ 4 ^ k := by
  have hk : k < vs.length := by
    by_cases hk : k < vs.length
    · exact hk
    · rw [List.getElem?_eq_none (by omega)] at e1; cases e1
  obtain ⟨a', n', t', f1, f2, f3, f4⟩ := h.get hk
  rw [e1] at f1; rw [e2] at f2
  injection f1 with f1
  injection f1 with f1
  injection f2 with f2
  injection f2 with f2 _
  subst f1; subst f2
  exact ⟨n', rfl, f3, f4⟩
section
variable {prog : Program} {w : World} {A : Around} {E : Value → Shared → Prop} {s : Shared} {h₀ : Heap} {L D : Addr} {m : Str → Option Value} {news : List (Addr × Obj)} {c : Nat}
theorem lw_getItem {value slice : PySem.Expr} {vs : List Value} {k : Int} {u : Tok} {v : Value} {Q : Value → Shared → Prop} (N : News h₀ L s.heap news) (hm : (D, W.listOf vs.toArray c) ∈ news) (h0 : 0 ≤ k) (hhi : k < 2 ^ 63) (hx : vs[k.toNat]? = some v) (h : Q v s)
    (hs : subscripted slice false (.ref D) (.int k u) = operate [.ref D, .int k u] (getItem (.ref D) (.int k u)) := by with_unfolding_all rfl) :
    wpAny (model prog w) A (subscriptTail value slice (.ref D) (.int k u)) Q E s :=
  have hL : s.heap.IsList D vs.toArray := ⟨_, (N _ hm).1, rfl, c, rfl⟩
  tail_any hL.typeIs slot_list_getitem.lookup (wpAny_getItem_list hL h0 hhi (by simpa using hx) h) hs
theorem lw_getRef {value slice : PySem.Expr} {w₂ : World} {tr : List (Addr × Obj)} {vs us : List Value} {k : Int} {u : Tok} {Q : Value → Shared → Prop} (hM : Made w₂ tr vs us) (N : News h₀ L s.heap news) (hm : (D, W.listOf vs.toArray c) ∈ news) (h0 : 0 ≤ k) (h1 : k < (vs.length : Int)) (h2 : vs.length ≤ 1000) (h : ∀ a, vs[k.toNat]? = some (.ref a) → Q (.ref a) s)
    (hs : subscripted slice false (.ref D) (.int k u) = operate [.ref D, .int k u] (getItem (.ref D) (.int k u)) := by with_unfolding_all rfl) :
    wpAny (model prog w) A (subscriptTail value slice (.ref D) (.int k u)) Q E s := by
  obtain ⟨a, n, t, e1, e2, e3, e4⟩ := hM.get (k := k.toNat) (by omega)
  exact lw_getItem N hm h0 (by omega) e1 (h a e1) hs
theorem lw_getInt {value slice : PySem.Expr} {w₂ : World} {tr : List (Addr × Obj)} {vs us : List Value} {k : Int} {u : Tok} {Q : Value → Shared → Prop} (hM : Made w₂ tr vs us) (N : News h₀ L s.heap news) (hm : (D, W.listOf us.toArray c) ∈ news) (h0 : 0 ≤ k) (h1 : k < (vs.length : Int)) (h2 : vs.length ≤ 1000) (h : ∀ z t, us[k.toNat]? = some (.int z t) → Q (.int z t) s)
    (hs : subscripted slice false (.ref D) (.int k u) = operate [.ref D, .int k u] (getItem (.ref D) (.int k u)) := by with_unfolding_all rfl) :
    wpAny (model prog w) A (subscriptTail value slice (.ref D) (.int k u)) Q E s := by
  obtain ⟨a, n, t, e1, e2, e3, e4⟩ := hM.get (k := k.toNat) (by omega)
  exact lw_getItem N hm h0 (by omega) e2 (h _ t e2) hs
/-- an item of a list of ints, at a place in bounds -/
theorem lw_getCell {value slice : PySem.Expr} {vs : List Value} {ns : List Int} {k : Int} {u : Tok} {Q : Value → Shared → Prop} (hI : IntsAre vs ns) (N : News h₀ L s.heap news) (hm : (D, W.listOf vs.toArray c) ∈ news) (h0 : 0 ≤ k) (h1 : k < (ns.length : Int)) (h2 : ns.length ≤ 1000) (h : ∀ t, Q (.int (ns.getD k.toNat 0) t) s)
    (hs : subscripted slice false (.ref D) (.int k u) = operate [.ref D, .int k u] (getItem (.ref D) (.int k u)) := by with_unfolding_all rfl) :
    wpAny (model prog w) A (subscriptTail value slice (.ref D) (.int k u)) Q E s := by
  have hk : k.toNat < ns.length := by omega
  obtain ⟨t, hx⟩ := hI.get k.toNat ns[k.toNat] (by simp [hk])
  have e : ns.getD k.toNat 0 = ns[k.toNat] := by simp [hk]
  exact lw_getItem N hm h0 (by omega) hx (by rw [← e]; exact h t) hs
end
/-- the building loop: what holds ahead of its turn i -/
inductive LawJ (w : World) (mA sA cA : Addr) (ws : List Value) (m₀ : Str → Option Value) (i : Nat) (m : Str → Option Value) : List (Addr × Obj) → Prop
  | mk (vs us : List Value) (ep ep' : Nat) (tr : List (Addr × Obj)) (hM : Made w tr vs us) (hvl : vs.length = i + 1) (o1 : ∀ p ∈ tr, p.1 ≠ mA) (o2 : ∀ p ∈ tr, p.1 ≠ sA) (o3 : ∀ p ∈ tr, p.1 ≠ cA)
      (hm : ∀ z, [Str.ofString "step", Str.ofString "cell", Str.ofString "first", Str.ofString "second", Str.ofString "kind"].contains z = false → m z = m₀ z) :
      LawJ w mA sA cA ws m₀ i m ((mA, W.listOf vs.toArray ep) :: (sA, W.listOf us.toArray ep') :: (cA, W.listOf ws.toArray 0) :: tr)
theorem up4 {a b c d x : Addr} {l : List (Addr × Obj)} (h : @LT.lt Nat _ d x) (q : @LT.lt Nat _ a d ∧ @LT.lt Nat _ b d ∧ @LT.lt Nat _ c d ∧ AllLt d l) : @LT.lt Nat _ a x ∧ @LT.lt Nat _ b x ∧ @LT.lt Nat _ c x ∧ AllLt x l :=
  ⟨Nat.lt_trans q.1 h, Nat.lt_trans q.2.1 h, Nat.lt_trans q.2.2.1 h, tbn_up h q.2.2.2⟩
theorem stored_eq {stored : List Str} {m₀ m₁ : Str → Option Value} (hm : ∀ z, stored.contains z = false → m₁ z = m₀ z) : m₁ = fun z => if stored.contains z then m₁ z else m₀ z := by
  funext z
  cases h : stored.contains z with
  | true => simp
  | false => simp only [Bool.false_eq_true, if_false]; exact hm z h
theorem getD_mem {cs : List Int} (h : ∀ c ∈ cs, 0 ≤ c) (k : Nat) : 0 ≤ cs.getD k 0 := by
  by_cases hk : k < cs.length
  · have e : cs.getD k 0 = cs[k] := by simp [hk]
    rw [e]; exact h _ (List.getElem_mem hk)
  · have e : cs.getD k 0 = 0 := by simp [Nat.not_lt.mp hk]
    rw [e]; exact Int.le_refl 0
theorem fmod_nat {a : Int} (h : 0 ≤ a) (b : Int) (hb : 0 < b) : 0 ≤ Int.fmod a b ∧ Int.fmod a b < b := ⟨Int.fmod_nonneg_of_pos a hb, Int.fmod_lt_of_pos a hb⟩
theorem law_start {w : World} {h₀ h : Heap} {L sA mA x dx cA li : Addr} {t t1 t2 t3 t4 t5 t6 : Tok} {rest : List (Addr × Obj)} {ws : List Value} {cs : List Int} {m₀ : Str → Option Value} (_F : Fr h₀ L h m₀) (_hI : IntsAre ws cs)
    (N : News h₀ L h ((sA, W.listOf #[.int 1 t] 0) :: (mA, W.listOf #[.ref x] 0) :: (x, instObj 297 dx) :: (dx, dictOf [⟨PyData.keyHash w.params (Str.ofString "kind"), .str (Str.ofString "kind") t1, .str (Str.ofString "double") t2⟩, ⟨PyData.keyHash w.params (Str.ofString "items"), .str (Str.ofString "items") t3, .ref li⟩,
        ⟨PyData.keyHash w.params (Str.ofString "attrs"), .str (Str.ofString "attrs") t4, .none⟩, ⟨PyData.keyHash w.params (Str.ofString "shared"), .str (Str.ofString "shared") t5, .bool false⟩, ⟨PyData.keyHash w.params (Str.ofString "loose"), .str (Str.ofString "loose") t6, .bool false⟩] 5) :: rest))
    (hc : (cA, W.listOf ws.toArray 0) ∈ rest) (h1 : @Ne Nat x mA ∧ @Ne Nat x sA ∧ @Ne Nat x cA) (h2 : @Ne Nat dx mA ∧ @Ne Nat dx sA ∧ @Ne Nat dx cA) : ∃ nx, News h₀ L h nx ∧ LawJ w mA sA cA ws m₀ 0 m₀ nx := by
  have hn : ∀ tr, (x, instObj 297 dx) ∈ tr → _ ∈ tr → NodeIn w tr (.ref x) 1 := fun tr a b => NodeIn.dbl (li := li) (t1 := t1) (t2 := t2) (t3 := t3) (t4 := t4) (t5 := t5) (t6 := t6) a b
  generalize dictOf _ 5 = od at N hn
  refine ⟨(mA, W.listOf #[.ref x] 0) :: (sA, W.listOf #[.int 1 t] 0) :: (cA, W.listOf ws.toArray 0) :: [(x, instObj 297 dx), (dx, od)], fun p hp => N p ?_, .mk [.ref x] [.int 1 t] 0 0 _ ?_ rfl ?_ ?_ ?_ fun _ _ => rfl⟩
  · rcases List.mem_cons.mp hp with rfl | hp
    · exact .tail _ (.head _)
    · rcases List.mem_cons.mp hp with rfl | hp
      · exact .head _
      · rcases List.mem_cons.mp hp with rfl | hp
        · exact .tail _ (.tail _ (.tail _ (.tail _ hc)))
        · rcases List.mem_cons.mp hp with rfl | hp
          · exact .tail _ (.tail _ (.head _))
          · rw [List.mem_singleton.mp hp]; exact .tail _ (.tail _ (.tail _ (.head _)))
  · exact Made.snoc (vs := []) (us := []) .nil (hn _ (.head _) (.tail _ (.head _))) (Nat.le_refl 1)
  · intro p hp
    rcases List.mem_cons.mp hp with rfl | hp
    · exact h1.1
    · rw [List.mem_singleton.mp hp]; exact h2.1
  · intro p hp
    rcases List.mem_cons.mp hp with rfl | hp
    · exact h1.2.1
    · rw [List.mem_singleton.mp hp]; exact h2.2.1
  · intro p hp
    rcases List.mem_cons.mp hp with rfl | hp
    · exact h1.2.2
    · rw [List.mem_singleton.mp hp]; exact h2.2.2
theorem range_at {n i : Nat} {k : Int} (h : (rangeKs 0 n)[i]? = some k) : k = (i : Int) ∧ i < n := by
  have hl : i < (rangeKs 0 n).length := by
    by_cases hl : i < (rangeKs 0 n).length
    · exact hl
    · rw [List.getElem?_eq_none (by omega)] at h; cases h
  rw [rangeKs_length] at hl
  simp [rangeKs, hl] at h
  exact ⟨by omega, hl⟩
theorem off_two {own : List (Addr × Obj)} {p q : Addr × Obj} {r : List (Addr × Obj)} (h : TbOff own (p :: q :: r)) : (∀ o ∈ own, o.1 ≠ p.1) ∧ (∀ o ∈ own, o.1 ≠ q.1) := ⟨fun o ho => h o ho p (.head _), fun o ho => h o ho q (.tail _ (.head _))⟩
theorem grow_bound {n1 n2 k1 k2 l : Nat} (h1 : n1 ≤ 4 ^ k1) (h2 : n2 ≤ 4 ^ k2) (e1 : k1 < l) (e2 : k2 < l) : 2 + n1 + n2 ≤ 4 ^ l := by
  obtain ⟨j, rfl⟩ : ∃ j, l = j + 1 := ⟨l - 1, by omega⟩
  have p1 : 4 ^ k1 ≤ 4 ^ j := Nat.pow_le_pow_right (by decide) (by omega)
  have p2 : 4 ^ k2 ≤ 4 ^ j := Nat.pow_le_pow_right (by decide) (by omega)
  have p3 : 0 < 4 ^ j := Nat.pow_pos (by decide)
  rw [Nat.pow_succ]
  omega
theorem law_end {w : World} {h₀ h' : Heap} {L mA sA cA a : Addr} {ws vs us : List Value} {m₀ m' : Str → Option Value} {i ep ep' n tk : Nat} {z : Int} {t : Tok} {own tr : List (Addr × Obj)} {s₁ : Shared} (add : List (Addr × Obj))
    (F : Fr h₀ L h' m') (N : News h₀ L h' (add ++ ((mA, W.listOf (vs ++ [Value.ref a]).toArray (ep + 1)) :: (sA, W.listOf (us ++ [Value.int z t]).toArray (ep' + 1)) :: (cA, W.listOf ws.toArray 0) :: (tr ++ own))))
    (hM : Made w tr vs us) (hvl : vs.length = i + 1) (ho1 : ∀ p ∈ tr, p.1 ≠ mA) (ho2 : ∀ p ∈ tr, p.1 ≠ sA) (ho3 : ∀ p ∈ tr, p.1 ≠ cA)
    (hoff : TbOff own ((mA, W.listOf vs.toArray ep) :: (sA, W.listOf us.toArray ep') :: (cA, W.listOf ws.toArray 0) :: tr))
    (hadd : ∀ p ∈ add, @LT.lt Nat _ mA p.1 ∧ @LT.lt Nat _ sA p.1 ∧ @LT.lt Nat _ cA p.1 ∧ AllLt p.1 (tr ++ own))
    (hz : z = ((n : Nat) : Int)) (hn : NodeIn w (add ++ tr) (.ref a) n) (hb : n ≤ 4 ^ vs.length)
    (hm : ∀ z, [Str.ofString "step", Str.ofString "cell", Str.ofString "first", Str.ofString "second", Str.ofString "kind"].contains z = false → m' z = m₀ z) :
    TbEnd h₀ L (LawJ w mA sA cA ws m₀ (i + 1)) own s₁ { s₁ with heap := h', toks := tk } := by
  subst hz
  have sub : ∀ p ∈ (mA, W.listOf (vs ++ [Value.ref a]).toArray (ep + 1)) :: (sA, W.listOf (us ++ [Value.int n t]).toArray (ep' + 1)) :: (cA, W.listOf ws.toArray 0) :: (add ++ tr), p ∈ (add ++ ((mA, W.listOf (vs ++ [Value.ref a]).toArray (ep + 1)) :: (sA, W.listOf (us ++ [Value.int n t]).toArray (ep' + 1)) :: (cA, W.listOf ws.toArray 0) :: (tr ++ own))) := by
    intro p hp
    simp only [List.mem_cons, List.mem_append] at hp ⊢
    rcases hp with hp | hp | hp | hp | hp
    · exact .inr (.inl hp)
    · exact .inr (.inr (.inl hp))
    · exact .inr (.inr (.inr (.inl hp)))
    · exact .inl hp
    · exact .inr (.inr (.inr (.inr (.inl hp))))
  refine ⟨h', tk, m', _, (mA, W.listOf (vs ++ [Value.ref a]).toArray (ep + 1)) :: (sA, W.listOf (us ++ [Value.int n t]).toArray (ep' + 1)) :: (cA, W.listOf ws.toArray 0) :: (add ++ tr), rfl, F, N, sub, fun p hp => ?_, ?_, .mk (vs ++ [Value.ref a]) (us ++ [Value.int n t]) (ep + 1) (ep' + 1) (add ++ tr) ?_ ?_ ?_ ?_ ?_ hm⟩
  · simp only [List.mem_cons, List.mem_append]
    exact .inr (.inr (.inr (.inr (.inr hp))))
  · intro p hp q hq
    rcases List.mem_cons.mp hq with rfl | hq
    · exact hoff p hp (mA, W.listOf vs.toArray ep) (.head _)
    rcases List.mem_cons.mp hq with rfl | hq
    · exact hoff p hp (sA, W.listOf us.toArray ep') (.tail _ (.head _))
    rcases List.mem_cons.mp hq with rfl | hq
    · exact hoff p hp (cA, W.listOf ws.toArray 0) (.tail _ (.tail _ (.head _)))
    rcases List.mem_append.mp hq with hq | hq
    · exact Nat.ne_of_lt (tb_ltOf (hadd q hq).2.2.2 p (List.mem_append_right _ hp))
    · exact hoff p hp q (.tail _ (.tail _ (.tail _ hq)))
  · exact .snoc (hM.mono fun p hp => List.mem_append_right _ hp) hn hb
  · rw [List.length_append, hvl]; rfl
  · intro p hp
    rcases List.mem_append.mp hp with hp | hp
    · exact Ne.symm (Nat.ne_of_lt (hadd p hp).1)
    · exact ho1 p hp
  · intro p hp
    rcases List.mem_append.mp hp with hp | hp
    · exact Ne.symm (Nat.ne_of_lt (hadd p hp).2.1)
    · exact ho2 p hp
  · intro p hp
    rcases List.mem_append.mp hp with hp | hp
    · exact Ne.symm (Nat.ne_of_lt (hadd p hp).2.2.1)
    · exact ho3 p hp
/-- the frame behind a turn: only the loop's own names are turned -/
theorem law_same {m m₀ m₁ : Str → Option Value} {v1 v2 v3 v4 v5 : Value} (hm : ∀ z, [Str.ofString "step", Str.ofString "cell", Str.ofString "first", Str.ofString "second", Str.ofString "kind"].contains z = false → m z = m₀ z)
    (e : m₁ = fun y => if y = Str.ofString "kind" then some v1 else if y = Str.ofString "second" then some v2 else if y = Str.ofString "first" then some v3 else if y = Str.ofString "cell" then some v4 else if y = Str.ofString "step" then some v5 else if [Str.ofString "step", Str.ofString "cell", Str.ofString "first", Str.ofString "second", Str.ofString "kind"].contains y = true then m y else m₀ y) :
    ∀ z, [Str.ofString "step", Str.ofString "cell", Str.ofString "first", Str.ofString "second", Str.ofString "kind"].contains z = false → m₁ z = m₀ z := by
  intro z hz
  have no : ∀ y, [Str.ofString "step", Str.ofString "cell", Str.ofString "first", Str.ofString "second", Str.ofString "kind"].contains y = true → z ≠ y := by
    rintro y hy rfl; rw [hy] at hz; cases hz
  rw [e]
  show (if z = _ then _ else if z = _ then _ else if z = _ then _ else if z = _ then _ else if z = _ then _ else if _ then _ else _) = _
  rw [if_neg (no _ (by decide)), if_neg (no _ (by decide)), if_neg (no _ (by decide)), if_neg (no _ (by decide)), if_neg (no _ (by decide)), hz]
  rfl
theorem made_small {w : World} {tr : List (Addr × Obj)} {vs us : List Value} {i : Nat} {c : Int} (hM : Made w tr vs us) (hvl : vs.length = i + 1) (hi : i < (Int.fmod c 9).toNat) (h9 : 0 ≤ Int.fmod c 9 ∧ Int.fmod c 9 < 9) : vs.length ≤ 9 ∧ us.length ≤ 9 := by
  have := hM.len
  omega
theorem made_pos {vs : List Value} {i : Nat} (hvl : vs.length = i + 1) : (0 : Int) < (vs.length : Int) := by omega

theorem range_small (b : Int) (n : Nat) (e : b = (n : Int)) (h : n ≤ 1000000) : Builtin.Range.small 0 b 1 = true := small_one (by omega) (by omega) (by omega) (by omega)
theorem range_size (b : Int) (n : Nat) (e : b = (n : Int)) : Builtin.Range.rangeSize 0 b 1 = (n : Int) := by
  subst e
  rw [rangeSize_one]
  split <;> omega
section
variable {prog : Program} {w : World} {A : Around} {E : Value → Shared → Prop} {s : Shared} {env : Env} {h₀ : Heap} {x : Str} {body : List Stmt} {Q : Flow → Shared → Prop}
/-- a loop over a range whose turns leave the ledger as it is and store the names told alone -/
theorem loop_keep {r : Addr} {b : Int} {t₀ u₀ v₀ : Tok} {m₀ : Str → Option Value} {news : List (Addr × Obj)} (n : Nat) (stored : List Str) (hh : A.handled = none) (hr : IsRange s.heap r 0 b 1 t₀ u₀ v₀) (hb : b = (n : Int)) (hn : n ≤ 1000000)
    (F : Fr h₀ env.locals s.heap m₀) (N : News h₀ env.locals s.heap news)
    (turn : ∀ (i : Nat) t (u : Str → Option Value) h tk own, i < n → TbOff own news → Fr h₀ env.locals h (fun y => if y = x then some (.int (i : Int) t) else if stored.contains y = true then u y else m₀ y) → News h₀ env.locals h (news ++ own) →
      wpAny (model prog w) A (execs body env) (TbPost h₀ env.locals (fun m nx => nx = news ∧ ∀ z, stored.contains z = false → m z = m₀ z) own { s with heap := h, toks := tk } Q) E { s with heap := h, toks := tk })
    (done : ∀ (u : Str → Option Value) h tk, Fr h₀ env.locals h (fun y => if stored.contains y = true then u y else m₀ y) → News h₀ env.locals h news → Q .next { s with heap := h, toks := tk }) :
    wpAny (model prog w) A (pyIter (.ref r)) (fun it s₂ => LoopAtV prog w A h₀ env x body Q E it s₂) E s := by
  refine tbr_invG (n := n) (fun _ m nx => nx = news ∧ ∀ z, stored.contains z = false → m z = m₀ z) hh hr (range_small b n hb hn) (range_size b n hb) F N ⟨rfl, fun _ _ => rfl⟩ ?_ ?_
  · rintro i k t m₁ nx h tk own hk hoff ⟨rfl, hm⟩ F₁ N₁
    obtain ⟨rfl, hi⟩ := range_at hk
    rw [stored_eq hm] at F₁
    exact turn i t m₁ h tk own hi hoff F₁ N₁
  · rintro m₁ nx h tk ⟨rfl, hm⟩ F₁ N₁
    rw [stored_eq hm] at F₁
    exact done m₁ h tk F₁ N₁
theorem loop_keep_end {stored : List Str} {m₀ m' : Str → Option Value} {own news all : List (Addr × Obj)} {L : Addr} {h' : Heap} {tk : Nat} {s₁ : Shared} (F : Fr h₀ L h' m') (N : News h₀ L h' all) (h1 : ∀ p ∈ news, p ∈ all) (h2 : ∀ p ∈ own, p ∈ all) (hoff : TbOff own news) (hm : ∀ z, stored.contains z = false → m' z = m₀ z) :
    TbEnd h₀ L (fun m nx => nx = news ∧ ∀ z, stored.contains z = false → m z = m₀ z) own s₁ { s₁ with heap := h', toks := tk } := ⟨h', tk, m', all, news, rfl, F, N, h1, h2, hoff, rfl, hm⟩
/-- a loop over a list of ints of the ledger's whose turns leave the ledger as it is and store the names told alone -/
theorem loop_keepL {l : Addr} {vs : List Value} {ns : List Int} {nn : Nat} {m₀ : Str → Option Value} {news : List (Addr × Obj)} (stored : List Str) (hh : A.handled = none) (hl : (l, W.listOf vs.toArray nn) ∈ news) (hi : IntsAre vs ns)
    (F : Fr h₀ env.locals s.heap m₀) (N : News h₀ env.locals s.heap news)
    (turn : ∀ (k : Int) t (u : Str → Option Value) h tk own, k ∈ ns → OwnOff own (news.map (·.1)) → Fr h₀ env.locals h (fun y => if y = x then some (.int k t) else if stored.contains y = true then u y else m₀ y) → News h₀ env.locals h (news ++ own) →
      wpAny (model prog w) A (execs body env) (InvPostN h₀ env.locals (fun m nx => (l, W.listOf vs.toArray nn) ∈ nx ∧ nx = news ∧ ∀ z, stored.contains z = false → m z = m₀ z) own (news.map (·.1)) { s with heap := h, toks := tk } Q) E { s with heap := h, toks := tk })
    (done : ∀ (u : Str → Option Value) h tk, Fr h₀ env.locals h (fun y => if stored.contains y = true then u y else m₀ y) → News h₀ env.locals h news → Q .next { s with heap := h, toks := tk }) :
    wpAny (model prog w) A (pyIter (.ref l)) (fun it s₂ => LoopAtV prog w A h₀ env x body Q E it s₂) E s := by
  refine iter_invNL (fun _ m nx => nx = news ∧ ∀ z, stored.contains z = false → m z = m₀ z) hh hl hi F N ⟨rfl, fun _ _ => rfl⟩ ?_ ?_
  · rintro i n t m₁ nx h tk own hn _ hoff _ ⟨rfl, hm⟩ F₁ N₁
    rw [stored_eq hm] at F₁
    exact turn n t m₁ h tk own (List.mem_of_getElem? hn) hoff F₁ N₁
  · rintro m₁ nx h tk _ ⟨rfl, hm⟩ F₁ N₁
    rw [stored_eq hm] at F₁
    exact done m₁ h tk F₁ N₁
theorem loop_keepL_end {l : Addr} {o : Obj} {stored : List Str} {m₀ m' : Str → Option Value} {own news all : List (Addr × Obj)} {L : Addr} {h' : Heap} {tk : Nat} {s₁ : Shared} (hl : (l, o) ∈ news) (F : Fr h₀ L h' m') (N : News h₀ L h' all) (h1 : ∀ p ∈ news, p ∈ all) (h2 : ∀ p ∈ own, p ∈ all)
    (hm : ∀ z, stored.contains z = false → m' z = m₀ z) :
    InvEndN h₀ L (fun m nx => (l, o) ∈ nx ∧ nx = news ∧ ∀ z, stored.contains z = false → m z = m₀ z) own (news.map (·.1)) s₁ { s₁ with heap := h', toks := tk } := InvEndN.intro F N ⟨hl, rfl, hm⟩ rfl h1 h2
theorem same_one {stored : List Str} {x : Str} {v : Value} {u m₀ : Str → Option Value} (hx : stored.contains x = true) : ∀ z, stored.contains z = false → (if z = x then some v else if stored.contains z = true then u z else m₀ z) = m₀ z := by
  intro z hz
  have : z ≠ x := by rintro rfl; rw [hx] at hz; cases hz
  rw [if_neg this, hz]; rfl
theorem same_two {stored stored2 : List Str} {x : Str} {v : Value} {u u' m₀ : Str → Option Value} (hx : stored.contains x = true) (hs : stored2.all (fun y => stored.contains y) = true) :
    ∀ z, stored.contains z = false → (if stored2.contains z = true then u' z else if z = x then some v else if stored.contains z = true then u z else m₀ z) = m₀ z := by
  intro z hz
  have h2 : stored2.contains z = false := by
    cases h : stored2.contains z with
    | false => rfl
    | true =>
      have := List.all_eq_true.mp hs z (List.contains_iff_mem.mp h)
      rw [hz] at this; cases this
  rw [h2]
  exact same_one hx z hz
end
theorem min_ne (a b : Int) : ¬ ((min a b != if b < a then b else a) = true) := by
  have h : min a b = if b < a then b else a := by rw [Int.min_def]; split <;> split <;> omega
  rw [h]; simp
theorem nest_yes {x y : Int} (h : 0 ≤ x) (d : x.toNat ≤ 40) (e : x = y) : (true == decide (y ≤ 40)) = true := by
  subst e; rw [beq_iff_eq]; symm; exact decide_eq_true (by omega)
theorem nest_no {x y : Int} (h : 0 ≤ x) (d : ¬ (x.toNat ≤ 40 ∧ x.toNat ≤ 200)) (e : x = y) : (false == decide (y ≤ 40)) = true := by
  subst e; rw [beq_iff_eq]; symm; exact decide_eq_false (by omega)
theorem nest_val {x y : Int} (h : 0 ≤ x) (e : x = y) : ((3 : Int) - (x.toNat : Int) == 3 - y) = true := by
  subst e; rw [beq_iff_eq]; omega
theorem dbl_pow : ∀ n : Nat, n < 9 → ((2 ^ n - 1 ≤ 200) ↔ ((2 : Int) ^ n - 1 ≤ 200)) := by decide
theorem dbl_yes {x y : Int} (h : 0 ≤ x ∧ x < 9) (d : 2 ^ x.toNat - 1 ≤ 200) (e : x = y) : ¬ ((true != decide ((2 : Int) ^ y.toNat - 1 ≤ 200)) = true) := by
  subst e; rw [decide_eq_true ((dbl_pow _ (by omega)).mp d)]; decide
theorem dbl_no {x y : Int} (h : 0 ≤ x ∧ x < 9) (d : ¬ (x.toNat ≤ 40 ∧ 2 ^ x.toNat - 1 ≤ 200)) (e : x = y) : ¬ ((false != decide ((2 : Int) ^ y.toNat - 1 ≤ 200)) = true) := by
  subst e
  have hn : ¬ ((2 : Int) ^ x.toNat - 1 ≤ 200) := fun q => d ⟨by omega, (dbl_pow _ (by omega)).mpr q⟩
  rw [decide_eq_false hn]; decide
theorem dbl_same {x y : Int} (e : x = y) : ¬ ((!((2 : Int) ^ x.toNat == 2 ^ y.toNat)) = true) := by subst e; simp
theorem good_true {c : ClaimW} {cl : Str → Option Addr} {mean : ExcName → Option Value} {args : List WData} {s₁ s' : Shared} {b : Bool} (e : b = true) (h : GoodW c cl mean args s₁ (.ok (.ret (.bool true))) s') : GoodW c cl mean args s₁ (.ok (.ret (.bool b))) s' := e ▸ h
theorem law_true {cl : Str → Option Addr} {mean : ExcName → Option Value} {ws : List Int} {s₁ s' : Shared} {L : Addr} {m : Str → Option Value} (F : Fr s₁.heap L s'.heap m) (hg : s'.gens = #[]) (hos : s'.os = s₁.os) :
    GoodW PySem.Challenge.rw_qd0178_01.row.claim cl mean [ofPy (PyData.list (List.map PyData.int ws))] s₁ (.ok (.ret (.bool true))) s' :=
  goodW_bool F hg (raisesW_false (by wrow_none_raised)) (by wrow_post) hos

/-- a loop that builds a tree of calls over the one before -/
inductive BldJ (w : World) (cA : Addr) (ws : List Value) (op : Str) (f : Int → Int → Int) (nmv : Str) (V : Nat → Int) (C : Nat → Nat) (m₀ : Str → Option Value) (i : Nat) (m : Str → Option Value) : List (Addr × Obj) → Prop
  | mk (x : Addr) (tr : List (Addr × Obj)) (hE : ExprIn w tr op f x (V i) (C i) i) (hv : m nmv = some (.ref x)) (hm : ∀ z, [Str.ofString "step", nmv].contains z = false → m z = m₀ z) : BldJ w cA ws op f nmv V C m₀ i m ((cA, W.listOf ws.toArray 0) :: tr)
theorem bld_frame {nmv : Str} {x : Addr} {m₀ m₁ : Str → Option Value} (hv : m₁ nmv = some (.ref x)) (hm : ∀ z, [Str.ofString "step", nmv].contains z = false → m₁ z = m₀ z) :
    m₁ = fun z => if z = nmv then some (.ref x) else if z = Str.ofString "step" then m₁ z else m₀ z := by
  funext z
  by_cases h : z = nmv
  · subst h; simp only [if_true]; exact hv
  · rw [if_neg h]
    by_cases h2 : z = Str.ofString "step"
    · rw [if_pos h2]
    · rw [if_neg h2]
      refine hm z ?_
      simp [h, h2]
theorem bld_same {nmv : Str} {v1 v2 : Value} {v3 : Option Value} {m₀ u m' : Str → Option Value} (e : m' = fun y => if y = nmv then some v1 else if y = Str.ofString "step" then some v2 else if y = nmv then v3 else if y = Str.ofString "step" then u y else m₀ y) :
    ∀ z, [Str.ofString "step", nmv].contains z = false → m' z = m₀ z := by
  intro z hz
  have h : z ≠ nmv := by rintro rfl; simp at hz
  have h2 : z ≠ Str.ofString "step" := by rintro rfl; simp at hz
  rw [e]
  show (if z = nmv then _ else if z = Str.ofString "step" then _ else if z = nmv then _ else if z = Str.ofString "step" then _ else _) = _
  rw [if_neg h, if_neg h2, if_neg h, if_neg h2]
theorem bld_end {w : World} {h₀ h' : Heap} {L cA x' : Addr} {ws : List Value} {op nmv : Str} {f : Int → Int → Int} {V : Nat → Int} {C : Nat → Nat} {m₀ m' : Str → Option Value} {i tk : Nat} {own tr all : List (Addr × Obj)} {s₁ : Shared} (add : List (Addr × Obj))
    (F : Fr h₀ L h' m') (N : News h₀ L h' all) (hadd : ∀ p ∈ add, p ∈ all) (hrest : ∀ p ∈ (cA, W.listOf ws.toArray 0) :: (tr ++ own), p ∈ all)
    (hoff : TbOff own ((cA, W.listOf ws.toArray 0) :: tr)) (hoa : ∀ q ∈ own, ∀ p ∈ add, @Ne Nat q.1 p.1)
    (hE : ExprIn w (add ++ tr) op f x' (V (i + 1)) (C (i + 1)) (i + 1)) (hv : m' nmv = some (.ref x')) (hm : ∀ z, [Str.ofString "step", nmv].contains z = false → m' z = m₀ z) :
    TbEnd h₀ L (BldJ w cA ws op f nmv V C m₀ (i + 1)) own s₁ { s₁ with heap := h', toks := tk } := by
  refine ⟨h', tk, m', all, (cA, W.listOf ws.toArray 0) :: (add ++ tr), rfl, F, N, ?_, ?_, ?_, .mk x' (add ++ tr) hE hv hm⟩
  · intro p hp
    rcases List.mem_cons.mp hp with rfl | hp
    · exact hrest _ (.head _)
    rcases List.mem_append.mp hp with hp | hp
    · exact hadd p hp
    · exact hrest p (.tail _ (List.mem_append_left _ hp))
  · intro p hp
    exact hrest p (.tail _ (List.mem_append_right _ hp))
  · intro p hp q hq
    rcases List.mem_cons.mp hq with rfl | hq
    · exact hoff p hp _ (.head _)
    rcases List.mem_append.mp hq with hq | hq
    · exact hoa p hp q hq
    · exact hoff p hp q (.tail _ hq)
/-- a tree of sums doubled in itself -/
theorem dbl_step {w : World} {tr add : List (Addr × Obj)} {op : Str} {x x' dx li tg g dg : Addr} {e1 e2 i : Nat} (hi : i < 8) (h : CallAt w add x' dx li tg g dg x x e1 e2 op) (hE : ExprIn w tr op (· + ·) x ((2 : Int) ^ i) (2 ^ i - 1) i) :
    ExprIn w (add ++ tr) op (· + ·) x' ((2 : Int) ^ (i + 1)) (2 ^ (i + 1) - 1) (i + 1) := by
  have hE' := hE.mono (news' := add ++ tr) fun p hp => List.mem_append_right _ hp
  have h' := h.mono (news' := add ++ tr) fun p hp => List.mem_append_left _ hp
  have hp : (2 : Nat) ^ i ≤ 128 := Nat.le_trans (Nat.pow_le_pow_right (by decide) (by omega : i ≤ 7)) (by decide)
  have hq : 1 ≤ (2 : Nat) ^ i := Nat.pow_pos (by decide)
  have hz : (2 : Int) ^ i = ((2 ^ i : Nat) : Int) := by simp
  have hb := ExprIn.bin (f := (· + ·)) h' hE' hE' (by show -100000 ≤ (2 : Int) ^ i + (2 : Int) ^ i; omega) (by show (2 : Int) ^ i + (2 : Int) ^ i ≤ 100000; omega)
  have q1 : (2 : Int) ^ i + (2 : Int) ^ i = (2 : Int) ^ (i + 1) := by rw [Int.pow_succ]; omega
  have q2 : 2 ^ i - 1 + (2 ^ i - 1) + 1 = (2 : Nat) ^ (i + 1) - 1 := by rw [Nat.pow_succ]; omega
  have q3 : max i i + 1 = i + 1 := by omega
  have hb' : ExprIn w (add ++ tr) op (· + ·) x' ((2 : Int) ^ i + (2 : Int) ^ i) (2 ^ i - 1 + (2 ^ i - 1) + 1) (max i i + 1) := hb
  rw [q1, q2, q3] at hb'
  exact hb'
/-- a tree of differences: one more is taken -/
theorem nest_step {w : World} {tr add vec : List (Addr × Obj)} {op : Str} {x y x' dx li tg g dg dy ly ty : Addr} {sb : Bool} {e1 e2 e3 i : Nat} (hi : i < 45) (h : CallAt w add x' dx li tg g dg x y e1 e2 op) (hE : ExprIn w tr op (· - ·) x (3 - (i : Int)) i i) (hn : NumAt w vec y dy ly ty sb e3 1) :
    ExprIn w ((add ++ vec) ++ tr) op (· - ·) x' (3 - ((i + 1 : Nat) : Int)) (i + 1) (i + 1) := by
  have hE' := hE.mono (news' := (add ++ vec) ++ tr) fun p hp => List.mem_append_right _ hp
  have h' := h.mono (news' := (add ++ vec) ++ tr) fun p hp => List.mem_append_left _ (List.mem_append_left _ hp)
  have hn' := hn.mono (news' := (add ++ vec) ++ tr) fun p hp => List.mem_append_left _ (List.mem_append_right _ hp)
  have hb := ExprIn.bin (f := (· - ·)) h' hE' (ExprIn.num hn' (by decide) (by decide)) (by show -100000 ≤ (3 - (i : Int)) - 1; omega) (by show (3 - (i : Int)) - 1 ≤ 100000; omega)
  have hb' : ExprIn w ((add ++ vec) ++ tr) op (· - ·) x' ((3 - (i : Int)) - 1) (i + 0 + 1) (max i 0 + 1) := hb
  have q1 : (3 - (i : Int)) - 1 = 3 - ((i + 1 : Nat) : Int) := by omega
  have q3 : max i 0 + 1 = i + 1 := by omega
  rw [q1, q3] at hb'
  exact hb'
theorem num_vec {w : World} {x dx li tp : Addr} {n : Int} {t1 t2 t3 t4 t5 t6 t7 t8 : Tok} {rest : List (Addr × Obj)} : NumAt w ((x, instObj 297 dx) :: (dx, dictOf [⟨PyData.keyHash w.params (Str.ofString "kind"), .str (Str.ofString "kind") t1, .str (Str.ofString "double") t2⟩, ⟨PyData.keyHash w.params (Str.ofString "items"), .str (Str.ofString "items") t3, .ref li⟩,
        ⟨PyData.keyHash w.params (Str.ofString "attrs"), .str (Str.ofString "attrs") t4, .none⟩, ⟨PyData.keyHash w.params (Str.ofString "shared"), .str (Str.ofString "shared") t5, .bool false⟩, ⟨PyData.keyHash w.params (Str.ofString "loose"), .str (Str.ofString "loose") t6, .bool false⟩] 5) :: (li, W.listOf #[.ref tp] 0) :: (tp, ({ cls := .type "tuple", data := .seq #[.int n t7, .int 1 t8] } : Obj)) :: rest) x dx li tp false 0 n :=
  ⟨_, _, _, _, _, _, _, _, .head _, .tail _ (.head _), .tail _ (.tail _ (.head _)), .tail _ (.tail _ (.tail _ (.head _)))⟩
theorem bld_start {w : World} {h₀ h : Heap} {L x dx li tp cA : Addr} {n : Int} {t1 t2 t3 t4 t5 t6 t7 t8 : Tok} {rest : List (Addr × Obj)} {ws : List Value} {m₀ : Str → Option Value} {op : Str} {f : Int → Int → Int} (nmv : Str) (V : Nat → Int) (C : Nat → Nat) (_F : Fr h₀ L h m₀)
    (N : News h₀ L h ((x, instObj 297 dx) :: (dx, dictOf [⟨PyData.keyHash w.params (Str.ofString "kind"), .str (Str.ofString "kind") t1, .str (Str.ofString "double") t2⟩, ⟨PyData.keyHash w.params (Str.ofString "items"), .str (Str.ofString "items") t3, .ref li⟩,
        ⟨PyData.keyHash w.params (Str.ofString "attrs"), .str (Str.ofString "attrs") t4, .none⟩, ⟨PyData.keyHash w.params (Str.ofString "shared"), .str (Str.ofString "shared") t5, .bool false⟩, ⟨PyData.keyHash w.params (Str.ofString "loose"), .str (Str.ofString "loose") t6, .bool false⟩] 5) :: (li, W.listOf #[.ref tp] 0) :: (tp, ({ cls := .type "tuple", data := .seq #[.int n t7, .int 1 t8] } : Obj)) :: rest))
    (hc : (cA, W.listOf ws.toArray 0) ∈ rest) (hv : m₀ nmv = some (.ref x)) (hV : V 0 = n) (hC : C 0 = 0) (h0 : -100000 ≤ n) (h1 : n ≤ 100000) : ∃ nx, News h₀ L h nx ∧ BldJ w cA ws op f nmv V C m₀ 0 m₀ nx := by
  have hn := num_vec (w := w) (x := x) (dx := dx) (li := li) (tp := tp) (n := n) (t1 := t1) (t2 := t2) (t3 := t3) (t4 := t4) (t5 := t5) (t6 := t6) (t7 := t7) (t8 := t8) (rest := [])
  generalize dictOf _ 5 = od at N hn
  refine ⟨(cA, W.listOf ws.toArray 0) :: [(x, instObj 297 dx), (dx, od), (li, W.listOf #[.ref tp] 0), (tp, ({ cls := .type "tuple", data := .seq #[.int n t7, .int 1 t8] } : Obj))], fun p hp => N p ?_, .mk x _ ?_ hv fun _ _ => rfl⟩
  · rcases List.mem_cons.mp hp with rfl | hp
    · exact .tail _ (.tail _ (.tail _ (.tail _ hc)))
    rcases List.mem_cons.mp hp with rfl | hp
    · exact .head _
    rcases List.mem_cons.mp hp with rfl | hp
    · exact .tail _ (.head _)
    rcases List.mem_cons.mp hp with rfl | hp
    · exact .tail _ (.tail _ (.head _))
    · rw [List.mem_singleton.mp hp]; exact .tail _ (.tail _ (.tail _ (.head _)))
  · rw [hV, hC]; exact .num hn h0 h1
theorem nest_end {w : World} {h₀ h' : Heap} {L cA x y dy li ty x' dc lc tc g dg : Addr} {ws : List Value} {op nmv : Str} {m₀ m' : Str → Option Value} {i tk e1 e2 : Nat} {own tr add : List (Addr × Obj)} {s₁ : Shared} {a1 : Addr × Obj} {t1 t2 t3 t4 t5 t6 t7 t8 : Tok} (hi : i < 45)
    (F : Fr h₀ L h' m') (N : News h₀ L h' (add ++ a1 :: (y, instObj 297 dy) :: (dy, dictOf [⟨PyData.keyHash w.params (Str.ofString "kind"), .str (Str.ofString "kind") t1, .str (Str.ofString "double") t2⟩, ⟨PyData.keyHash w.params (Str.ofString "items"), .str (Str.ofString "items") t3, .ref li⟩,
        ⟨PyData.keyHash w.params (Str.ofString "attrs"), .str (Str.ofString "attrs") t4, .none⟩, ⟨PyData.keyHash w.params (Str.ofString "shared"), .str (Str.ofString "shared") t5, .bool false⟩, ⟨PyData.keyHash w.params (Str.ofString "loose"), .str (Str.ofString "loose") t6, .bool false⟩] 5) :: (li, W.listOf #[.ref ty] 0) :: (ty, ({ cls := .type "tuple", data := .seq #[.int 1 t7, .int 1 t8] } : Obj)) :: (cA, W.listOf ws.toArray 0) :: (tr ++ own)))
    (hcall : CallAt w add x' dc lc tc g dg x y e1 e2 op) (hE : ExprIn w tr op (· - ·) x (3 - (i : Int)) i i) (hoff : TbOff own ((cA, W.listOf ws.toArray 0) :: tr))
    (o9 : ∀ q ∈ a1 :: (y, instObj 297 dy) :: (dy, dictOf [⟨PyData.keyHash w.params (Str.ofString "kind"), .str (Str.ofString "kind") t1, .str (Str.ofString "double") t2⟩, ⟨PyData.keyHash w.params (Str.ofString "items"), .str (Str.ofString "items") t3, .ref li⟩,
        ⟨PyData.keyHash w.params (Str.ofString "attrs"), .str (Str.ofString "attrs") t4, .none⟩, ⟨PyData.keyHash w.params (Str.ofString "shared"), .str (Str.ofString "shared") t5, .bool false⟩, ⟨PyData.keyHash w.params (Str.ofString "loose"), .str (Str.ofString "loose") t6, .bool false⟩] 5) :: (li, W.listOf #[.ref ty] 0) :: (ty, ({ cls := .type "tuple", data := .seq #[.int 1 t7, .int 1 t8] } : Obj)) :: (cA, W.listOf ws.toArray 0) :: (tr ++ own), ∀ p ∈ add, @Ne Nat q.1 p.1)
    (b4 : AllLt ty (tr ++ own)) (c1 : @LT.lt Nat _ ty li) (c2 : @LT.lt Nat _ li dy) (c3 : @LT.lt Nat _ dy y) (hv : m' nmv = some (.ref x')) (hm : ∀ z, [Str.ofString "step", nmv].contains z = false → m' z = m₀ z) :
    TbEnd h₀ L (BldJ w cA ws op (· - ·) nmv (fun i => 3 - (i : Int)) (fun i => i) m₀ (i + 1)) own s₁ { s₁ with heap := h', toks := tk } := by
  have b3 : AllLt li (tr ++ own) := allLt_of fun p hp => Nat.lt_trans (tb_ltOf b4 p hp) c1
  have b2 : AllLt dy (tr ++ own) := allLt_of fun p hp => Nat.lt_trans (tb_ltOf b3 p hp) c2
  have b1 : AllLt y (tr ++ own) := allLt_of fun p hp => Nat.lt_trans (tb_ltOf b2 p hp) c3
  have hn := num_vec (w := w) (x := y) (dx := dy) (li := li) (tp := ty) (n := 1) (t1 := t1) (t2 := t2) (t3 := t3) (t4 := t4) (t5 := t5) (t6 := t6) (t7 := t7) (t8 := t8) (rest := [])
  generalize dictOf _ 5 = od at N hn o9
  refine bld_end (add ++ [(y, instObj 297 dy), (dy, od), (li, W.listOf #[.ref ty] 0), (ty, ({ cls := .type "tuple", data := .seq #[.int 1 t7, .int 1 t8] } : Obj))]) F N ?_ (fun p hp => List.mem_append_right _ (.tail _ (.tail _ (.tail _ (.tail _ (.tail _ hp)))))) hoff ?_ (nest_step hi hcall hE hn) hv hm
  · intro p hp
    rcases List.mem_append.mp hp with hp | hp
    · exact List.mem_append_left _ hp
    refine List.mem_append_right _ (.tail _ ?_)
    rcases List.mem_cons.mp hp with rfl | hp
    · exact .head _
    rcases List.mem_cons.mp hp with rfl | hp
    · exact .tail _ (.head _)
    rcases List.mem_cons.mp hp with rfl | hp
    · exact .tail _ (.tail _ (.head _))
    · rw [List.mem_singleton.mp hp]; exact .tail _ (.tail _ (.tail _ (.head _)))
  · intro q hq p hp
    rcases List.mem_append.mp hp with hp | hp
    · exact o9 q (.tail _ (.tail _ (.tail _ (.tail _ (.tail _ (.tail _ (List.mem_append_right _ hq))))))) p hp
    rcases List.mem_cons.mp hp with rfl | hp
    · exact Nat.ne_of_lt (tb_ltOf b1 q (List.mem_append_right _ hq))
    rcases List.mem_cons.mp hp with rfl | hp
    · exact Nat.ne_of_lt (tb_ltOf b2 q (List.mem_append_right _ hq))
    rcases List.mem_cons.mp hp with rfl | hp
    · exact Nat.ne_of_lt (tb_ltOf b3 q (List.mem_append_right _ hq))
    · rw [List.mem_singleton.mp hp]; exact Nat.ne_of_lt (tb_ltOf b4 q (List.mem_append_right _ hq))

structure TS where
  count : Int
  ct : Tok
  ws : List Value
  k : Nat
  ep : Nat
theorem NodesIn.len {w : World} {news : List (Addr × Obj)} {vs : List Value} {k : Nat} (h : NodesIn w news vs k) : vs.length ≤ k := by
  induction h with
  | nil => exact Nat.le_refl _
  | snoc _ hn ih => rw [List.length_append]; have := NodesIn.pos hn; simp only [List.length_cons, List.length_nil]; omega
theorem NodesIn.one {w : World} {news : List (Addr × Obj)} {a : Addr} {k : Nat} (h : NodeIn w news (.ref a) k) : NodesIn w news [.ref a] k := by
  have hq := NodesIn.snoc (vs := []) NodesIn.nil h
  simpa using hq
theorem NodesIn.two {w : World} {news : List (Addr × Obj)} {vs : List Value} {a b : Addr} {k p q : Nat} (h : NodesIn w news vs k) (ha : NodeIn w news (.ref a) p) (hb : NodeIn w news (.ref b) q) : NodesIn w news (vs ++ [.ref a, .ref b]) (k + p + q) := by
  have h2 := (h.snoc ha).snoc hb
  rwa [List.append_assoc] at h2
theorem NodesIn.three {w : World} {news : List (Addr × Obj)} {vs : List Value} {a b c : Addr} {k p q r : Nat} (h : NodesIn w news vs k) (ha : NodeIn w news (.ref a) p) (hb : NodeIn w news (.ref b) q) (hc : NodeIn w news (.ref c) r) :
    NodesIn w news (vs ++ [.ref a, .ref b, .ref c]) (k + p + q + r) := by
  have h2 := (h.two ha hb).snoc hc
  rwa [List.append_assoc] at h2
theorem ks_m1 {c n : Int} {k : Nat} (h : c + ((k + 1 : Nat) : Int) = n) : c + 1 + (k : Int) = n := by omega
theorem ks_m2 {c n : Int} {k p q : Nat} (h : c + ((k + (2 + p + q) : Nat) : Int) = n) : c + 1 + ((k + 1 + p + q : Nat) : Int) = n := by omega
theorem ks_m3 {c n : Int} {k p q : Nat} (h : c + ((k + (2 + p + q) : Nat) : Int) = n) : c + 1 + ((k + p + q + 1 : Nat) : Int) = n := by omega
theorem ks_m4 {c n : Int} {k p q : Nat} (h : c + ((k + (2 + p + q) : Nat) : Int) = n) : c + 1 + ((k + q + 1 + p : Nat) : Int) = n := by omega
theorem ts_same {y₁ y₂ : Str} {v₁ v₂ v' : Value} {u m₀ : Str → Option Value} {stored : List Str} {v : Value} {z : Str} (h2 : ∀ p ∈ [(y₁, v')], z ≠ p.1) (h3 : stored.contains z = false) (h1 : stored.contains y₂ = true) :
    (if z = y₁ then some v₁ else if z = y₂ then some v₂ else kstB (fun z => if stored.contains z then u z else m₀ z) [(y₁, v)] z) = m₀ z := by
  have e1 : z ≠ y₁ := h2 _ (List.mem_singleton.mpr rfl)
  have e2 : z ≠ y₂ := by rintro rfl; rw [h1] at h3; cases h3
  rw [if_neg e1, if_neg e2]
  show (if z = y₁ then some v else if stored.contains z = true then u z else m₀ z) = m₀ z
  rw [if_neg e1, h3]; rfl
theorem ts_in {a : Addr} {o : Obj} {news l : List (Addr × Obj)} (h1 : (a, o) ∈ l) (h2 : ∀ p ∈ news, p ∈ l) : ∀ p ∈ (a, o) :: news, p ∈ l := fun p hp => by
  rcases List.mem_cons.mp hp with rfl | hp
  · exact h1
  · exact h2 p hp
theorem fin_t {h₀ h : Heap} {L z : Addr} {n : Int} {t5 t6 : Tok} {news rest : List (Addr × Obj)} (N : News h₀ L h ((z, ({ cls := .type "tuple", data := .seq #[.int n t5, .int 1 t6] } : Obj)) :: rest)) (hs : ∀ p ∈ news, p ∈ rest) : News h₀ L h ((z, ({ cls := .type "tuple", data := .seq #[.int n t5, .int 1 t6] } : Obj)) :: news) :=
  kst_newsOf N (by intro p hp; rcases List.mem_cons.mp hp with rfl | hp; exact .head _; exact .tail _ (hs p hp))
theorem gcd_stop (a : Int) : decide (0 < Int.fmod a 1) = false := by simp
theorem ts_in2 {p : Addr × Obj} {news l : List (Addr × Obj)} (h1 : p ∈ l) (h2 : ∀ p ∈ news, p ∈ l) : ∀ q ∈ p :: news, q ∈ l := fun q hq => by
  rcases List.mem_cons.mp hq with rfl | hq
  · exact h1
  · exact h2 q hq
theorem unrEnd0 {h₀ : Heap} {L I : Addr} {it : Obj} {rest : (Str → Option Value) → List (Addr × Obj) → Prop} {s₁ : Shared} {h' : Heap} {tk : Nat} {m' : Str → Option Value} {tl : List (Addr × Obj)} (F : Fr h₀ L h' m') (N : News h₀ L h' ((I, it) :: tl)) (off : AllLt I tl) (r : rest m' tl) :
    UnrEndW h₀ L s₁ [(I, it)] rest { s₁ with heap := h', toks := tk } := ⟨h', tk, m', tl, rfl, F, N, fun p hp q hq => by rw [List.mem_singleton.mp hq]; exact Nat.ne_of_lt (tb_ltOf off p hp), r⟩
theorem unrEnd1 {h₀ : Heap} {L I : Addr} {it : Obj} {rest : (Str → Option Value) → List (Addr × Obj) → Prop} {s₁ : Shared} {h' : Heap} {tk : Nat} {m' : Str → Option Value} {p1 : Addr × Obj} {tl : List (Addr × Obj)} (F : Fr h₀ L h' m') (N : News h₀ L h' (p1 :: (I, it) :: tl)) (off : AllLt I tl) (r : rest m' tl) :
    UnrEndW h₀ L s₁ [(I, it)] rest { s₁ with heap := h', toks := tk } := unrEnd0 F (fun p hp => N p (.tail _ hp)) off r
theorem unrEnd2 {h₀ : Heap} {L I : Addr} {it : Obj} {rest : (Str → Option Value) → List (Addr × Obj) → Prop} {s₁ : Shared} {h' : Heap} {tk : Nat} {m' : Str → Option Value} {p1 p2 : Addr × Obj} {tl : List (Addr × Obj)} (F : Fr h₀ L h' m') (N : News h₀ L h' (p1 :: p2 :: (I, it) :: tl)) (off : AllLt I tl) (r : rest m' tl) :
    UnrEndW h₀ L s₁ [(I, it)] rest { s₁ with heap := h', toks := tk } := unrEnd1 F (fun p hp => N p (.tail _ hp)) off r
theorem compEnd1 {h₀ : Heap} {L I C D z : Addr} {m : Str → Option Value} {s₁ : Shared} {o oI oC oD : Obj} {S : List (Addr × Obj) → Prop} {rest : Value → List (Addr × Obj) → Prop} {y : Value} {h' : Heap} {tk : Nat} {tl : List (Addr × Obj)}
    (F : Fr h₀ L h' m) (N : News h₀ L h' ((z, o) :: (I, oI) :: (C, oC) :: (D, oD) :: tl)) (off : LCg.Off3 I C D tl) (h1 : @LT.lt Nat _ I z) (h2 : @LT.lt Nat _ C z) (h3 : @LT.lt Nat _ D z) (hS : S ((z, o) :: tl)) (r : rest y ((z, o) :: tl)) :
    LCg.CompEnd h₀ L m s₁ I oI C oC D oD S rest y { s₁ with heap := h', toks := tk } :=
  LCg.CompEnd.intro F N ((z, o) :: tl) (fun p hp => by
    rcases List.mem_cons.mp hp with rfl | hp
    · exact .tail _ (.head _)
    rcases List.mem_cons.mp hp with rfl | hp
    · exact .tail _ (.tail _ (.head _))
    rcases List.mem_cons.mp hp with rfl | hp
    · exact .tail _ (.tail _ (.tail _ (.head _)))
    rcases List.mem_cons.mp hp with rfl | hp
    · exact .head _
    · exact .tail _ (.tail _ (.tail _ (.tail _ hp)))) ⟨⟨(Nat.ne_of_gt h1), (Nat.ne_of_gt h2), (Nat.ne_of_gt h3)⟩, off⟩ hS r
theorem fin_l {h₀ h : Heap} {L li z : Addr} {n : Int} {e3 : Nat} {t5 t6 : Tok} {news rest : List (Addr × Obj)} (N : News h₀ L h ((li, W.listOf #[.ref z] e3) :: (z, ({ cls := .type "tuple", data := .seq #[.int n t5, .int 1 t6] } : Obj)) :: rest)) (hs : ∀ p ∈ news, p ∈ rest) :
    News h₀ L h ((li, W.listOf #[.ref z] e3) :: (z, ({ cls := .type "tuple", data := .seq #[.int n t5, .int 1 t6] } : Obj)) :: news) :=
  kst_newsOf N (by intro p hp; rcases List.mem_cons.mp hp with rfl | hp; exact .head _; rcases List.mem_cons.mp hp with rfl | hp; exact .tail _ (.head _); exact .tail _ (.tail _ (hs p hp)))
theorem off1_at {D : Addr} : ∀ {l : List (Addr × Obj)}, LCg.Off1 D l → ∀ q ∈ l, @Ne Nat q.1 D
  | [], _, q, h => nomatch h
  | _ :: _, o, q, h => by
    rcases List.mem_cons.mp h with rfl | h
    · exact o.1
    · exact off1_at o.2 q h
theorem fin_4 {h₀ h : Heap} {L : Addr} {a b c d : Addr × Obj} {news rest : List (Addr × Obj)} (N : News h₀ L h (a :: b :: c :: d :: rest)) (hs : ∀ p ∈ news, p ∈ rest) : News h₀ L h (a :: b :: c :: d :: news) :=
  kst_newsOf N (by
    intro p hp
    rcases List.mem_cons.mp hp with rfl | hp
    · exact .head _
    rcases List.mem_cons.mp hp with rfl | hp
    · exact .tail _ (.head _)
    rcases List.mem_cons.mp hp with rfl | hp
    · exact .tail _ (.tail _ (.head _))
    rcases List.mem_cons.mp hp with rfl | hp
    · exact .tail _ (.tail _ (.tail _ (.head _)))
    · exact .tail _ (.tail _ (.tail _ (.tail _ (hs p hp)))))
theorem fin_app {h₀ h : Heap} {L rm : Addr} {o : Obj} {l rest tl : List (Addr × Obj)} (N : News h₀ L h l) (h1 : (rm, o) ∈ l) (h2 : ∀ p ∈ rest, p ∈ l) (h3 : ∀ p ∈ tl, p ∈ l) : News h₀ L h ((rm, o) :: (rest ++ tl)) :=
  kst_newsOf N (by
    intro p hp
    rcases List.mem_cons.mp hp with rfl | hp
    · exact h1
    rcases List.mem_append.mp hp with hp | hp
    · exact h2 p hp
    · exact h3 p hp)
theorem sw1 {h₀ h : Heap} {L : Addr} {a b : Addr × Obj} {r : List (Addr × Obj)} (N : News h₀ L h (a :: b :: r)) : News h₀ L h (b :: a :: r) := kst_newsOf N (by
  intro p hp
  rcases List.mem_cons.mp hp with rfl | hp
  · exact .tail _ (.head _)
  rcases List.mem_cons.mp hp with rfl | hp
  · exact .head _
  · exact .tail _ (.tail _ hp))
theorem sw2 {h₀ h : Heap} {L : Addr} {a b c : Addr × Obj} {r : List (Addr × Obj)} (N : News h₀ L h (a :: b :: c :: r)) : News h₀ L h (c :: a :: b :: r) := kst_newsOf N (by
  intro p hp
  rcases List.mem_cons.mp hp with rfl | hp
  · exact .tail _ (.tail _ (.head _))
  rcases List.mem_cons.mp hp with rfl | hp
  · exact .head _
  rcases List.mem_cons.mp hp with rfl | hp
  · exact .tail _ (.head _)
  · exact .tail _ (.tail _ (.tail _ hp)))
theorem sw3 {h₀ h : Heap} {L : Addr} {a b c d : Addr × Obj} {r : List (Addr × Obj)} (N : News h₀ L h (a :: b :: c :: d :: r)) : News h₀ L h (d :: a :: b :: c :: r) := kst_newsOf N (by
  intro p hp
  rcases List.mem_cons.mp hp with rfl | hp
  · exact .tail _ (.tail _ (.tail _ (.head _)))
  rcases List.mem_cons.mp hp with rfl | hp
  · exact .head _
  rcases List.mem_cons.mp hp with rfl | hp
  · exact .tail _ (.head _)
  rcases List.mem_cons.mp hp with rfl | hp
  · exact .tail _ (.tail _ (.head _))
  · exact .tail _ (.tail _ (.tail _ (.tail _ hp))))
theorem unrEndK {h₀ : Heap} {L I : Addr} {it : Obj} {rest : (Str → Option Value) → List (Addr × Obj) → Prop} {s₁ : Shared} {h' : Heap} {tk : Nat} {m' : Str → Option Value} {p1 : Addr × Obj} {tl : List (Addr × Obj)} (F : Fr h₀ L h' m') (N : News h₀ L h' (p1 :: (I, it) :: tl)) (o1 : p1.1 ≠ I) (off : ∀ p ∈ tl, p.1 ≠ I) (r : rest m' (p1 :: tl)) :
    UnrEndW h₀ L s₁ [(I, it)] rest { s₁ with heap := h', toks := tk } := ⟨h', tk, m', p1 :: tl, rfl, F, sw1 N, (fun p hp q hq => by
      rw [List.mem_singleton.mp hq]
      rcases List.mem_cons.mp hp with rfl | hp
      · exact o1
      · exact off p hp), r⟩
theorem sub9 {base rest tl l : List (Addr × Obj)} (h1 : ∀ p ∈ base, p ∈ rest) (h2 : ∀ p ∈ rest, p ∈ l) (h3 : ∀ p ∈ tl, p ∈ l) : ∀ p ∈ base ++ tl, p ∈ l := fun p hp => (List.mem_append.mp hp).elim (fun h => h2 p (h1 p h)) (h3 p)
theorem num_fin {w : World} {base : List (Addr × Obj)} {t : Addr × Obj} {x dx li z : Addr} {n : Int} {e3 : Nat} {t1 t2 t3 t4 t5 t6 t7 t8 : Tok} : NumAt w (base ++ (t :: (x, instObj 297 dx) :: (dx, dictOf [⟨PyData.keyHash w.params (Str.ofString "kind"), .str (Str.ofString "kind") t1, .str (Str.ofString "double") t2⟩, ⟨PyData.keyHash w.params (Str.ofString "items"), .str (Str.ofString "items") t3, .ref li⟩, ⟨PyData.keyHash w.params (Str.ofString "attrs"), .str (Str.ofString "attrs") t4, .none⟩, ⟨PyData.keyHash w.params (Str.ofString "shared"), .str (Str.ofString "shared") t5, .bool true⟩, ⟨PyData.keyHash w.params (Str.ofString "loose"), .str (Str.ofString "loose") t6, .bool false⟩] 5) :: (li, W.listOf #[.ref z] e3) :: (z, ({ cls := .type "tuple", data := .seq #[.int n t7, .int 1 t8] } : Obj)) :: [])) x dx li z true e3 n :=
  ⟨_, _, _, _, _, _, _, _, List.mem_append_right _ (.tail _ (.head _)), List.mem_append_right _ (.tail _ (.tail _ (.head _))), List.mem_append_right _ (.tail _ (.tail _ (.tail _ (.head _)))), List.mem_append_right _ (.tail _ (.tail _ (.tail _ (.tail _ (.head _)))))⟩
theorem fold_fin {h₀ h : Heap} {L rm : Addr} {o : Obj} {a b c d e : Addr × Obj} {l rest : List (Addr × Obj)} (N : News h₀ L h (a :: b :: c :: d :: e :: l)) (h1 : (rm, o) ∈ l) (h2 : ∀ p ∈ rest, p ∈ l) : News h₀ L h ((rm, o) :: (rest ++ [a, b, c, d, e])) :=
  fin_app N (.tail _ (.tail _ (.tail _ (.tail _ (.tail _ h1))))) (fun p hp => .tail _ (.tail _ (.tail _ (.tail _ (.tail _ (h2 p hp)))))) (fun p hp => by
    rcases List.mem_cons.mp hp with rfl | hp
    · exact .head _
    rcases List.mem_cons.mp hp with rfl | hp
    · exact .tail _ (.head _)
    rcases List.mem_cons.mp hp with rfl | hp
    · exact .tail _ (.tail _ (.head _))
    rcases List.mem_cons.mp hp with rfl | hp
    · exact .tail _ (.tail _ (.tail _ (.head _)))
    · rw [List.mem_singleton.mp hp]; exact .tail _ (.tail _ (.tail _ (.tail _ (.head _)))))
theorem fold_offs {tr x dx li z : Addr} {ot ox od ol oz : Obj} {nc : List (Addr × Obj)} (l9 : ∀ q ∈ nc, q.1 < z) (o9 : ∀ q ∈ nc, @Ne Nat q.1 li) (m9 : @LT.lt Nat _ li dx ∧ @LT.lt Nat _ z dx ∧ AllLt dx nc) (k9 : @LT.lt Nat _ dx x) (ht : @LT.lt Nat _ x tr) :
    ∀ q ∈ nc, ∀ p ∈ [(tr, ot), (x, ox), (dx, od), (li, ol), (z, oz)], @Ne Nat p.1 q.1 := by
  intro q hq p hp
  have hd : @LT.lt Nat _ q.1 dx := tb_ltOf m9.2.2 q hq
  rcases List.mem_cons.mp hp with rfl | hp
  · exact Nat.ne_of_gt (Nat.lt_trans hd (Nat.lt_trans k9 ht))
  rcases List.mem_cons.mp hp with rfl | hp
  · exact Nat.ne_of_gt (Nat.lt_trans hd k9)
  rcases List.mem_cons.mp hp with rfl | hp
  · exact Nat.ne_of_gt hd
  rcases List.mem_cons.mp hp with rfl | hp
  · exact Ne.symm (o9 q hq)
  · rw [List.mem_singleton.mp hp]; exact Nat.ne_of_gt (l9 q hq)
theorem SafeAt.mono {news news' : List (Addr × Obj)} {sf : Addr} (h : SafeAt news sf) (hs : ∀ p ∈ news, p ∈ news') : SafeAt news' sf :=
  let ⟨f1, f2, f3, f4, f5, f6, f7, f8, f9, f10, f11, f12, f13, f14, f15, f16, f17, q⟩ := h
  ⟨f1, f2, f3, f4, f5, f6, f7, f8, f9, f10, f11, f12, f13, f14, f15, f16, f17, hs _ q⟩
theorem fin_6 {h₀ h : Heap} {L : Addr} {l add news : List (Addr × Obj)} (N : News h₀ L h l) (h1 : ∀ p ∈ add, p ∈ l) (h2 : ∀ p ∈ news, p ∈ l) : News h₀ L h (add ++ news) :=
  kst_newsOf N (by
    intro p hp
    rcases List.mem_append.mp hp with hp | hp
    · exact h1 p hp
    · exact h2 p hp)
theorem off_add {add news : List (Addr × Obj)} (h : ∀ p ∈ add, AllLt p.1 news) : ∀ q ∈ news, ∀ p ∈ add, @Ne Nat q.1 p.1 := fun q hq p hp => Nat.ne_of_lt (tb_ltOf (h p hp) q hq)
theorem fin_num {h₀ h : Heap} {L : Addr} {a b c d : Addr × Obj} {news rest : List (Addr × Obj)} (N : News h₀ L h (a :: b :: c :: d :: rest)) (hs : ∀ p ∈ news, p ∈ rest) : News h₀ L h (a :: b :: c :: d :: news) :=
  kst_newsOf N (by
    intro p hp
    rcases List.mem_cons.mp hp with rfl | hp
    · exact .head _
    rcases List.mem_cons.mp hp with rfl | hp
    · exact .tail _ (.head _)
    rcases List.mem_cons.mp hp with rfl | hp
    · exact .tail _ (.tail _ (.head _))
    rcases List.mem_cons.mp hp with rfl | hp
    · exact .tail _ (.tail _ (.tail _ (.head _)))
    · exact .tail _ (.tail _ (.tail _ (.tail _ (hs p hp)))))
def CutR (h₀ : Heap) (L cA : Addr) (ws : List Value) (s s' : Shared) : Prop :=
  ∃ h' tk mm tl, s' = { s with heap := h', toks := tk } ∧ Fr h₀ L h' mm ∧ News h₀ L h' ((cA, W.listOf ws.toArray 0) :: tl) ∧ mm (Str.ofString "cells") = some (.ref cA)
theorem cut_law {prog : Program} {w : World} {A : Around} {s1 s2 : Stmt} {rest : List Stmt} {env : Env} {Q : Flow → Shared → Prop} {E : Value → Shared → Prop} {s : Shared} {h₀ : Heap} {L cA : Addr} {ws : List Value} {tr : List (Addr × Obj)} {m₀ : Str → Option Value}
    (_F : Fr h₀ L s.heap m₀) (_N : News h₀ L s.heap ((cA, W.listOf ws.toArray 0) :: tr))
    (h1 : wpAny (model prog w) A (exec s1 env) (fun f s' => match f with | .next => wpAny (model prog w) A (exec s2 env) (fun f s' => match f with | .next => CutR h₀ L cA ws s s' | f => Q f s') E s' | f => Q f s') E s)
    (h2 : ∀ h' tk mm tl, Fr h₀ L h' mm → News h₀ L h' ((cA, W.listOf ws.toArray 0) :: tl) → mm (Str.ofString "cells") = some (.ref cA) → wpAny (model prog w) A (execs rest env) Q E { s with heap := h', toks := tk }) : wpAny (model prog w) A (execs (s1 :: s2 :: rest) env) Q E s :=
  wpAny_execs_cons (wpAny_mono h1 (fun f s' h => by
    cases f with
    | next => exact wpAny_execs_cons (wpAny_mono h (fun f s' h => by
        cases f with
        | next => obtain ⟨h', tk, mm, tl, rfl, F1, N1, hm⟩ := h; exact h2 h' tk mm tl F1 N1 hm
        | brk => exact h
        | cont => exact h
        | ret v => exact h) fun _ _ e => e)
    | brk => exact h
    | cont => exact h
    | ret v => exact h) fun _ _ e => e)
theorem cut_fin {h' : Heap} {tk' : Nat} {m' : Str → Option Value} {l : List (Addr × Obj)} {s : Shared} (g : Heap) (L' cA : Addr) (ws : List Value) (F : Fr g L' h' m') (N : News g L' h' l) (hc : (cA, W.listOf ws.toArray 0) ∈ l) (hm : m' (Str.ofString "cells") = some (.ref cA)) : CutR g L' cA ws s { s with heap := h', toks := tk' } :=
  ⟨_, _, _, _, rfl, F, fun p hp => N p ((List.mem_cons.mp hp).elim (fun e => e ▸ hc) id), hm⟩
theorem mem_cells {h₀ h : Heap} {L : Addr} {add tr tl : List (Addr × Obj)} {c : Addr × Obj} (_N : News h₀ L h ((add ++ c :: tr) ++ tl)) : c ∈ (add ++ c :: tr) ++ tl := List.mem_append_left _ (List.mem_append_right _ (.head _))
theorem cut_frame {cA : Addr} {mm : Str → Option Value} (h : mm (Str.ofString "cells") = some (.ref cA)) : mm = fun y => if y = Str.ofString "cells" then some (.ref cA) else mm y := by
  funext y
  by_cases e : y = Str.ofString "cells"
  · rw [if_pos e, e]; exact h
  · rw [if_neg e]
theorem keep_two {stored : List Str} {m₀ : Str → Option Value} : ∀ z, stored.contains z = false → m₀ z = m₀ z := fun _ _ => rfl
local macro_rules | `(tactic| walk_at $s:str) => `(tactic| k_extra $s)
local macro_rules | `(tactic| k_mem) => `(tactic| k_extra "k_mem")
local macro_rules | `(tactic| k_room) => `(tactic| k_extra "k_room")
local macro_rules | `(tactic| k_units) => `(tactic| k_extra "k_units")
local macro_rules | `(tactic| k_all) => `(tactic| k_extra "k_all")
local macro_rules | `(tactic| k_ne) => `(tactic| k_extra "k_ne")
local macro_rules | `(tactic| k_in) => `(tactic| exact Frag.In.keeps (by with_reducible assumption) (Fr.keep (by with_reducible assumption)))
def C_spec_tree_size : Prop := ∀ (w : World) (v : Addr) (n : Nat) (most : Int) (tm : Tok), Spec w 26 [.ref v, .int most tm] 20 100 (fun news => NodeIn w news (.ref v) n ∧ 0 ≤ most ∧ most ≤ 2000 ∧ n ≤ 100000) (RInt (min (n : Int) (most + 1)))
set_option maxHeartbeats 0 in
theorem grpA : C_spec_tree_size := by
  k_with_none
  k_with "execs cons" => ((k_here; (refine wpAny_execs_cons ?_); (try k_fold)))
  k_with "exec If" => ((k_here; (refine wpAny_If ?_); (try k_fold)))
  k_with "callWith ref nil nil" => ((k_here; (with_reducible show wpAny _ _ (callWith _ (Value.ref _) _ (backTo _ (starEach [] _)) []) _ _ _); k_dflt (refine callWith_K0 (Frag.In.keeps (by with_reducible assumption) (Fr.keep (by with_reducible assumption))) (by k_is) ?_)))
  k_with "k_mem" => (((repeat' (first | ktr_member | refine' List.mem_cons_of_mem _ ?_)); done))
  k_with "k_room" => (first | exact room2 (by with_reducible assumption) (by decide) | exact Nat.le_of_ble_eq_true rfl | exact room1 (by with_reducible assumption) (by decide) | exact room4 (by with_reducible assumption) (by decide) | (simp only [depth_under_make, depth_under_kw, depth_in1, depth_deeper, depth_caller, recursionLimit] at *; omega))
  k_with "k_units" => (first | exact room2 (by with_reducible assumption) (by decide) | exact Nat.le_of_ble_eq_true rfl | exact room1 (by with_reducible assumption) (by decide) | exact room4 (by with_reducible assumption) (by decide) | (simp only [units_in1, units_deeper, Around.mark_units, units_caller, cLine] at *; omega))
  k_with "call builtin:len" => ((k_here; (with_reducible show wpAny _ _ (call (Value.builtin "len") [Value.ref _]) _ _ _); k_dflt (refine' lw_len ?N_w4 ?m_w4 ?f_w4 ?_; (case N_w4 => k_asm); (case m_w4 => k_mem); (case f_w4 => first | exact Nat.le_trans (by with_reducible assumption) (by exact Nat.le_of_ble_eq_true rfl) | omega); k_whole)))
  k_with "call builtin:list.pop" => ((k_here; (with_reducible show wpAny _ _ (call (Value.builtin _) [Value.ref _]) _ _ _); k_dflt (refine' lw_pop ?F_w5 ?N_w5 ?U_w5 ?z_w5 ?_; (case F_w5 => k_asm); (case N_w5 => k_asm); (case U_w5 => k_upd); (case z_w5 => first | exact Nat.le_trans (by with_reducible assumption) (by exact Nat.le_of_ble_eq_true rfl) | omega); k_whole); intro h' F' N'; (try k_sweep)))
  k_with "call builtin:list.append" => ((k_here; (with_reducible show wpAny _ _ (call (Value.builtin _) [Value.ref _, _]) _ _ _); k_dflt (refine' lw_append ?F_w6 ?N_w6 ?U_w6 ?z_w6 ?_; (case F_w6 => k_asm); (case N_w6 => k_asm); (case U_w6 => k_upd); (case z_w6 => first | exact Nat.le_trans (by with_reducible assumption) (by exact Nat.le_of_ble_eq_true rfl) | omega); k_whole); intro h' F' N'; (try k_sweep)))
  k_with "call builtin:list.extend" => ((k_here; (with_reducible show wpAny _ _ (call (Value.builtin _) [Value.ref _, Value.ref _]) _ _ _); k_dflt (refine' lw_extend ?F_w7 ?N_w7 ?b_w7 ?ne_w7 ?U_w7 ?z_w7 ?y_w7 ?_; (case F_w7 => k_asm); (case N_w7 => k_asm); (case b_w7 => k_mem); (case U_w7 => k_upd); (case ne_w7 => exact Nat.succ_ne_zero _); (case z_w7 => first | exact Nat.le_trans (by with_reducible assumption) (by exact Nat.le_of_ble_eq_true rfl) | omega); (case y_w7 => exact Nat.le_of_ble_eq_true rfl); k_whole); intro h' F' N'; (try k_sweep)))
  k_with "CompEnd" => (((rename News _ _ _ _ => nE'); refine LCg.CompEnd.intro (by assumption) nE' _ (fun _ h => h) (by first | assumption | (with_unfolding_all assumption)) (by first | lcg_src | k_mem) ?_))
  k_with "k_ne" => ((refine neN ?_; (try dsimp only); first | exact Nat.ne_of_lt (by (first | with_reducible assumption | exact And.left (by with_reducible assumption) | exact And.left (And.right (by with_reducible assumption)) | exact And.left (And.right (And.right (by with_reducible assumption))) | exact And.left (And.right (And.right (And.right (by with_reducible assumption)))) | exact And.left (And.right (And.right (And.right (And.right (by with_reducible assumption))))) | exact And.left (And.right (And.right (And.right (And.right (And.right (by with_reducible assumption)))))) | exact And.left (And.right (And.right (And.right (And.right (And.right (And.right (by with_reducible assumption))))))) | exact And.left (And.right (And.right (And.right (And.right (And.right (And.right (And.right (by with_reducible assumption)))))))) | exact And.left (And.right (And.right (And.right (And.right (And.right (And.right (And.right (And.right (by with_reducible assumption))))))))))) | exact Nat.ne_of_gt (by (first | with_reducible assumption | exact And.left (by with_reducible assumption) | exact And.left (And.right (by with_reducible assumption)) | exact And.left (And.right (And.right (by with_reducible assumption))) | exact And.left (And.right (And.right (And.right (by with_reducible assumption)))) | exact And.left (And.right (And.right (And.right (And.right (by with_reducible assumption))))) | exact And.left (And.right (And.right (And.right (And.right (And.right (by with_reducible assumption)))))) | exact And.left (And.right (And.right (And.right (And.right (And.right (And.right (by with_reducible assumption))))))) | exact And.left (And.right (And.right (And.right (And.right (And.right (And.right (And.right (by with_reducible assumption)))))))) | exact And.left (And.right (And.right (And.right (And.right (And.right (And.right (And.right (And.right (by with_reducible assumption))))))))))) | omega))
  k_with "getMethod ref" => ((k_here; (with_reducible show wpAny _ _ (getMethod (Value.ref _) (PySem.Str.ofString "values") _) _ _ _); k_dflt (refine' lw_dictMethod ?N_w10 ?m_w10 ?d_w10 PySem.F.slot_dict_values PySem.F.type_dict_values ?_; (case N_w10 => k_asm); (case m_w10 => k_mem); (case d_w10 => assumption); k_whole)))
  k_with "call builtin:dict.values" => ((k_here; k_dflt (refine' lw_values ?F_w11 ?N_w11 ?m_w11 ?d_w11 ?lo_w11 ?_; (case F_w11 => k_asm); (case N_w11 => k_asm); (case m_w11 => k_mem); (case d_w11 => assumption); (case lo_w11 => assumption); k_whole); intro v' h' o' hv' F' N' l1; (try k_lt l1); (try k_sweep)))
  k_with "eval ListComp" => ((k_here; (with_reducible show wpAny _ _ (eval (Expr.ListComp _ [Comprehension.mk (Expr.Name _ _) (Expr.Call (Expr.Attribute _ _ _) _ _ _) [_] _] _ _) _) _ _ _); k_dflt (refine ListComp_V (F₀ := by k_asm) (by with_unfolding_all rfl) (by decide) (by rfl) (by decide) (by rfl) ?_)))
  k_with "SrcV" => ((k_here; k_dflt (refine' SrcV.intro (by rfl) ?F_w13 ?N_w13 ?v_w13 ?m_w13 ?d_w13 ?_; (case F_w13 => k_asm); (case N_w13 => k_asm); (case v_w13 => assumption); (case d_w13 => assumption); (case m_w13 => k_mem); k_whole); intro g'))
  refine mcut (P := C_spec_tree_size) ?_ ?_
  · unfold C_spec_tree_size; intro w v n most tm
    unfold Spec; k_fill
    intro p loose mean mg mb dp un gd cn cs a ccd cl outer A₀ base h₀ L m news s Q E B F X N T hk ⟨hn, hm0, hm1, hn1⟩ hd hu hret
    refine wpAny_call ?_
    k_dflt ktr_enter
    repeat' (first | (k_unfold; (try dsimp only)) | (k_unmd; k_unfold; (try dsimp only)) | (k_end; wrow_close) | ((fail_if_success (with_reducible show wpAny _ _ (exec (Stmt.While _ _ _ _) _) _ _ _)); walk1) | ((fail_if_success (with_reducible show wpAny _ _ (exec (Stmt.While _ _ _ _) _) _ _ _)); dsimp only; walk1) | (leave1; walk_say "STEP leave1"; try dsimp only) | fail "no step")
    (
      rename Fr _ _ _ _ => lF'
      rename News _ _ _ _ => lN'
      with_unfolding_all refine' ksw_while (σ := TS) (fun c => (_, W.listOf c.ws.toArray c.ep) :: news) (fun c => [(Str.ofString "count", .int c.count c.ct)]) (fun _ => True) [Str.ofString "one", Str.ofString "name", Str.ofString "default", Str.ofString "tag", Str.ofString "value", Str.ofString "part"] (fun c => 0 ≤ c.count ∧ c.count ≤ most + 1 ∧ NodesIn w news c.ws c.k ∧ c.count + (c.k : Int) = (n : Int)) (fun c => (most + 1 - c.count).toNat) ⟨0, _, [.ref v], n, 0⟩ lF' lN' trivial ?kk_spec_tree_size ?kp_spec_tree_size ?turn_spec_tree_size
      case kk_spec_tree_size => kst_all
      case kp_spec_tree_size => exact ⟨Int.le_refl 0, by (try dsimp only); omega, NodesIn.one hn, by (try dsimp only); omega⟩
      clear lF' lN'
      intro c u h tk _ hP F' N'
      obtain ⟨count, ct, ws, k, ep⟩ := c
      obtain ⟨hc0, hc1, hws, hck⟩ := hP
      dsimp only at hc0 hc1 hws hck F' N' ⊢)
    have hwl := hws.len
    by_cases hcm : count ≤ most
    · cases hws with
      | nil =>
        (repeat' (first | (k_unfold; (try dsimp only)) | (k_unmd; k_unfold; (try dsimp only)) | (k_end; wrow_close) | walk1 | (dsimp only; walk1) | (leave1; walk_say "STEP leave1"; try dsimp only) | fail "no step"))
        exact hret _ _ _ _ (by assumption) (kst_newsOf (by assumption) (fun p hp => .tail _ hp)) (RInt.of (by omega))
      | snoc hvs hnode =>
        rename_i vs k0 a0 n0
        have hvl : vs.length ≤ k0 := hvs.len
        have hv6 : vs.length ≤ 200000 := by omega
        have hvq : (vs ++ [Value.ref a0]).length ≤ 300000 := by omega
        clear hwl
        have hvp : 1 ≤ (vs ++ [Value.ref a0]).length := by rw [List.length_append]; exact Nat.le_add_left _ _
        have hfin : ∀ {h' : Heap} {m' : Str → Option Value} {l : List (Addr × Obj)} {D : Addr} {m₀ : Str → Option Value} {s₁ : Shared} {tk' : Nat} (g : Heap) (L' : Addr) (ct' : Tok) (ws' : List Value) (k' : Nat) (ep' : Nat), Fr g L' h' m' → News g L' h' l → (∀ p ∈ (D, W.listOf ws'.toArray ep') :: news, p ∈ l) → m' (Str.ofString "count") = some (.int (count + 1) ct') →
            (∀ z, (∀ p ∈ [(Str.ofString "count", Value.int (count + 1) ct')], z ≠ p.1) → [Str.ofString "one", Str.ofString "name", Str.ofString "default", Str.ofString "tag", Str.ofString "value", Str.ofString "part"].contains z = false → m' z = m₀ z) → NodesIn w news ws' k' → count + 1 + (k' : Int) = (n : Int) →
            KswEnd g L' s₁ (fun c : TS => (D, W.listOf c.ws.toArray c.ep) :: news) (fun c => [(Str.ofString "count", .int c.count c.ct)]) (fun _ => True) [Str.ofString "one", Str.ofString "name", Str.ofString "default", Str.ofString "tag", Str.ofString "value", Str.ofString "part"] m₀ (fun c => 0 ≤ c.count ∧ c.count ≤ most + 1 ∧ NodesIn w news c.ws c.k ∧ c.count + (c.k : Int) = (n : Int)) (fun c => (most + 1 - c.count).toNat) ⟨count, ct, vs ++ [Value.ref a0], k0 + n0, ep⟩ { s₁ with heap := h', toks := tk' } := by
          intro h' m' l D m₀ s₁ tk' g L' ct' ws' k' ep' f1 f2 f3 f4 f5 f6 f7
          refine ksw_end ⟨count + 1, ct', ws', k', ep'⟩ f1 f2 f3 trivial (fun p hp => by rw [List.mem_singleton.mp hp]; exact f4) f5 ⟨?_, ?_, f6, f7⟩ ?_
          · dsimp only; omega
          · dsimp only; omega
          · dsimp only; omega
        k_with "KswEnd" => (
          rename Fr _ _ _ _ => lF
          rename News _ _ _ _ => lN
          refine' hfin _ _ _ _ _ _ lF lN (ts_in ?hn1_spec_tree_size ?hn2_spec_tree_size) ?hk_spec_tree_size ?hr_spec_tree_size ?hp_spec_tree_size ?hm_spec_tree_size
          case hn1_spec_tree_size => k_mem
          case hn2_spec_tree_size => (intro p hp; (repeat' (first | exact hp | refine List.mem_cons_of_mem _ ?_)))
          case hk_spec_tree_size => exact rfl
          case hr_spec_tree_size => exact fun z h2 h3 => ts_same h2 h3 rfl
          case hp_spec_tree_size => assumption
          case hm_spec_tree_size => first | exact ks_m1 hck | exact ks_m2 hck | exact ks_m3 hck | exact ks_m4 hck | omega)
        cases hnode with
        | dbl h1 h2 => (repeat' (first | (k_unfold; (try dsimp only)) | (k_unmd; k_unfold; (try dsimp only)) | (k_end; wrow_close) | walk1 | (dsimp only; walk1) | (leave1; walk_say "STEP leave1"; try dsimp only) | fail "no step"))
        | chr h1 h2 => (repeat' (first | (k_unfold; (try dsimp only)) | (k_unmd; k_unfold; (try dsimp only)) | (k_end; wrow_close) | walk1 | (dsimp only; walk1) | (leave1; walk_say "STEP leave1"; try dsimp only) | fail "no step"))
        | sym h1 h2 => (repeat' (first | (k_unfold; (try dsimp only)) | (k_unmd; k_unfold; (try dsimp only)) | (k_end; wrow_close) | walk1 | (dsimp only; walk1) | (leave1; walk_say "STEP leave1"; try dsimp only) | fail "no step"))
        | mis h1 h2 => (repeat' (first | (k_unfold; (try dsimp only)) | (k_unmd; k_unfold; (try dsimp only)) | (k_end; wrow_close) | walk1 | (dsimp only; walk1) | (leave1; walk_say "STEP leave1"; try dsimp only) | fail "no step"))
        | call h1 h2 h3 n0 n1 n2 => (have e3 := hvs.three n0 n1 n2); (repeat' (first | (k_unfold; (try dsimp only)) | (k_unmd; k_unfold; (try dsimp only)) | (k_end; wrow_close) | walk1 | (dsimp only; walk1) | (leave1; walk_say "STEP leave1"; try dsimp only) | fail "no step"))
        | lst h1 h2 h3 h4 hd lo n0 n1 n2 => (have e2 := hvs.two n1 n2); (have l2 := e2.len); (have l3 := Nat.le_trans l2 (show _ ≤ 300000 by omega)); clear l2; (have e3 := e2.snoc n0); (repeat' (first | (k_unfold; (try dsimp only)) | (k_unmd; k_unfold; (try dsimp only)) | (k_end; wrow_close) | walk1 | (dsimp only; walk1) | (leave1; walk_say "STEP leave1"; try dsimp only) | fail "no step"))
        | clo h1 h2 h3 h4 h5 n0 n1 n2 => (have e2 := hvs.snoc n2); (have l2 := e2.len); (have l3 := Nat.le_trans l2 (show _ ≤ 300000 by omega)); clear l2; (have e3 := e2.two n0 n1); (repeat' (first | (k_unfold; (try dsimp only)) | (k_unmd; k_unfold; (try dsimp only)) | (k_end; wrow_close) | walk1 | (dsimp only; walk1) | (leave1; walk_say "STEP leave1"; try dsimp only) | fail "no step"))
    · (repeat' (first | (k_unfold; (try dsimp only)) | (k_unmd; k_unfold; (try dsimp only)) | (k_end; wrow_close) | walk1 | (dsimp only; walk1) | (leave1; walk_say "STEP leave1"; try dsimp only) | fail "no step"))
      exact hret _ _ _ _ (by assumption) (kst_newsOf (by assumption) (fun p hp => .tail _ hp)) (RInt.of (by omega))
      exact hret _ _ _ _ (by assumption) (kst_newsOf (by assumption) (fun p hp => .tail _ hp)) (RInt.of (by omega))
  intro spec_tree_size
  exact spec_tree_size
theorem spec_tree_size : ∀ (w : World) (v : Addr) (n : Nat) (most : Int) (tm : Tok), Spec w 26 [.ref v, .int most tm] 20 100 (fun news => NodeIn w news (.ref v) n ∧ 0 ≤ most ∧ most ≤ 2000 ∧ n ≤ 100000) (RInt (min (n : Int) (most + 1))) := grpA
def C_spec_length : Prop := ∀ (w : World) (u : Addr), Spec w 402 [.ref u] 6 60 (fun news => IsNum w news u) (RInt 1)
def C_spec_dim_of : Prop := ∀ (w : World) (u : Addr), Spec w 40 [.ref u] 6 60 (fun news => IsNum w news u) (Same .none)
def C_spec_result_dim : Prop := ∀ (w : World) (u v : Addr), Spec w 444 [.ref u, .ref v] 12 120 (fun news => IsNum w news u ∧ IsNum w news v) (Same .none)
def C_spec_note_one : Prop := ∀ (w : World) (u v no : Addr), Spec w 451 [.ref u, .ref v, .ref no] 12 120 (fun news => IsNum w news u ∧ IsNum w news v) (Same .none)
def C_spec_recycle : Prop := ∀ (w : World) (t1 t2 : Tok), Spec w 423 [.int 1 t1, .int 1 t2] 6 60 (fun news => True) (RInt 1)
def C_spec_note_recycling : Prop := ∀ (w : World) (t1 t2 : Tok) (no : Addr), Spec w 430 [.int 1 t1, .int 1 t2, .ref no] 6 60 (fun news => True) (Same .none)
def C_spec_common_length : Prop := ∀ (w : World) (u v no : Addr), Spec w 458 [.ref u, .ref v, .ref no] 18 180 (fun news => IsNum w news u ∧ IsNum w news v) (RInt 1)
def C_spec_number_items : Prop := ∀ (w : World) (u dx li tp : Addr) (sb : Bool) (e : Nat) (n : Int), Spec w 507 [.ref u] 6 60 (fun news => NumAt w news u dx li tp sb e n) (Same (.ref li))
def C_spec_double_items : Prop := ∀ (w : World) (u dx li tp : Addr) (sb : Bool) (e : Nat) (n : Int), Spec w 512 [.ref u] 8 80 (fun news => NumAt w news u dx li tp sb e n) (Same (.ref li))
def C_spec_gcd : Prop := ∀ (w : World) (a : Int) (t1 t2 : Tok), Spec w 83 [.int a t1, .int 1 t2] 6 60 (fun news => True) (RInt 1)
def C_spec_is_na : Prop := ∀ (w : World) (x : Addr) (a : Int) (t1 t2 : Tok), Spec w 111 [.ref x] 6 60 (fun news => (x, ({ cls := .type "tuple", data := .seq #[.int a t1, .int 1 t2] } : Obj)) ∈ news) (Same (.bool false))
def C_spec_bounded : Prop := ∀ (w : World) (n : Int) (t1 t2 : Tok), Spec w 90 [.int n t1, .int 1 t2] 6 60 (fun news => -400000 ≤ n ∧ n ≤ 400000) (NewT n)
def C_spec_make : Prop := ∀ (w : World) (n : Int) (t1 t2 : Tok), Spec w 97 [.int n t1, .int 1 t2] 8 80 (fun news => -400000 ≤ n ∧ n ≤ 400000) (NewT n)
def C_spec_neg : Prop := ∀ (w : World) (x : Addr) (a : Int) (t1 t2 : Tok), Spec w 139 [.ref x] 6 60 (fun news => (x, ({ cls := .type "tuple", data := .seq #[.int a t1, .int 1 t2] } : Obj)) ∈ news) (NewT (-a))
def C_spec_add : Prop := ∀ (w : World) (x y : Addr) (a b : Int) (t1 t2 t3 t4 : Tok), Spec w 146 [.ref x, .ref y] 10 100 (fun news => (x, ({ cls := .type "tuple", data := .seq #[.int a t1, .int 1 t2] } : Obj)) ∈ news ∧ (y, ({ cls := .type "tuple", data := .seq #[.int b t3, .int 1 t4] } : Obj)) ∈ news ∧ -100000 ≤ a ∧ a ≤ 100000 ∧ -100000 ≤ b ∧ b ≤ 100000) (NewT (a + b))
def C_spec_sub : Prop := ∀ (w : World) (x y : Addr) (a b : Int) (t1 t2 t3 t4 : Tok), Spec w 153 [.ref x, .ref y] 10 100 (fun news => (x, ({ cls := .type "tuple", data := .seq #[.int a t1, .int 1 t2] } : Obj)) ∈ news ∧ (y, ({ cls := .type "tuple", data := .seq #[.int b t3, .int 1 t4] } : Obj)) ∈ news ∧ -100000 ≤ a ∧ a ≤ 100000 ∧ -100000 ≤ b ∧ b ≤ 100000) (NewT (a - b))
def C_spec_within : Prop := ∀ (w : World) (x : Addr) (a : Int) (t1 t2 : Tok), Spec w 493 [.ref x] 6 60 (fun news => (x, ({ cls := .type "tuple", data := .seq #[.int a t1, .int 1 t2] } : Obj)) ∈ news ∧ -400000 ≤ a ∧ a ≤ 400000) (Same (.ref x))
def C_spec_double_add : Prop := ∀ (w : World) (x y : Addr) (a b : Int) (t0 t1 t2 t3 t4 : Tok), Spec w 500 [.str (Str.ofString "+") t0, .ref x, .ref y] 12 120 (fun news => (x, ({ cls := .type "tuple", data := .seq #[.int a t1, .int 1 t2] } : Obj)) ∈ news ∧ (y, ({ cls := .type "tuple", data := .seq #[.int b t3, .int 1 t4] } : Obj)) ∈ news ∧ -100000 ≤ a ∧ a ≤ 100000 ∧ -100000 ≤ b ∧ b ≤ 100000) (NewT (a + b))
def C_spec_double_sub : Prop := ∀ (w : World) (x y : Addr) (a b : Int) (t0 t1 t2 t3 t4 : Tok), Spec w 500 [.str (Str.ofString "-") t0, .ref x, .ref y] 12 120 (fun news => (x, ({ cls := .type "tuple", data := .seq #[.int a t1, .int 1 t2] } : Obj)) ∈ news ∧ (y, ({ cls := .type "tuple", data := .seq #[.int b t3, .int 1 t4] } : Obj)) ∈ news ∧ -100000 ≤ a ∧ a ≤ 100000 ∧ -100000 ≤ b ∧ b ≤ 100000) (NewT (a - b))
def C_spec_attribute : Prop := ∀ (w : World) (u : Addr) (nm : Str) (t : Tok), Spec w 465 [.ref u, .str nm t] 6 60 (fun news => IsNum w news u) (Same .none)
def C_spec_shape_attrs : Prop := ∀ (w : World) (u v r0 : Addr), Spec w 472 [.ref u, .ref v, .ref r0] 18 180 (fun news => IsNum w news u ∧ IsNum w news v ∧ IsNum w news r0) (Same .none)
def C_spec_result_attrs : Prop := ∀ (w : World) (u v r0 : Addr), Spec w 479 [.ref u, .ref v, .ref r0] 24 240 (fun news => IsNum w news u ∧ IsNum w news v ∧ IsNum w news r0) (Same .none)
def C_spec_dres_add : Prop := ∀ (w : World) (l k x y : Addr) (a b : Int) (e1 e2 : Nat) (t0 t1 t2 t3 t4 t9 : Tok), Spec w 524 [.str (Str.ofString "+") t0, .ref l, .ref k, .int 1 t9] 18 180 (fun news => (l, W.listOf #[.ref x] e1) ∈ news ∧ (k, W.listOf #[.ref y] e2) ∈ news ∧ (x, ({ cls := .type "tuple", data := .seq #[.int a t1, .int 1 t2] } : Obj)) ∈ news ∧ (y, ({ cls := .type "tuple", data := .seq #[.int b t3, .int 1 t4] } : Obj)) ∈ news ∧ -100000 ≤ a ∧ a ≤ 100000 ∧ -100000 ≤ b ∧ b ≤ 100000) (NewL (a + b))
def C_spec_dres_sub : Prop := ∀ (w : World) (l k x y : Addr) (a b : Int) (e1 e2 : Nat) (t0 t1 t2 t3 t4 t9 : Tok), Spec w 524 [.str (Str.ofString "-") t0, .ref l, .ref k, .int 1 t9] 18 180 (fun news => (l, W.listOf #[.ref x] e1) ∈ news ∧ (k, W.listOf #[.ref y] e2) ∈ news ∧ (x, ({ cls := .type "tuple", data := .seq #[.int a t1, .int 1 t2] } : Obj)) ∈ news ∧ (y, ({ cls := .type "tuple", data := .seq #[.int b t3, .int 1 t4] } : Obj)) ∈ news ∧ -100000 ≤ a ∧ a ≤ 100000 ∧ -100000 ≤ b ∧ b ≤ 100000) (NewL (a - b))
def C_spec_arith_add : Prop := ∀ (w : World) (u dx1 li1 tp1 v dx2 li2 tp2 : Addr) (sb1 sb2 : Bool) (e1 e2 : Nat) (a b : Int) (no : Addr) (t0 : Tok), Spec w 531 [.str (Str.ofString "+") t0, .ref u, .ref v, .ref no] 34 340 (fun news => NumAt w news u dx1 li1 tp1 sb1 e1 a ∧ NumAt w news v dx2 li2 tp2 sb2 e2 b ∧ -100000 ≤ a ∧ a ≤ 100000 ∧ -100000 ≤ b ∧ b ≤ 100000) (NewV w (a + b))
def C_spec_arith_sub : Prop := ∀ (w : World) (u dx1 li1 tp1 v dx2 li2 tp2 : Addr) (sb1 sb2 : Bool) (e1 e2 : Nat) (a b : Int) (no : Addr) (t0 : Tok), Spec w 531 [.str (Str.ofString "-") t0, .ref u, .ref v, .ref no] 34 340 (fun news => NumAt w news u dx1 li1 tp1 sb1 e1 a ∧ NumAt w news v dx2 li2 tp2 sb2 e2 b ∧ -100000 ≤ a ∧ a ≤ 100000 ∧ -100000 ≤ b ∧ b ≤ 100000) (NewV w (a - b))
def C_spec_binary_add : Prop := ∀ (w : World) (u dx1 li1 tp1 v dx2 li2 tp2 : Addr) (sb1 sb2 : Bool) (e1 e2 : Nat) (a b : Int) (no : Addr) (t0 : Tok), Spec w 797 [.str (Str.ofString "+") t0, .ref u, .ref v, .ref no] 40 400 (fun news => NumAt w news u dx1 li1 tp1 sb1 e1 a ∧ NumAt w news v dx2 li2 tp2 sb2 e2 b ∧ -100000 ≤ a ∧ a ≤ 100000 ∧ -100000 ≤ b ∧ b ≤ 100000) (NewV w (a + b))
def C_spec_callv_add : Prop := ∀ (w : World) (u dx1 li1 tp1 v dx2 li2 tp2 : Addr) (sb1 sb2 : Bool) (e1 e2 : Nat) (a b : Int) (la : Addr) (ea : Nat) (t0 : Tok), Spec w 811 [.str (Str.ofString "+") t0, .ref la] 46 460 (fun news => (la, W.listOf #[.ref u, .ref v] ea) ∈ news ∧ NumAt w news u dx1 li1 tp1 sb1 e1 a ∧ NumAt w news v dx2 li2 tp2 sb2 e2 b ∧ -100000 ≤ a ∧ a ≤ 100000 ∧ -100000 ≤ b ∧ b ≤ 100000) (NewV w (a + b))
def C_spec_binary_sub : Prop := ∀ (w : World) (u dx1 li1 tp1 v dx2 li2 tp2 : Addr) (sb1 sb2 : Bool) (e1 e2 : Nat) (a b : Int) (no : Addr) (t0 : Tok), Spec w 797 [.str (Str.ofString "-") t0, .ref u, .ref v, .ref no] 40 400 (fun news => NumAt w news u dx1 li1 tp1 sb1 e1 a ∧ NumAt w news v dx2 li2 tp2 sb2 e2 b ∧ -100000 ≤ a ∧ a ≤ 100000 ∧ -100000 ≤ b ∧ b ≤ 100000) (NewV w (a - b))
def C_spec_callv_sub : Prop := ∀ (w : World) (u dx1 li1 tp1 v dx2 li2 tp2 : Addr) (sb1 sb2 : Bool) (e1 e2 : Nat) (a b : Int) (la : Addr) (ea : Nat) (t0 : Tok), Spec w 811 [.str (Str.ofString "-") t0, .ref la] 46 460 (fun news => (la, W.listOf #[.ref u, .ref v] ea) ∈ news ∧ NumAt w news u dx1 li1 tp1 sb1 e1 a ∧ NumAt w news v dx2 li2 tp2 sb2 e2 b ∧ -100000 ≤ a ∧ a ≤ 100000 ∧ -100000 ≤ b ∧ b ≤ 100000) (NewV w (a - b))
def C_spec_const_num : Prop := ∀ (w : World) (u dx li tp : Addr) (sb : Bool) (e : Nat) (n : Int), Spec w 776 [.ref u] 6 60 (fun news => NumAt w news u dx li tp sb e n) (Same (.bool true))
def C_spec_const_call : Prop := ∀ (w : World) (x dx li tg f df a b : Addr) (e1 e2 : Nat) (nm : Str), Spec w 776 [.ref x] 6 60 (fun news => CallAt w news x dx li tg f df a b e1 e2 nm) (Same (.bool false))
def C_spec_plain_add : Prop := ∀ (w : World) (x dx li tg f df a b : Addr) (e1 e2 : Nat), Spec w 783 [.ref x] 6 60 (fun news => CallAt w news x dx li tg f df a b e1 e2 (Str.ofString "+")) (RStr (Str.ofString "+"))
def C_spec_plain_sub : Prop := ∀ (w : World) (x dx li tg f df a b : Addr) (e1 e2 : Nat), Spec w 783 [.ref x] 6 60 (fun news => CallAt w news x dx li tg f df a b e1 e2 (Str.ofString "-")) (RStr (Str.ofString "-"))
def C_spec_share : Prop := ∀ (w : World) (x dx li : Addr) (t1 t2 t3 t4 t5 t6 : Tok) (rest : List (Addr × Obj)), Spec w 416 [.ref x] 6 60 (fun news => news = (x, instObj 297 dx) :: (dx, dictOf [⟨PyData.keyHash w.params (Str.ofString "kind"), .str (Str.ofString "kind") t1, .str (Str.ofString "double") t2⟩, ⟨PyData.keyHash w.params (Str.ofString "items"), .str (Str.ofString "items") t3, .ref li⟩, ⟨PyData.keyHash w.params (Str.ofString "attrs"), .str (Str.ofString "attrs") t4, .none⟩, ⟨PyData.keyHash w.params (Str.ofString "shared"), .str (Str.ofString "shared") t5, .bool false⟩, ⟨PyData.keyHash w.params (Str.ofString "loose"), .str (Str.ofString "loose") t6, .bool false⟩] 5) :: rest ∧ @Ne Nat x dx ∧ ∀ p ∈ rest, @Ne Nat p.1 dx) (fun news r news' => r = .ref x ∧ news' = (x, instObj 297 dx) :: (dx, dictOf [⟨PyData.keyHash w.params (Str.ofString "kind"), .str (Str.ofString "kind") t1, .str (Str.ofString "double") t2⟩, ⟨PyData.keyHash w.params (Str.ofString "items"), .str (Str.ofString "items") t3, .ref li⟩, ⟨PyData.keyHash w.params (Str.ofString "attrs"), .str (Str.ofString "attrs") t4, .none⟩, ⟨PyData.keyHash w.params (Str.ofString "shared"), .str (Str.ofString "shared") t5, .bool true⟩, ⟨PyData.keyHash w.params (Str.ofString "loose"), .str (Str.ofString "loose") t6, .bool false⟩] 5) :: rest)
set_option maxHeartbeats 0 in
theorem grpB : C_spec_length ∧ C_spec_dim_of ∧ C_spec_result_dim ∧ C_spec_note_one ∧ C_spec_recycle ∧ C_spec_note_recycling ∧ C_spec_common_length ∧ C_spec_number_items ∧ C_spec_double_items ∧ C_spec_gcd ∧ C_spec_is_na ∧ C_spec_bounded ∧ C_spec_make ∧ C_spec_neg ∧ C_spec_add ∧ C_spec_sub ∧ C_spec_within ∧ C_spec_double_add ∧ C_spec_double_sub ∧ C_spec_attribute ∧ C_spec_shape_attrs ∧ C_spec_result_attrs ∧ C_spec_dres_add ∧ C_spec_dres_sub ∧ C_spec_arith_add ∧ C_spec_arith_sub ∧ C_spec_binary_add ∧ C_spec_callv_add ∧ C_spec_binary_sub ∧ C_spec_callv_sub ∧ C_spec_const_num ∧ C_spec_const_call ∧ C_spec_plain_add ∧ C_spec_plain_sub ∧ C_spec_share := by
  k_with_none
  k_with "execs cons" => ((k_here; (refine wpAny_execs_cons ?_); (try k_fold)))
  k_with "exec If" => ((k_here; (refine wpAny_If ?_); (try k_fold)))
  k_with "callWith ref nil nil" => ((k_here; (with_reducible show wpAny _ _ (callWith _ (Value.ref _) _ (backTo _ (starEach [] _)) []) _ _ _); k_dflt (refine callWith_K0 (Frag.In.keeps (by with_reducible assumption) (Fr.keep (by with_reducible assumption))) (by k_is) ?_)))
  k_with "k_mem" => (((repeat' (first | ktr_member | refine' List.mem_cons_of_mem _ ?_)); done))
  k_with "k_room" => (first | exact room2 (by with_reducible assumption) (by decide) | exact Nat.le_of_ble_eq_true rfl | exact room1 (by with_reducible assumption) (by decide) | exact room4 (by with_reducible assumption) (by decide) | (simp only [depth_under_make, depth_under_kw, depth_in1, depth_deeper, depth_caller, recursionLimit] at *; omega))
  k_with "k_units" => (first | exact room2 (by with_reducible assumption) (by decide) | exact Nat.le_of_ble_eq_true rfl | exact room1 (by with_reducible assumption) (by decide) | exact room4 (by with_reducible assumption) (by decide) | (simp only [units_in1, units_deeper, Around.mark_units, units_caller, cLine] at *; omega))
  k_with "k_ne" => ((refine neN ?_; (try dsimp only); first | exact Nat.ne_of_lt (by (first | with_reducible assumption | exact And.left (by with_reducible assumption) | exact And.left (And.right (by with_reducible assumption)) | exact And.left (And.right (And.right (by with_reducible assumption))) | exact And.left (And.right (And.right (And.right (by with_reducible assumption)))) | exact And.left (And.right (And.right (And.right (And.right (by with_reducible assumption))))) | exact And.left (And.right (And.right (And.right (And.right (And.right (by with_reducible assumption)))))) | exact And.left (And.right (And.right (And.right (And.right (And.right (And.right (by with_reducible assumption))))))) | exact And.left (And.right (And.right (And.right (And.right (And.right (And.right (And.right (by with_reducible assumption)))))))) | exact And.left (And.right (And.right (And.right (And.right (And.right (And.right (And.right (And.right (by with_reducible assumption))))))))))) | exact Nat.ne_of_gt (by (first | with_reducible assumption | exact And.left (by with_reducible assumption) | exact And.left (And.right (by with_reducible assumption)) | exact And.left (And.right (And.right (by with_reducible assumption))) | exact And.left (And.right (And.right (And.right (by with_reducible assumption)))) | exact And.left (And.right (And.right (And.right (And.right (by with_reducible assumption))))) | exact And.left (And.right (And.right (And.right (And.right (And.right (by with_reducible assumption)))))) | exact And.left (And.right (And.right (And.right (And.right (And.right (And.right (by with_reducible assumption))))))) | exact And.left (And.right (And.right (And.right (And.right (And.right (And.right (And.right (by with_reducible assumption)))))))) | exact And.left (And.right (And.right (And.right (And.right (And.right (And.right (And.right (And.right (by with_reducible assumption))))))))))) | omega))
  k_with "subscriptTail" => ((k_here; (with_reducible show wpAny _ _ (subscriptTail _ _ (Value.ref _) (Value.int _ _)) _ _ _); k_dflt (refine' lw_getItem ?N_w18 ?m_w18 ?a_w18 ?b_w18 ?x_w18 ?_; (case N_w18 => k_asm); (case m_w18 => k_mem); (case x_w18 => first | exact rfl | assumption); (case a_w18 => omega); (case b_w18 => omega); k_whole)))
  refine mcut (P := C_spec_length) ?_ ?_
  · unfold C_spec_length; intro w u
    unfold Spec; k_fill
    intro p loose mean mg mb dp un gd cn cs a0 ccd cl outer A₀ base h₀ L m news s Q E B F X N T hk hu9 hd hu hret
    obtain ⟨dx1, li1, tp1, sb1, e1, n1, s11, s12, s13, s14, s15, s16, s17, s18, g11, g12, g13, g14⟩ := id hu9
    refine wpAny_call ?_
    k_dflt ktr_enter
    repeat' (first | (k_unfold; (try dsimp only)) | (k_unmd; k_unfold; (try dsimp only)) | (k_end; wrow_close) | walk1 | (dsimp only; walk1) | (leave1; walk_say "STEP leave1"; try dsimp only) | fail "no step")
    all_goals (exact hret _ _ _ _ (by assumption) (kst_newsOf (by assumption) (by intro p hp; (repeat' (first | exact hp | refine List.mem_cons_of_mem _ ?_)))) (.mk _))
  intro spec_length
  refine mcut (P := C_spec_dim_of) ?_ ?_
  · unfold C_spec_dim_of; intro w u
    unfold Spec; k_fill
    intro p loose mean mg mb dp un gd cn cs a0 ccd cl outer A₀ base h₀ L m news s Q E B F X N T hk hu9 hd hu hret
    obtain ⟨dx1, li1, tp1, sb1, e1, n1, s11, s12, s13, s14, s15, s16, s17, s18, g11, g12, g13, g14⟩ := id hu9
    refine wpAny_call ?_
    k_dflt ktr_enter
    repeat' (first | (k_unfold; (try dsimp only)) | (k_unmd; k_unfold; (try dsimp only)) | (k_end; wrow_close) | walk1 | (dsimp only; walk1) | (leave1; walk_say "STEP leave1"; try dsimp only) | fail "no step")
    all_goals (exact hret _ _ _ _ (by assumption) (kst_newsOf (by assumption) (by intro p hp; (repeat' (first | exact hp | refine List.mem_cons_of_mem _ ?_)))) (.mk))
  intro spec_dim_of
  k_with "call ref" => ((k_here; (with_reducible show wpAny _ _ (call (Value.ref 402) _) _ _ _); k_dflt (refine' (spec_length _ _).use (by k_asm) (by k_asm) (by k_asm) (by k_asm) (by k_asm) (by first | exact rfl | assumption) (by (repeat' (first | assumption | (refine And.intro ?_ ?_) | exact IsNum.mono (by assumption) (by intro p hp; (repeat' (first | exact hp | exact List.mem_append_left _ hp | refine List.mem_cons_of_mem _ ?_ | refine List.mem_append_left _ ?_)))))) ?hd_w19 ?hu_w19 ?_; (case hd_w19 => k_room); (case hu_w19 => k_units)); k_whole; intro r9 n9 h9 t9 F9 N9 p9; (cases p9); (try dsimp only); (try k_unmd); (try k_sweep)))
  k_with "call ref" => ((k_here; (with_reducible show wpAny _ _ (call (Value.ref 40) _) _ _ _); k_dflt (refine' (spec_dim_of _ _).use (by k_asm) (by k_asm) (by k_asm) (by k_asm) (by k_asm) (by first | exact rfl | assumption) (by (repeat' (first | assumption | (refine And.intro ?_ ?_) | exact IsNum.mono (by assumption) (by intro p hp; (repeat' (first | exact hp | exact List.mem_append_left _ hp | refine List.mem_cons_of_mem _ ?_ | refine List.mem_append_left _ ?_)))))) ?hd_w20 ?hu_w20 ?_; (case hd_w20 => k_room); (case hu_w20 => k_units)); k_whole; intro r9 n9 h9 t9 F9 N9 p9; (cases p9); (try dsimp only); (try k_unmd); (try k_sweep)))
  refine mcut (P := C_spec_result_dim) ?_ ?_
  · unfold C_spec_result_dim; intro w u v
    unfold Spec; k_fill
    intro p loose mean mg mb dp un gd cn cs a0 ccd cl outer A₀ base h₀ L m news s Q E B F X N T hk ⟨hu9, hv9⟩ hd hu hret
    refine wpAny_call ?_
    k_dflt ktr_enter
    repeat' (first | (k_unfold; (try dsimp only)) | (k_unmd; k_unfold; (try dsimp only)) | (k_end; wrow_close) | walk1 | (dsimp only; walk1) | (leave1; walk_say "STEP leave1"; try dsimp only) | fail "no step")
    all_goals (exact hret _ _ _ _ (by assumption) (kst_newsOf (by assumption) (by intro p hp; (repeat' (first | exact hp | refine List.mem_cons_of_mem _ ?_)))) (.mk))
  intro spec_result_dim
  k_with "call ref" => ((k_here; (with_reducible show wpAny _ _ (call (Value.ref 444) _) _ _ _); k_dflt (refine' (spec_result_dim _ _ _).use (by k_asm) (by k_asm) (by k_asm) (by k_asm) (by k_asm) (by first | exact rfl | assumption) (by (repeat' (first | assumption | (refine And.intro ?_ ?_) | exact IsNum.mono (by assumption) (by intro p hp; (repeat' (first | exact hp | exact List.mem_append_left _ hp | refine List.mem_cons_of_mem _ ?_ | refine List.mem_append_left _ ?_)))))) ?hd_w21 ?hu_w21 ?_; (case hd_w21 => k_room); (case hu_w21 => k_units)); k_whole; intro r9 n9 h9 t9 F9 N9 p9; (cases p9); (try dsimp only); (try k_unmd); (try k_sweep)))
  refine mcut (P := C_spec_note_one) ?_ ?_
  · unfold C_spec_note_one; intro w u v no
    unfold Spec; k_fill
    intro p loose mean mg mb dp un gd cn cs a0 ccd cl outer A₀ base h₀ L m news s Q E B F X N T hk ⟨hu9, hv9⟩ hd hu hret
    refine wpAny_call ?_
    k_dflt ktr_enter
    repeat' (first | (k_unfold; (try dsimp only)) | (k_unmd; k_unfold; (try dsimp only)) | (k_end; wrow_close) | walk1 | (dsimp only; walk1) | (leave1; walk_say "STEP leave1"; try dsimp only) | fail "no step")
    all_goals (exact hret _ _ _ _ (by assumption) (kst_newsOf (by assumption) (by intro p hp; (repeat' (first | exact hp | refine List.mem_cons_of_mem _ ?_)))) (.mk))
  intro spec_note_one
  k_with "call ref" => ((k_here; (with_reducible show wpAny _ _ (call (Value.ref 451) _) _ _ _); k_dflt (refine' (spec_note_one _ _ _ _).use (by k_asm) (by k_asm) (by k_asm) (by k_asm) (by k_asm) (by first | exact rfl | assumption) (by (repeat' (first | assumption | (refine And.intro ?_ ?_) | exact IsNum.mono (by assumption) (by intro p hp; (repeat' (first | exact hp | exact List.mem_append_left _ hp | refine List.mem_cons_of_mem _ ?_ | refine List.mem_append_left _ ?_)))))) ?hd_w22 ?hu_w22 ?_; (case hd_w22 => k_room); (case hu_w22 => k_units)); k_whole; intro r9 n9 h9 t9 F9 N9 p9; (cases p9); (try dsimp only); (try k_unmd); (try k_sweep)))
  refine mcut (P := C_spec_recycle) ?_ ?_
  · unfold C_spec_recycle; intro w t1 t2
    unfold Spec; k_fill
    intro p loose mean mg mb dp un gd cn cs a0 ccd cl outer A₀ base h₀ L m news s Q E B F X N T hk _ hd hu hret
    refine wpAny_call ?_
    k_dflt ktr_enter
    repeat' (first | (k_unfold; (try dsimp only)) | (k_unmd; k_unfold; (try dsimp only)) | (k_end; wrow_close) | walk1 | (dsimp only; walk1) | (leave1; walk_say "STEP leave1"; try dsimp only) | fail "no step")
    all_goals (exact hret _ _ _ _ (by assumption) (kst_newsOf (by assumption) (by intro p hp; (repeat' (first | exact hp | refine List.mem_cons_of_mem _ ?_)))) (.mk _))
  intro spec_recycle
  refine mcut (P := C_spec_note_recycling) ?_ ?_
  · unfold C_spec_note_recycling; intro w t1 t2 no
    unfold Spec; k_fill
    intro p loose mean mg mb dp un gd cn cs a0 ccd cl outer A₀ base h₀ L m news s Q E B F X N T hk _ hd hu hret
    refine wpAny_call ?_
    k_dflt ktr_enter
    repeat' (first | (k_unfold; (try dsimp only)) | (k_unmd; k_unfold; (try dsimp only)) | (k_end; wrow_close) | walk1 | (dsimp only; walk1) | (leave1; walk_say "STEP leave1"; try dsimp only) | fail "no step")
    all_goals (exact hret _ _ _ _ (by assumption) (kst_newsOf (by assumption) (by intro p hp; (repeat' (first | exact hp | refine List.mem_cons_of_mem _ ?_)))) (.mk))
  intro spec_note_recycling
  k_with "call ref" => ((k_here; (with_reducible show wpAny _ _ (call (Value.ref 423) _) _ _ _); k_dflt (refine' (spec_recycle _ _ _).use (by k_asm) (by k_asm) (by k_asm) (by k_asm) (by k_asm) (by first | exact rfl | assumption) (by exact trivial) ?hd_w23 ?hu_w23 ?_; (case hd_w23 => k_room); (case hu_w23 => k_units)); k_whole; intro r9 n9 h9 t9 F9 N9 p9; (cases p9); (try dsimp only); (try k_unmd); (try k_sweep)))
  k_with "call ref" => ((k_here; (with_reducible show wpAny _ _ (call (Value.ref 430) _) _ _ _); k_dflt (refine' (spec_note_recycling _ _ _ _).use (by k_asm) (by k_asm) (by k_asm) (by k_asm) (by k_asm) (by first | exact rfl | assumption) (by exact trivial) ?hd_w24 ?hu_w24 ?_; (case hd_w24 => k_room); (case hu_w24 => k_units)); k_whole; intro r9 n9 h9 t9 F9 N9 p9; (cases p9); (try dsimp only); (try k_unmd); (try k_sweep)))
  refine mcut (P := C_spec_common_length) ?_ ?_
  · unfold C_spec_common_length; intro w u v no
    unfold Spec; k_fill
    intro p loose mean mg mb dp un gd cn cs a0 ccd cl outer A₀ base h₀ L m news s Q E B F X N T hk ⟨hu9, hv9⟩ hd hu hret
    refine wpAny_call ?_
    k_dflt ktr_enter
    repeat' (first | (k_unfold; (try dsimp only)) | (k_unmd; k_unfold; (try dsimp only)) | (k_end; wrow_close) | walk1 | (dsimp only; walk1) | (leave1; walk_say "STEP leave1"; try dsimp only) | fail "no step")
    all_goals (exact hret _ _ _ _ (by assumption) (kst_newsOf (by assumption) (by intro p hp; (repeat' (first | exact hp | refine List.mem_cons_of_mem _ ?_)))) (.mk _))
  intro spec_common_length
  k_with_none
  k_with "execs cons" => ((k_here; (refine wpAny_execs_cons ?_); (try k_fold)))
  k_with "exec If" => ((k_here; (refine wpAny_If ?_); (try k_fold)))
  k_with "callWith ref nil nil" => ((k_here; (with_reducible show wpAny _ _ (callWith _ (Value.ref _) _ (backTo _ (starEach [] _)) []) _ _ _); k_dflt (refine callWith_K0 (Frag.In.keeps (by with_reducible assumption) (Fr.keep (by with_reducible assumption))) (by k_is) ?_)))
  k_with "k_mem" => (((repeat' (first | ktr_member | refine' List.mem_cons_of_mem _ ?_)); done))
  k_with "k_room" => (first | exact room2 (by with_reducible assumption) (by decide) | exact Nat.le_of_ble_eq_true rfl | exact room1 (by with_reducible assumption) (by decide) | exact room4 (by with_reducible assumption) (by decide) | (simp only [depth_under_make, depth_under_kw, depth_in1, depth_deeper, depth_caller, recursionLimit] at *; omega))
  k_with "k_units" => (first | exact room2 (by with_reducible assumption) (by decide) | exact Nat.le_of_ble_eq_true rfl | exact room1 (by with_reducible assumption) (by decide) | exact room4 (by with_reducible assumption) (by decide) | (simp only [units_in1, units_deeper, Around.mark_units, units_caller, cLine] at *; omega))
  k_with "k_ne" => ((refine neN ?_; (try dsimp only); first | exact Nat.ne_of_lt (by (first | with_reducible assumption | exact And.left (by with_reducible assumption) | exact And.left (And.right (by with_reducible assumption)) | exact And.left (And.right (And.right (by with_reducible assumption))) | exact And.left (And.right (And.right (And.right (by with_reducible assumption)))) | exact And.left (And.right (And.right (And.right (And.right (by with_reducible assumption))))) | exact And.left (And.right (And.right (And.right (And.right (And.right (by with_reducible assumption)))))) | exact And.left (And.right (And.right (And.right (And.right (And.right (And.right (by with_reducible assumption))))))) | exact And.left (And.right (And.right (And.right (And.right (And.right (And.right (And.right (by with_reducible assumption)))))))) | exact And.left (And.right (And.right (And.right (And.right (And.right (And.right (And.right (And.right (by with_reducible assumption))))))))))) | exact Nat.ne_of_gt (by (first | with_reducible assumption | exact And.left (by with_reducible assumption) | exact And.left (And.right (by with_reducible assumption)) | exact And.left (And.right (And.right (by with_reducible assumption))) | exact And.left (And.right (And.right (And.right (by with_reducible assumption)))) | exact And.left (And.right (And.right (And.right (And.right (by with_reducible assumption))))) | exact And.left (And.right (And.right (And.right (And.right (And.right (by with_reducible assumption)))))) | exact And.left (And.right (And.right (And.right (And.right (And.right (And.right (by with_reducible assumption))))))) | exact And.left (And.right (And.right (And.right (And.right (And.right (And.right (And.right (by with_reducible assumption)))))))) | exact And.left (And.right (And.right (And.right (And.right (And.right (And.right (And.right (And.right (by with_reducible assumption))))))))))) | omega))
  k_with "subscriptTail" => ((k_here; (with_reducible show wpAny _ _ (subscriptTail _ _ (Value.ref _) (Value.int _ _)) _ _ _); k_dflt (refine' lw_getItem ?N_w29 ?m_w29 ?a_w29 ?b_w29 ?x_w29 ?_; (case N_w29 => k_asm); (case m_w29 => k_mem); (case x_w29 => first | exact rfl | assumption); (case a_w29 => omega); (case b_w29 => omega); k_whole)))
  refine mcut (P := C_spec_number_items) ?_ ?_
  · unfold C_spec_number_items; intro w u dx li tp sb e n
    unfold Spec; k_fill
    intro p loose mean mg mb dp un gd cn cs a0 ccd cl outer A₀ base h₀ L m news s Q E B F X N T hk hu9 hd hu hret
    obtain ⟨s11, s12, s13, s14, s15, s16, s17, s18, g11, g12, g13, g14⟩ := id hu9
    refine wpAny_call ?_
    k_dflt ktr_enter
    repeat' (first | (k_unfold; (try dsimp only)) | (k_unmd; k_unfold; (try dsimp only)) | (k_end; wrow_close) | walk1 | (dsimp only; walk1) | (leave1; walk_say "STEP leave1"; try dsimp only) | fail "no step")
    all_goals (exact hret _ _ _ _ (by assumption) (kst_newsOf (by assumption) (by intro p hp; (repeat' (first | exact hp | refine List.mem_cons_of_mem _ ?_)))) (.mk))
  intro spec_number_items
  refine mcut (P := C_spec_double_items) ?_ ?_
  · unfold C_spec_double_items; intro w u dx li tp sb e n
    unfold Spec; k_fill
    intro p loose mean mg mb dp un gd cn cs a0 ccd cl outer A₀ base h₀ L m news s Q E B F X N T hk hu9 hd hu hret
    obtain ⟨s11, s12, s13, s14, s15, s16, s17, s18, g11, g12, g13, g14⟩ := id hu9
    refine wpAny_call ?_
    k_dflt ktr_enter
    repeat' (first | (k_unfold; (try dsimp only)) | (k_unmd; k_unfold; (try dsimp only)) | (k_end; wrow_close) | walk1 | (dsimp only; walk1) | (leave1; walk_say "STEP leave1"; try dsimp only) | fail "no step")
    all_goals (exact hret _ _ _ _ (by assumption) (kst_newsOf (by assumption) (by intro p hp; (repeat' (first | exact hp | refine List.mem_cons_of_mem _ ?_)))) (.mk))
  intro spec_double_items
  k_with "WhlIf" => ((refine WhlIf.no (gcd_stop _) ?_))
  refine mcut (P := C_spec_gcd) ?_ ?_
  · unfold C_spec_gcd; intro w a t1 t2
    unfold Spec; k_fill
    intro p loose mean mg mb dp un gd cn cs a0 ccd cl outer A₀ base h₀ L m news s Q E B F X N T hk _ hd hu hret
    refine wpAny_call ?_
    k_dflt ktr_enter
    repeat' (first | (k_unfold; (try dsimp only)) | (k_unmd; k_unfold; (try dsimp only)) | (k_end; wrow_close) | walk1 | (dsimp only; walk1) | (leave1; walk_say "STEP leave1"; try dsimp only) | fail "no step")
    all_goals (exact hret _ _ _ _ (by assumption) (kst_newsOf (by assumption) (by intro p hp; (repeat' (first | exact hp | refine List.mem_cons_of_mem _ ?_)))) (.mk _))
  intro spec_gcd
  refine mcut (P := C_spec_is_na) ?_ ?_
  · unfold C_spec_is_na; intro w x a t1 t2
    unfold Spec; k_fill
    intro p loose mean mg mb dp un gd cn cs a0 ccd cl outer A₀ base h₀ L m news s Q E B F X N T hk hx hd hu hret
    refine wpAny_call ?_
    k_dflt ktr_enter
    repeat' (first | (k_unfold; (try dsimp only)) | (k_unmd; k_unfold; (try dsimp only)) | (k_end; wrow_close) | walk1 | (dsimp only; walk1) | (leave1; walk_say "STEP leave1"; try dsimp only) | fail "no step")
    all_goals (exact hret _ _ _ _ (by assumption) (kst_newsOf (by assumption) (by intro p hp; (repeat' (first | exact hp | refine List.mem_cons_of_mem _ ?_)))) (Same.of (by first | rfl | (congr 1; first | assumption | (simp_all; done)))))
  intro spec_is_na
  k_with "call ref" => ((k_here; (with_reducible show wpAny _ _ (call (Value.ref 83) _) _ _ _); k_dflt (refine' (spec_gcd _ _ _ _).use (by k_asm) (by k_asm) (by k_asm) (by k_asm) (by k_asm) (by first | exact rfl | assumption) (by exact trivial) ?hd_w31 ?hu_w31 ?_; (case hd_w31 => k_room); (case hu_w31 => k_units)); k_whole; intro r9 n9 h9 t9 F9 N9 p9; (cases p9); (try dsimp only); (try k_unmd); (try k_sweep)))
  k_with "call ref" => ((k_here; (with_reducible show wpAny _ _ (call (Value.ref 111) _) _ _ _); k_dflt (refine' (spec_is_na _ _ _ _ _).use (by k_asm) (by k_asm) (by k_asm) (by k_asm) (by k_asm) (by first | exact rfl | assumption) (by k_mem) ?hd_w32 ?hu_w32 ?_; (case hd_w32 => k_room); (case hu_w32 => k_units)); k_whole; intro r9 n9 h9 t9 F9 N9 p9; (cases p9); (try dsimp only); (try k_unmd); (try k_sweep)))
  refine mcut (P := C_spec_bounded) ?_ ?_
  · unfold C_spec_bounded; intro w n t1 t2
    unfold Spec; k_fill
    intro p loose mean mg mb dp un gd cn cs a0 ccd cl outer A₀ base h₀ L m news s Q E B F X N T hk ⟨hn0, hn1⟩ hd hu hret
    refine wpAny_call ?_
    k_dflt ktr_enter
    repeat' (first | (k_unfold; (try dsimp only)) | (k_unmd; k_unfold; (try dsimp only)) | (k_end; wrow_close) | walk1 | (dsimp only; walk1) | (leave1; walk_say "STEP leave1"; try dsimp only) | fail "no step")
    all_goals (
      (try simp only [Int.fdiv_one, Int.mul_one, Int.sub_eq_add_neg, Int.zero_add] at *)
      (rename News _ _ _ _ => lN)
      refine hret _ _ _ _ (by assumption) (fin_t lN (by intro p hp; (repeat' (first | exact hp | refine List.mem_cons_of_mem _ ?_)))) (.mk _ _ _ ?_)
      first | assumption | (rename (AllLt _ _) => hq9; exact tb_ltOf hq9) | exact tb_ltOf (by tbn_find))
  intro spec_bounded
  k_with "call ref" => ((k_here; (with_reducible show wpAny _ _ (call (Value.ref 90) _) _ _ _); k_dflt (refine' (spec_bounded _ _ _ _).use (by k_asm) (by k_asm) (by k_asm) (by k_asm) (by k_asm) (by first | exact rfl | assumption) (by (refine ⟨?_, ?_⟩ <;> (try simp only [Int.fdiv_one, Int.mul_one]) <;> omega)) ?hd_w33 ?hu_w33 ?_; (case hd_w33 => k_room); (case hu_w33 => k_units)); k_whole; intro r9 n9 h9 t9 F9 N9 p9; (obtain ⟨z9, t59, t69, l9⟩ := p9; (try k_lt l9)); (try dsimp only); (try k_unmd); (try k_sweep)))
  refine mcut (P := C_spec_make) ?_ ?_
  · unfold C_spec_make; intro w n t1 t2
    unfold Spec; k_fill
    intro p loose mean mg mb dp un gd cn cs a0 ccd cl outer A₀ base h₀ L m news s Q E B F X N T hk ⟨hn0, hn1⟩ hd hu hret
    refine wpAny_call ?_
    k_dflt ktr_enter
    repeat' (first | (k_unfold; (try dsimp only)) | (k_unmd; k_unfold; (try dsimp only)) | (k_end; wrow_close) | walk1 | (dsimp only; walk1) | (leave1; walk_say "STEP leave1"; try dsimp only) | fail "no step")
    all_goals (
      (try simp only [Int.fdiv_one, Int.mul_one, Int.sub_eq_add_neg, Int.zero_add] at *)
      (rename News _ _ _ _ => lN)
      refine hret _ _ _ _ (by assumption) (fin_t lN (by intro p hp; (repeat' (first | exact hp | refine List.mem_cons_of_mem _ ?_)))) (.mk _ _ _ ?_)
      first | assumption | (rename (AllLt _ _) => hq9; exact tb_ltOf hq9) | exact tb_ltOf (by tbn_find))
  intro spec_make
  k_with "call ref" => ((k_here; (with_reducible show wpAny _ _ (call (Value.ref 97) _) _ _ _); k_dflt (refine' (spec_make _ _ _ _).use (by k_asm) (by k_asm) (by k_asm) (by k_asm) (by k_asm) (by first | exact rfl | assumption) (by (refine ⟨?_, ?_⟩ <;> (try simp only [Int.fdiv_one, Int.mul_one]) <;> omega)) ?hd_w34 ?hu_w34 ?_; (case hd_w34 => k_room); (case hu_w34 => k_units)); k_whole; intro r9 n9 h9 t9 F9 N9 p9; (obtain ⟨z9, t59, t69, l9⟩ := p9; (try k_lt l9)); (try dsimp only); (try k_unmd); (try k_sweep)))
  refine mcut (P := C_spec_neg) ?_ ?_
  · unfold C_spec_neg; intro w x a t1 t2
    unfold Spec; k_fill
    intro p loose mean mg mb dp un gd cn cs a0 ccd cl outer A₀ base h₀ L m news s Q E B F X N T hk hx hd hu hret
    refine wpAny_call ?_
    k_dflt ktr_enter
    repeat' (first | (k_unfold; (try dsimp only)) | (k_unmd; k_unfold; (try dsimp only)) | (k_end; wrow_close) | walk1 | (dsimp only; walk1) | (leave1; walk_say "STEP leave1"; try dsimp only) | fail "no step")
    all_goals (
      (try simp only [Int.fdiv_one, Int.mul_one, Int.sub_eq_add_neg, Int.zero_add] at *)
      (rename News _ _ _ _ => lN)
      refine hret _ _ _ _ (by assumption) (fin_t lN (by intro p hp; (repeat' (first | exact hp | refine List.mem_cons_of_mem _ ?_)))) (.mk _ _ _ ?_)
      first | assumption | (rename (AllLt _ _) => hq9; exact tb_ltOf hq9) | exact tb_ltOf (by tbn_find))
  intro spec_neg
  refine mcut (P := C_spec_add) ?_ ?_
  · unfold C_spec_add; intro w x y a b t1 t2 t3 t4
    unfold Spec; k_fill
    intro p loose mean mg mb dp un gd cn cs a0 ccd cl outer A₀ base h₀ L m news s Q E B F X N T hk ⟨hx, hy, ha0, ha1, hb0, hb1⟩ hd hu hret
    refine wpAny_call ?_
    k_dflt ktr_enter
    repeat' (first | (k_unfold; (try dsimp only)) | (k_unmd; k_unfold; (try dsimp only)) | (k_end; wrow_close) | walk1 | (dsimp only; walk1) | (leave1; walk_say "STEP leave1"; try dsimp only) | fail "no step")
    all_goals (
      (try simp only [Int.fdiv_one, Int.mul_one, Int.sub_eq_add_neg, Int.zero_add] at *)
      (rename News _ _ _ _ => lN)
      refine hret _ _ _ _ (by assumption) (fin_t lN (by intro p hp; (repeat' (first | exact hp | refine List.mem_cons_of_mem _ ?_)))) (.mk _ _ _ ?_)
      first | assumption | (rename (AllLt _ _) => hq9; exact tb_ltOf hq9) | exact tb_ltOf (by tbn_find))
  intro spec_add
  refine mcut (P := C_spec_sub) ?_ ?_
  · unfold C_spec_sub; intro w x y a b t1 t2 t3 t4
    unfold Spec; k_fill
    intro p loose mean mg mb dp un gd cn cs a0 ccd cl outer A₀ base h₀ L m news s Q E B F X N T hk ⟨hx, hy, ha0, ha1, hb0, hb1⟩ hd hu hret
    refine wpAny_call ?_
    k_dflt ktr_enter
    repeat' (first | (k_unfold; (try dsimp only)) | (k_unmd; k_unfold; (try dsimp only)) | (k_end; wrow_close) | walk1 | (dsimp only; walk1) | (leave1; walk_say "STEP leave1"; try dsimp only) | fail "no step")
    all_goals (
      (try simp only [Int.fdiv_one, Int.mul_one, Int.sub_eq_add_neg, Int.zero_add] at *)
      (rename News _ _ _ _ => lN)
      refine hret _ _ _ _ (by assumption) (fin_t lN (by intro p hp; (repeat' (first | exact hp | refine List.mem_cons_of_mem _ ?_)))) (.mk _ _ _ ?_)
      first | assumption | (rename (AllLt _ _) => hq9; exact tb_ltOf hq9) | exact tb_ltOf (by tbn_find))
  intro spec_sub
  refine mcut (P := C_spec_within) ?_ ?_
  · unfold C_spec_within; intro w x a t1 t2
    unfold Spec; k_fill
    intro p loose mean mg mb dp un gd cn cs a0 ccd cl outer A₀ base h₀ L m news s Q E B F X N T hk ⟨hx, ha0, ha1⟩ hd hu hret
    refine wpAny_call ?_
    k_dflt ktr_enter
    repeat' (first | (k_unfold; (try dsimp only)) | (k_unmd; k_unfold; (try dsimp only)) | (k_end; wrow_close) | walk1 | (dsimp only; walk1) | (leave1; walk_say "STEP leave1"; try dsimp only) | fail "no step")
    all_goals (exact hret _ _ _ _ (by assumption) (kst_newsOf (by assumption) (by intro p hp; (repeat' (first | exact hp | refine List.mem_cons_of_mem _ ?_)))) (.mk))
  intro spec_within
  k_with_none
  k_with "execs cons" => ((k_here; (refine wpAny_execs_cons ?_); (try k_fold)))
  k_with "exec If" => ((k_here; (refine wpAny_If ?_); (try k_fold)))
  k_with "callWith ref nil nil" => ((k_here; (with_reducible show wpAny _ _ (callWith _ (Value.ref _) _ (backTo _ (starEach [] _)) []) _ _ _); k_dflt (refine callWith_K0 (Frag.In.keeps (by with_reducible assumption) (Fr.keep (by with_reducible assumption))) (by k_is) ?_)))
  k_with "k_mem" => (((repeat' (first | ktr_member | refine' List.mem_cons_of_mem _ ?_)); done))
  k_with "k_room" => (first | exact room2 (by with_reducible assumption) (by decide) | exact Nat.le_of_ble_eq_true rfl | exact room1 (by with_reducible assumption) (by decide) | exact room4 (by with_reducible assumption) (by decide) | (simp only [depth_under_make, depth_under_kw, depth_in1, depth_deeper, depth_caller, recursionLimit] at *; omega))
  k_with "k_units" => (first | exact room2 (by with_reducible assumption) (by decide) | exact Nat.le_of_ble_eq_true rfl | exact room1 (by with_reducible assumption) (by decide) | exact room4 (by with_reducible assumption) (by decide) | (simp only [units_in1, units_deeper, Around.mark_units, units_caller, cLine] at *; omega))
  k_with "k_ne" => ((refine neN ?_; (try dsimp only); first | exact Nat.ne_of_lt (by (first | with_reducible assumption | exact And.left (by with_reducible assumption) | exact And.left (And.right (by with_reducible assumption)) | exact And.left (And.right (And.right (by with_reducible assumption))) | exact And.left (And.right (And.right (And.right (by with_reducible assumption)))) | exact And.left (And.right (And.right (And.right (And.right (by with_reducible assumption))))) | exact And.left (And.right (And.right (And.right (And.right (And.right (by with_reducible assumption)))))) | exact And.left (And.right (And.right (And.right (And.right (And.right (And.right (by with_reducible assumption))))))) | exact And.left (And.right (And.right (And.right (And.right (And.right (And.right (And.right (by with_reducible assumption)))))))) | exact And.left (And.right (And.right (And.right (And.right (And.right (And.right (And.right (And.right (by with_reducible assumption))))))))))) | exact Nat.ne_of_gt (by (first | with_reducible assumption | exact And.left (by with_reducible assumption) | exact And.left (And.right (by with_reducible assumption)) | exact And.left (And.right (And.right (by with_reducible assumption))) | exact And.left (And.right (And.right (And.right (by with_reducible assumption)))) | exact And.left (And.right (And.right (And.right (And.right (by with_reducible assumption))))) | exact And.left (And.right (And.right (And.right (And.right (And.right (by with_reducible assumption)))))) | exact And.left (And.right (And.right (And.right (And.right (And.right (And.right (by with_reducible assumption))))))) | exact And.left (And.right (And.right (And.right (And.right (And.right (And.right (And.right (by with_reducible assumption)))))))) | exact And.left (And.right (And.right (And.right (And.right (And.right (And.right (And.right (And.right (by with_reducible assumption))))))))))) | omega))
  k_with "subscriptTail" => ((k_here; (with_reducible show wpAny _ _ (subscriptTail _ _ (Value.ref _) (Value.int _ _)) _ _ _); k_dflt (refine' lw_getItem ?N_w39 ?m_w39 ?a_w39 ?b_w39 ?x_w39 ?_; (case N_w39 => k_asm); (case m_w39 => k_mem); (case x_w39 => first | exact rfl | assumption); (case a_w39 => omega); (case b_w39 => omega); k_whole)))
  k_with "call ref" => ((k_here; (with_reducible show wpAny _ _ (call (Value.ref 146) _) _ _ _); k_dflt (refine' (spec_add _ _ _ _ _ _ _ _ _).use (by k_asm) (by k_asm) (by k_asm) (by k_asm) (by k_asm) (by first | exact rfl | assumption) (by (refine ⟨?_, ?_, ?_, ?_, ?_, ?_⟩ <;> first | assumption | omega | k_mem)) ?hd_w40 ?hu_w40 ?_; (case hd_w40 => k_room); (case hu_w40 => k_units)); k_whole; intro r9 n9 h9 t9 F9 N9 p9; (obtain ⟨z9, t59, t69, l9⟩ := p9; (try k_lt l9)); (try dsimp only); (try k_unmd); (try k_sweep)))
  k_with "call ref" => ((k_here; (with_reducible show wpAny _ _ (call (Value.ref 153) _) _ _ _); k_dflt (refine' (spec_sub _ _ _ _ _ _ _ _ _).use (by k_asm) (by k_asm) (by k_asm) (by k_asm) (by k_asm) (by first | exact rfl | assumption) (by (refine ⟨?_, ?_, ?_, ?_, ?_, ?_⟩ <;> first | assumption | omega | k_mem)) ?hd_w41 ?hu_w41 ?_; (case hd_w41 => k_room); (case hu_w41 => k_units)); k_whole; intro r9 n9 h9 t9 F9 N9 p9; (obtain ⟨z9, t59, t69, l9⟩ := p9; (try k_lt l9)); (try dsimp only); (try k_unmd); (try k_sweep)))
  k_with "call ref" => ((k_here; (with_reducible show wpAny _ _ (call (Value.ref 493) _) _ _ _); k_dflt (refine' (spec_within _ _ _ _ _).use (by k_asm) (by k_asm) (by k_asm) (by k_asm) (by k_asm) (by first | exact rfl | assumption) (by (refine ⟨?_, ?_, ?_⟩ <;> first | k_mem | omega)) ?hd_w42 ?hu_w42 ?_; (case hd_w42 => k_room); (case hu_w42 => k_units)); k_whole; intro r9 n9 h9 t9 F9 N9 p9; (cases p9); (try dsimp only); (try k_unmd); (try k_sweep)))
  refine mcut (P := C_spec_double_add) ?_ ?_
  · unfold C_spec_double_add; intro w x y a b t0 t1 t2 t3 t4
    unfold Spec; k_fill
    intro p loose mean mg mb dp un gd cn cs a0 ccd cl outer A₀ base h₀ L m news s Q E B F X N T hk ⟨hx, hy, ha0, ha1, hb0, hb1⟩ hd hu hret
    refine wpAny_call ?_
    k_dflt ktr_enter
    repeat' (first | (k_unfold; (try dsimp only)) | (k_unmd; k_unfold; (try dsimp only)) | (k_end; wrow_close) | walk1 | (dsimp only; walk1) | (leave1; walk_say "STEP leave1"; try dsimp only) | fail "no step")
    all_goals (
      (try simp only [Int.fdiv_one, Int.mul_one, Int.sub_eq_add_neg, Int.zero_add] at *)
      (rename News _ _ _ _ => lN)
      refine hret _ _ _ _ (by assumption) (fin_t lN (by intro p hp; (repeat' (first | exact hp | refine List.mem_cons_of_mem _ ?_)))) (.mk _ _ _ ?_)
      first | assumption | (rename (AllLt _ _) => hq9; exact tb_ltOf hq9) | exact tb_ltOf (by tbn_find))
  intro spec_double_add
  refine mcut (P := C_spec_double_sub) ?_ ?_
  · unfold C_spec_double_sub; intro w x y a b t0 t1 t2 t3 t4
    unfold Spec; k_fill
    intro p loose mean mg mb dp un gd cn cs a0 ccd cl outer A₀ base h₀ L m news s Q E B F X N T hk ⟨hx, hy, ha0, ha1, hb0, hb1⟩ hd hu hret
    refine wpAny_call ?_
    k_dflt ktr_enter
    repeat' (first | (k_unfold; (try dsimp only)) | (k_unmd; k_unfold; (try dsimp only)) | (k_end; wrow_close) | walk1 | (dsimp only; walk1) | (leave1; walk_say "STEP leave1"; try dsimp only) | fail "no step")
    all_goals (
      (try simp only [Int.fdiv_one, Int.mul_one, Int.sub_eq_add_neg, Int.zero_add] at *)
      (rename News _ _ _ _ => lN)
      refine hret _ _ _ _ (by assumption) (fin_t lN (by intro p hp; (repeat' (first | exact hp | refine List.mem_cons_of_mem _ ?_)))) (.mk _ _ _ ?_)
      first | assumption | (rename (AllLt _ _) => hq9; exact tb_ltOf hq9) | exact tb_ltOf (by tbn_find))
  intro spec_double_sub
  k_with_none
  k_with "execs cons" => ((k_here; (refine wpAny_execs_cons ?_); (try k_fold)))
  k_with "exec If" => ((k_here; (refine wpAny_If ?_); (try k_fold)))
  k_with "callWith ref nil nil" => ((k_here; (with_reducible show wpAny _ _ (callWith _ (Value.ref _) _ (backTo _ (starEach [] _)) []) _ _ _); k_dflt (refine callWith_K0 (Frag.In.keeps (by with_reducible assumption) (Fr.keep (by with_reducible assumption))) (by k_is) ?_)))
  k_with "k_mem" => (((repeat' (first | ktr_member | refine' List.mem_cons_of_mem _ ?_)); done))
  k_with "k_room" => (first | exact room2 (by with_reducible assumption) (by decide) | exact Nat.le_of_ble_eq_true rfl | exact room1 (by with_reducible assumption) (by decide) | exact room4 (by with_reducible assumption) (by decide) | (simp only [depth_under_make, depth_under_kw, depth_in1, depth_deeper, depth_caller, recursionLimit] at *; omega))
  k_with "k_units" => (first | exact room2 (by with_reducible assumption) (by decide) | exact Nat.le_of_ble_eq_true rfl | exact room1 (by with_reducible assumption) (by decide) | exact room4 (by with_reducible assumption) (by decide) | (simp only [units_in1, units_deeper, Around.mark_units, units_caller, cLine] at *; omega))
  k_with "k_ne" => ((refine neN ?_; (try dsimp only); first | exact Nat.ne_of_lt (by (first | with_reducible assumption | exact And.left (by with_reducible assumption) | exact And.left (And.right (by with_reducible assumption)) | exact And.left (And.right (And.right (by with_reducible assumption))) | exact And.left (And.right (And.right (And.right (by with_reducible assumption)))) | exact And.left (And.right (And.right (And.right (And.right (by with_reducible assumption))))) | exact And.left (And.right (And.right (And.right (And.right (And.right (by with_reducible assumption)))))) | exact And.left (And.right (And.right (And.right (And.right (And.right (And.right (by with_reducible assumption))))))) | exact And.left (And.right (And.right (And.right (And.right (And.right (And.right (And.right (by with_reducible assumption)))))))) | exact And.left (And.right (And.right (And.right (And.right (And.right (And.right (And.right (And.right (by with_reducible assumption))))))))))) | exact Nat.ne_of_gt (by (first | with_reducible assumption | exact And.left (by with_reducible assumption) | exact And.left (And.right (by with_reducible assumption)) | exact And.left (And.right (And.right (by with_reducible assumption))) | exact And.left (And.right (And.right (And.right (by with_reducible assumption)))) | exact And.left (And.right (And.right (And.right (And.right (by with_reducible assumption))))) | exact And.left (And.right (And.right (And.right (And.right (And.right (by with_reducible assumption)))))) | exact And.left (And.right (And.right (And.right (And.right (And.right (And.right (by with_reducible assumption))))))) | exact And.left (And.right (And.right (And.right (And.right (And.right (And.right (And.right (by with_reducible assumption)))))))) | exact And.left (And.right (And.right (And.right (And.right (And.right (And.right (And.right (And.right (by with_reducible assumption))))))))))) | omega))
  k_with "subscriptTail" => ((k_here; (with_reducible show wpAny _ _ (subscriptTail _ _ (Value.ref _) (Value.int _ _)) _ _ _); k_dflt (refine' lw_getItem ?N_w47 ?m_w47 ?a_w47 ?b_w47 ?x_w47 ?_; (case N_w47 => k_asm); (case m_w47 => k_mem); (case x_w47 => first | exact rfl | assumption); (case a_w47 => omega); (case b_w47 => omega); k_whole)))
  k_with "UnrEndW" => (((rename News _ _ _ _ => lN'); (first | refine unrEnd0 (by assumption) lN' (by first | (with_unfolding_all assumption) | exact allLt_of (by assumption)) ⟨?_, ?_⟩ | refine unrEnd1 (by assumption) lN' (by first | (with_unfolding_all assumption) | exact allLt_of (by assumption)) ⟨?_, ?_⟩ | refine unrEnd2 (by assumption) lN' (by first | (with_unfolding_all assumption) | exact allLt_of (by assumption)) ⟨?_, ?_⟩); (exact ⟨by k_mem, trivial⟩)))
  k_with "pyIter ref" => ((k_here; (with_reducible show wpAny _ _ (pyIter (Value.ref _)) (fun it s₂ => TurnsAt _ _ _ _ _ _ _ _ _ it s₂) _ _); (rename Fr _ _ _ _ => lF'); (rename News _ _ _ _ => lN'); (with_unfolding_all refine iter_tupTurns (by rfl) lF' lN' (by k_mem) (by rfl) (by rfl) ?_); clear lF' lN'; intro i' l1; (try k_lt l1)))
  k_with "call ref" => ((k_here; (with_reducible show wpAny _ _ (call (Value.ref 402) _) _ _ _); k_dflt (refine' (spec_length _ _).use (by k_asm) (by k_asm) (by k_asm) (by k_asm) (by k_asm) (by first | exact rfl | assumption) (by (repeat' (first | assumption | (refine And.intro ?_ ?_) | exact IsNum.mono (by assumption) (by intro p hp; (repeat' (first | exact hp | exact List.mem_append_left _ hp | refine List.mem_cons_of_mem _ ?_ | refine List.mem_append_left _ ?_)))))) ?hd_w50 ?hu_w50 ?_; (case hd_w50 => k_room); (case hu_w50 => k_units)); k_whole; intro r9 n9 h9 t9 F9 N9 p9; (cases p9); (try dsimp only); (try k_unmd); (try k_sweep)))
  k_with "call ref" => ((k_here; (with_reducible show wpAny _ _ (call (Value.ref 40) _) _ _ _); k_dflt (refine' (spec_dim_of _ _).use (by k_asm) (by k_asm) (by k_asm) (by k_asm) (by k_asm) (by first | exact rfl | assumption) (by (repeat' (first | assumption | (refine And.intro ?_ ?_) | exact IsNum.mono (by assumption) (by intro p hp; (repeat' (first | exact hp | exact List.mem_append_left _ hp | refine List.mem_cons_of_mem _ ?_ | refine List.mem_append_left _ ?_)))))) ?hd_w51 ?hu_w51 ?_; (case hd_w51 => k_room); (case hu_w51 => k_units)); k_whole; intro r9 n9 h9 t9 F9 N9 p9; (cases p9); (try dsimp only); (try k_unmd); (try k_sweep)))
  k_with "call ref" => ((k_here; (with_reducible show wpAny _ _ (call (Value.ref 444) _) _ _ _); k_dflt (refine' (spec_result_dim _ _ _).use (by k_asm) (by k_asm) (by k_asm) (by k_asm) (by k_asm) (by first | exact rfl | assumption) (by (repeat' (first | assumption | (refine And.intro ?_ ?_) | exact IsNum.mono (by assumption) (by intro p hp; (repeat' (first | exact hp | exact List.mem_append_left _ hp | refine List.mem_cons_of_mem _ ?_ | refine List.mem_append_left _ ?_)))))) ?hd_w52 ?hu_w52 ?_; (case hd_w52 => k_room); (case hu_w52 => k_units)); k_whole; intro r9 n9 h9 t9 F9 N9 p9; (cases p9); (try dsimp only); (try k_unmd); (try k_sweep)))
  k_with "call ref" => ((k_here; (with_reducible show wpAny _ _ (call (Value.ref 458) _) _ _ _); k_dflt (refine' (spec_common_length _ _ _ _).use (by k_asm) (by k_asm) (by k_asm) (by k_asm) (by k_asm) (by first | exact rfl | assumption) (by (repeat' (first | assumption | (refine And.intro ?_ ?_) | exact IsNum.mono (by assumption) (by intro p hp; (repeat' (first | exact hp | exact List.mem_append_left _ hp | refine List.mem_cons_of_mem _ ?_ | refine List.mem_append_left _ ?_)))))) ?hd_w53 ?hu_w53 ?_; (case hd_w53 => k_room); (case hu_w53 => k_units)); k_whole; intro r9 n9 h9 t9 F9 N9 p9; (cases p9); (try dsimp only); (try k_unmd); (try k_sweep)))
  refine mcut (P := C_spec_attribute) ?_ ?_
  · unfold C_spec_attribute; intro w u nm t
    unfold Spec; k_fill
    intro p loose mean mg mb dp un gd cn cs a0 ccd cl outer A₀ base h₀ L m news s Q E B F X N T hk hu9 hd hu hret
    obtain ⟨dx1, li1, tp1, sb1, e1, n1, s11, s12, s13, s14, s15, s16, s17, s18, g11, g12, g13, g14⟩ := id hu9
    refine wpAny_call ?_
    k_dflt ktr_enter
    repeat' (first | (k_unfold; (try dsimp only)) | (k_unmd; k_unfold; (try dsimp only)) | (k_end; wrow_close) | walk1 | (dsimp only; walk1) | (leave1; walk_say "STEP leave1"; try dsimp only) | fail "no step")
    all_goals (exact hret _ _ _ _ (by assumption) (kst_newsOf (by assumption) (by intro p hp; (repeat' (first | exact hp | refine List.mem_cons_of_mem _ ?_)))) (.mk))
  intro spec_attribute
  k_with "call ref" => ((k_here; (with_reducible show wpAny _ _ (call (Value.ref 465) _) _ _ _); k_dflt (refine' (spec_attribute _ _ _ _).use (by k_asm) (by k_asm) (by k_asm) (by k_asm) (by k_asm) (by first | exact rfl | assumption) (by (repeat' (first | assumption | (refine And.intro ?_ ?_) | exact IsNum.mono (by assumption) (by intro p hp; (repeat' (first | exact hp | exact List.mem_append_left _ hp | refine List.mem_cons_of_mem _ ?_ | refine List.mem_append_left _ ?_)))))) ?hd_w54 ?hu_w54 ?_; (case hd_w54 => k_room); (case hu_w54 => k_units)); k_whole; intro r9 n9 h9 t9 F9 N9 p9; (cases p9); (try dsimp only); (try k_unmd); (try k_sweep)))
  refine mcut (P := C_spec_shape_attrs) ?_ ?_
  · unfold C_spec_shape_attrs; intro w u v r0
    unfold Spec; k_fill
    intro p loose mean mg mb dp un gd cn cs a0 ccd cl outer A₀ base h₀ L m news s Q E B F X N T hk ⟨hu9, hv9, hr9⟩ hd hu hret
    refine wpAny_call ?_
    k_dflt ktr_enter
    repeat' (first | (k_unfold; (try dsimp only)) | (k_unmd; k_unfold; (try dsimp only)) | (k_end; wrow_close) | walk1 | (dsimp only; walk1) | (leave1; walk_say "STEP leave1"; try dsimp only) | fail "no step")
    all_goals (exact hret _ _ _ _ (by assumption) (kst_newsOf (by assumption) (by intro p hp; (repeat' (first | exact hp | refine List.mem_cons_of_mem _ ?_)))) (.mk))
  intro spec_shape_attrs
  k_with "call ref" => ((k_here; (with_reducible show wpAny _ _ (call (Value.ref 472) _) _ _ _); k_dflt (refine' (spec_shape_attrs _ _ _ _).use (by k_asm) (by k_asm) (by k_asm) (by k_asm) (by k_asm) (by first | exact rfl | assumption) (by (repeat' (first | assumption | (refine And.intro ?_ ?_) | exact IsNum.mono (by assumption) (by intro p hp; (repeat' (first | exact hp | exact List.mem_append_left _ hp | refine List.mem_cons_of_mem _ ?_ | refine List.mem_append_left _ ?_)))))) ?hd_w55 ?hu_w55 ?_; (case hd_w55 => k_room); (case hu_w55 => k_units)); k_whole; intro r9 n9 h9 t9 F9 N9 p9; (cases p9); (try dsimp only); (try k_unmd); (try k_sweep)))
  refine mcut (P := C_spec_result_attrs) ?_ ?_
  · unfold C_spec_result_attrs; intro w u v r0
    unfold Spec; k_fill
    intro p loose mean mg mb dp un gd cn cs a0 ccd cl outer A₀ base h₀ L m news s Q E B F X N T hk ⟨hu9, hv9, hr9⟩ hd hu hret
    obtain ⟨dx1, li1, tp1, sb1, e1, n1, s11, s12, s13, s14, s15, s16, s17, s18, g11, g12, g13, g14⟩ := id hu9
    obtain ⟨dx2, li2, tp2, sb2, e2, n2, s21, s22, s23, s24, s25, s26, s27, s28, g21, g22, g23, g24⟩ := id hv9
    refine wpAny_call ?_
    k_dflt ktr_enter
    repeat' (first | (k_unfold; (try dsimp only)) | (k_unmd; k_unfold; (try dsimp only)) | (k_end; wrow_close) | walk1 | (dsimp only; walk1) | (leave1; walk_say "STEP leave1"; try dsimp only) | fail "no step")
    all_goals (exact hret _ _ _ _ (by assumption) (kst_newsOf (by assumption) (by intro p hp; (repeat' (first | exact hp | refine List.mem_cons_of_mem _ ?_)))) (.mk))
  intro spec_result_attrs
  k_with_none
  k_with "execs cons" => ((k_here; (refine wpAny_execs_cons ?_); (try k_fold)))
  k_with "exec If" => ((k_here; (refine wpAny_If ?_); (try k_fold)))
  k_with "callWith ref nil nil" => ((k_here; (with_reducible show wpAny _ _ (callWith _ (Value.ref _) _ (backTo _ (starEach [] _)) []) _ _ _); k_dflt (refine callWith_K0 (Frag.In.keeps (by with_reducible assumption) (Fr.keep (by with_reducible assumption))) (by k_is) ?_)))
  k_with "k_mem" => (((repeat' (first | ktr_member | refine' List.mem_cons_of_mem _ ?_)); done))
  k_with "k_room" => (first | exact room2 (by with_reducible assumption) (by decide) | exact Nat.le_of_ble_eq_true rfl | exact room1 (by with_reducible assumption) (by decide) | exact room4 (by with_reducible assumption) (by decide) | (simp only [depth_under_make, depth_under_kw, depth_in1, depth_deeper, depth_caller, recursionLimit] at *; omega))
  k_with "k_units" => (first | exact room2 (by with_reducible assumption) (by decide) | exact Nat.le_of_ble_eq_true rfl | exact room1 (by with_reducible assumption) (by decide) | exact room4 (by with_reducible assumption) (by decide) | (simp only [units_in1, units_deeper, Around.mark_units, units_caller, cLine] at *; omega))
  k_with "k_ne" => ((refine neN ?_; (try dsimp only); first | exact Nat.ne_of_lt (by (first | with_reducible assumption | exact And.left (by with_reducible assumption) | exact And.left (And.right (by with_reducible assumption)) | exact And.left (And.right (And.right (by with_reducible assumption))) | exact And.left (And.right (And.right (And.right (by with_reducible assumption)))) | exact And.left (And.right (And.right (And.right (And.right (by with_reducible assumption))))) | exact And.left (And.right (And.right (And.right (And.right (And.right (by with_reducible assumption)))))) | exact And.left (And.right (And.right (And.right (And.right (And.right (And.right (by with_reducible assumption))))))) | exact And.left (And.right (And.right (And.right (And.right (And.right (And.right (And.right (by with_reducible assumption)))))))) | exact And.left (And.right (And.right (And.right (And.right (And.right (And.right (And.right (And.right (by with_reducible assumption))))))))))) | exact Nat.ne_of_gt (by (first | with_reducible assumption | exact And.left (by with_reducible assumption) | exact And.left (And.right (by with_reducible assumption)) | exact And.left (And.right (And.right (by with_reducible assumption))) | exact And.left (And.right (And.right (And.right (by with_reducible assumption)))) | exact And.left (And.right (And.right (And.right (And.right (by with_reducible assumption))))) | exact And.left (And.right (And.right (And.right (And.right (And.right (by with_reducible assumption)))))) | exact And.left (And.right (And.right (And.right (And.right (And.right (And.right (by with_reducible assumption))))))) | exact And.left (And.right (And.right (And.right (And.right (And.right (And.right (And.right (by with_reducible assumption)))))))) | exact And.left (And.right (And.right (And.right (And.right (And.right (And.right (And.right (And.right (by with_reducible assumption))))))))))) | omega))
  k_with "subscriptTail" => ((k_here; (with_reducible show wpAny _ _ (subscriptTail _ _ (Value.ref _) (Value.int _ _)) _ _ _); k_dflt (refine' lw_getItem ?N_w60 ?m_w60 ?a_w60 ?b_w60 ?x_w60 ?_; (case N_w60 => k_asm); (case m_w60 => k_mem); (case x_w60 => first | exact rfl | assumption); (case a_w60 => omega); (case b_w60 => omega); k_whole)))
  k_with "CompSrc" => ((k_here; k_dflt (refine LCg.CompSrc.range (by rfl) (by k_asm) (by k_asm) (by assumption) (by first | decide | rfl) (by first | rfl | decide) (by first | size_fits | exact Nat.le_of_ble_eq_true rfl) ?_; intro g'; lcg_lit)))
  k_with "eval ListComp" => ((k_here; lcf_look; k_dflt (refine LCg.ListComp_U (F₀ := by k_asm) (by with_unfolding_all rfl) (by decide) (by rfl) (by decide) (by rfl) ?_); k_dflt lcg_toSrc))
  k_with "subscriptTail" => ((k_here; (with_reducible show wpAny _ _ (subscriptTail _ _ (Value.ref _) (Value.int (Int.fmod _ 1) _)) _ _ _); k_dflt (refine' lw_getItem ?N_w63 ?m_w63 ?a_w63 ?b_w63 ?x_w63 ?_; (case N_w63 => k_asm); (case m_w63 => k_mem); (case x_w63 => exact rfl); (case a_w63 => first | omega | decide); (case b_w63 => first | omega | decide); k_whole)))
  k_with "CompEnd" => (((rename News _ _ _ _ => nE'); (refine compEnd1 (by assumption) nE' ?off_w64 ?h1_w64 ?h2_w64 ?h3_w64 ?hS_w64 ?_); (case off_w64 => first | assumption | (with_unfolding_all assumption) | (simp only [LCg.Off3, and_true]; assumption)); (case h1_w64 => omega); (case h2_w64 => omega); (case h3_w64 => omega); (case hS_w64 => first | exact trivial | lcg_src)))
  k_with "call ref" => ((k_here; (with_reducible show wpAny _ _ (call (Value.ref 500) _) _ _ _); k_dflt (refine' (spec_double_add _ _ _ _ _ _ _ _ _ _).use (by k_asm) (by k_asm) (by k_asm) (by k_asm) (by k_asm) (by first | exact rfl | assumption) (by (refine ⟨?_, ?_, ?_, ?_, ?_, ?_⟩ <;> first | assumption | omega | k_mem)) ?hd_w65 ?hu_w65 ?_; (case hd_w65 => k_room); (case hu_w65 => k_units)); k_whole; intro r9 n9 h9 t9 F9 N9 p9; (obtain ⟨z9, t59, t69, l9⟩ := p9; (try k_lt l9)); (try dsimp only); (try k_unmd); (try k_sweep)))
  refine mcut (P := C_spec_dres_add) ?_ ?_
  · unfold C_spec_dres_add; intro w l k x y a b e1 e2 t0 t1 t2 t3 t4 t9
    unfold Spec; k_fill
    intro p loose mean mg mb dp un gd cn cs a0 ccd cl outer A₀ base h₀ L m news s Q E B F X N T hk ⟨hl, hk9, hx, hy, ha0, ha1, hb0, hb1⟩ hd hu hret
    refine wpAny_call ?_
    k_dflt (refine' code_defC ?k1_spec_dres_add ?k2_spec_dres_add ?k3_spec_dres_add ?k4_spec_dres_add ?k5_spec_dres_add ?kA_spec_dres_add ?kF_spec_dres_add ?kK_spec_dres_add ?k6_spec_dres_add ?k7_spec_dres_add ?k8_spec_dres_add ?k9_spec_dres_add ?kB_spec_dres_add ?kD_spec_dres_add ?_ ?c2_spec_dres_add ?c3_spec_dres_add ?c4_spec_dres_add; (case kA_spec_dres_add => exact rfl); (case kF_spec_dres_add => exact rfl); (case kK_spec_dres_add => assumption); (case k1_spec_dres_add => k_asm); (case k2_spec_dres_add => k_asm); (case k3_spec_dres_add => k_asm); (case k4_spec_dres_add => k_asm); (case k5_spec_dres_add => k_asm); (case k6_spec_dres_add => k_is); (case k7_spec_dres_add => k_is); (case k8_spec_dres_add => ktr_room); (case k9_spec_dres_add => exact BindsTo.of_eq rfl); (case kB_spec_dres_add => exact rfl); (case kD_spec_dres_add => decide +kernel); (case c2_spec_dres_add => exact rfl); (case c3_spec_dres_add => exact rfl); (case c4_spec_dres_add => exact rfl); k_whole; intro g' L' h' tk' cells' FG' F' N' Y' B' X' T' l1; (try k_lt l1); k_cells Y'; (try simp only [List.cons_append, List.nil_append] at N'); (try dsimp only); (try k_fold))
    repeat' (first | (k_unfold; (try dsimp only)) | (k_unmd; k_unfold; (try dsimp only)) | (k_end; wrow_close) | walk1 | (dsimp only; walk1) | (leave1; walk_say "STEP leave1"; try dsimp only) | fail "no step")
    all_goals (
      (try simp only [Int.sub_eq_add_neg] at *)
      (rename News _ _ _ _ => lN)
      refine hret _ _ _ _ (by assumption) (fin_l lN (by intro p hp; (repeat' (first | exact hp | refine List.mem_cons_of_mem _ ?_)))) (.mk _ _ _ _ _ ?p1_spec_dres_add ?p2_spec_dres_add ?p3_spec_dres_add)
      (case p1_spec_dres_add => exact tb_ltOf (by tbn_find))
      (case p2_spec_dres_add => (rename (_ ∧ _ ∧ _ ∧ _ ∧ LCg.Off1 _ _) => hq9); exact off1_at hq9.2.2.2.2)
      (case p3_spec_dres_add => (rename (_ ∧ _ ∧ _ ∧ _ ∧ LCg.Off1 _ _) => hq9); exact hq9.1))
  intro spec_dres_add
  k_with "call ref" => ((k_here; (with_reducible show wpAny _ _ (call (Value.ref 500) _) _ _ _); k_dflt (refine' (spec_double_sub _ _ _ _ _ _ _ _ _ _).use (by k_asm) (by k_asm) (by k_asm) (by k_asm) (by k_asm) (by first | exact rfl | assumption) (by (refine ⟨?_, ?_, ?_, ?_, ?_, ?_⟩ <;> first | assumption | omega | k_mem)) ?hd_w66 ?hu_w66 ?_; (case hd_w66 => k_room); (case hu_w66 => k_units)); k_whole; intro r9 n9 h9 t9 F9 N9 p9; (obtain ⟨z9, t59, t69, l9⟩ := p9; (try k_lt l9)); (try dsimp only); (try k_unmd); (try k_sweep)))
  refine mcut (P := C_spec_dres_sub) ?_ ?_
  · unfold C_spec_dres_sub; intro w l k x y a b e1 e2 t0 t1 t2 t3 t4 t9
    unfold Spec; k_fill
    intro p loose mean mg mb dp un gd cn cs a0 ccd cl outer A₀ base h₀ L m news s Q E B F X N T hk ⟨hl, hk9, hx, hy, ha0, ha1, hb0, hb1⟩ hd hu hret
    refine wpAny_call ?_
    k_dflt (refine' code_defC ?k1_spec_dres_sub ?k2_spec_dres_sub ?k3_spec_dres_sub ?k4_spec_dres_sub ?k5_spec_dres_sub ?kA_spec_dres_sub ?kF_spec_dres_sub ?kK_spec_dres_sub ?k6_spec_dres_sub ?k7_spec_dres_sub ?k8_spec_dres_sub ?k9_spec_dres_sub ?kB_spec_dres_sub ?kD_spec_dres_sub ?_ ?c2_spec_dres_sub ?c3_spec_dres_sub ?c4_spec_dres_sub; (case kA_spec_dres_sub => exact rfl); (case kF_spec_dres_sub => exact rfl); (case kK_spec_dres_sub => assumption); (case k1_spec_dres_sub => k_asm); (case k2_spec_dres_sub => k_asm); (case k3_spec_dres_sub => k_asm); (case k4_spec_dres_sub => k_asm); (case k5_spec_dres_sub => k_asm); (case k6_spec_dres_sub => k_is); (case k7_spec_dres_sub => k_is); (case k8_spec_dres_sub => ktr_room); (case k9_spec_dres_sub => exact BindsTo.of_eq rfl); (case kB_spec_dres_sub => exact rfl); (case kD_spec_dres_sub => decide +kernel); (case c2_spec_dres_sub => exact rfl); (case c3_spec_dres_sub => exact rfl); (case c4_spec_dres_sub => exact rfl); k_whole; intro g' L' h' tk' cells' FG' F' N' Y' B' X' T' l1; (try k_lt l1); k_cells Y'; (try simp only [List.cons_append, List.nil_append] at N'); (try dsimp only); (try k_fold))
    repeat' (first | (k_unfold; (try dsimp only)) | (k_unmd; k_unfold; (try dsimp only)) | (k_end; wrow_close) | walk1 | (dsimp only; walk1) | (leave1; walk_say "STEP leave1"; try dsimp only) | fail "no step")
    all_goals (
      (try simp only [Int.sub_eq_add_neg] at *)
      (rename News _ _ _ _ => lN)
      refine hret _ _ _ _ (by assumption) (fin_l lN (by intro p hp; (repeat' (first | exact hp | refine List.mem_cons_of_mem _ ?_)))) (.mk _ _ _ _ _ ?p1_spec_dres_sub ?p2_spec_dres_sub ?p3_spec_dres_sub)
      (case p1_spec_dres_sub => exact tb_ltOf (by tbn_find))
      (case p2_spec_dres_sub => (rename (_ ∧ _ ∧ _ ∧ _ ∧ LCg.Off1 _ _) => hq9); exact off1_at hq9.2.2.2.2)
      (case p3_spec_dres_sub => (rename (_ ∧ _ ∧ _ ∧ _ ∧ LCg.Off1 _ _) => hq9); exact hq9.1))
  intro spec_dres_sub
  k_with_none
  k_with "execs cons" => ((k_here; (refine wpAny_execs_cons ?_); (try k_fold)))
  k_with "exec If" => ((k_here; (refine wpAny_If ?_); (try k_fold)))
  k_with "callWith ref nil nil" => ((k_here; (with_reducible show wpAny _ _ (callWith _ (Value.ref _) _ (backTo _ (starEach [] _)) []) _ _ _); k_dflt (refine callWith_K0 (Frag.In.keeps (by with_reducible assumption) (Fr.keep (by with_reducible assumption))) (by k_is) ?_)))
  k_with "k_mem" => (((repeat' (first | ktr_member | refine' List.mem_cons_of_mem _ ?_)); done))
  k_with "k_room" => (first | exact room2 (by with_reducible assumption) (by decide) | exact Nat.le_of_ble_eq_true rfl | exact room1 (by with_reducible assumption) (by decide) | exact room4 (by with_reducible assumption) (by decide) | (simp only [depth_under_make, depth_under_kw, depth_in1, depth_deeper, depth_caller, recursionLimit] at *; omega))
  k_with "k_units" => (first | exact room2 (by with_reducible assumption) (by decide) | exact Nat.le_of_ble_eq_true rfl | exact room1 (by with_reducible assumption) (by decide) | exact room4 (by with_reducible assumption) (by decide) | (simp only [units_in1, units_deeper, Around.mark_units, units_caller, cLine] at *; omega))
  k_with "k_ne" => ((refine neN ?_; (try dsimp only); first | exact Nat.ne_of_lt (by (first | with_reducible assumption | exact And.left (by with_reducible assumption) | exact And.left (And.right (by with_reducible assumption)) | exact And.left (And.right (And.right (by with_reducible assumption))) | exact And.left (And.right (And.right (And.right (by with_reducible assumption)))) | exact And.left (And.right (And.right (And.right (And.right (by with_reducible assumption))))) | exact And.left (And.right (And.right (And.right (And.right (And.right (by with_reducible assumption)))))) | exact And.left (And.right (And.right (And.right (And.right (And.right (And.right (by with_reducible assumption))))))) | exact And.left (And.right (And.right (And.right (And.right (And.right (And.right (And.right (by with_reducible assumption)))))))) | exact And.left (And.right (And.right (And.right (And.right (And.right (And.right (And.right (And.right (by with_reducible assumption))))))))))) | exact Nat.ne_of_gt (by (first | with_reducible assumption | exact And.left (by with_reducible assumption) | exact And.left (And.right (by with_reducible assumption)) | exact And.left (And.right (And.right (by with_reducible assumption))) | exact And.left (And.right (And.right (And.right (by with_reducible assumption)))) | exact And.left (And.right (And.right (And.right (And.right (by with_reducible assumption))))) | exact And.left (And.right (And.right (And.right (And.right (And.right (by with_reducible assumption)))))) | exact And.left (And.right (And.right (And.right (And.right (And.right (And.right (by with_reducible assumption))))))) | exact And.left (And.right (And.right (And.right (And.right (And.right (And.right (And.right (by with_reducible assumption)))))))) | exact And.left (And.right (And.right (And.right (And.right (And.right (And.right (And.right (And.right (by with_reducible assumption))))))))))) | omega))
  k_with "subscriptTail" => ((k_here; (with_reducible show wpAny _ _ (subscriptTail _ _ (Value.ref _) (Value.int _ _)) _ _ _); k_dflt (refine' lw_getItem ?N_w71 ?m_w71 ?a_w71 ?b_w71 ?x_w71 ?_; (case N_w71 => k_asm); (case m_w71 => k_mem); (case x_w71 => first | exact rfl | assumption); (case a_w71 => omega); (case b_w71 => omega); k_whole)))
  k_with "call ref" => ((k_here; (with_reducible show wpAny _ _ (call (Value.ref 507) _) _ _ _); k_dflt (refine' (spec_number_items _ _ _ _ _ _ _ _).use (by k_asm) (by k_asm) (by k_asm) (by k_asm) (by k_asm) (by first | exact rfl | assumption) (by first | assumption | exact NumAt.mono (by assumption) (by intro p hp; (repeat' (first | exact hp | exact List.mem_append_left _ hp | refine List.mem_cons_of_mem _ ?_ | refine List.mem_append_left _ ?_)))) ?hd_w72 ?hu_w72 ?_; (case hd_w72 => k_room); (case hu_w72 => k_units)); k_whole; intro r9 n9 h9 t9 F9 N9 p9; (cases p9); (try dsimp only); (try k_unmd); (try k_sweep)))
  k_with "call ref" => ((k_here; (with_reducible show wpAny _ _ (call (Value.ref 512) _) _ _ _); k_dflt (refine' (spec_double_items _ _ _ _ _ _ _ _).use (by k_asm) (by k_asm) (by k_asm) (by k_asm) (by k_asm) (by first | exact rfl | assumption) (by first | assumption | exact NumAt.mono (by assumption) (by intro p hp; (repeat' (first | exact hp | exact List.mem_append_left _ hp | refine List.mem_cons_of_mem _ ?_ | refine List.mem_append_left _ ?_)))) ?hd_w73 ?hu_w73 ?_; (case hd_w73 => k_room); (case hu_w73 => k_units)); k_whole; intro r9 n9 h9 t9 F9 N9 p9; (cases p9); (try dsimp only); (try k_unmd); (try k_sweep)))
  k_with "call ref" => ((k_here; (with_reducible show wpAny _ _ (call (Value.ref 458) _) _ _ _); k_dflt (refine' (spec_common_length _ _ _ _).use (by k_asm) (by k_asm) (by k_asm) (by k_asm) (by k_asm) (by first | exact rfl | assumption) (by (repeat' (first | assumption | (refine And.intro ?_ ?_) | exact IsNum.mono (by assumption) (by intro p hp; (repeat' (first | exact hp | exact List.mem_append_left _ hp | refine List.mem_cons_of_mem _ ?_ | refine List.mem_append_left _ ?_))) | exact IsNum.mk _ _ _ _ _ _ _ _ _ _ _ _ _ _ (by k_mem) (by k_mem) (by k_mem) (by k_mem)))) ?hd_w74 ?hu_w74 ?_; (case hd_w74 => k_room); (case hu_w74 => k_units)); k_whole; intro r9 n9 h9 t9 F9 N9 p9; (cases p9); (try dsimp only); (try k_unmd); (try k_sweep)))
  k_with "call ref" => ((k_here; (with_reducible show wpAny _ _ (call (Value.ref 479) _) _ _ _); k_dflt (refine' (spec_result_attrs _ _ _ _).use (by k_asm) (by k_asm) (by k_asm) (by k_asm) (by k_asm) (by first | exact rfl | assumption) (by (repeat' (first | assumption | (refine And.intro ?_ ?_) | exact IsNum.mono (by assumption) (by intro p hp; (repeat' (first | exact hp | exact List.mem_append_left _ hp | refine List.mem_cons_of_mem _ ?_ | refine List.mem_append_left _ ?_))) | exact IsNum.mk _ _ _ _ _ _ _ _ _ _ _ _ _ _ (by k_mem) (by k_mem) (by k_mem) (by k_mem)))) ?hd_w75 ?hu_w75 ?_; (case hd_w75 => k_room); (case hu_w75 => k_units)); k_whole; intro r9 n9 h9 t9 F9 N9 p9; (cases p9); (try dsimp only); (try k_unmd); (try k_sweep)))
  k_with "call ref" => ((k_here; (with_reducible show wpAny _ _ (call (Value.ref 524) _) _ _ _); k_dflt (refine' (spec_dres_add _ _ _ _ _ _ _ _ _ _ _ _ _ _ _).use (by k_asm) (by k_asm) (by k_asm) (by k_asm) (by k_asm) (by first | exact rfl | assumption) (by (refine ⟨?_, ?_, ?_, ?_, ?_, ?_, ?_, ?_⟩ <;> first | assumption | omega | k_mem)) ?hd_w76 ?hu_w76 ?_; (case hd_w76 => k_room); (case hu_w76 => k_units)); k_whole; intro r9 n9 h9 t9 F9 N9 p9; (obtain ⟨z9, li9, t59, t69, e39, l9, o9, q9⟩ := p9; (try k_lt l9)); (try dsimp only); (try k_unmd); (try k_sweep)))
  refine mcut (P := C_spec_arith_add) ?_ ?_
  · unfold C_spec_arith_add; intro w u dx1 li1 tp1 v dx2 li2 tp2 sb1 sb2 e1 e2 a b no t0
    unfold Spec; k_fill
    intro p loose mean mg mb dp un gd cn cs a0 ccd cl outer A₀ base h₀ L m news s Q E B F X N T hk ⟨hu9, hv9, ha0, ha1, hb0, hb1⟩ hd hu hret
    obtain ⟨s11, s12, s13, s14, s15, s16, s17, s18, g11, g12, g13, g14⟩ := id hu9
    obtain ⟨s21, s22, s23, s24, s25, s26, s27, s28, g21, g22, g23, g24⟩ := id hv9
    have iu := hu9.isNum
    have iv := hv9.isNum
    refine wpAny_call ?_
    k_dflt ktr_enter
    repeat' (first | (k_unfold; (try dsimp only)) | (k_unmd; k_unfold; (try dsimp only)) | (k_end; wrow_close) | walk1 | (dsimp only; walk1) | (leave1; walk_say "STEP leave1"; try dsimp only) | fail "no step")
    all_goals (
      (try simp only [Int.sub_eq_add_neg] at *)
      (rename News _ _ _ _ => lN)
      refine hret _ _ _ _ (by assumption) lN (.mk _ _ _ _ _ _ _ _ _ _ _ _ _ ?_ ?_ ?_ ?_ ?_)
      all_goals first | assumption | exact tb_ltOf (by tbn_find) | (with_unfolding_all assumption))
  intro spec_arith_add
  k_with "call ref" => ((k_here; (with_reducible show wpAny _ _ (call (Value.ref 524) _) _ _ _); k_dflt (refine' (spec_dres_sub _ _ _ _ _ _ _ _ _ _ _ _ _ _ _).use (by k_asm) (by k_asm) (by k_asm) (by k_asm) (by k_asm) (by first | exact rfl | assumption) (by (refine ⟨?_, ?_, ?_, ?_, ?_, ?_, ?_, ?_⟩ <;> first | assumption | omega | k_mem)) ?hd_w77 ?hu_w77 ?_; (case hd_w77 => k_room); (case hu_w77 => k_units)); k_whole; intro r9 n9 h9 t9 F9 N9 p9; (obtain ⟨z9, li9, t59, t69, e39, l9, o9, q9⟩ := p9; (try k_lt l9)); (try dsimp only); (try k_unmd); (try k_sweep)))
  refine mcut (P := C_spec_arith_sub) ?_ ?_
  · unfold C_spec_arith_sub; intro w u dx1 li1 tp1 v dx2 li2 tp2 sb1 sb2 e1 e2 a b no t0
    unfold Spec; k_fill
    intro p loose mean mg mb dp un gd cn cs a0 ccd cl outer A₀ base h₀ L m news s Q E B F X N T hk ⟨hu9, hv9, ha0, ha1, hb0, hb1⟩ hd hu hret
    obtain ⟨s11, s12, s13, s14, s15, s16, s17, s18, g11, g12, g13, g14⟩ := id hu9
    obtain ⟨s21, s22, s23, s24, s25, s26, s27, s28, g21, g22, g23, g24⟩ := id hv9
    have iu := hu9.isNum
    have iv := hv9.isNum
    refine wpAny_call ?_
    k_dflt ktr_enter
    repeat' (first | (k_unfold; (try dsimp only)) | (k_unmd; k_unfold; (try dsimp only)) | (k_end; wrow_close) | walk1 | (dsimp only; walk1) | (leave1; walk_say "STEP leave1"; try dsimp only) | fail "no step")
    all_goals (
      (try simp only [Int.sub_eq_add_neg] at *)
      (rename News _ _ _ _ => lN)
      refine hret _ _ _ _ (by assumption) lN (.mk _ _ _ _ _ _ _ _ _ _ _ _ _ ?_ ?_ ?_ ?_ ?_)
      all_goals first | assumption | exact tb_ltOf (by tbn_find) | (with_unfolding_all assumption))
  intro spec_arith_sub
  k_with_none
  k_with "execs cons" => ((k_here; (refine wpAny_execs_cons ?_); (try k_fold)))
  k_with "exec If" => ((k_here; (refine wpAny_If ?_); (try k_fold)))
  k_with "callWith ref nil nil" => ((k_here; (with_reducible show wpAny _ _ (callWith _ (Value.ref _) _ (backTo _ (starEach [] _)) []) _ _ _); k_dflt (refine callWith_K0 (Frag.In.keeps (by with_reducible assumption) (Fr.keep (by with_reducible assumption))) (by k_is) ?_)))
  k_with "k_mem" => (((repeat' (first | ktr_member | refine' List.mem_cons_of_mem _ ?_)); done))
  k_with "k_room" => (first | exact room2 (by with_reducible assumption) (by decide) | exact Nat.le_of_ble_eq_true rfl | exact room1 (by with_reducible assumption) (by decide) | exact room4 (by with_reducible assumption) (by decide) | (simp only [depth_under_make, depth_under_kw, depth_in1, depth_deeper, depth_caller, recursionLimit] at *; omega))
  k_with "k_units" => (first | exact room2 (by with_reducible assumption) (by decide) | exact Nat.le_of_ble_eq_true rfl | exact room1 (by with_reducible assumption) (by decide) | exact room4 (by with_reducible assumption) (by decide) | (simp only [units_in1, units_deeper, Around.mark_units, units_caller, cLine] at *; omega))
  k_with "k_ne" => ((refine neN ?_; (try dsimp only); first | exact Nat.ne_of_lt (by (first | with_reducible assumption | exact And.left (by with_reducible assumption) | exact And.left (And.right (by with_reducible assumption)) | exact And.left (And.right (And.right (by with_reducible assumption))) | exact And.left (And.right (And.right (And.right (by with_reducible assumption)))) | exact And.left (And.right (And.right (And.right (And.right (by with_reducible assumption))))) | exact And.left (And.right (And.right (And.right (And.right (And.right (by with_reducible assumption)))))) | exact And.left (And.right (And.right (And.right (And.right (And.right (And.right (by with_reducible assumption))))))) | exact And.left (And.right (And.right (And.right (And.right (And.right (And.right (And.right (by with_reducible assumption)))))))) | exact And.left (And.right (And.right (And.right (And.right (And.right (And.right (And.right (And.right (by with_reducible assumption))))))))))) | exact Nat.ne_of_gt (by (first | with_reducible assumption | exact And.left (by with_reducible assumption) | exact And.left (And.right (by with_reducible assumption)) | exact And.left (And.right (And.right (by with_reducible assumption))) | exact And.left (And.right (And.right (And.right (by with_reducible assumption)))) | exact And.left (And.right (And.right (And.right (And.right (by with_reducible assumption))))) | exact And.left (And.right (And.right (And.right (And.right (And.right (by with_reducible assumption)))))) | exact And.left (And.right (And.right (And.right (And.right (And.right (And.right (by with_reducible assumption))))))) | exact And.left (And.right (And.right (And.right (And.right (And.right (And.right (And.right (by with_reducible assumption)))))))) | exact And.left (And.right (And.right (And.right (And.right (And.right (And.right (And.right (And.right (by with_reducible assumption))))))))))) | omega))
  k_with "subscriptTail" => ((k_here; (with_reducible show wpAny _ _ (subscriptTail _ _ (Value.ref _) (Value.int _ _)) _ _ _); k_dflt (refine' lw_getItem ?N_w82 ?m_w82 ?a_w82 ?b_w82 ?x_w82 ?_; (case N_w82 => k_asm); (case m_w82 => k_mem); (case x_w82 => first | exact rfl | assumption); (case a_w82 => omega); (case b_w82 => omega); k_whole)))
  k_with "call ref" => ((k_here; (with_reducible show wpAny _ _ (call (Value.ref 531) _) _ _ _); k_dflt (refine' (spec_arith_add _ _ _ _ _ _ _ _ _ _ _ _ _ _ _ _ _).use (by k_asm) (by k_asm) (by k_asm) (by k_asm) (by k_asm) (by first | exact rfl | assumption) (by (refine ⟨?_, ?_, ?_, ?_, ?_, ?_⟩ <;> first | assumption | omega | exact NumAt.mono (by assumption) (by intro p hp; (repeat' (first | exact hp | exact List.mem_append_left _ hp | refine List.mem_cons_of_mem _ ?_ | refine List.mem_append_left _ ?_))))) ?hd_w83 ?hu_w83 ?_; (case hd_w83 => k_room); (case hu_w83 => k_units)); k_whole; intro r9 n9 h9 t9 F9 N9 p9; (obtain ⟨x9, dx9, li9, z9, t19, t29, t39, t49, t59, t69, t79, t89, e39, l9, o9, q9, m9, k9⟩ := p9; (try k_lt l9); (try simp only [AllLt] at m9)); (try dsimp only); (try k_unmd); (try k_sweep)))
  refine mcut (P := C_spec_binary_add) ?_ ?_
  · unfold C_spec_binary_add; intro w u dx1 li1 tp1 v dx2 li2 tp2 sb1 sb2 e1 e2 a b no t0
    unfold Spec; k_fill
    intro p loose mean mg mb dp un gd cn cs a0 ccd cl outer A₀ base h₀ L m news s Q E B F X N T hk ⟨hu9, hv9, ha0, ha1, hb0, hb1⟩ hd hu hret
    refine wpAny_call ?_
    k_dflt ktr_enter
    repeat' (first | (k_unfold; (try dsimp only)) | (k_unmd; k_unfold; (try dsimp only)) | (k_end; wrow_close) | walk1 | (dsimp only; walk1) | (leave1; walk_say "STEP leave1"; try dsimp only) | fail "no step")
    all_goals (
      (rename News _ _ _ _ => lN)
      refine hret _ _ _ _ (by assumption) (fin_4 lN (by intro p hp; (repeat' (first | exact hp | refine List.mem_cons_of_mem _ ?_)))) (.mk _ _ _ _ _ _ _ _ _ _ _ _ _ ?_ ?_ ?_ ?_ ?_)
      all_goals first | assumption | exact tb_ltOf (by tbn_find) | (rename (∀ q ∈ _, @Ne Nat _ _) => o9; intro q hq; exact o9 q (by (repeat' (first | exact hq | refine List.mem_cons_of_mem _ ?_)))) | (refine ⟨by omega, by omega, ?_⟩; tbn_find))
  intro spec_binary_add
  k_with "call ref" => ((k_here; (with_reducible show wpAny _ _ (call (Value.ref 797) _) _ _ _); k_dflt (refine' (spec_binary_add _ _ _ _ _ _ _ _ _ _ _ _ _ _ _ _ _).use (by k_asm) (by k_asm) (by k_asm) (by k_asm) (by k_asm) (by first | exact rfl | assumption) (by (refine ⟨?_, ?_, ?_, ?_, ?_, ?_⟩ <;> first | assumption | omega | exact NumAt.mono (by assumption) (by intro p hp; (repeat' (first | exact hp | exact List.mem_append_left _ hp | refine List.mem_cons_of_mem _ ?_ | refine List.mem_append_left _ ?_))))) ?hd_w84 ?hu_w84 ?_; (case hd_w84 => k_room); (case hu_w84 => k_units)); k_whole; intro r9 n9 h9 t9 F9 N9 p9; (obtain ⟨x9, dx9, li9, z9, t19, t29, t39, t49, t59, t69, t79, t89, e39, l9, o9, q9, m9, k9⟩ := p9; (try k_lt l9); (try simp only [AllLt] at m9)); (try dsimp only); (try k_unmd); (try k_sweep)))
  refine mcut (P := C_spec_callv_add) ?_ ?_
  · unfold C_spec_callv_add; intro w u dx1 li1 tp1 v dx2 li2 tp2 sb1 sb2 e1 e2 a b la ea t0
    unfold Spec; k_fill
    intro p loose mean mg mb dp un gd cn cs a0 ccd cl outer A₀ base h₀ L m news s Q E B F X N T hk ⟨hla, hu9, hv9, ha0, ha1, hb0, hb1⟩ hd hu hret
    refine wpAny_call ?_
    k_dflt ktr_enter
    repeat' (first | (k_unfold; (try dsimp only)) | (k_unmd; k_unfold; (try dsimp only)) | (k_end; wrow_close) | walk1 | (dsimp only; walk1) | (leave1; walk_say "STEP leave1"; try dsimp only) | fail "no step")
    all_goals (
      (rename News _ _ _ _ => lN)
      refine hret _ _ _ _ (by assumption) (fin_4 lN (by intro p hp; (repeat' (first | exact hp | refine List.mem_cons_of_mem _ ?_)))) (.mk _ _ _ _ _ _ _ _ _ _ _ _ _ ?_ ?_ ?_ ?_ ?_)
      all_goals first | assumption | exact tb_ltOf (by tbn_find) | (rename (∀ q ∈ _, @Ne Nat _ _) => o9; intro q hq; exact o9 q (by (repeat' (first | exact hq | refine List.mem_cons_of_mem _ ?_)))) | (refine ⟨by omega, by omega, ?_⟩; tbn_find))
  intro spec_callv_add
  k_with "call ref" => ((k_here; (with_reducible show wpAny _ _ (call (Value.ref 531) _) _ _ _); k_dflt (refine' (spec_arith_sub _ _ _ _ _ _ _ _ _ _ _ _ _ _ _ _ _).use (by k_asm) (by k_asm) (by k_asm) (by k_asm) (by k_asm) (by first | exact rfl | assumption) (by (refine ⟨?_, ?_, ?_, ?_, ?_, ?_⟩ <;> first | assumption | omega | exact NumAt.mono (by assumption) (by intro p hp; (repeat' (first | exact hp | exact List.mem_append_left _ hp | refine List.mem_cons_of_mem _ ?_ | refine List.mem_append_left _ ?_))))) ?hd_w85 ?hu_w85 ?_; (case hd_w85 => k_room); (case hu_w85 => k_units)); k_whole; intro r9 n9 h9 t9 F9 N9 p9; (obtain ⟨x9, dx9, li9, z9, t19, t29, t39, t49, t59, t69, t79, t89, e39, l9, o9, q9, m9, k9⟩ := p9; (try k_lt l9); (try simp only [AllLt] at m9)); (try dsimp only); (try k_unmd); (try k_sweep)))
  refine mcut (P := C_spec_binary_sub) ?_ ?_
  · unfold C_spec_binary_sub; intro w u dx1 li1 tp1 v dx2 li2 tp2 sb1 sb2 e1 e2 a b no t0
    unfold Spec; k_fill
    intro p loose mean mg mb dp un gd cn cs a0 ccd cl outer A₀ base h₀ L m news s Q E B F X N T hk ⟨hu9, hv9, ha0, ha1, hb0, hb1⟩ hd hu hret
    refine wpAny_call ?_
    k_dflt ktr_enter
    repeat' (first | (k_unfold; (try dsimp only)) | (k_unmd; k_unfold; (try dsimp only)) | (k_end; wrow_close) | walk1 | (dsimp only; walk1) | (leave1; walk_say "STEP leave1"; try dsimp only) | fail "no step")
    all_goals (
      (rename News _ _ _ _ => lN)
      refine hret _ _ _ _ (by assumption) (fin_4 lN (by intro p hp; (repeat' (first | exact hp | refine List.mem_cons_of_mem _ ?_)))) (.mk _ _ _ _ _ _ _ _ _ _ _ _ _ ?_ ?_ ?_ ?_ ?_)
      all_goals first | assumption | exact tb_ltOf (by tbn_find) | (rename (∀ q ∈ _, @Ne Nat _ _) => o9; intro q hq; exact o9 q (by (repeat' (first | exact hq | refine List.mem_cons_of_mem _ ?_)))) | (refine ⟨by omega, by omega, ?_⟩; tbn_find))
  intro spec_binary_sub
  k_with "call ref" => ((k_here; (with_reducible show wpAny _ _ (call (Value.ref 797) _) _ _ _); k_dflt (refine' (spec_binary_sub _ _ _ _ _ _ _ _ _ _ _ _ _ _ _ _ _).use (by k_asm) (by k_asm) (by k_asm) (by k_asm) (by k_asm) (by first | exact rfl | assumption) (by (refine ⟨?_, ?_, ?_, ?_, ?_, ?_⟩ <;> first | assumption | omega | exact NumAt.mono (by assumption) (by intro p hp; (repeat' (first | exact hp | exact List.mem_append_left _ hp | refine List.mem_cons_of_mem _ ?_ | refine List.mem_append_left _ ?_))))) ?hd_w86 ?hu_w86 ?_; (case hd_w86 => k_room); (case hu_w86 => k_units)); k_whole; intro r9 n9 h9 t9 F9 N9 p9; (obtain ⟨x9, dx9, li9, z9, t19, t29, t39, t49, t59, t69, t79, t89, e39, l9, o9, q9, m9, k9⟩ := p9; (try k_lt l9); (try simp only [AllLt] at m9)); (try dsimp only); (try k_unmd); (try k_sweep)))
  refine mcut (P := C_spec_callv_sub) ?_ ?_
  · unfold C_spec_callv_sub; intro w u dx1 li1 tp1 v dx2 li2 tp2 sb1 sb2 e1 e2 a b la ea t0
    unfold Spec; k_fill
    intro p loose mean mg mb dp un gd cn cs a0 ccd cl outer A₀ base h₀ L m news s Q E B F X N T hk ⟨hla, hu9, hv9, ha0, ha1, hb0, hb1⟩ hd hu hret
    refine wpAny_call ?_
    k_dflt ktr_enter
    repeat' (first | (k_unfold; (try dsimp only)) | (k_unmd; k_unfold; (try dsimp only)) | (k_end; wrow_close) | walk1 | (dsimp only; walk1) | (leave1; walk_say "STEP leave1"; try dsimp only) | fail "no step")
    all_goals (
      (rename News _ _ _ _ => lN)
      refine hret _ _ _ _ (by assumption) (fin_4 lN (by intro p hp; (repeat' (first | exact hp | refine List.mem_cons_of_mem _ ?_)))) (.mk _ _ _ _ _ _ _ _ _ _ _ _ _ ?_ ?_ ?_ ?_ ?_)
      all_goals first | assumption | exact tb_ltOf (by tbn_find) | (rename (∀ q ∈ _, @Ne Nat _ _) => o9; intro q hq; exact o9 q (by (repeat' (first | exact hq | refine List.mem_cons_of_mem _ ?_)))) | (refine ⟨by omega, by omega, ?_⟩; tbn_find))
  intro spec_callv_sub
  k_with_none
  k_with "execs cons" => ((k_here; (refine wpAny_execs_cons ?_); (try k_fold)))
  k_with "exec If" => ((k_here; (refine wpAny_If ?_); (try k_fold)))
  k_with "callWith ref nil nil" => ((k_here; (with_reducible show wpAny _ _ (callWith _ (Value.ref _) _ (backTo _ (starEach [] _)) []) _ _ _); k_dflt (refine callWith_K0 (Frag.In.keeps (by with_reducible assumption) (Fr.keep (by with_reducible assumption))) (by k_is) ?_)))
  k_with "k_mem" => (((repeat' (first | ktr_member | refine' List.mem_cons_of_mem _ ?_)); done))
  k_with "k_room" => (first | exact room2 (by with_reducible assumption) (by decide) | exact Nat.le_of_ble_eq_true rfl | exact room1 (by with_reducible assumption) (by decide) | exact room4 (by with_reducible assumption) (by decide) | (simp only [depth_under_make, depth_under_kw, depth_in1, depth_deeper, depth_caller, recursionLimit] at *; omega))
  k_with "k_units" => (first | exact room2 (by with_reducible assumption) (by decide) | exact Nat.le_of_ble_eq_true rfl | exact room1 (by with_reducible assumption) (by decide) | exact room4 (by with_reducible assumption) (by decide) | (simp only [units_in1, units_deeper, Around.mark_units, units_caller, cLine] at *; omega))
  k_with "k_ne" => ((refine neN ?_; (try dsimp only); first | exact Nat.ne_of_lt (by (first | with_reducible assumption | exact And.left (by with_reducible assumption) | exact And.left (And.right (by with_reducible assumption)) | exact And.left (And.right (And.right (by with_reducible assumption))) | exact And.left (And.right (And.right (And.right (by with_reducible assumption)))) | exact And.left (And.right (And.right (And.right (And.right (by with_reducible assumption))))) | exact And.left (And.right (And.right (And.right (And.right (And.right (by with_reducible assumption)))))) | exact And.left (And.right (And.right (And.right (And.right (And.right (And.right (by with_reducible assumption))))))) | exact And.left (And.right (And.right (And.right (And.right (And.right (And.right (And.right (by with_reducible assumption)))))))) | exact And.left (And.right (And.right (And.right (And.right (And.right (And.right (And.right (And.right (by with_reducible assumption))))))))))) | exact Nat.ne_of_gt (by (first | with_reducible assumption | exact And.left (by with_reducible assumption) | exact And.left (And.right (by with_reducible assumption)) | exact And.left (And.right (And.right (by with_reducible assumption))) | exact And.left (And.right (And.right (And.right (by with_reducible assumption)))) | exact And.left (And.right (And.right (And.right (And.right (by with_reducible assumption))))) | exact And.left (And.right (And.right (And.right (And.right (And.right (by with_reducible assumption)))))) | exact And.left (And.right (And.right (And.right (And.right (And.right (And.right (by with_reducible assumption))))))) | exact And.left (And.right (And.right (And.right (And.right (And.right (And.right (And.right (by with_reducible assumption)))))))) | exact And.left (And.right (And.right (And.right (And.right (And.right (And.right (And.right (And.right (by with_reducible assumption))))))))))) | omega))
  k_with "subscriptTail" => ((k_here; (with_reducible show wpAny _ _ (subscriptTail _ _ (Value.ref _) (Value.int _ _)) _ _ _); k_dflt (refine' lw_getItem ?N_w91 ?m_w91 ?a_w91 ?b_w91 ?x_w91 ?_; (case N_w91 => k_asm); (case m_w91 => k_mem); (case x_w91 => first | exact rfl | assumption); (case a_w91 => omega); (case b_w91 => omega); k_whole)))
  k_with "UnrEndW" => (((rename News _ _ _ _ => lN'); (first | refine unrEnd0 (by assumption) lN' (by first | (with_unfolding_all assumption) | exact allLt_of (by assumption)) ⟨?_, ?_⟩ | refine unrEnd1 (by assumption) lN' (by first | (with_unfolding_all assumption) | exact allLt_of (by assumption)) ⟨?_, ?_⟩ | refine unrEnd2 (by assumption) lN' (by first | (with_unfolding_all assumption) | exact allLt_of (by assumption)) ⟨?_, ?_⟩); (exact ⟨by k_mem, trivial⟩)))
  k_with "pyIter ref" => ((k_here; (with_reducible show wpAny _ _ (pyIter (Value.ref _)) (fun it s₂ => TurnsAt _ _ _ _ _ _ _ _ _ it s₂) _ _); (rename Fr _ _ _ _ => lF'); (rename News _ _ _ _ => lN'); (with_unfolding_all refine iter_tupTurns (by rfl) lF' lN' (by k_mem) (by rfl) (by rfl) ?_); clear lF' lN'; intro i' l1; (try k_lt l1)))
  k_with "exec For Name Attribute cons nil" => ((k_here; (rename Fr _ _ _ _ => lF'); (with_unfolding_all refine' For_turns lF' ?_; k_whole)))
  k_with "pyIter ref" => ((k_here; (with_reducible show wpAny _ _ (pyIter (Value.ref _)) (fun it s₂ => TurnsAt _ _ _ _ _ _ _ _ _ it s₂) _ _); (rename Fr _ _ _ _ => lF'); (rename News _ _ _ _ => lN'); (with_unfolding_all refine iter_listTurns (by rfl) lF' lN' (by k_mem) (by rfl) (by rfl) ?_); clear lF' lN'; intro i' l1; (try k_lt l1)))
  k_with "k_all" => (first | assumption | ((with_reducible refine List.forall_mem_append.mpr ⟨?_, ?_⟩) <;> k_all))
  refine mcut (P := C_spec_const_num) ?_ ?_
  · unfold C_spec_const_num; intro w u dx li tp sb e n
    unfold Spec; k_fill
    intro p loose mean mg mb dp un gd cn cs a0 ccd cl outer A₀ base h₀ L m news s Q E B F X N T hk hu9 hd hu hret
    obtain ⟨s11, s12, s13, s14, s15, s16, s17, s18, g11, g12, g13, g14⟩ := id hu9
    refine wpAny_call ?_
    k_dflt ktr_enter
    repeat' (first | (k_unfold; (try dsimp only)) | (k_unmd; k_unfold; (try dsimp only)) | (k_end; wrow_close) | walk1 | (dsimp only; walk1) | (leave1; walk_say "STEP leave1"; try dsimp only) | fail "no step")
    all_goals (exact hret _ _ _ _ (by assumption) (kst_newsOf (by assumption) (by intro p hp; (repeat' (first | exact hp | refine List.mem_cons_of_mem _ ?_)))) (.mk))
  intro spec_const_num
  refine mcut (P := C_spec_const_call) ?_ ?_
  · unfold C_spec_const_call; intro w x dx li tg f df a b e1 e2 nm
    unfold Spec; k_fill
    intro p loose mean mg mb dp un gd cn cs a0 ccd cl outer A₀ base h₀ L m news s Q E B F X N T hk hx hd hu hret
    obtain ⟨u1, u2, u3, u4, u5, u6, u11, u12, u13, u14, u15, c1, c2, c3, c4, c5, c6⟩ := id hx
    refine wpAny_call ?_
    k_dflt ktr_enter
    repeat' (first | (k_unfold; (try dsimp only)) | (k_unmd; k_unfold; (try dsimp only)) | (k_end; wrow_close) | walk1 | (dsimp only; walk1) | (leave1; walk_say "STEP leave1"; try dsimp only) | fail "no step")
    all_goals (exact hret _ _ _ _ (by assumption) (kst_newsOf (by assumption) (by intro p hp; (repeat' (first | exact hp | refine List.mem_cons_of_mem _ ?_)))) (.mk))
  intro spec_const_call
  refine mcut (P := C_spec_plain_add) ?_ ?_
  · unfold C_spec_plain_add; intro w x dx li tg f df a b e1 e2
    unfold Spec; k_fill
    intro p loose mean mg mb dp un gd cn cs a0 ccd cl outer A₀ base h₀ L m news s Q E B F X N T hk hx hd hu hret
    obtain ⟨u1, u2, u3, u4, u5, u6, u11, u12, u13, u14, u15, c1, c2, c3, c4, c5, c6⟩ := id hx
    refine wpAny_call ?_
    k_dflt ktr_enter
    repeat' (first | (k_unfold; (try dsimp only)) | (k_unmd; k_unfold; (try dsimp only)) | (k_end; wrow_close) | walk1 | (dsimp only; walk1) | (leave1; walk_say "STEP leave1"; try dsimp only) | fail "no step")
    all_goals (exact hret _ _ _ _ (by assumption) (kst_newsOf (by assumption) (by intro p hp; (repeat' (first | exact hp | refine List.mem_cons_of_mem _ ?_)))) (.mk _))
  intro spec_plain_add
  refine mcut (P := C_spec_plain_sub) ?_ ?_
  · unfold C_spec_plain_sub; intro w x dx li tg f df a b e1 e2
    unfold Spec; k_fill
    intro p loose mean mg mb dp un gd cn cs a0 ccd cl outer A₀ base h₀ L m news s Q E B F X N T hk hx hd hu hret
    obtain ⟨u1, u2, u3, u4, u5, u6, u11, u12, u13, u14, u15, c1, c2, c3, c4, c5, c6⟩ := id hx
    refine wpAny_call ?_
    k_dflt ktr_enter
    repeat' (first | (k_unfold; (try dsimp only)) | (k_unmd; k_unfold; (try dsimp only)) | (k_end; wrow_close) | walk1 | (dsimp only; walk1) | (leave1; walk_say "STEP leave1"; try dsimp only) | fail "no step")
    all_goals (exact hret _ _ _ _ (by assumption) (kst_newsOf (by assumption) (by intro p hp; (repeat' (first | exact hp | refine List.mem_cons_of_mem _ ?_)))) (.mk _))
  intro spec_plain_sub
  refine mcut (P := C_spec_share) ?_ ?_
  · unfold C_spec_share; intro w x dx li t1 t2 t3 t4 t5 t6 rest
    unfold Spec; k_fill
    intro p loose mean mg mb dp un gd cn cs a0 ccd cl outer A₀ base h₀ L m news s Q E B F X N T hk hp9 hd hu hret
    obtain ⟨hn9, hne, hnr⟩ := hp9
    subst hn9
    refine wpAny_call ?_
    k_dflt ktr_enter
    repeat' (first | (k_unfold; (try dsimp only)) | (k_unmd; k_unfold; (try dsimp only)) | (k_end; wrow_close) | walk1 | (dsimp only; walk1) | (leave1; walk_say "STEP leave1"; try dsimp only) | fail "no step")
    all_goals ((rename News _ _ _ _ => lN); exact hret _ _ _ _ (by assumption) lN ⟨rfl, rfl⟩)
  intro spec_share
  exact ⟨spec_length, spec_dim_of, spec_result_dim, spec_note_one, spec_recycle, spec_note_recycling, spec_common_length, spec_number_items, spec_double_items, spec_gcd, spec_is_na, spec_bounded, spec_make, spec_neg, spec_add, spec_sub, spec_within, spec_double_add, spec_double_sub, spec_attribute, spec_shape_attrs, spec_result_attrs, spec_dres_add, spec_dres_sub, spec_arith_add, spec_arith_sub, spec_binary_add, spec_callv_add, spec_binary_sub, spec_callv_sub, spec_const_num, spec_const_call, spec_plain_add, spec_plain_sub, spec_share⟩
theorem spec_length : ∀ (w : World) (u : Addr), Spec w 402 [.ref u] 6 60 (fun news => IsNum w news u) (RInt 1) := grpB.1
theorem spec_dim_of : ∀ (w : World) (u : Addr), Spec w 40 [.ref u] 6 60 (fun news => IsNum w news u) (Same .none) := grpB.2.1
theorem spec_result_dim : ∀ (w : World) (u v : Addr), Spec w 444 [.ref u, .ref v] 12 120 (fun news => IsNum w news u ∧ IsNum w news v) (Same .none) := grpB.2.2.1
theorem spec_note_one : ∀ (w : World) (u v no : Addr), Spec w 451 [.ref u, .ref v, .ref no] 12 120 (fun news => IsNum w news u ∧ IsNum w news v) (Same .none) := grpB.2.2.2.1
theorem spec_recycle : ∀ (w : World) (t1 t2 : Tok), Spec w 423 [.int 1 t1, .int 1 t2] 6 60 (fun news => True) (RInt 1) := grpB.2.2.2.2.1
theorem spec_note_recycling : ∀ (w : World) (t1 t2 : Tok) (no : Addr), Spec w 430 [.int 1 t1, .int 1 t2, .ref no] 6 60 (fun news => True) (Same .none) := grpB.2.2.2.2.2.1
theorem spec_common_length : ∀ (w : World) (u v no : Addr), Spec w 458 [.ref u, .ref v, .ref no] 18 180 (fun news => IsNum w news u ∧ IsNum w news v) (RInt 1) := grpB.2.2.2.2.2.2.1
theorem spec_number_items : ∀ (w : World) (u dx li tp : Addr) (sb : Bool) (e : Nat) (n : Int), Spec w 507 [.ref u] 6 60 (fun news => NumAt w news u dx li tp sb e n) (Same (.ref li)) := grpB.2.2.2.2.2.2.2.1
theorem spec_double_items : ∀ (w : World) (u dx li tp : Addr) (sb : Bool) (e : Nat) (n : Int), Spec w 512 [.ref u] 8 80 (fun news => NumAt w news u dx li tp sb e n) (Same (.ref li)) := grpB.2.2.2.2.2.2.2.2.1
theorem spec_gcd : ∀ (w : World) (a : Int) (t1 t2 : Tok), Spec w 83 [.int a t1, .int 1 t2] 6 60 (fun news => True) (RInt 1) := grpB.2.2.2.2.2.2.2.2.2.1
theorem spec_is_na : ∀ (w : World) (x : Addr) (a : Int) (t1 t2 : Tok), Spec w 111 [.ref x] 6 60 (fun news => (x, ({ cls := .type "tuple", data := .seq #[.int a t1, .int 1 t2] } : Obj)) ∈ news) (Same (.bool false)) := grpB.2.2.2.2.2.2.2.2.2.2.1
theorem spec_bounded : ∀ (w : World) (n : Int) (t1 t2 : Tok), Spec w 90 [.int n t1, .int 1 t2] 6 60 (fun news => -400000 ≤ n ∧ n ≤ 400000) (NewT n) := grpB.2.2.2.2.2.2.2.2.2.2.2.1
theorem spec_make : ∀ (w : World) (n : Int) (t1 t2 : Tok), Spec w 97 [.int n t1, .int 1 t2] 8 80 (fun news => -400000 ≤ n ∧ n ≤ 400000) (NewT n) := grpB.2.2.2.2.2.2.2.2.2.2.2.2.1
theorem spec_neg : ∀ (w : World) (x : Addr) (a : Int) (t1 t2 : Tok), Spec w 139 [.ref x] 6 60 (fun news => (x, ({ cls := .type "tuple", data := .seq #[.int a t1, .int 1 t2] } : Obj)) ∈ news) (NewT (-a)) := grpB.2.2.2.2.2.2.2.2.2.2.2.2.2.1
theorem spec_add : ∀ (w : World) (x y : Addr) (a b : Int) (t1 t2 t3 t4 : Tok), Spec w 146 [.ref x, .ref y] 10 100 (fun news => (x, ({ cls := .type "tuple", data := .seq #[.int a t1, .int 1 t2] } : Obj)) ∈ news ∧ (y, ({ cls := .type "tuple", data := .seq #[.int b t3, .int 1 t4] } : Obj)) ∈ news ∧ -100000 ≤ a ∧ a ≤ 100000 ∧ -100000 ≤ b ∧ b ≤ 100000) (NewT (a + b)) := grpB.2.2.2.2.2.2.2.2.2.2.2.2.2.2.1
theorem spec_sub : ∀ (w : World) (x y : Addr) (a b : Int) (t1 t2 t3 t4 : Tok), Spec w 153 [.ref x, .ref y] 10 100 (fun news => (x, ({ cls := .type "tuple", data := .seq #[.int a t1, .int 1 t2] } : Obj)) ∈ news ∧ (y, ({ cls := .type "tuple", data := .seq #[.int b t3, .int 1 t4] } : Obj)) ∈ news ∧ -100000 ≤ a ∧ a ≤ 100000 ∧ -100000 ≤ b ∧ b ≤ 100000) (NewT (a - b)) := grpB.2.2.2.2.2.2.2.2.2.2.2.2.2.2.2.1
theorem spec_within : ∀ (w : World) (x : Addr) (a : Int) (t1 t2 : Tok), Spec w 493 [.ref x] 6 60 (fun news => (x, ({ cls := .type "tuple", data := .seq #[.int a t1, .int 1 t2] } : Obj)) ∈ news ∧ -400000 ≤ a ∧ a ≤ 400000) (Same (.ref x)) := grpB.2.2.2.2.2.2.2.2.2.2.2.2.2.2.2.2.1
theorem spec_double_add : ∀ (w : World) (x y : Addr) (a b : Int) (t0 t1 t2 t3 t4 : Tok), Spec w 500 [.str (Str.ofString "+") t0, .ref x, .ref y] 12 120 (fun news => (x, ({ cls := .type "tuple", data := .seq #[.int a t1, .int 1 t2] } : Obj)) ∈ news ∧ (y, ({ cls := .type "tuple", data := .seq #[.int b t3, .int 1 t4] } : Obj)) ∈ news ∧ -100000 ≤ a ∧ a ≤ 100000 ∧ -100000 ≤ b ∧ b ≤ 100000) (NewT (a + b)) := grpB.2.2.2.2.2.2.2.2.2.2.2.2.2.2.2.2.2.1
theorem spec_double_sub : ∀ (w : World) (x y : Addr) (a b : Int) (t0 t1 t2 t3 t4 : Tok), Spec w 500 [.str (Str.ofString "-") t0, .ref x, .ref y] 12 120 (fun news => (x, ({ cls := .type "tuple", data := .seq #[.int a t1, .int 1 t2] } : Obj)) ∈ news ∧ (y, ({ cls := .type "tuple", data := .seq #[.int b t3, .int 1 t4] } : Obj)) ∈ news ∧ -100000 ≤ a ∧ a ≤ 100000 ∧ -100000 ≤ b ∧ b ≤ 100000) (NewT (a - b)) := grpB.2.2.2.2.2.2.2.2.2.2.2.2.2.2.2.2.2.2.1
theorem spec_attribute : ∀ (w : World) (u : Addr) (nm : Str) (t : Tok), Spec w 465 [.ref u, .str nm t] 6 60 (fun news => IsNum w news u) (Same .none) := grpB.2.2.2.2.2.2.2.2.2.2.2.2.2.2.2.2.2.2.2.1
theorem spec_shape_attrs : ∀ (w : World) (u v r0 : Addr), Spec w 472 [.ref u, .ref v, .ref r0] 18 180 (fun news => IsNum w news u ∧ IsNum w news v ∧ IsNum w news r0) (Same .none) := grpB.2.2.2.2.2.2.2.2.2.2.2.2.2.2.2.2.2.2.2.2.1
theorem spec_result_attrs : ∀ (w : World) (u v r0 : Addr), Spec w 479 [.ref u, .ref v, .ref r0] 24 240 (fun news => IsNum w news u ∧ IsNum w news v ∧ IsNum w news r0) (Same .none) := grpB.2.2.2.2.2.2.2.2.2.2.2.2.2.2.2.2.2.2.2.2.2.1
theorem spec_dres_add : ∀ (w : World) (l k x y : Addr) (a b : Int) (e1 e2 : Nat) (t0 t1 t2 t3 t4 t9 : Tok), Spec w 524 [.str (Str.ofString "+") t0, .ref l, .ref k, .int 1 t9] 18 180 (fun news => (l, W.listOf #[.ref x] e1) ∈ news ∧ (k, W.listOf #[.ref y] e2) ∈ news ∧ (x, ({ cls := .type "tuple", data := .seq #[.int a t1, .int 1 t2] } : Obj)) ∈ news ∧ (y, ({ cls := .type "tuple", data := .seq #[.int b t3, .int 1 t4] } : Obj)) ∈ news ∧ -100000 ≤ a ∧ a ≤ 100000 ∧ -100000 ≤ b ∧ b ≤ 100000) (NewL (a + b)) := grpB.2.2.2.2.2.2.2.2.2.2.2.2.2.2.2.2.2.2.2.2.2.2.1
theorem spec_dres_sub : ∀ (w : World) (l k x y : Addr) (a b : Int) (e1 e2 : Nat) (t0 t1 t2 t3 t4 t9 : Tok), Spec w 524 [.str (Str.ofString "-") t0, .ref l, .ref k, .int 1 t9] 18 180 (fun news => (l, W.listOf #[.ref x] e1) ∈ news ∧ (k, W.listOf #[.ref y] e2) ∈ news ∧ (x, ({ cls := .type "tuple", data := .seq #[.int a t1, .int 1 t2] } : Obj)) ∈ news ∧ (y, ({ cls := .type "tuple", data := .seq #[.int b t3, .int 1 t4] } : Obj)) ∈ news ∧ -100000 ≤ a ∧ a ≤ 100000 ∧ -100000 ≤ b ∧ b ≤ 100000) (NewL (a - b)) := grpB.2.2.2.2.2.2.2.2.2.2.2.2.2.2.2.2.2.2.2.2.2.2.2.1
theorem spec_arith_add : ∀ (w : World) (u dx1 li1 tp1 v dx2 li2 tp2 : Addr) (sb1 sb2 : Bool) (e1 e2 : Nat) (a b : Int) (no : Addr) (t0 : Tok), Spec w 531 [.str (Str.ofString "+") t0, .ref u, .ref v, .ref no] 34 340 (fun news => NumAt w news u dx1 li1 tp1 sb1 e1 a ∧ NumAt w news v dx2 li2 tp2 sb2 e2 b ∧ -100000 ≤ a ∧ a ≤ 100000 ∧ -100000 ≤ b ∧ b ≤ 100000) (NewV w (a + b)) := grpB.2.2.2.2.2.2.2.2.2.2.2.2.2.2.2.2.2.2.2.2.2.2.2.2.1
theorem spec_arith_sub : ∀ (w : World) (u dx1 li1 tp1 v dx2 li2 tp2 : Addr) (sb1 sb2 : Bool) (e1 e2 : Nat) (a b : Int) (no : Addr) (t0 : Tok), Spec w 531 [.str (Str.ofString "-") t0, .ref u, .ref v, .ref no] 34 340 (fun news => NumAt w news u dx1 li1 tp1 sb1 e1 a ∧ NumAt w news v dx2 li2 tp2 sb2 e2 b ∧ -100000 ≤ a ∧ a ≤ 100000 ∧ -100000 ≤ b ∧ b ≤ 100000) (NewV w (a - b)) := grpB.2.2.2.2.2.2.2.2.2.2.2.2.2.2.2.2.2.2.2.2.2.2.2.2.2.1
theorem spec_binary_add : ∀ (w : World) (u dx1 li1 tp1 v dx2 li2 tp2 : Addr) (sb1 sb2 : Bool) (e1 e2 : Nat) (a b : Int) (no : Addr) (t0 : Tok), Spec w 797 [.str (Str.ofString "+") t0, .ref u, .ref v, .ref no] 40 400 (fun news => NumAt w news u dx1 li1 tp1 sb1 e1 a ∧ NumAt w news v dx2 li2 tp2 sb2 e2 b ∧ -100000 ≤ a ∧ a ≤ 100000 ∧ -100000 ≤ b ∧ b ≤ 100000) (NewV w (a + b)) := grpB.2.2.2.2.2.2.2.2.2.2.2.2.2.2.2.2.2.2.2.2.2.2.2.2.2.2.1
theorem spec_callv_add : ∀ (w : World) (u dx1 li1 tp1 v dx2 li2 tp2 : Addr) (sb1 sb2 : Bool) (e1 e2 : Nat) (a b : Int) (la : Addr) (ea : Nat) (t0 : Tok), Spec w 811 [.str (Str.ofString "+") t0, .ref la] 46 460 (fun news => (la, W.listOf #[.ref u, .ref v] ea) ∈ news ∧ NumAt w news u dx1 li1 tp1 sb1 e1 a ∧ NumAt w news v dx2 li2 tp2 sb2 e2 b ∧ -100000 ≤ a ∧ a ≤ 100000 ∧ -100000 ≤ b ∧ b ≤ 100000) (NewV w (a + b)) := grpB.2.2.2.2.2.2.2.2.2.2.2.2.2.2.2.2.2.2.2.2.2.2.2.2.2.2.2.1
theorem spec_binary_sub : ∀ (w : World) (u dx1 li1 tp1 v dx2 li2 tp2 : Addr) (sb1 sb2 : Bool) (e1 e2 : Nat) (a b : Int) (no : Addr) (t0 : Tok), Spec w 797 [.str (Str.ofString "-") t0, .ref u, .ref v, .ref no] 40 400 (fun news => NumAt w news u dx1 li1 tp1 sb1 e1 a ∧ NumAt w news v dx2 li2 tp2 sb2 e2 b ∧ -100000 ≤ a ∧ a ≤ 100000 ∧ -100000 ≤ b ∧ b ≤ 100000) (NewV w (a - b)) := grpB.2.2.2.2.2.2.2.2.2.2.2.2.2.2.2.2.2.2.2.2.2.2.2.2.2.2.2.2.1
theorem spec_callv_sub : ∀ (w : World) (u dx1 li1 tp1 v dx2 li2 tp2 : Addr) (sb1 sb2 : Bool) (e1 e2 : Nat) (a b : Int) (la : Addr) (ea : Nat) (t0 : Tok), Spec w 811 [.str (Str.ofString "-") t0, .ref la] 46 460 (fun news => (la, W.listOf #[.ref u, .ref v] ea) ∈ news ∧ NumAt w news u dx1 li1 tp1 sb1 e1 a ∧ NumAt w news v dx2 li2 tp2 sb2 e2 b ∧ -100000 ≤ a ∧ a ≤ 100000 ∧ -100000 ≤ b ∧ b ≤ 100000) (NewV w (a - b)) := grpB.2.2.2.2.2.2.2.2.2.2.2.2.2.2.2.2.2.2.2.2.2.2.2.2.2.2.2.2.2.1
theorem spec_const_num : ∀ (w : World) (u dx li tp : Addr) (sb : Bool) (e : Nat) (n : Int), Spec w 776 [.ref u] 6 60 (fun news => NumAt w news u dx li tp sb e n) (Same (.bool true)) := grpB.2.2.2.2.2.2.2.2.2.2.2.2.2.2.2.2.2.2.2.2.2.2.2.2.2.2.2.2.2.2.1
theorem spec_const_call : ∀ (w : World) (x dx li tg f df a b : Addr) (e1 e2 : Nat) (nm : Str), Spec w 776 [.ref x] 6 60 (fun news => CallAt w news x dx li tg f df a b e1 e2 nm) (Same (.bool false)) := grpB.2.2.2.2.2.2.2.2.2.2.2.2.2.2.2.2.2.2.2.2.2.2.2.2.2.2.2.2.2.2.2.1
theorem spec_plain_add : ∀ (w : World) (x dx li tg f df a b : Addr) (e1 e2 : Nat), Spec w 783 [.ref x] 6 60 (fun news => CallAt w news x dx li tg f df a b e1 e2 (Str.ofString "+")) (RStr (Str.ofString "+")) := grpB.2.2.2.2.2.2.2.2.2.2.2.2.2.2.2.2.2.2.2.2.2.2.2.2.2.2.2.2.2.2.2.2.1
theorem spec_plain_sub : ∀ (w : World) (x dx li tg f df a b : Addr) (e1 e2 : Nat), Spec w 783 [.ref x] 6 60 (fun news => CallAt w news x dx li tg f df a b e1 e2 (Str.ofString "-")) (RStr (Str.ofString "-")) := grpB.2.2.2.2.2.2.2.2.2.2.2.2.2.2.2.2.2.2.2.2.2.2.2.2.2.2.2.2.2.2.2.2.2.1
theorem spec_share : ∀ (w : World) (x dx li : Addr) (t1 t2 t3 t4 t5 t6 : Tok) (rest : List (Addr × Obj)), Spec w 416 [.ref x] 6 60 (fun news => news = (x, instObj 297 dx) :: (dx, dictOf [⟨PyData.keyHash w.params (Str.ofString "kind"), .str (Str.ofString "kind") t1, .str (Str.ofString "double") t2⟩, ⟨PyData.keyHash w.params (Str.ofString "items"), .str (Str.ofString "items") t3, .ref li⟩, ⟨PyData.keyHash w.params (Str.ofString "attrs"), .str (Str.ofString "attrs") t4, .none⟩, ⟨PyData.keyHash w.params (Str.ofString "shared"), .str (Str.ofString "shared") t5, .bool false⟩, ⟨PyData.keyHash w.params (Str.ofString "loose"), .str (Str.ofString "loose") t6, .bool false⟩] 5) :: rest ∧ @Ne Nat x dx ∧ ∀ p ∈ rest, @Ne Nat p.1 dx) (fun news r news' => r = .ref x ∧ news' = (x, instObj 297 dx) :: (dx, dictOf [⟨PyData.keyHash w.params (Str.ofString "kind"), .str (Str.ofString "kind") t1, .str (Str.ofString "double") t2⟩, ⟨PyData.keyHash w.params (Str.ofString "items"), .str (Str.ofString "items") t3, .ref li⟩, ⟨PyData.keyHash w.params (Str.ofString "attrs"), .str (Str.ofString "attrs") t4, .none⟩, ⟨PyData.keyHash w.params (Str.ofString "shared"), .str (Str.ofString "shared") t5, .bool true⟩, ⟨PyData.keyHash w.params (Str.ofString "loose"), .str (Str.ofString "loose") t6, .bool false⟩] 5) :: rest) := grpB.2.2.2.2.2.2.2.2.2.2.2.2.2.2.2.2.2.2.2.2.2.2.2.2.2.2.2.2.2.2.2.2.2.2
def C_fold_num : Prop := ∀ (w : World) (base : List (Addr × Obj)) (x dx li tp : Addr) (sb : Bool) (e : Nat) (v : Int) (hE : NumAt w base x dx li tp sb e v), FoldSpec w base x v 0 0
def C_fold_bin_add : Prop := ∀ (w : World) (base : List (Addr × Obj)) (x dx li tg f df a b : Addr) (e1 e2 ka kb da db : Nat) (va vb : Int) (hE : CallAt w base x dx li tg f df a b e1 e2 (Str.ofString "+")) (iha : FoldSpec w base a va ka da) (ihb : FoldSpec w base b vb kb db) (va0 : -100000 ≤ va) (va1 : va ≤ 100000) (vb0 : -100000 ≤ vb) (vb1 : vb ≤ 100000), FoldSpec w base x (va + vb) (ka + kb + 1) (max da db + 1)
def C_fold_all_add : Prop := ∀ (w : World) (base : List (Addr × Obj)) (x : Addr) (v : Int) (c dep : Nat) (h : ExprIn w base (Str.ofString "+") (fun x1 x2 => x1 + x2) x v c dep), FoldSpec w base x v c dep
def C_fold_bin_sub : Prop := ∀ (w : World) (base : List (Addr × Obj)) (x dx li tg f df a b : Addr) (e1 e2 ka kb da db : Nat) (va vb : Int) (hE : CallAt w base x dx li tg f df a b e1 e2 (Str.ofString "-")) (iha : FoldSpec w base a va ka da) (ihb : FoldSpec w base b vb kb db) (va0 : -100000 ≤ va) (va1 : va ≤ 100000) (vb0 : -100000 ≤ vb) (vb1 : vb ≤ 100000), FoldSpec w base x (va - vb) (ka + kb + 1) (max da db + 1)
def C_fold_all_sub : Prop := ∀ (w : World) (base : List (Addr × Obj)) (x : Addr) (v : Int) (c dep : Nat) (h : ExprIn w base (Str.ofString "-") (fun x1 x2 => x1 - x2) x v c dep), FoldSpec w base x v c dep
def C_spec_fold : Prop := ∀ (w : World) (op : Str) (f : Int → Int → Int) (H : ∀ (base : List (Addr × Obj)) (x : Addr) (v : Int) (c dep : Nat), ExprIn w base op f x v c dep → FoldSpec w base x v c dep) (x sf : Addr) (v : Int) (c dep : Nat), Spec w 818 [.ref x, .ref sf] (70 + dep) (600 + 10 * dep) (fun news => ExprIn w news op f x v c dep ∧ SafeAt news sf) (PFold w v c dep)
def C_spec_call_of : Prop := ∀ (w : World) (la a b : Addr) (e : Nat) (nm : Str) (t0 : Tok), Spec w 395 [.str nm t0, .ref la] 20 200 (fun news => (la, W.listOf #[.ref a, .ref b] e) ∈ news) (PCO w a b nm)
def C_spec_safe : Prop := ∀ (w : World), Spec w 769 [] 20 200 (fun news => True) PSafe
def C_spec_vec : Prop := ∀ (w : World) (kd : Str) (li : Addr) (t0 : Tok), Spec w 297 [.str kd t0, .ref li] 12 120 (fun news => True) (PVec w kd li t0 .none)
def C_spec_vecA : Prop := ∀ (w : World) (kd : Str) (li da : Addr) (t0 : Tok), Spec w 297 [.str kd t0, .ref li, .ref da] 12 120 (fun news => True) (PVec w kd li t0 (.ref da))
def C_spec_sym : Prop := ∀ (w : World) (nm : Str) (t0 : Tok), Spec w 318 [.str nm t0] 12 120 (fun news => True) (PSym w nm t0)
def C_spec_call : Prop := ∀ (w : World) (li tg : Addr), Spec w 340 [.ref li, .ref tg] 12 120 (fun news => True) (PCall w li tg)
def C_spec_clo : Prop := ∀ (w : World) (lf b : Addr), Spec w 362 [.ref lf, .ref b, .none] 12 120 (fun news => True) (PClo w lf b)
def C_spec_mis : Prop := ∀ (w : World), Spec w 268 [] 12 120 (fun news => True) (PMis w)
def C_spec_number : Prop := ∀ (w : World) (t0 : Tok), Spec w 388 [.int 1 t0] 20 200 (fun news => True) (PNum w 1)
def C_spec_number3 : Prop := ∀ (w : World) (t0 : Tok), Spec w 388 [.int 3 t0] 20 200 (fun news => True) (PNum w 3)
set_option maxHeartbeats 0 in
theorem grpC : C_fold_num ∧ C_fold_bin_add ∧ C_fold_all_add ∧ C_fold_bin_sub ∧ C_fold_all_sub ∧ C_spec_fold ∧ C_spec_call_of ∧ C_spec_safe ∧ C_spec_vec ∧ C_spec_vecA ∧ C_spec_sym ∧ C_spec_call ∧ C_spec_clo ∧ C_spec_mis ∧ C_spec_number ∧ C_spec_number3 := by
  k_with_none
  k_with "execs cons" => ((k_here; (refine wpAny_execs_cons ?_); (try k_fold)))
  k_with "exec If" => ((k_here; (refine wpAny_If ?_); (try k_fold)))
  k_with "callWith ref nil nil" => ((k_here; (with_reducible show wpAny _ _ (callWith _ (Value.ref _) _ (backTo _ (starEach [] _)) []) _ _ _); k_dflt (refine callWith_K0 (Frag.In.keeps (by with_reducible assumption) (Fr.keep (by with_reducible assumption))) (by k_is) ?_)))
  k_with "k_mem" => (((repeat' (first | ktr_member | refine' List.mem_cons_of_mem _ ?_)); done))
  k_with "k_room" => (first | exact room2 (by with_reducible assumption) (by decide) | exact Nat.le_of_ble_eq_true rfl | exact room1 (by with_reducible assumption) (by decide) | exact room4 (by with_reducible assumption) (by decide) | (simp only [depth_under_make, depth_under_kw, depth_in1, depth_deeper, depth_caller, recursionLimit] at *; omega))
  k_with "k_units" => (first | exact room2 (by with_reducible assumption) (by decide) | exact Nat.le_of_ble_eq_true rfl | exact room1 (by with_reducible assumption) (by decide) | exact room4 (by with_reducible assumption) (by decide) | (simp only [units_in1, units_deeper, Around.mark_units, units_caller, cLine] at *; omega))
  k_with "k_ne" => ((refine neN ?_; (try dsimp only); first | exact Nat.ne_of_lt (by (first | with_reducible assumption | exact And.left (by with_reducible assumption) | exact And.left (And.right (by with_reducible assumption)) | exact And.left (And.right (And.right (by with_reducible assumption))) | exact And.left (And.right (And.right (And.right (by with_reducible assumption)))) | exact And.left (And.right (And.right (And.right (And.right (by with_reducible assumption))))) | exact And.left (And.right (And.right (And.right (And.right (And.right (by with_reducible assumption)))))) | exact And.left (And.right (And.right (And.right (And.right (And.right (And.right (by with_reducible assumption))))))) | exact And.left (And.right (And.right (And.right (And.right (And.right (And.right (And.right (by with_reducible assumption)))))))) | exact And.left (And.right (And.right (And.right (And.right (And.right (And.right (And.right (And.right (by with_reducible assumption))))))))))) | exact Nat.ne_of_gt (by (first | with_reducible assumption | exact And.left (by with_reducible assumption) | exact And.left (And.right (by with_reducible assumption)) | exact And.left (And.right (And.right (by with_reducible assumption))) | exact And.left (And.right (And.right (And.right (by with_reducible assumption)))) | exact And.left (And.right (And.right (And.right (And.right (by with_reducible assumption))))) | exact And.left (And.right (And.right (And.right (And.right (And.right (by with_reducible assumption)))))) | exact And.left (And.right (And.right (And.right (And.right (And.right (And.right (by with_reducible assumption))))))) | exact And.left (And.right (And.right (And.right (And.right (And.right (And.right (And.right (by with_reducible assumption)))))))) | exact And.left (And.right (And.right (And.right (And.right (And.right (And.right (And.right (And.right (by with_reducible assumption))))))))))) | omega))
  k_with "subscriptTail" => ((k_here; (with_reducible show wpAny _ _ (subscriptTail _ _ (Value.ref _) (Value.int _ _)) _ _ _); k_dflt (refine' lw_getItem ?N_w101 ?m_w101 ?a_w101 ?b_w101 ?x_w101 ?_; (case N_w101 => k_asm); (case m_w101 => k_mem); (case x_w101 => first | exact rfl | assumption); (case a_w101 => omega); (case b_w101 => omega); k_whole)))
  k_with "UnrEndW" => (((rename News _ _ _ _ => lN'); (first | refine unrEnd0 (by assumption) lN' (by first | (with_unfolding_all assumption) | exact allLt_of (by assumption)) ⟨?_, ?_⟩ | refine unrEnd1 (by assumption) lN' (by first | (with_unfolding_all assumption) | exact allLt_of (by assumption)) ⟨?_, ?_⟩ | refine unrEnd2 (by assumption) lN' (by first | (with_unfolding_all assumption) | exact allLt_of (by assumption)) ⟨?_, ?_⟩); (exact ⟨by k_mem, trivial⟩)))
  k_with "pyIter ref" => ((k_here; (with_reducible show wpAny _ _ (pyIter (Value.ref _)) (fun it s₂ => TurnsAt _ _ _ _ _ _ _ _ _ it s₂) _ _); (rename Fr _ _ _ _ => lF'); (rename News _ _ _ _ => lN'); (with_unfolding_all refine iter_tupTurns (by rfl) lF' lN' (by k_mem) (by rfl) (by rfl) ?_); clear lF' lN'; intro i' l1; (try k_lt l1)))
  k_with "exec For Name Attribute cons nil" => ((k_here; (rename Fr _ _ _ _ => lF'); (with_unfolding_all refine' For_turns lF' ?_; k_whole)))
  k_with "pyIter ref" => ((k_here; (with_reducible show wpAny _ _ (pyIter (Value.ref _)) (fun it s₂ => TurnsAt _ _ _ _ _ _ _ _ _ it s₂) _ _); (rename Fr _ _ _ _ => lF'); (rename News _ _ _ _ => lN'); (with_unfolding_all refine iter_listTurns (by rfl) lF' lN' (by k_mem) (by rfl) (by rfl) ?_); clear lF' lN'; intro i' l1; (try k_lt l1)))
  k_with "k_all" => (first | assumption | ((with_reducible refine List.forall_mem_append.mpr ⟨?_, ?_⟩) <;> k_all))
  k_with "call ref" => ((k_here; (with_reducible show wpAny _ _ (call (Value.ref 776) _) _ _ _); k_dflt (refine' (spec_const_num _ _ _ _ _ _ _ _).use (by k_asm) (by k_asm) (by k_asm) (by k_asm) (by k_asm) (by first | exact rfl | assumption) (by first | assumption | exact NumAt.mono (by assumption) (by intro p hp; (repeat' (first | exact hp | (refine List.mem_cons_of_mem _ ?_) | exact List.mem_append_left _ hp))) | exact CallAt.mono (by assumption) (by intro p hp; (repeat' (first | exact hp | (refine List.mem_cons_of_mem _ ?_) | exact List.mem_append_left _ hp)))) ?hd_w107 ?hu_w107 ?_; (case hd_w107 => k_room); (case hu_w107 => k_units)); k_whole; intro r9 n9 h9 t9 F9 N9 p9; (cases p9); (try dsimp only); (try k_unmd); (try k_sweep)))
  k_with "call ref" => ((k_here; (with_reducible show wpAny _ _ (call (Value.ref 776) _) _ _ _); k_dflt (refine' (spec_const_call _ _ _ _ _ _ _ _ _ _ _ _).use (by k_asm) (by k_asm) (by k_asm) (by k_asm) (by k_asm) (by first | exact rfl | assumption) (by first | assumption | exact NumAt.mono (by assumption) (by intro p hp; (repeat' (first | exact hp | (refine List.mem_cons_of_mem _ ?_) | exact List.mem_append_left _ hp))) | exact CallAt.mono (by assumption) (by intro p hp; (repeat' (first | exact hp | (refine List.mem_cons_of_mem _ ?_) | exact List.mem_append_left _ hp)))) ?hd_w108 ?hu_w108 ?_; (case hd_w108 => k_room); (case hu_w108 => k_units)); k_whole; intro r9 n9 h9 t9 F9 N9 p9; (cases p9); (try dsimp only); (try k_unmd); (try k_sweep)))
  refine mcut (P := C_fold_num) ?_ ?_
  · unfold C_fold_num; intro w base x dx li tp sb e v hE
    intro rest sf rm kR dR tD tR eR
    unfold Spec; k_fill
    intro p loose mean mg mb dp un gd cn cs a0 ccd cl outer A₀ base h₀ L m news s Q E B F X N T hk hp9 hd hu hret
    obtain ⟨hb9, ⟨f1, f2, f3, f4, f5, f6, f7, f8, f9, f10, f11, f12, f13, f14, f15, f16, f17, hsf⟩, hr9, hk0, hk1, hd0, hd1⟩ := hp9
    have hx := hE.mono hb9
    refine wpAny_call ?_
    k_dflt ktr_enter
    repeat' (first | (k_unfold; (try dsimp only)) | (k_unmd; k_unfold; (try dsimp only)) | (k_end; wrow_close) | walk1 | (dsimp only; walk1) | (leave1; walk_say "STEP leave1"; try dsimp only) | fail "no step")
    all_goals (
      (rename News _ _ _ _ => lN)
      refine hret _ _ _ _ (by assumption) (fin_app (rm := rm) (o := W.listOf #[.int kR tR] eR) (rest := rest) (tl := [(_, _)]) lN (by k_mem) (by intro p hp; (repeat' (first | exact hp | exact hb9 p hp | refine List.mem_cons_of_mem _ ?_))) (by intro p hp; rw [List.mem_singleton.mp hp]; exact List.mem_cons_self ..)) (.yes _ kR tR eR _ ?q1_fold_num ?q2_fold_num hk0 hk1 (by omega) (by omega) (by omega) x dx li tp sb e (.head _) (hE.mono (fun p hp => List.mem_append_left _ hp)))
      (case q1_fold_num => intro q hq p hp; rw [List.mem_singleton.mp hp]; exact Nat.ne_of_gt (tb_ltOf (by tbn_find) q hq))
      (case q2_fold_num => intro p hp; rw [List.mem_singleton.mp hp]; exact Nat.ne_of_gt (by omega)))
  intro fold_num
  k_with_none
  k_with "execs cons" => ((k_here; (refine wpAny_execs_cons ?_); (try k_fold)))
  k_with "exec If" => ((k_here; (refine wpAny_If ?_); (try k_fold)))
  k_with "callWith ref nil nil" => ((k_here; (with_reducible show wpAny _ _ (callWith _ (Value.ref _) _ (backTo _ (starEach [] _)) []) _ _ _); k_dflt (refine callWith_K0 (Frag.In.keeps (by with_reducible assumption) (Fr.keep (by with_reducible assumption))) (by k_is) ?_)))
  k_with "k_mem" => (((repeat' (first | ktr_member | refine' List.mem_cons_of_mem _ ?_)); done))
  k_with "k_room" => (first | exact room2 (by with_reducible assumption) (by decide) | exact Nat.le_of_ble_eq_true rfl | exact room1 (by with_reducible assumption) (by decide) | exact room4 (by with_reducible assumption) (by decide) | (simp only [depth_under_make, depth_under_kw, depth_in1, depth_deeper, depth_caller, recursionLimit] at *; omega))
  k_with "k_units" => (first | exact room2 (by with_reducible assumption) (by decide) | exact Nat.le_of_ble_eq_true rfl | exact room1 (by with_reducible assumption) (by decide) | exact room4 (by with_reducible assumption) (by decide) | (simp only [units_in1, units_deeper, Around.mark_units, units_caller, cLine] at *; omega))
  k_with "k_ne" => ((refine neN ?_; (try dsimp only); first | exact Nat.ne_of_lt (by (first | with_reducible assumption | exact And.left (by with_reducible assumption) | exact And.left (And.right (by with_reducible assumption)) | exact And.left (And.right (And.right (by with_reducible assumption))) | exact And.left (And.right (And.right (And.right (by with_reducible assumption)))) | exact And.left (And.right (And.right (And.right (And.right (by with_reducible assumption))))) | exact And.left (And.right (And.right (And.right (And.right (And.right (by with_reducible assumption)))))) | exact And.left (And.right (And.right (And.right (And.right (And.right (And.right (by with_reducible assumption))))))) | exact And.left (And.right (And.right (And.right (And.right (And.right (And.right (And.right (by with_reducible assumption)))))))) | exact And.left (And.right (And.right (And.right (And.right (And.right (And.right (And.right (And.right (by with_reducible assumption))))))))))) | exact Nat.ne_of_gt (by (first | with_reducible assumption | exact And.left (by with_reducible assumption) | exact And.left (And.right (by with_reducible assumption)) | exact And.left (And.right (And.right (by with_reducible assumption))) | exact And.left (And.right (And.right (And.right (by with_reducible assumption)))) | exact And.left (And.right (And.right (And.right (And.right (by with_reducible assumption))))) | exact And.left (And.right (And.right (And.right (And.right (And.right (by with_reducible assumption)))))) | exact And.left (And.right (And.right (And.right (And.right (And.right (And.right (by with_reducible assumption))))))) | exact And.left (And.right (And.right (And.right (And.right (And.right (And.right (And.right (by with_reducible assumption)))))))) | exact And.left (And.right (And.right (And.right (And.right (And.right (And.right (And.right (And.right (by with_reducible assumption))))))))))) | omega))
  k_with "subscriptTail" => ((k_here; (with_reducible show wpAny _ _ (subscriptTail _ _ (Value.ref _) (Value.int _ _)) _ _ _); k_dflt (refine' lw_getItem ?N_w113 ?m_w113 ?a_w113 ?b_w113 ?x_w113 ?_; (case N_w113 => k_asm); (case m_w113 => k_mem); (case x_w113 => first | exact rfl | assumption); (case a_w113 => omega); (case b_w113 => omega); k_whole)))
  k_with "UnrEndW" => (((rename News _ _ _ _ => lN'); (first | refine unrEnd0 (by assumption) lN' (by first | (with_unfolding_all assumption) | exact allLt_of (by assumption)) ⟨?_, ?_⟩ | refine unrEnd1 (by assumption) lN' (by first | (with_unfolding_all assumption) | exact allLt_of (by assumption)) ⟨?_, ?_⟩ | refine unrEnd2 (by assumption) lN' (by first | (with_unfolding_all assumption) | exact allLt_of (by assumption)) ⟨?_, ?_⟩); (exact ⟨by k_mem, trivial⟩)))
  k_with "pyIter ref" => ((k_here; (with_reducible show wpAny _ _ (pyIter (Value.ref _)) (fun it s₂ => TurnsAt _ _ _ _ _ _ _ _ _ it s₂) _ _); (rename Fr _ _ _ _ => lF'); (rename News _ _ _ _ => lN'); (with_unfolding_all refine iter_tupTurns (by rfl) lF' lN' (by k_mem) (by rfl) (by rfl) ?_); clear lF' lN'; intro i' l1; (try k_lt l1)))
  k_with "exec For Name Attribute cons nil" => ((k_here; (rename Fr _ _ _ _ => lF'); (with_unfolding_all refine' For_turns lF' ?_; k_whole)))
  k_with "pyIter ref" => ((k_here; (with_reducible show wpAny _ _ (pyIter (Value.ref _)) (fun it s₂ => TurnsAt _ _ _ _ _ _ _ _ _ it s₂) _ _); (rename Fr _ _ _ _ => lF'); (rename News _ _ _ _ => lN'); (with_unfolding_all refine iter_listTurns (by rfl) lF' lN' (by k_mem) (by rfl) (by rfl) ?_); clear lF' lN'; intro i' l1; (try k_lt l1)))
  k_with "k_all" => (first | assumption | ((with_reducible refine List.forall_mem_append.mpr ⟨?_, ?_⟩) <;> k_all))
  k_with "compareOp NotIn str ref" => ((k_here; (with_reducible show wpAny _ _ (compareOp CmpOp.NotIn (Value.str _ _) (Value.ref _)) _ _ _); (with_unfolding_all refine' notin_tuple_strs ?k1_w119 ?k2_w119 ?_; (case k1_w119 => exact News.isTup (by k_asm) (by k_mem)); (case k2_w119 => kde_strs); k_whole)))
  k_with "exec For Name Subscript cons nil" => ((k_here; (rename Fr _ _ _ _ => lF'); (with_unfolding_all refine' For_turns lF' ?_; k_whole)))
  k_with "k_all" => ((intro q hq; exact Nat.ne_of_lt (tb_ltOf (by tbn_find) q hq)))
  k_with "UnrEndW" => (((rename News _ _ _ _ => lN'); (refine unrEndK (by assumption) lN' (by k_dflt k_ne) (by (repeat' (first | assumption | (refine List.forall_mem_cons.mpr ⟨?_, ?_⟩) | (refine List.forall_mem_append.mpr ⟨?_, ?_⟩) | (k_dflt k_ne) | (intro q hq; exact Nat.ne_of_lt (tb_ltOf (by tbn_find) q hq))))) ⟨?_, ?_⟩); (exact ⟨by k_mem, trivial⟩)))
  k_with "call ref" => (k_dflt (k_here; (with_reducible show wpAny _ _ (call (Value.ref 825) _) _ _ _); k_dflt (k_extra "fold"); k_whole; intro r9 n9 h9 t9 F9 N9 p9; ((rcases p9 with ⟨tr9, k9, t19, e19, tl9, o9, m9, kk0, kk1, d91, d92, d93, y9, yd9, yl9, yt9, ys9, ye9, tm9, yn9⟩ | ⟨tr9, k9, t19, e19, tl9, o9, m9, kk0, kk1, d91, tm9⟩) <;> ((try simp only [List.forall_mem_cons] at o9); (obtain ⟨o91, o92, o93, o94⟩ := o9); (try simp only [List.cons_append, List.append_assoc] at N9); (try dsimp only); (try k_unmd)))))
  k_with "k_mem" => (((repeat' (first | ktr_member | exact List.mem_append_right _ (by assumption) | exact List.mem_append_left _ (by assumption) | exact List.mem_append_right _ (List.mem_append_right _ (by assumption)) | exact List.mem_append_right _ (List.mem_append_left _ (by assumption)) | refine' List.mem_cons_of_mem _ ?_)); done))
  k_with "call ref" => ((k_here; (with_reducible show wpAny _ _ (call (Value.ref 776) _) _ _ _); k_dflt (refine' (spec_const_call _ _ _ _ _ _ _ _ _ _ _ _).use (by k_asm) (by k_asm) (by k_asm) (by k_asm) (by k_asm) (by first | exact rfl | assumption) (by first | assumption | exact NumAt.mono (by assumption) (by intro p hp; (repeat' (first | exact hp | (refine List.mem_cons_of_mem _ ?_) | exact List.mem_append_left _ hp))) | exact CallAt.mono (by assumption) (by intro p hp; (repeat' (first | exact hp | (refine List.mem_cons_of_mem _ ?_) | exact List.mem_append_left _ hp)))) ?hd_w125 ?hu_w125 ?_; (case hd_w125 => k_room); (case hu_w125 => k_units)); k_whole; intro r9 n9 h9 t9 F9 N9 p9; (cases p9); (try dsimp only); (try k_unmd); (try k_sweep)))
  k_with "call ref" => ((k_here; (with_reducible show wpAny _ _ (call (Value.ref 783) _) _ _ _); k_dflt (refine' (spec_plain_add _ _ _ _ _ _ _ _ _ _ _).use (by k_asm) (by k_asm) (by k_asm) (by k_asm) (by k_asm) (by first | exact rfl | assumption) (by first | assumption | exact NumAt.mono (by assumption) (by intro p hp; (repeat' (first | exact hp | (refine List.mem_cons_of_mem _ ?_) | exact List.mem_append_left _ hp))) | exact CallAt.mono (by assumption) (by intro p hp; (repeat' (first | exact hp | (refine List.mem_cons_of_mem _ ?_) | exact List.mem_append_left _ hp)))) ?hd_w126 ?hu_w126 ?_; (case hd_w126 => k_room); (case hu_w126 => k_units)); k_whole; intro r9 n9 h9 t9 F9 N9 p9; (cases p9); (try dsimp only); (try k_unmd); (try k_sweep)))
  k_with "call ref" => ((k_here; (with_reducible show wpAny _ _ (call (Value.ref 811) _) _ _ _); k_dflt (refine' (spec_callv_add _ _ _ _ _ _ _ _ _ _ _ _ _ _ _ _ _ _).use (by k_asm) (by k_asm) (by k_asm) (by k_asm) (by k_asm) (by first | exact rfl | assumption) (by (refine ⟨?_, ?_, ?_, ?_, ?_, ?_, ?_⟩ <;> first | assumption | k_mem | exact NumAt.mono (by assumption) (sub9 (by assumption) (by intro p hp; (repeat' (first | exact hp | exact List.mem_append_left _ hp | (refine List.mem_append_right _ ?_) | (refine List.mem_cons_of_mem _ ?_)))) (by intro p hp; (repeat' (first | exact hp | exact List.mem_append_left _ hp | (refine List.mem_append_right _ ?_) | (refine List.mem_cons_of_mem _ ?_))))))) ?hd_w127 ?hu_w127 ?_; (case hd_w127 => k_room); (case hu_w127 => k_units)); k_whole; intro r9 n9 h9 t9 F9 N9 p9; (obtain ⟨x9, dx9, li9, z9, t19, t29, t39, t49, t59, t69, t79, t89, e39, l9, o9, q9, m9, k9⟩ := p9); (try dsimp only); (try k_unmd); (try k_sweep)))
  refine mcut (P := C_fold_bin_add) ?_ ?_
  · unfold C_fold_bin_add; intro w base x dx li tg f df a b e1 e2 ka kb da db va vb hE iha ihb va0 va1 vb0 vb1
    intro rest sf rm kR dR tD tR eR
    unfold Spec; k_fill
    intro p loose mean mg mb dp un gd cn cs a0 ccd cl outer A₀ base h₀ L m news s Q E B F X N T hk hp9 hd hu hret
    obtain ⟨hb9, ⟨f1, f2, f3, f4, f5, f6, f7, f8, f9, f10, f11, f12, f13, f14, f15, f16, f17, hsf⟩, hr9, hk0, hk1, hd0, hd1⟩ := hp9
    have hx := hE.mono hb9
    obtain ⟨u1, u2, u3, u4, u5, u6, u11, u12, u13, u14, u15, c1, c2, c3, c4, c5, c6⟩ := id hx
    refine wpAny_call ?_
    k_dflt ktr_enter
    have hz9 : [kR].getD (Int.toNat 0) 0 = kR := rfl
    k_with "fold" => (
      (rename News _ _ _ _ => lN9)
      first | have lM9 : News _ _ _ ((rm, _) :: _) := lN9 | have lM9 : News _ _ _ ((rm, _) :: _) := sw1 lN9 | have lM9 : News _ _ _ ((rm, _) :: _) := sw2 lN9 | have lM9 : News _ _ _ ((rm, _) :: _) := sw3 lN9
      (first | refine' (iha _ _ _ _ _ _ _ _).use (by k_asm) (by k_asm) (by k_asm) lM9 (by k_asm) rfl (.mk ?hp1_fold_bin_add ?hp2_fold_bin_add ?hp3_fold_bin_add ?hp4_fold_bin_add ?hp5_fold_bin_add ?hp6_fold_bin_add ?hp7_fold_bin_add) ?hd_fold_bin_add ?hu_fold_bin_add ?_ | refine' (ihb _ _ _ _ _ _ _ _).use (by k_asm) (by k_asm) (by k_asm) lM9 (by k_asm) rfl (.mk ?hp1_fold_bin_add ?hp2_fold_bin_add ?hp3_fold_bin_add ?hp4_fold_bin_add ?hp5_fold_bin_add ?hp6_fold_bin_add ?hp7_fold_bin_add) ?hd_fold_bin_add ?hu_fold_bin_add ?_)
      (case hp1_fold_bin_add => (intro p hp; (repeat' (first | exact hb9 p hp | exact List.mem_append_left _ (hb9 p hp) | refine List.mem_cons_of_mem _ ?_))))
      (case hp2_fold_bin_add => (refine ⟨f1, f2, f3, f4, f5, f6, f7, f8, f9, f10, f11, f12, f13, f14, f15, f16, f17, ?_⟩; (repeat' (first | exact hsf | exact List.mem_append_left _ hsf | refine List.mem_cons_of_mem _ ?_))))
      (case hp3_fold_bin_add => (repeat' (first | exact hr9 | assumption | (refine List.forall_mem_cons.mpr ⟨?_, ?_⟩) | (refine List.forall_mem_append.mpr ⟨?_, ?_⟩) | (dsimp only; first | exact Nat.ne_of_lt (by (first | with_reducible assumption | exact And.left (by with_reducible assumption) | exact And.left (And.right (by with_reducible assumption)) | exact And.left (And.right (And.right (by with_reducible assumption))) | exact And.left (And.right (And.right (And.right (by with_reducible assumption)))) | exact And.left (And.right (And.right (And.right (And.right (by with_reducible assumption))))) | exact And.left (And.right (And.right (And.right (And.right (And.right (by with_reducible assumption)))))) | exact And.left (And.right (And.right (And.right (And.right (And.right (And.right (by with_reducible assumption))))))) | exact And.left (And.right (And.right (And.right (And.right (And.right (And.right (And.right (by with_reducible assumption)))))))) | exact And.left (And.right (And.right (And.right (And.right (And.right (And.right (And.right (And.right (by with_reducible assumption))))))))))) | exact Nat.ne_of_gt (by (first | with_reducible assumption | exact And.left (by with_reducible assumption) | exact And.left (And.right (by with_reducible assumption)) | exact And.left (And.right (And.right (by with_reducible assumption))) | exact And.left (And.right (And.right (And.right (by with_reducible assumption)))) | exact And.left (And.right (And.right (And.right (And.right (by with_reducible assumption))))) | exact And.left (And.right (And.right (And.right (And.right (And.right (by with_reducible assumption)))))) | exact And.left (And.right (And.right (And.right (And.right (And.right (And.right (by with_reducible assumption))))))) | exact And.left (And.right (And.right (And.right (And.right (And.right (And.right (And.right (by with_reducible assumption)))))))) | exact And.left (And.right (And.right (And.right (And.right (And.right (And.right (And.right (And.right (by with_reducible assumption))))))))))) | omega))))
      (case hp4_fold_bin_add => first | with_reducible assumption | exact dec_lo hz9 hk0 (by with_reducible assumption) | omega)
      (case hp5_fold_bin_add => first | with_reducible assumption | exact dec_hi hz9 hk1 | omega)
      (case hp6_fold_bin_add => first | exact dec_lo' hd0 (by with_reducible assumption) | omega)
      (case hp7_fold_bin_add => first | exact dec_hi' hd1 | omega)
      (case hd_fold_bin_add => first | exact room_a hd | exact room_b hd | k_room); (case hu_fold_bin_add => first | exact unit_a hu | exact unit_b hu | k_units))
    repeat' (first | (k_unfold; (try dsimp only)) | (k_unmd; k_unfold; (try dsimp only)) | (k_end; wrow_close) | walk1 | (dsimp only; walk1) | (leave1; walk_say "STEP leave1"; try dsimp only) | fail "no step")
    all_goals (
      (rename News _ _ _ _ => lN)
      first
      | (refine' hret _ _ _ _ (by assumption) (fin_app (rm := rm) (rest := rest) (tl := [(_, _)]) lN ?h1_fold_bin_add ?h2_fold_bin_add ?h3_fold_bin_add) (.no _ _ _ _ _ ?q1_fold_bin_add ?q2_fold_bin_add ?q3_fold_bin_add ?q4_fold_bin_add ?q5_fold_bin_add (.head _))
         (case h3_fold_bin_add => (intro p hp; rw [List.mem_singleton.mp hp]; exact .head _))
         (case h1_fold_bin_add => k_mem)
         (case h2_fold_bin_add => exact (by intro p hp; (repeat' (first | exact hp | exact List.mem_append_left _ hp | refine List.mem_cons_of_mem _ ?_))))
         (case q1_fold_bin_add => (intro q hq p hp; rw [List.mem_singleton.mp hp]; exact Nat.ne_of_gt (by first | exact tb_ltOf (by tbn_find) q hq | exact tb_ltOf (l := rest ++ _) (by tbn_find) q (List.mem_append_left _ hq))))
         (case q2_fold_bin_add => (intro p hp; rw [List.mem_singleton.mp hp]; exact Nat.ne_of_gt (by first | (first | with_reducible assumption | exact And.left (by with_reducible assumption) | exact And.left (And.right (by with_reducible assumption)) | exact And.left (And.right (And.right (by with_reducible assumption))) | exact And.left (And.right (And.right (And.right (by with_reducible assumption)))) | exact And.left (And.right (And.right (And.right (And.right (by with_reducible assumption))))) | exact And.left (And.right (And.right (And.right (And.right (And.right (by with_reducible assumption)))))) | exact And.left (And.right (And.right (And.right (And.right (And.right (And.right (by with_reducible assumption))))))) | exact And.left (And.right (And.right (And.right (And.right (And.right (And.right (And.right (by with_reducible assumption)))))))) | exact And.left (And.right (And.right (And.right (And.right (And.right (And.right (And.right (And.right (by with_reducible assumption)))))))))) | omega)))
         (case q3_fold_bin_add => first | with_reducible assumption | exact dec_lo hz9 hk0 (by with_reducible assumption) | omega)
         (case q4_fold_bin_add => first | with_reducible assumption | exact dec_hi hz9 hk1 | omega)
         (case q5_fold_bin_add => first | exact fb_no0 (by with_reducible assumption) | exact fb_no1 hz9 (by with_reducible assumption) | exact fb_no2 hz9 (by with_reducible assumption) | exact fb_no3 hz9 (by with_reducible assumption) (by with_reducible assumption) | omega))
      | (refine' hret _ _ _ _ (by assumption) (fold_fin (rm := rm) (rest := rest) lN ?h1_fold_bin_add ?h2_fold_bin_add) (.yes _ _ _ _ _ ?q1_fold_bin_add ?q2_fold_bin_add ?q3_fold_bin_add ?q4_fold_bin_add ?q5_fold_bin_add ?q6_fold_bin_add ?q7_fold_bin_add _ _ _ _ _ _ (.head _) ?num_fold_bin_add)
         (case h1_fold_bin_add => exact .head _)
         (case h2_fold_bin_add => exact (by intro p hp; exact .tail _ (.tail _ (.tail _ (List.mem_append_left _ hp)))))
         (case num_fold_bin_add => exact num_fin)
         (case q1_fold_bin_add => (intro q hq; refine' fold_offs (by assumption) (by assumption) (by assumption) (by assumption) (by first | (first | with_reducible assumption | exact And.left (by with_reducible assumption) | exact And.left (And.right (by with_reducible assumption)) | exact And.left (And.right (And.right (by with_reducible assumption))) | exact And.left (And.right (And.right (And.right (by with_reducible assumption)))) | exact And.left (And.right (And.right (And.right (And.right (by with_reducible assumption))))) | exact And.left (And.right (And.right (And.right (And.right (And.right (by with_reducible assumption)))))) | exact And.left (And.right (And.right (And.right (And.right (And.right (And.right (by with_reducible assumption))))))) | exact And.left (And.right (And.right (And.right (And.right (And.right (And.right (And.right (by with_reducible assumption)))))))) | exact And.left (And.right (And.right (And.right (And.right (And.right (And.right (And.right (And.right (by with_reducible assumption)))))))))) | omega) q ?_; exact .tail _ (.tail _ (.tail _ (List.mem_append_left _ hq)))))
         (case q2_fold_bin_add => (intro p hp; refine' fold_offs (by assumption) (by assumption) (by assumption) (by assumption) (by first | (first | with_reducible assumption | exact And.left (by with_reducible assumption) | exact And.left (And.right (by with_reducible assumption)) | exact And.left (And.right (And.right (by with_reducible assumption))) | exact And.left (And.right (And.right (And.right (by with_reducible assumption)))) | exact And.left (And.right (And.right (And.right (And.right (by with_reducible assumption))))) | exact And.left (And.right (And.right (And.right (And.right (And.right (by with_reducible assumption)))))) | exact And.left (And.right (And.right (And.right (And.right (And.right (And.right (by with_reducible assumption))))))) | exact And.left (And.right (And.right (And.right (And.right (And.right (And.right (And.right (by with_reducible assumption)))))))) | exact And.left (And.right (And.right (And.right (And.right (And.right (And.right (And.right (And.right (by with_reducible assumption)))))))))) | omega) (rm, ?oo_fold_bin_add) ?mm_fold_bin_add p hp; (case mm_fold_bin_add => exact List.Mem.head _)))
         (case q3_fold_bin_add => first | with_reducible assumption | omega)
         (case q4_fold_bin_add => first | with_reducible assumption | omega)
         (case q5_fold_bin_add => first | exact fb_yes5 (by with_reducible assumption) (by with_reducible assumption) | omega)
         (case q6_fold_bin_add => first | exact fb_yes6 hz9 (by with_reducible assumption) (by with_reducible assumption) | omega)
         (case q7_fold_bin_add => first | exact fb_yes7 hz9 (by with_reducible assumption) (by with_reducible assumption) | omega)))
  intro fold_bin_add
  refine mcut (P := C_fold_all_add) ?_ ?_
  · unfold C_fold_all_add; intro w base x v c dep h
    induction h with
    | num h h0 h1 => exact fold_num w base _ _ _ _ _ _ _ h
    | bin h ha hb h0 h1 ia ib => exact fold_bin_add w base _ _ _ _ _ _ _ _ _ _ _ _ _ _ _ _ h ia ib ha.bound.1 ha.bound.2 hb.bound.1 hb.bound.2
  intro fold_all_add
  k_with_none
  k_with "execs cons" => ((k_here; (refine wpAny_execs_cons ?_); (try k_fold)))
  k_with "exec If" => ((k_here; (refine wpAny_If ?_); (try k_fold)))
  k_with "callWith ref nil nil" => ((k_here; (with_reducible show wpAny _ _ (callWith _ (Value.ref _) _ (backTo _ (starEach [] _)) []) _ _ _); k_dflt (refine callWith_K0 (Frag.In.keeps (by with_reducible assumption) (Fr.keep (by with_reducible assumption))) (by k_is) ?_)))
  k_with "k_mem" => (((repeat' (first | ktr_member | refine' List.mem_cons_of_mem _ ?_)); done))
  k_with "k_room" => (first | exact room2 (by with_reducible assumption) (by decide) | exact Nat.le_of_ble_eq_true rfl | exact room1 (by with_reducible assumption) (by decide) | exact room4 (by with_reducible assumption) (by decide) | (simp only [depth_under_make, depth_under_kw, depth_in1, depth_deeper, depth_caller, recursionLimit] at *; omega))
  k_with "k_units" => (first | exact room2 (by with_reducible assumption) (by decide) | exact Nat.le_of_ble_eq_true rfl | exact room1 (by with_reducible assumption) (by decide) | exact room4 (by with_reducible assumption) (by decide) | (simp only [units_in1, units_deeper, Around.mark_units, units_caller, cLine] at *; omega))
  k_with "k_ne" => ((refine neN ?_; (try dsimp only); first | exact Nat.ne_of_lt (by (first | with_reducible assumption | exact And.left (by with_reducible assumption) | exact And.left (And.right (by with_reducible assumption)) | exact And.left (And.right (And.right (by with_reducible assumption))) | exact And.left (And.right (And.right (And.right (by with_reducible assumption)))) | exact And.left (And.right (And.right (And.right (And.right (by with_reducible assumption))))) | exact And.left (And.right (And.right (And.right (And.right (And.right (by with_reducible assumption)))))) | exact And.left (And.right (And.right (And.right (And.right (And.right (And.right (by with_reducible assumption))))))) | exact And.left (And.right (And.right (And.right (And.right (And.right (And.right (And.right (by with_reducible assumption)))))))) | exact And.left (And.right (And.right (And.right (And.right (And.right (And.right (And.right (And.right (by with_reducible assumption))))))))))) | exact Nat.ne_of_gt (by (first | with_reducible assumption | exact And.left (by with_reducible assumption) | exact And.left (And.right (by with_reducible assumption)) | exact And.left (And.right (And.right (by with_reducible assumption))) | exact And.left (And.right (And.right (And.right (by with_reducible assumption)))) | exact And.left (And.right (And.right (And.right (And.right (by with_reducible assumption))))) | exact And.left (And.right (And.right (And.right (And.right (And.right (by with_reducible assumption)))))) | exact And.left (And.right (And.right (And.right (And.right (And.right (And.right (by with_reducible assumption))))))) | exact And.left (And.right (And.right (And.right (And.right (And.right (And.right (And.right (by with_reducible assumption)))))))) | exact And.left (And.right (And.right (And.right (And.right (And.right (And.right (And.right (And.right (by with_reducible assumption))))))))))) | omega))
  k_with "subscriptTail" => ((k_here; (with_reducible show wpAny _ _ (subscriptTail _ _ (Value.ref _) (Value.int _ _)) _ _ _); k_dflt (refine' lw_getItem ?N_w132 ?m_w132 ?a_w132 ?b_w132 ?x_w132 ?_; (case N_w132 => k_asm); (case m_w132 => k_mem); (case x_w132 => first | exact rfl | assumption); (case a_w132 => omega); (case b_w132 => omega); k_whole)))
  k_with "UnrEndW" => (((rename News _ _ _ _ => lN'); (first | refine unrEnd0 (by assumption) lN' (by first | (with_unfolding_all assumption) | exact allLt_of (by assumption)) ⟨?_, ?_⟩ | refine unrEnd1 (by assumption) lN' (by first | (with_unfolding_all assumption) | exact allLt_of (by assumption)) ⟨?_, ?_⟩ | refine unrEnd2 (by assumption) lN' (by first | (with_unfolding_all assumption) | exact allLt_of (by assumption)) ⟨?_, ?_⟩); (exact ⟨by k_mem, trivial⟩)))
  k_with "pyIter ref" => ((k_here; (with_reducible show wpAny _ _ (pyIter (Value.ref _)) (fun it s₂ => TurnsAt _ _ _ _ _ _ _ _ _ it s₂) _ _); (rename Fr _ _ _ _ => lF'); (rename News _ _ _ _ => lN'); (with_unfolding_all refine iter_tupTurns (by rfl) lF' lN' (by k_mem) (by rfl) (by rfl) ?_); clear lF' lN'; intro i' l1; (try k_lt l1)))
  k_with "exec For Name Attribute cons nil" => ((k_here; (rename Fr _ _ _ _ => lF'); (with_unfolding_all refine' For_turns lF' ?_; k_whole)))
  k_with "pyIter ref" => ((k_here; (with_reducible show wpAny _ _ (pyIter (Value.ref _)) (fun it s₂ => TurnsAt _ _ _ _ _ _ _ _ _ it s₂) _ _); (rename Fr _ _ _ _ => lF'); (rename News _ _ _ _ => lN'); (with_unfolding_all refine iter_listTurns (by rfl) lF' lN' (by k_mem) (by rfl) (by rfl) ?_); clear lF' lN'; intro i' l1; (try k_lt l1)))
  k_with "k_all" => (first | assumption | ((with_reducible refine List.forall_mem_append.mpr ⟨?_, ?_⟩) <;> k_all))
  k_with "compareOp NotIn str ref" => ((k_here; (with_reducible show wpAny _ _ (compareOp CmpOp.NotIn (Value.str _ _) (Value.ref _)) _ _ _); (with_unfolding_all refine' notin_tuple_strs ?k1_w138 ?k2_w138 ?_; (case k1_w138 => exact News.isTup (by k_asm) (by k_mem)); (case k2_w138 => kde_strs); k_whole)))
  k_with "exec For Name Subscript cons nil" => ((k_here; (rename Fr _ _ _ _ => lF'); (with_unfolding_all refine' For_turns lF' ?_; k_whole)))
  k_with "k_all" => ((intro q hq; exact Nat.ne_of_lt (tb_ltOf (by tbn_find) q hq)))
  k_with "UnrEndW" => (((rename News _ _ _ _ => lN'); (refine unrEndK (by assumption) lN' (by k_dflt k_ne) (by (repeat' (first | assumption | (refine List.forall_mem_cons.mpr ⟨?_, ?_⟩) | (refine List.forall_mem_append.mpr ⟨?_, ?_⟩) | (k_dflt k_ne) | (intro q hq; exact Nat.ne_of_lt (tb_ltOf (by tbn_find) q hq))))) ⟨?_, ?_⟩); (exact ⟨by k_mem, trivial⟩)))
  k_with "call ref" => (k_dflt (k_here; (with_reducible show wpAny _ _ (call (Value.ref 825) _) _ _ _); k_dflt (k_extra "fold"); k_whole; intro r9 n9 h9 t9 F9 N9 p9; ((rcases p9 with ⟨tr9, k9, t19, e19, tl9, o9, m9, kk0, kk1, d91, d92, d93, y9, yd9, yl9, yt9, ys9, ye9, tm9, yn9⟩ | ⟨tr9, k9, t19, e19, tl9, o9, m9, kk0, kk1, d91, tm9⟩) <;> ((try simp only [List.forall_mem_cons] at o9); (obtain ⟨o91, o92, o93, o94⟩ := o9); (try simp only [List.cons_append, List.append_assoc] at N9); (try dsimp only); (try k_unmd)))))
  k_with "k_mem" => (((repeat' (first | ktr_member | exact List.mem_append_right _ (by assumption) | exact List.mem_append_left _ (by assumption) | exact List.mem_append_right _ (List.mem_append_right _ (by assumption)) | exact List.mem_append_right _ (List.mem_append_left _ (by assumption)) | refine' List.mem_cons_of_mem _ ?_)); done))
  k_with "call ref" => ((k_here; (with_reducible show wpAny _ _ (call (Value.ref 776) _) _ _ _); k_dflt (refine' (spec_const_call _ _ _ _ _ _ _ _ _ _ _ _).use (by k_asm) (by k_asm) (by k_asm) (by k_asm) (by k_asm) (by first | exact rfl | assumption) (by first | assumption | exact NumAt.mono (by assumption) (by intro p hp; (repeat' (first | exact hp | (refine List.mem_cons_of_mem _ ?_) | exact List.mem_append_left _ hp))) | exact CallAt.mono (by assumption) (by intro p hp; (repeat' (first | exact hp | (refine List.mem_cons_of_mem _ ?_) | exact List.mem_append_left _ hp)))) ?hd_w144 ?hu_w144 ?_; (case hd_w144 => k_room); (case hu_w144 => k_units)); k_whole; intro r9 n9 h9 t9 F9 N9 p9; (cases p9); (try dsimp only); (try k_unmd); (try k_sweep)))
  k_with "call ref" => ((k_here; (with_reducible show wpAny _ _ (call (Value.ref 783) _) _ _ _); k_dflt (refine' (spec_plain_sub _ _ _ _ _ _ _ _ _ _ _).use (by k_asm) (by k_asm) (by k_asm) (by k_asm) (by k_asm) (by first | exact rfl | assumption) (by first | assumption | exact NumAt.mono (by assumption) (by intro p hp; (repeat' (first | exact hp | (refine List.mem_cons_of_mem _ ?_) | exact List.mem_append_left _ hp))) | exact CallAt.mono (by assumption) (by intro p hp; (repeat' (first | exact hp | (refine List.mem_cons_of_mem _ ?_) | exact List.mem_append_left _ hp)))) ?hd_w145 ?hu_w145 ?_; (case hd_w145 => k_room); (case hu_w145 => k_units)); k_whole; intro r9 n9 h9 t9 F9 N9 p9; (cases p9); (try dsimp only); (try k_unmd); (try k_sweep)))
  k_with "call ref" => ((k_here; (with_reducible show wpAny _ _ (call (Value.ref 811) _) _ _ _); k_dflt (refine' (spec_callv_sub _ _ _ _ _ _ _ _ _ _ _ _ _ _ _ _ _ _).use (by k_asm) (by k_asm) (by k_asm) (by k_asm) (by k_asm) (by first | exact rfl | assumption) (by (refine ⟨?_, ?_, ?_, ?_, ?_, ?_, ?_⟩ <;> first | assumption | k_mem | exact NumAt.mono (by assumption) (sub9 (by assumption) (by intro p hp; (repeat' (first | exact hp | exact List.mem_append_left _ hp | (refine List.mem_append_right _ ?_) | (refine List.mem_cons_of_mem _ ?_)))) (by intro p hp; (repeat' (first | exact hp | exact List.mem_append_left _ hp | (refine List.mem_append_right _ ?_) | (refine List.mem_cons_of_mem _ ?_))))))) ?hd_w146 ?hu_w146 ?_; (case hd_w146 => k_room); (case hu_w146 => k_units)); k_whole; intro r9 n9 h9 t9 F9 N9 p9; (obtain ⟨x9, dx9, li9, z9, t19, t29, t39, t49, t59, t69, t79, t89, e39, l9, o9, q9, m9, k9⟩ := p9); (try dsimp only); (try k_unmd); (try k_sweep)))
  refine mcut (P := C_fold_bin_sub) ?_ ?_
  · unfold C_fold_bin_sub; intro w base x dx li tg f df a b e1 e2 ka kb da db va vb hE iha ihb va0 va1 vb0 vb1
    intro rest sf rm kR dR tD tR eR
    unfold Spec; k_fill
    intro p loose mean mg mb dp un gd cn cs a0 ccd cl outer A₀ base h₀ L m news s Q E B F X N T hk hp9 hd hu hret
    obtain ⟨hb9, ⟨f1, f2, f3, f4, f5, f6, f7, f8, f9, f10, f11, f12, f13, f14, f15, f16, f17, hsf⟩, hr9, hk0, hk1, hd0, hd1⟩ := hp9
    have hx := hE.mono hb9
    obtain ⟨u1, u2, u3, u4, u5, u6, u11, u12, u13, u14, u15, c1, c2, c3, c4, c5, c6⟩ := id hx
    refine wpAny_call ?_
    k_dflt ktr_enter
    have hz9 : [kR].getD (Int.toNat 0) 0 = kR := rfl
    k_with "fold" => (
      (rename News _ _ _ _ => lN9)
      first | have lM9 : News _ _ _ ((rm, _) :: _) := lN9 | have lM9 : News _ _ _ ((rm, _) :: _) := sw1 lN9 | have lM9 : News _ _ _ ((rm, _) :: _) := sw2 lN9 | have lM9 : News _ _ _ ((rm, _) :: _) := sw3 lN9
      (first | refine' (iha _ _ _ _ _ _ _ _).use (by k_asm) (by k_asm) (by k_asm) lM9 (by k_asm) rfl (.mk ?hp1_fold_bin_sub ?hp2_fold_bin_sub ?hp3_fold_bin_sub ?hp4_fold_bin_sub ?hp5_fold_bin_sub ?hp6_fold_bin_sub ?hp7_fold_bin_sub) ?hd_fold_bin_sub ?hu_fold_bin_sub ?_ | refine' (ihb _ _ _ _ _ _ _ _).use (by k_asm) (by k_asm) (by k_asm) lM9 (by k_asm) rfl (.mk ?hp1_fold_bin_sub ?hp2_fold_bin_sub ?hp3_fold_bin_sub ?hp4_fold_bin_sub ?hp5_fold_bin_sub ?hp6_fold_bin_sub ?hp7_fold_bin_sub) ?hd_fold_bin_sub ?hu_fold_bin_sub ?_)
      (case hp1_fold_bin_sub => (intro p hp; (repeat' (first | exact hb9 p hp | exact List.mem_append_left _ (hb9 p hp) | refine List.mem_cons_of_mem _ ?_))))
      (case hp2_fold_bin_sub => (refine ⟨f1, f2, f3, f4, f5, f6, f7, f8, f9, f10, f11, f12, f13, f14, f15, f16, f17, ?_⟩; (repeat' (first | exact hsf | exact List.mem_append_left _ hsf | refine List.mem_cons_of_mem _ ?_))))
      (case hp3_fold_bin_sub => (repeat' (first | exact hr9 | assumption | (refine List.forall_mem_cons.mpr ⟨?_, ?_⟩) | (refine List.forall_mem_append.mpr ⟨?_, ?_⟩) | (dsimp only; first | exact Nat.ne_of_lt (by (first | with_reducible assumption | exact And.left (by with_reducible assumption) | exact And.left (And.right (by with_reducible assumption)) | exact And.left (And.right (And.right (by with_reducible assumption))) | exact And.left (And.right (And.right (And.right (by with_reducible assumption)))) | exact And.left (And.right (And.right (And.right (And.right (by with_reducible assumption))))) | exact And.left (And.right (And.right (And.right (And.right (And.right (by with_reducible assumption)))))) | exact And.left (And.right (And.right (And.right (And.right (And.right (And.right (by with_reducible assumption))))))) | exact And.left (And.right (And.right (And.right (And.right (And.right (And.right (And.right (by with_reducible assumption)))))))) | exact And.left (And.right (And.right (And.right (And.right (And.right (And.right (And.right (And.right (by with_reducible assumption))))))))))) | exact Nat.ne_of_gt (by (first | with_reducible assumption | exact And.left (by with_reducible assumption) | exact And.left (And.right (by with_reducible assumption)) | exact And.left (And.right (And.right (by with_reducible assumption))) | exact And.left (And.right (And.right (And.right (by with_reducible assumption)))) | exact And.left (And.right (And.right (And.right (And.right (by with_reducible assumption))))) | exact And.left (And.right (And.right (And.right (And.right (And.right (by with_reducible assumption)))))) | exact And.left (And.right (And.right (And.right (And.right (And.right (And.right (by with_reducible assumption))))))) | exact And.left (And.right (And.right (And.right (And.right (And.right (And.right (And.right (by with_reducible assumption)))))))) | exact And.left (And.right (And.right (And.right (And.right (And.right (And.right (And.right (And.right (by with_reducible assumption))))))))))) | omega))))
      (case hp4_fold_bin_sub => first | with_reducible assumption | exact dec_lo hz9 hk0 (by with_reducible assumption) | omega)
      (case hp5_fold_bin_sub => first | with_reducible assumption | exact dec_hi hz9 hk1 | omega)
      (case hp6_fold_bin_sub => first | exact dec_lo' hd0 (by with_reducible assumption) | omega)
      (case hp7_fold_bin_sub => first | exact dec_hi' hd1 | omega)
      (case hd_fold_bin_sub => first | exact room_a hd | exact room_b hd | k_room); (case hu_fold_bin_sub => first | exact unit_a hu | exact unit_b hu | k_units))
    repeat' (first | (k_unfold; (try dsimp only)) | (k_unmd; k_unfold; (try dsimp only)) | (k_end; wrow_close) | walk1 | (dsimp only; walk1) | (leave1; walk_say "STEP leave1"; try dsimp only) | fail "no step")
    all_goals (
      (rename News _ _ _ _ => lN)
      first
      | (refine' hret _ _ _ _ (by assumption) (fin_app (rm := rm) (rest := rest) (tl := [(_, _)]) lN ?h1_fold_bin_sub ?h2_fold_bin_sub ?h3_fold_bin_sub) (.no _ _ _ _ _ ?q1_fold_bin_sub ?q2_fold_bin_sub ?q3_fold_bin_sub ?q4_fold_bin_sub ?q5_fold_bin_sub (.head _))
         (case h3_fold_bin_sub => (intro p hp; rw [List.mem_singleton.mp hp]; exact .head _))
         (case h1_fold_bin_sub => k_mem)
         (case h2_fold_bin_sub => exact (by intro p hp; (repeat' (first | exact hp | exact List.mem_append_left _ hp | refine List.mem_cons_of_mem _ ?_))))
         (case q1_fold_bin_sub => (intro q hq p hp; rw [List.mem_singleton.mp hp]; exact Nat.ne_of_gt (by first | exact tb_ltOf (by tbn_find) q hq | exact tb_ltOf (l := rest ++ _) (by tbn_find) q (List.mem_append_left _ hq))))
         (case q2_fold_bin_sub => (intro p hp; rw [List.mem_singleton.mp hp]; exact Nat.ne_of_gt (by first | (first | with_reducible assumption | exact And.left (by with_reducible assumption) | exact And.left (And.right (by with_reducible assumption)) | exact And.left (And.right (And.right (by with_reducible assumption))) | exact And.left (And.right (And.right (And.right (by with_reducible assumption)))) | exact And.left (And.right (And.right (And.right (And.right (by with_reducible assumption))))) | exact And.left (And.right (And.right (And.right (And.right (And.right (by with_reducible assumption)))))) | exact And.left (And.right (And.right (And.right (And.right (And.right (And.right (by with_reducible assumption))))))) | exact And.left (And.right (And.right (And.right (And.right (And.right (And.right (And.right (by with_reducible assumption)))))))) | exact And.left (And.right (And.right (And.right (And.right (And.right (And.right (And.right (And.right (by with_reducible assumption)))))))))) | omega)))
         (case q3_fold_bin_sub => first | with_reducible assumption | exact dec_lo hz9 hk0 (by with_reducible assumption) | omega)
         (case q4_fold_bin_sub => first | with_reducible assumption | exact dec_hi hz9 hk1 | omega)
         (case q5_fold_bin_sub => first | exact fb_no0 (by with_reducible assumption) | exact fb_no1 hz9 (by with_reducible assumption) | exact fb_no2 hz9 (by with_reducible assumption) | exact fb_no3 hz9 (by with_reducible assumption) (by with_reducible assumption) | omega))
      | (refine' hret _ _ _ _ (by assumption) (fold_fin (rm := rm) (rest := rest) lN ?h1_fold_bin_sub ?h2_fold_bin_sub) (.yes _ _ _ _ _ ?q1_fold_bin_sub ?q2_fold_bin_sub ?q3_fold_bin_sub ?q4_fold_bin_sub ?q5_fold_bin_sub ?q6_fold_bin_sub ?q7_fold_bin_sub _ _ _ _ _ _ (.head _) ?num_fold_bin_sub)
         (case h1_fold_bin_sub => exact .head _)
         (case h2_fold_bin_sub => exact (by intro p hp; exact .tail _ (.tail _ (.tail _ (List.mem_append_left _ hp)))))
         (case num_fold_bin_sub => exact num_fin)
         (case q1_fold_bin_sub => (intro q hq; refine' fold_offs (by assumption) (by assumption) (by assumption) (by assumption) (by first | (first | with_reducible assumption | exact And.left (by with_reducible assumption) | exact And.left (And.right (by with_reducible assumption)) | exact And.left (And.right (And.right (by with_reducible assumption))) | exact And.left (And.right (And.right (And.right (by with_reducible assumption)))) | exact And.left (And.right (And.right (And.right (And.right (by with_reducible assumption))))) | exact And.left (And.right (And.right (And.right (And.right (And.right (by with_reducible assumption)))))) | exact And.left (And.right (And.right (And.right (And.right (And.right (And.right (by with_reducible assumption))))))) | exact And.left (And.right (And.right (And.right (And.right (And.right (And.right (And.right (by with_reducible assumption)))))))) | exact And.left (And.right (And.right (And.right (And.right (And.right (And.right (And.right (And.right (by with_reducible assumption)))))))))) | omega) q ?_; exact .tail _ (.tail _ (.tail _ (List.mem_append_left _ hq)))))
         (case q2_fold_bin_sub => (intro p hp; refine' fold_offs (by assumption) (by assumption) (by assumption) (by assumption) (by first | (first | with_reducible assumption | exact And.left (by with_reducible assumption) | exact And.left (And.right (by with_reducible assumption)) | exact And.left (And.right (And.right (by with_reducible assumption))) | exact And.left (And.right (And.right (And.right (by with_reducible assumption)))) | exact And.left (And.right (And.right (And.right (And.right (by with_reducible assumption))))) | exact And.left (And.right (And.right (And.right (And.right (And.right (by with_reducible assumption)))))) | exact And.left (And.right (And.right (And.right (And.right (And.right (And.right (by with_reducible assumption))))))) | exact And.left (And.right (And.right (And.right (And.right (And.right (And.right (And.right (by with_reducible assumption)))))))) | exact And.left (And.right (And.right (And.right (And.right (And.right (And.right (And.right (And.right (by with_reducible assumption)))))))))) | omega) (rm, ?oo_fold_bin_sub) ?mm_fold_bin_sub p hp; (case mm_fold_bin_sub => exact List.Mem.head _)))
         (case q3_fold_bin_sub => first | with_reducible assumption | omega)
         (case q4_fold_bin_sub => first | with_reducible assumption | omega)
         (case q5_fold_bin_sub => first | exact fb_yes5 (by with_reducible assumption) (by with_reducible assumption) | omega)
         (case q6_fold_bin_sub => first | exact fb_yes6 hz9 (by with_reducible assumption) (by with_reducible assumption) | omega)
         (case q7_fold_bin_sub => first | exact fb_yes7 hz9 (by with_reducible assumption) (by with_reducible assumption) | omega)))
  intro fold_bin_sub
  refine mcut (P := C_fold_all_sub) ?_ ?_
  · unfold C_fold_all_sub; intro w base x v c dep h
    induction h with
    | num h h0 h1 => exact fold_num w base _ _ _ _ _ _ _ h
    | bin h ha hb h0 h1 ia ib => exact fold_bin_sub w base _ _ _ _ _ _ _ _ _ _ _ _ _ _ _ _ h ia ib ha.bound.1 ha.bound.2 hb.bound.1 hb.bound.2
  intro fold_all_sub
  k_with_none
  k_with "execs cons" => ((k_here; (refine wpAny_execs_cons ?_); (try k_fold)))
  k_with "exec If" => ((k_here; (refine wpAny_If ?_); (try k_fold)))
  k_with "callWith ref nil nil" => ((k_here; (with_reducible show wpAny _ _ (callWith _ (Value.ref _) _ (backTo _ (starEach [] _)) []) _ _ _); k_dflt (refine callWith_K0 (Frag.In.keeps (by with_reducible assumption) (Fr.keep (by with_reducible assumption))) (by k_is) ?_)))
  k_with "k_mem" => (((repeat' (first | ktr_member | refine' List.mem_cons_of_mem _ ?_)); done))
  k_with "k_room" => (first | exact room2 (by with_reducible assumption) (by decide) | exact Nat.le_of_ble_eq_true rfl | exact room1 (by with_reducible assumption) (by decide) | exact room4 (by with_reducible assumption) (by decide) | (simp only [depth_under_make, depth_under_kw, depth_in1, depth_deeper, depth_caller, recursionLimit] at *; omega))
  k_with "k_units" => (first | exact room2 (by with_reducible assumption) (by decide) | exact Nat.le_of_ble_eq_true rfl | exact room1 (by with_reducible assumption) (by decide) | exact room4 (by with_reducible assumption) (by decide) | (simp only [units_in1, units_deeper, Around.mark_units, units_caller, cLine] at *; omega))
  k_with "k_ne" => ((refine neN ?_; (try dsimp only); first | exact Nat.ne_of_lt (by (first | with_reducible assumption | exact And.left (by with_reducible assumption) | exact And.left (And.right (by with_reducible assumption)) | exact And.left (And.right (And.right (by with_reducible assumption))) | exact And.left (And.right (And.right (And.right (by with_reducible assumption)))) | exact And.left (And.right (And.right (And.right (And.right (by with_reducible assumption))))) | exact And.left (And.right (And.right (And.right (And.right (And.right (by with_reducible assumption)))))) | exact And.left (And.right (And.right (And.right (And.right (And.right (And.right (by with_reducible assumption))))))) | exact And.left (And.right (And.right (And.right (And.right (And.right (And.right (And.right (by with_reducible assumption)))))))) | exact And.left (And.right (And.right (And.right (And.right (And.right (And.right (And.right (And.right (by with_reducible assumption))))))))))) | exact Nat.ne_of_gt (by (first | with_reducible assumption | exact And.left (by with_reducible assumption) | exact And.left (And.right (by with_reducible assumption)) | exact And.left (And.right (And.right (by with_reducible assumption))) | exact And.left (And.right (And.right (And.right (by with_reducible assumption)))) | exact And.left (And.right (And.right (And.right (And.right (by with_reducible assumption))))) | exact And.left (And.right (And.right (And.right (And.right (And.right (by with_reducible assumption)))))) | exact And.left (And.right (And.right (And.right (And.right (And.right (And.right (by with_reducible assumption))))))) | exact And.left (And.right (And.right (And.right (And.right (And.right (And.right (And.right (by with_reducible assumption)))))))) | exact And.left (And.right (And.right (And.right (And.right (And.right (And.right (And.right (And.right (by with_reducible assumption))))))))))) | omega))
  k_with "subscriptTail" => ((k_here; (with_reducible show wpAny _ _ (subscriptTail _ _ (Value.ref _) (Value.int _ _)) _ _ _); k_dflt (refine' lw_getItem ?N_w151 ?m_w151 ?a_w151 ?b_w151 ?x_w151 ?_; (case N_w151 => k_asm); (case m_w151 => k_mem); (case x_w151 => first | exact rfl | assumption); (case a_w151 => omega); (case b_w151 => omega); k_whole)))
  refine mcut (P := C_spec_fold) ?_ ?_
  · unfold C_spec_fold; intro w op f H x sf v c dep
    unfold Spec; k_fill
    intro p loose mean mg mb dp un gd cn cs a0 ccd cl outer A₀ base h₀ L m news s Q E B F X N T hk ⟨hE9, hS9⟩ hd hu hret
    have C9 := H news x v c dep hE9
    refine wpAny_call ?_
    k_dflt ktr_enter
    k_with "fold" => (
      refine' (C9 _ _ _ _ _ _ _ _).use (by k_asm) (by k_asm) (by k_asm) (by k_asm) (by k_asm) rfl (.mk (fun p hp => hp) hS9 ?hp_spec_fold (by decide) (by decide) (by decide) (by decide)) ?hd_spec_fold ?hu_spec_fold ?_
      (case hp_spec_fold => first | (intro q hq; exact Nat.ne_of_lt (tb_ltOf (by tbn_find) q hq)) | (intro q hq; exact Nat.ne_of_lt (tb_ltOf (allLt_of (by assumption)) q hq)))
      (case hd_spec_fold => k_room); (case hu_spec_fold => k_units))
    repeat' (first | (k_unfold; (try dsimp only)) | (k_unmd; k_unfold; (try dsimp only)) | (k_end; wrow_close) | ((fail_if_success (with_reducible show wpAny _ _ (call (Value.ref 825) _) _ _ _)); walk1) | ((fail_if_success (with_reducible show wpAny _ _ (call (Value.ref 825) _) _ _ _)); dsimp only; walk1) | (leave1; walk_say "STEP leave1"; try dsimp only) | fail "no step")
    k_dflt (k_extra "fold")
    intro r9 n9 h9 t9 F9 N9 p9
    rcases p9 with ⟨tr9, k9, t19, e19, tl9, o9, m9, kk0, kk1, d91, d92, d93, y9, yd9, yl9, yt9, ys9, ye9, tm9, yn9⟩ | ⟨tr9, k9, t19, e19, tl9, o9, m9, kk0, kk1, d91, tm9⟩
    · (try dsimp only); (try k_unmd)
      repeat' (first | (k_unfold; (try dsimp only)) | (k_unmd; k_unfold; (try dsimp only)) | (k_end; wrow_close) | walk1 | (dsimp only; walk1) | (leave1; walk_say "STEP leave1"; try dsimp only) | fail "no step")
      (rename News _ _ _ _ => lN)
      exact hret _ _ _ _ (by assumption) (fun p hp => lN p (.tail _ hp)) (.yes tr9 tl9 o9 (by omega) (by omega) y9 yd9 yl9 yt9 ys9 ye9 tm9 yn9)
    · (try dsimp only); (try k_unmd)
      repeat' (first | (k_unfold; (try dsimp only)) | (k_unmd; k_unfold; (try dsimp only)) | (k_end; wrow_close) | walk1 | (dsimp only; walk1) | (leave1; walk_say "STEP leave1"; try dsimp only) | fail "no step")
      (rename News _ _ _ _ => lN)
      exact hret _ _ _ _ (by assumption) (fun p hp => lN p (.tail _ hp)) (.no tr9 tl9 o9 (by omega) tm9)
  intro spec_fold
  k_with_none
  k_with "execs cons" => ((k_here; (refine wpAny_execs_cons ?_); (try k_fold)))
  k_with "exec If" => ((k_here; (refine wpAny_If ?_); (try k_fold)))
  k_with "callWith ref nil nil" => ((k_here; (with_reducible show wpAny _ _ (callWith _ (Value.ref _) _ (backTo _ (starEach [] _)) []) _ _ _); k_dflt (refine callWith_K0 (Frag.In.keeps (by with_reducible assumption) (Fr.keep (by with_reducible assumption))) (by k_is) ?_)))
  k_with "k_mem" => (((repeat' (first | ktr_member | refine' List.mem_cons_of_mem _ ?_)); done))
  k_with "k_room" => (first | exact room2 (by with_reducible assumption) (by decide) | exact Nat.le_of_ble_eq_true rfl | exact room1 (by with_reducible assumption) (by decide) | exact room4 (by with_reducible assumption) (by decide) | (simp only [depth_under_make, depth_under_kw, depth_in1, depth_deeper, depth_caller, recursionLimit] at *; omega))
  k_with "k_units" => (first | exact room2 (by with_reducible assumption) (by decide) | exact Nat.le_of_ble_eq_true rfl | exact room1 (by with_reducible assumption) (by decide) | exact room4 (by with_reducible assumption) (by decide) | (simp only [units_in1, units_deeper, Around.mark_units, units_caller, cLine] at *; omega))
  k_with "k_ne" => ((refine neN ?_; (try dsimp only); first | exact Nat.ne_of_lt (by (first | with_reducible assumption | exact And.left (by with_reducible assumption) | exact And.left (And.right (by with_reducible assumption)) | exact And.left (And.right (And.right (by with_reducible assumption))) | exact And.left (And.right (And.right (And.right (by with_reducible assumption)))) | exact And.left (And.right (And.right (And.right (And.right (by with_reducible assumption))))) | exact And.left (And.right (And.right (And.right (And.right (And.right (by with_reducible assumption)))))) | exact And.left (And.right (And.right (And.right (And.right (And.right (And.right (by with_reducible assumption))))))) | exact And.left (And.right (And.right (And.right (And.right (And.right (And.right (And.right (by with_reducible assumption)))))))) | exact And.left (And.right (And.right (And.right (And.right (And.right (And.right (And.right (And.right (by with_reducible assumption))))))))))) | exact Nat.ne_of_gt (by (first | with_reducible assumption | exact And.left (by with_reducible assumption) | exact And.left (And.right (by with_reducible assumption)) | exact And.left (And.right (And.right (by with_reducible assumption))) | exact And.left (And.right (And.right (And.right (by with_reducible assumption)))) | exact And.left (And.right (And.right (And.right (And.right (by with_reducible assumption))))) | exact And.left (And.right (And.right (And.right (And.right (And.right (by with_reducible assumption)))))) | exact And.left (And.right (And.right (And.right (And.right (And.right (And.right (by with_reducible assumption))))))) | exact And.left (And.right (And.right (And.right (And.right (And.right (And.right (And.right (by with_reducible assumption)))))))) | exact And.left (And.right (And.right (And.right (And.right (And.right (And.right (And.right (And.right (by with_reducible assumption))))))))))) | omega))
  k_with "subscriptTail" => ((k_here; (with_reducible show wpAny _ _ (subscriptTail _ _ (Value.ref _) (Value.int _ _)) _ _ _); k_dflt (refine' lw_getItem ?N_w156 ?m_w156 ?a_w156 ?b_w156 ?x_w156 ?_; (case N_w156 => k_asm); (case m_w156 => k_mem); (case x_w156 => first | exact rfl | assumption); (case a_w156 => omega); (case b_w156 => omega); k_whole)))
  k_with "binaryOp Mult ref int" => ((k_here; (with_reducible show wpAny _ _ (binaryOp Operator.Mult (Value.ref _) (Value.int _ _)) _ _ _); k_dflt (refine' KMa.mul (vs := [Value.none]) (ws := [Value.none, Value.none, Value.none]) ?F_w157 ?N_w157 ?l_w157 ?lo_w157 ?hi_w157 ?z_w157 ?e_w157 ?_; (case F_w157 => k_asm); (case N_w157 => k_asm); (case l_w157 => exact News.isList (by k_asm) (.head _)); (case lo_w157 => decide); (case hi_w157 => decide); (case z_w157 => decide); (case e_w157 => exact rfl); k_whole); intro D' h' F' N' l1; (try k_lt l1); (try k_sweep)))
  refine mcut (P := C_spec_call_of) ?_ ?_
  · unfold C_spec_call_of; intro w la a b e nm t0
    unfold Spec; k_fill
    intro p loose mean mg mb dp un gd cn cs a0 ccd cl outer A₀ base h₀ L m news s Q E B F X N T hk hla hd hu hret
    refine wpAny_call ?_
    k_dflt ktr_enter
    repeat' (first | (k_unfold; (try dsimp only)) | (k_unmd; k_unfold; (try dsimp only)) | (k_end; wrow_close) | walk1 | (dsimp only; walk1) | (leave1; walk_say "STEP leave1"; try dsimp only) | fail "no step")
    (rename News _ _ _ _ => lN)
    refine' hret _ _ _ _ (by assumption) (fin_6 (add := [_, _, _, _, _, _]) lN ?h1_spec_call_of ?h0_spec_call_of) (.mk _ _ _ _ _ _ _ _ _ (.mk _ _ _ _ _ _ _ _ _ _ _ (.head _) (.tail _ (.head _)) (.tail _ (.tail _ (.head _))) (.tail _ (.tail _ (.tail _ (.head _)))) (.tail _ (.tail _ (.tail _ (.tail _ (.head _))))) (.tail _ (.tail _ (.tail _ (.tail _ (.tail _ (.head _))))))) ?h2_spec_call_of)
    case h1_spec_call_of => ((repeat' (first | exact List.forall_mem_nil _ | (refine List.forall_mem_cons.mpr ⟨?_, ?_⟩))); all_goals k_mem)
    case h0_spec_call_of => exact (by intro p hp; (repeat' (first | exact hp | refine List.mem_cons_of_mem _ ?_)))
    case h2_spec_call_of => exact (off_add (by (repeat' (first | exact List.forall_mem_nil _ | (refine List.forall_mem_cons.mpr ⟨?_, ?_⟩))); all_goals (first | tbn_find | exact allLt_of (by assumption) | exact tbn_up (by assumption) (by first | tbn_find | exact allLt_of (by assumption)))))
    all_goals exact 0
  intro spec_call_of
  refine mcut (P := C_spec_safe) ?_ ?_
  · unfold C_spec_safe; intro w
    unfold Spec; k_fill
    intro p loose mean mg mb dp un gd cn cs a0 ccd cl outer A₀ base h₀ L m news s Q E B F X N T hk _ hd hu hret
    refine wpAny_call ?_
    k_dflt ktr_enter
    repeat' (first | (k_unfold; (try dsimp only)) | (k_unmd; k_unfold; (try dsimp only)) | (k_end; wrow_close) | walk1 | (dsimp only; walk1) | (leave1; walk_say "STEP leave1"; try dsimp only) | fail "no step")
    (rename News _ _ _ _ => lN)
    refine hret _ _ _ _ (by assumption) (fin_6 (add := [_]) lN (by intro p hp; rw [List.mem_singleton.mp hp]; exact .head _) (by intro p hp; (repeat' (first | exact hp | refine List.mem_cons_of_mem _ ?_)))) (.mk _ _ ⟨_, _, _, _, _, _, _, _, _, _, _, _, _, _, _, _, _, .head _⟩ (off_add (by (repeat' (first | exact List.forall_mem_nil _ | (refine List.forall_mem_cons.mpr ⟨?_, ?_⟩))); all_goals (first | tbn_find | exact allLt_of (by assumption) | exact tbn_up (by assumption) (by first | tbn_find | exact allLt_of (by assumption))))))
  intro spec_safe
  k_with_none
  k_with "execs cons" => ((k_here; (refine wpAny_execs_cons ?_); (try k_fold)))
  k_with "exec If" => ((k_here; (refine wpAny_If ?_); (try k_fold)))
  k_with "callWith ref nil nil" => ((k_here; (with_reducible show wpAny _ _ (callWith _ (Value.ref _) _ (backTo _ (starEach [] _)) []) _ _ _); k_dflt (refine callWith_K0 (Frag.In.keeps (by with_reducible assumption) (Fr.keep (by with_reducible assumption))) (by k_is) ?_)))
  k_with "k_mem" => (((repeat' (first | ktr_member | refine' List.mem_cons_of_mem _ ?_)); done))
  k_with "k_room" => (first | exact room2 (by with_reducible assumption) (by decide) | exact Nat.le_of_ble_eq_true rfl | exact room1 (by with_reducible assumption) (by decide) | exact room4 (by with_reducible assumption) (by decide) | (simp only [depth_under_make, depth_under_kw, depth_in1, depth_deeper, depth_caller, recursionLimit] at *; omega))
  k_with "k_units" => (first | exact room2 (by with_reducible assumption) (by decide) | exact Nat.le_of_ble_eq_true rfl | exact room1 (by with_reducible assumption) (by decide) | exact room4 (by with_reducible assumption) (by decide) | (simp only [units_in1, units_deeper, Around.mark_units, units_caller, cLine] at *; omega))
  k_with "k_ne" => ((refine neN ?_; (try dsimp only); first | exact Nat.ne_of_lt (by (first | with_reducible assumption | exact And.left (by with_reducible assumption) | exact And.left (And.right (by with_reducible assumption)) | exact And.left (And.right (And.right (by with_reducible assumption))) | exact And.left (And.right (And.right (And.right (by with_reducible assumption)))) | exact And.left (And.right (And.right (And.right (And.right (by with_reducible assumption))))) | exact And.left (And.right (And.right (And.right (And.right (And.right (by with_reducible assumption)))))) | exact And.left (And.right (And.right (And.right (And.right (And.right (And.right (by with_reducible assumption))))))) | exact And.left (And.right (And.right (And.right (And.right (And.right (And.right (And.right (by with_reducible assumption)))))))) | exact And.left (And.right (And.right (And.right (And.right (And.right (And.right (And.right (And.right (by with_reducible assumption))))))))))) | exact Nat.ne_of_gt (by (first | with_reducible assumption | exact And.left (by with_reducible assumption) | exact And.left (And.right (by with_reducible assumption)) | exact And.left (And.right (And.right (by with_reducible assumption))) | exact And.left (And.right (And.right (And.right (by with_reducible assumption)))) | exact And.left (And.right (And.right (And.right (And.right (by with_reducible assumption))))) | exact And.left (And.right (And.right (And.right (And.right (And.right (by with_reducible assumption)))))) | exact And.left (And.right (And.right (And.right (And.right (And.right (And.right (by with_reducible assumption))))))) | exact And.left (And.right (And.right (And.right (And.right (And.right (And.right (And.right (by with_reducible assumption)))))))) | exact And.left (And.right (And.right (And.right (And.right (And.right (And.right (And.right (And.right (by with_reducible assumption))))))))))) | omega))
  k_with "subscriptTail" => ((k_here; (with_reducible show wpAny _ _ (subscriptTail _ _ (Value.ref _) (Value.int _ _)) _ _ _); k_dflt (refine' lw_getItem ?N_w162 ?m_w162 ?a_w162 ?b_w162 ?x_w162 ?_; (case N_w162 => k_asm); (case m_w162 => k_mem); (case x_w162 => first | exact rfl | assumption); (case a_w162 => omega); (case b_w162 => omega); k_whole)))
  refine mcut (P := C_spec_vec) ?_ ?_
  · unfold C_spec_vec; intro w kd li t0
    unfold Spec; k_fill
    intro p loose mean mg mb dp un gd cn cs a0 ccd cl outer A₀ base h₀ L m news s Q E B F X N T hk _ hd hu hret
    k_dflt (refine' call_cls ?k1_spec_vec ?k2_spec_vec ?k3_spec_vec ?k4_spec_vec ?k5_spec_vec ?k6_spec_vec ?_; (case k1_spec_vec => k_asm); (case k2_spec_vec => k_asm); (case k3_spec_vec => k_asm); (case k4_spec_vec => k_is); (case k5_spec_vec => k_is); (case k6_spec_vec => k_is); k_whole; intro x' d' h' F' N' l1 l2; (try k_lt l1); (try k_lt2 l2); (try k_sweep); (refine' code_def ?k1_spec_vec ?k2_spec_vec ?k3_spec_vec ?k4_spec_vec ?k5_spec_vec ?kA_spec_vec ?kF_spec_vec ?kK_spec_vec ?k6_spec_vec ?k7_spec_vec ?k8_spec_vec ?k9_spec_vec ?kB_spec_vec ?_ ?c2_spec_vec ?c3_spec_vec ?c4_spec_vec ?c5_spec_vec; (case kA_spec_vec => exact rfl); (case kF_spec_vec => exact rfl); (case kK_spec_vec => assumption); (case k1_spec_vec => k_asm); (case k2_spec_vec => k_asm); (case k3_spec_vec => k_asm); (case k4_spec_vec => k_asm); (case k5_spec_vec => k_asm); (case k6_spec_vec => k_is); (case k7_spec_vec => k_is); (case k8_spec_vec => ktr_room); (case k9_spec_vec => first | exact BindsTo.of_eq rfl | exact binds_K (by k_in) rfl (by k_is) rfl rfl rfl); (case c5_spec_vec => decide); (case kB_spec_vec => exact locs rfl); (case c2_spec_vec => exact rfl); (case c3_spec_vec => exact rfl); (case c4_spec_vec => exact rfl); k_whole; intro g' L' h' FG' F' N' B' X' T'; (try dsimp only); (try k_fold)))
    repeat' (first | (k_unfold; (try dsimp only)) | (k_unmd; k_unfold; (try dsimp only)) | (k_end; wrow_close) | walk1 | (dsimp only; walk1) | (leave1; walk_say "STEP leave1"; try dsimp only) | fail "no step")
    all_goals (
      (rename News _ _ _ _ => lN)
      exact hret _ _ _ _ (by assumption) lN (.mk _ _ _ _ _ _ _ (by first | tbn_find | assumption | exact allLt_of (by assumption)) (by first | assumption | omega)))
  intro spec_vec
  refine mcut (P := C_spec_vecA) ?_ ?_
  · unfold C_spec_vecA; intro w kd li da t0
    unfold Spec; k_fill
    intro p loose mean mg mb dp un gd cn cs a0 ccd cl outer A₀ base h₀ L m news s Q E B F X N T hk _ hd hu hret
    k_dflt (refine' call_cls ?k1_spec_vecA ?k2_spec_vecA ?k3_spec_vecA ?k4_spec_vecA ?k5_spec_vecA ?k6_spec_vecA ?_; (case k1_spec_vecA => k_asm); (case k2_spec_vecA => k_asm); (case k3_spec_vecA => k_asm); (case k4_spec_vecA => k_is); (case k5_spec_vecA => k_is); (case k6_spec_vecA => k_is); k_whole; intro x' d' h' F' N' l1 l2; (try k_lt l1); (try k_lt2 l2); (try k_sweep); (refine' code_def ?k1_spec_vecA ?k2_spec_vecA ?k3_spec_vecA ?k4_spec_vecA ?k5_spec_vecA ?kA_spec_vecA ?kF_spec_vecA ?kK_spec_vecA ?k6_spec_vecA ?k7_spec_vecA ?k8_spec_vecA ?k9_spec_vecA ?kB_spec_vecA ?_ ?c2_spec_vecA ?c3_spec_vecA ?c4_spec_vecA ?c5_spec_vecA; (case kA_spec_vecA => exact rfl); (case kF_spec_vecA => exact rfl); (case kK_spec_vecA => assumption); (case k1_spec_vecA => k_asm); (case k2_spec_vecA => k_asm); (case k3_spec_vecA => k_asm); (case k4_spec_vecA => k_asm); (case k5_spec_vecA => k_asm); (case k6_spec_vecA => k_is); (case k7_spec_vecA => k_is); (case k8_spec_vecA => ktr_room); (case k9_spec_vecA => first | exact BindsTo.of_eq rfl | exact binds_K (by k_in) rfl (by k_is) rfl rfl rfl); (case c5_spec_vecA => decide); (case kB_spec_vecA => exact locs rfl); (case c2_spec_vecA => exact rfl); (case c3_spec_vecA => exact rfl); (case c4_spec_vecA => exact rfl); k_whole; intro g' L' h' FG' F' N' B' X' T'; (try dsimp only); (try k_fold)))
    repeat' (first | (k_unfold; (try dsimp only)) | (k_unmd; k_unfold; (try dsimp only)) | (k_end; wrow_close) | walk1 | (dsimp only; walk1) | (leave1; walk_say "STEP leave1"; try dsimp only) | fail "no step")
    all_goals (
      (rename News _ _ _ _ => lN)
      exact hret _ _ _ _ (by assumption) lN (.mk _ _ _ _ _ _ _ (by first | tbn_find | assumption | exact allLt_of (by assumption)) (by first | assumption | omega)))
  intro spec_vecA
  refine mcut (P := C_spec_sym) ?_ ?_
  · unfold C_spec_sym; intro w nm t0
    unfold Spec; k_fill
    intro p loose mean mg mb dp un gd cn cs a0 ccd cl outer A₀ base h₀ L m news s Q E B F X N T hk _ hd hu hret
    k_dflt (refine' call_cls ?k1_spec_sym ?k2_spec_sym ?k3_spec_sym ?k4_spec_sym ?k5_spec_sym ?k6_spec_sym ?_; (case k1_spec_sym => k_asm); (case k2_spec_sym => k_asm); (case k3_spec_sym => k_asm); (case k4_spec_sym => k_is); (case k5_spec_sym => k_is); (case k6_spec_sym => k_is); k_whole; intro x' d' h' F' N' l1 l2; (try k_lt l1); (try k_lt2 l2); (try k_sweep); (refine' code_def ?k1_spec_sym ?k2_spec_sym ?k3_spec_sym ?k4_spec_sym ?k5_spec_sym ?kA_spec_sym ?kF_spec_sym ?kK_spec_sym ?k6_spec_sym ?k7_spec_sym ?k8_spec_sym ?k9_spec_sym ?kB_spec_sym ?_ ?c2_spec_sym ?c3_spec_sym ?c4_spec_sym ?c5_spec_sym; (case kA_spec_sym => exact rfl); (case kF_spec_sym => exact rfl); (case kK_spec_sym => assumption); (case k1_spec_sym => k_asm); (case k2_spec_sym => k_asm); (case k3_spec_sym => k_asm); (case k4_spec_sym => k_asm); (case k5_spec_sym => k_asm); (case k6_spec_sym => k_is); (case k7_spec_sym => k_is); (case k8_spec_sym => ktr_room); (case k9_spec_sym => first | exact BindsTo.of_eq rfl | exact binds_K (by k_in) rfl (by k_is) rfl rfl rfl); (case c5_spec_sym => decide); (case kB_spec_sym => exact locs rfl); (case c2_spec_sym => exact rfl); (case c3_spec_sym => exact rfl); (case c4_spec_sym => exact rfl); k_whole; intro g' L' h' FG' F' N' B' X' T'; (try dsimp only); (try k_fold)))
    repeat' (first | (k_unfold; (try dsimp only)) | (k_unmd; k_unfold; (try dsimp only)) | (k_end; wrow_close) | walk1 | (dsimp only; walk1) | (leave1; walk_say "STEP leave1"; try dsimp only) | fail "no step")
    all_goals (
      (rename News _ _ _ _ => lN)
      exact hret _ _ _ _ (by assumption) lN (.mk _ _ _ _ _ _ (by first | tbn_find | assumption | exact allLt_of (by assumption)) (by first | assumption | omega)))
  intro spec_sym
  refine mcut (P := C_spec_call) ?_ ?_
  · unfold C_spec_call; intro w li tg
    unfold Spec; k_fill
    intro p loose mean mg mb dp un gd cn cs a0 ccd cl outer A₀ base h₀ L m news s Q E B F X N T hk _ hd hu hret
    k_dflt (refine' call_cls ?k1_spec_call ?k2_spec_call ?k3_spec_call ?k4_spec_call ?k5_spec_call ?k6_spec_call ?_; (case k1_spec_call => k_asm); (case k2_spec_call => k_asm); (case k3_spec_call => k_asm); (case k4_spec_call => k_is); (case k5_spec_call => k_is); (case k6_spec_call => k_is); k_whole; intro x' d' h' F' N' l1 l2; (try k_lt l1); (try k_lt2 l2); (try k_sweep); (refine' code_def ?k1_spec_call ?k2_spec_call ?k3_spec_call ?k4_spec_call ?k5_spec_call ?kA_spec_call ?kF_spec_call ?kK_spec_call ?k6_spec_call ?k7_spec_call ?k8_spec_call ?k9_spec_call ?kB_spec_call ?_ ?c2_spec_call ?c3_spec_call ?c4_spec_call ?c5_spec_call; (case kA_spec_call => exact rfl); (case kF_spec_call => exact rfl); (case kK_spec_call => assumption); (case k1_spec_call => k_asm); (case k2_spec_call => k_asm); (case k3_spec_call => k_asm); (case k4_spec_call => k_asm); (case k5_spec_call => k_asm); (case k6_spec_call => k_is); (case k7_spec_call => k_is); (case k8_spec_call => ktr_room); (case k9_spec_call => first | exact BindsTo.of_eq rfl | exact binds_K (by k_in) rfl (by k_is) rfl rfl rfl); (case c5_spec_call => decide); (case kB_spec_call => exact locs rfl); (case c2_spec_call => exact rfl); (case c3_spec_call => exact rfl); (case c4_spec_call => exact rfl); k_whole; intro g' L' h' FG' F' N' B' X' T'; (try dsimp only); (try k_fold)))
    repeat' (first | (k_unfold; (try dsimp only)) | (k_unmd; k_unfold; (try dsimp only)) | (k_end; wrow_close) | walk1 | (dsimp only; walk1) | (leave1; walk_say "STEP leave1"; try dsimp only) | fail "no step")
    all_goals (
      (rename News _ _ _ _ => lN)
      exact hret _ _ _ _ (by assumption) lN (.mk _ _ _ _ _ _ _ _ (by first | tbn_find | assumption | exact allLt_of (by assumption)) (by first | assumption | omega)))
  intro spec_call
  refine mcut (P := C_spec_clo) ?_ ?_
  · unfold C_spec_clo; intro w lf b
    unfold Spec; k_fill
    intro p loose mean mg mb dp un gd cn cs a0 ccd cl outer A₀ base h₀ L m news s Q E B F X N T hk _ hd hu hret
    k_dflt (refine' call_cls ?k1_spec_clo ?k2_spec_clo ?k3_spec_clo ?k4_spec_clo ?k5_spec_clo ?k6_spec_clo ?_; (case k1_spec_clo => k_asm); (case k2_spec_clo => k_asm); (case k3_spec_clo => k_asm); (case k4_spec_clo => k_is); (case k5_spec_clo => k_is); (case k6_spec_clo => k_is); k_whole; intro x' d' h' F' N' l1 l2; (try k_lt l1); (try k_lt2 l2); (try k_sweep); (refine' code_def ?k1_spec_clo ?k2_spec_clo ?k3_spec_clo ?k4_spec_clo ?k5_spec_clo ?kA_spec_clo ?kF_spec_clo ?kK_spec_clo ?k6_spec_clo ?k7_spec_clo ?k8_spec_clo ?k9_spec_clo ?kB_spec_clo ?_ ?c2_spec_clo ?c3_spec_clo ?c4_spec_clo ?c5_spec_clo; (case kA_spec_clo => exact rfl); (case kF_spec_clo => exact rfl); (case kK_spec_clo => assumption); (case k1_spec_clo => k_asm); (case k2_spec_clo => k_asm); (case k3_spec_clo => k_asm); (case k4_spec_clo => k_asm); (case k5_spec_clo => k_asm); (case k6_spec_clo => k_is); (case k7_spec_clo => k_is); (case k8_spec_clo => ktr_room); (case k9_spec_clo => first | exact BindsTo.of_eq rfl | exact binds_K (by k_in) rfl (by k_is) rfl rfl rfl); (case c5_spec_clo => decide); (case kB_spec_clo => exact locs rfl); (case c2_spec_clo => exact rfl); (case c3_spec_clo => exact rfl); (case c4_spec_clo => exact rfl); k_whole; intro g' L' h' FG' F' N' B' X' T'; (try dsimp only); (try k_fold)))
    repeat' (first | (k_unfold; (try dsimp only)) | (k_unmd; k_unfold; (try dsimp only)) | (k_end; wrow_close) | walk1 | (dsimp only; walk1) | (leave1; walk_say "STEP leave1"; try dsimp only) | fail "no step")
    all_goals (
      (rename News _ _ _ _ => lN)
      exact hret _ _ _ _ (by assumption) lN (.mk _ _ _ _ _ _ _ _ (by first | tbn_find | assumption | exact allLt_of (by assumption)) (by first | assumption | omega)))
  intro spec_clo
  refine mcut (P := C_spec_mis) ?_ ?_
  · unfold C_spec_mis; intro w
    unfold Spec; k_fill
    intro p loose mean mg mb dp un gd cn cs a0 ccd cl outer A₀ base h₀ L m news s Q E B F X N T hk _ hd hu hret
    k_dflt (refine' call_cls ?k1_spec_mis ?k2_spec_mis ?k3_spec_mis ?k4_spec_mis ?k5_spec_mis ?k6_spec_mis ?_; (case k1_spec_mis => k_asm); (case k2_spec_mis => k_asm); (case k3_spec_mis => k_asm); (case k4_spec_mis => k_is); (case k5_spec_mis => k_is); (case k6_spec_mis => k_is); k_whole; intro x' d' h' F' N' l1 l2; (try k_lt l1); (try k_lt2 l2); (try k_sweep); (refine' code_def ?k1_spec_mis ?k2_spec_mis ?k3_spec_mis ?k4_spec_mis ?k5_spec_mis ?kA_spec_mis ?kF_spec_mis ?kK_spec_mis ?k6_spec_mis ?k7_spec_mis ?k8_spec_mis ?k9_spec_mis ?kB_spec_mis ?_ ?c2_spec_mis ?c3_spec_mis ?c4_spec_mis ?c5_spec_mis; (case kA_spec_mis => exact rfl); (case kF_spec_mis => exact rfl); (case kK_spec_mis => assumption); (case k1_spec_mis => k_asm); (case k2_spec_mis => k_asm); (case k3_spec_mis => k_asm); (case k4_spec_mis => k_asm); (case k5_spec_mis => k_asm); (case k6_spec_mis => k_is); (case k7_spec_mis => k_is); (case k8_spec_mis => ktr_room); (case k9_spec_mis => first | exact BindsTo.of_eq rfl | exact binds_K (by k_in) rfl (by k_is) rfl rfl rfl); (case c5_spec_mis => decide); (case kB_spec_mis => exact locs rfl); (case c2_spec_mis => exact rfl); (case c3_spec_mis => exact rfl); (case c4_spec_mis => exact rfl); k_whole; intro g' L' h' FG' F' N' B' X' T'; (try dsimp only); (try k_fold)))
    repeat' (first | (k_unfold; (try dsimp only)) | (k_unmd; k_unfold; (try dsimp only)) | (k_end; wrow_close) | walk1 | (dsimp only; walk1) | (leave1; walk_say "STEP leave1"; try dsimp only) | fail "no step")
    all_goals (
      (rename News _ _ _ _ => lN)
      exact hret _ _ _ _ (by assumption) lN (.mk _ _ _ _ _ (by first | tbn_find | assumption | exact allLt_of (by assumption)) (by first | assumption | omega)))
  intro spec_mis
  k_with_none
  k_with "execs cons" => ((k_here; (refine wpAny_execs_cons ?_); (try k_fold)))
  k_with "exec If" => ((k_here; (refine wpAny_If ?_); (try k_fold)))
  k_with "callWith ref nil nil" => ((k_here; (with_reducible show wpAny _ _ (callWith _ (Value.ref _) _ (backTo _ (starEach [] _)) []) _ _ _); k_dflt (refine callWith_K0 (Frag.In.keeps (by with_reducible assumption) (Fr.keep (by with_reducible assumption))) (by k_is) ?_)))
  k_with "k_mem" => (((repeat' (first | ktr_member | refine' List.mem_cons_of_mem _ ?_)); done))
  k_with "k_room" => (first | exact room2 (by with_reducible assumption) (by decide) | exact Nat.le_of_ble_eq_true rfl | exact room1 (by with_reducible assumption) (by decide) | exact room4 (by with_reducible assumption) (by decide) | (simp only [depth_under_make, depth_under_kw, depth_in1, depth_deeper, depth_caller, recursionLimit] at *; omega))
  k_with "k_units" => (first | exact room2 (by with_reducible assumption) (by decide) | exact Nat.le_of_ble_eq_true rfl | exact room1 (by with_reducible assumption) (by decide) | exact room4 (by with_reducible assumption) (by decide) | (simp only [units_in1, units_deeper, Around.mark_units, units_caller, cLine] at *; omega))
  k_with "k_ne" => ((refine neN ?_; (try dsimp only); first | exact Nat.ne_of_lt (by (first | with_reducible assumption | exact And.left (by with_reducible assumption) | exact And.left (And.right (by with_reducible assumption)) | exact And.left (And.right (And.right (by with_reducible assumption))) | exact And.left (And.right (And.right (And.right (by with_reducible assumption)))) | exact And.left (And.right (And.right (And.right (And.right (by with_reducible assumption))))) | exact And.left (And.right (And.right (And.right (And.right (And.right (by with_reducible assumption)))))) | exact And.left (And.right (And.right (And.right (And.right (And.right (And.right (by with_reducible assumption))))))) | exact And.left (And.right (And.right (And.right (And.right (And.right (And.right (And.right (by with_reducible assumption)))))))) | exact And.left (And.right (And.right (And.right (And.right (And.right (And.right (And.right (And.right (by with_reducible assumption))))))))))) | exact Nat.ne_of_gt (by (first | with_reducible assumption | exact And.left (by with_reducible assumption) | exact And.left (And.right (by with_reducible assumption)) | exact And.left (And.right (And.right (by with_reducible assumption))) | exact And.left (And.right (And.right (And.right (by with_reducible assumption)))) | exact And.left (And.right (And.right (And.right (And.right (by with_reducible assumption))))) | exact And.left (And.right (And.right (And.right (And.right (And.right (by with_reducible assumption)))))) | exact And.left (And.right (And.right (And.right (And.right (And.right (And.right (by with_reducible assumption))))))) | exact And.left (And.right (And.right (And.right (And.right (And.right (And.right (And.right (by with_reducible assumption)))))))) | exact And.left (And.right (And.right (And.right (And.right (And.right (And.right (And.right (And.right (by with_reducible assumption))))))))))) | omega))
  k_with "subscriptTail" => ((k_here; (with_reducible show wpAny _ _ (subscriptTail _ _ (Value.ref _) (Value.int _ _)) _ _ _); k_dflt (refine' lw_getItem ?N_w167 ?m_w167 ?a_w167 ?b_w167 ?x_w167 ?_; (case N_w167 => k_asm); (case m_w167 => k_mem); (case x_w167 => first | exact rfl | assumption); (case a_w167 => omega); (case b_w167 => omega); k_whole)))
  k_with "call ref" => ((k_here; (with_reducible show wpAny _ _ (call (Value.ref 297) _) _ _ _); k_dflt (refine' (spec_vec _ _ _ _).use (by k_asm) (by k_asm) (by k_asm) (by k_asm) (by k_asm) (by first | exact rfl | assumption) (by exact trivial) ?hd_w168 ?hu_w168 ?_; (case hd_w168 => k_room); (case hu_w168 => k_units)); k_whole; intro r9 n9 h9 t9 F9 N9 p9; (obtain ⟨x9, dx9, t19, t29, t39, t49, t59, l9, m9⟩ := p9; (try simp only [AllLt, and_true] at l9)); (try dsimp only); (try k_unmd); (try k_sweep)))
  k_with "call ref" => ((k_here; (with_reducible show wpAny _ _ (call (Value.ref 297) _) _ _ _); k_dflt (refine' (spec_vecA _ _ _ _ _).use (by k_asm) (by k_asm) (by k_asm) (by k_asm) (by k_asm) (by first | exact rfl | assumption) (by exact trivial) ?hd_w169 ?hu_w169 ?_; (case hd_w169 => k_room); (case hu_w169 => k_units)); k_whole; intro r9 n9 h9 t9 F9 N9 p9; (obtain ⟨x9, dx9, t19, t29, t39, t49, t59, l9, m9⟩ := p9; (try simp only [AllLt, and_true] at l9)); (try dsimp only); (try k_unmd); (try k_sweep)))
  k_with "call ref" => ((k_here; (with_reducible show wpAny _ _ (call (Value.ref 318) _) _ _ _); k_dflt (refine' (spec_sym _ _ _).use (by k_asm) (by k_asm) (by k_asm) (by k_asm) (by k_asm) (by first | exact rfl | assumption) (by exact trivial) ?hd_w170 ?hu_w170 ?_; (case hd_w170 => k_room); (case hu_w170 => k_units)); k_whole; intro r9 n9 h9 t9 F9 N9 p9; (obtain ⟨x9, dx9, t19, t29, t39, t49, l9, m9⟩ := p9; (try simp only [AllLt, and_true] at l9)); (try dsimp only); (try k_unmd); (try k_sweep)))
  k_with "call ref" => ((k_here; (with_reducible show wpAny _ _ (call (Value.ref 340) _) _ _ _); k_dflt (refine' (spec_call _ _ _).use (by k_asm) (by k_asm) (by k_asm) (by k_asm) (by k_asm) (by first | exact rfl | assumption) (by exact trivial) ?hd_w171 ?hu_w171 ?_; (case hd_w171 => k_room); (case hu_w171 => k_units)); k_whole; intro r9 n9 h9 t9 F9 N9 p9; (obtain ⟨x9, dx9, t19, t29, t39, t49, t59, t69, l9, m9⟩ := p9; (try simp only [AllLt, and_true] at l9)); (try dsimp only); (try k_unmd); (try k_sweep)))
  k_with "call ref" => ((k_here; (with_reducible show wpAny _ _ (call (Value.ref 362) _) _ _ _); k_dflt (refine' (spec_clo _ _ _).use (by k_asm) (by k_asm) (by k_asm) (by k_asm) (by k_asm) (by first | exact rfl | assumption) (by exact trivial) ?hd_w172 ?hu_w172 ?_; (case hd_w172 => k_room); (case hu_w172 => k_units)); k_whole; intro r9 n9 h9 t9 F9 N9 p9; (obtain ⟨x9, dx9, t19, t29, t39, t49, t59, t69, l9, m9⟩ := p9; (try simp only [AllLt, and_true] at l9)); (try dsimp only); (try k_unmd); (try k_sweep)))
  k_with "call ref" => ((k_here; (with_reducible show wpAny _ _ (call (Value.ref 268) _) _ _ _); k_dflt (refine' (spec_mis _).use (by k_asm) (by k_asm) (by k_asm) (by k_asm) (by k_asm) (by first | exact rfl | assumption) (by exact trivial) ?hd_w173 ?hu_w173 ?_; (case hd_w173 => k_room); (case hu_w173 => k_units)); k_whole; intro r9 n9 h9 t9 F9 N9 p9; (obtain ⟨x9, dx9, t19, t29, t39, l9, m9⟩ := p9; (try simp only [AllLt, and_true] at l9)); (try dsimp only); (try k_unmd); (try k_sweep)))
  refine mcut (P := C_spec_number) ?_ ?_
  · unfold C_spec_number; intro w t0
    unfold Spec; k_fill
    intro p loose mean mg mb dp un gd cn cs a0 ccd cl outer A₀ base h₀ L m news s Q E B F X N T hk _ hd hu hret
    refine wpAny_call ?_
    k_dflt (refine' code_def ?k1_spec_number ?k2_spec_number ?k3_spec_number ?k4_spec_number ?k5_spec_number ?kA_spec_number ?kF_spec_number ?kK_spec_number ?k6_spec_number ?k7_spec_number ?k8_spec_number ?k9_spec_number ?kB_spec_number ?_ ?c2_spec_number ?c3_spec_number ?c4_spec_number ?c5_spec_number; (case kA_spec_number => exact rfl); (case kF_spec_number => exact rfl); (case kK_spec_number => assumption); (case k1_spec_number => k_asm); (case k2_spec_number => k_asm); (case k3_spec_number => k_asm); (case k4_spec_number => k_asm); (case k5_spec_number => k_asm); (case k6_spec_number => k_is); (case k7_spec_number => k_is); (case k8_spec_number => ktr_room); (case k9_spec_number => first | exact BindsTo.of_eq rfl | exact binds_K (by k_in) rfl (by k_is) rfl rfl rfl); (case c5_spec_number => decide); (case kB_spec_number => exact locs rfl); (case c2_spec_number => exact rfl); (case c3_spec_number => exact rfl); (case c4_spec_number => exact rfl); k_whole; intro g' L' h' FG' F' N' B' X' T'; (try dsimp only); (try k_fold))
    repeat' (first | (k_unfold; (try dsimp only)) | (k_unmd; k_unfold; (try dsimp only)) | (k_end; wrow_close) | walk1 | (dsimp only; walk1) | (leave1; walk_say "STEP leave1"; try dsimp only) | fail "no step")
    (rename News _ _ _ _ => lN)
    refine hret _ _ _ _ (by assumption) (fin_num lN (by intro p hp; (repeat' (first | exact hp | refine List.mem_cons_of_mem _ ?_)))) (.mk _ _ _ _ _ _ _ _ _ _ _ _ ?_ ?_ ?_ ?_)
    all_goals first | tbn_find | assumption | omega
  intro spec_number
  refine mcut (P := C_spec_number3) ?_ ?_
  · unfold C_spec_number3; intro w t0
    unfold Spec; k_fill
    intro p loose mean mg mb dp un gd cn cs a0 ccd cl outer A₀ base h₀ L m news s Q E B F X N T hk _ hd hu hret
    refine wpAny_call ?_
    k_dflt (refine' code_def ?k1_spec_number3 ?k2_spec_number3 ?k3_spec_number3 ?k4_spec_number3 ?k5_spec_number3 ?kA_spec_number3 ?kF_spec_number3 ?kK_spec_number3 ?k6_spec_number3 ?k7_spec_number3 ?k8_spec_number3 ?k9_spec_number3 ?kB_spec_number3 ?_ ?c2_spec_number3 ?c3_spec_number3 ?c4_spec_number3 ?c5_spec_number3; (case kA_spec_number3 => exact rfl); (case kF_spec_number3 => exact rfl); (case kK_spec_number3 => assumption); (case k1_spec_number3 => k_asm); (case k2_spec_number3 => k_asm); (case k3_spec_number3 => k_asm); (case k4_spec_number3 => k_asm); (case k5_spec_number3 => k_asm); (case k6_spec_number3 => k_is); (case k7_spec_number3 => k_is); (case k8_spec_number3 => ktr_room); (case k9_spec_number3 => first | exact BindsTo.of_eq rfl | exact binds_K (by k_in) rfl (by k_is) rfl rfl rfl); (case c5_spec_number3 => decide); (case kB_spec_number3 => exact locs rfl); (case c2_spec_number3 => exact rfl); (case c3_spec_number3 => exact rfl); (case c4_spec_number3 => exact rfl); k_whole; intro g' L' h' FG' F' N' B' X' T'; (try dsimp only); (try k_fold))
    repeat' (first | (k_unfold; (try dsimp only)) | (k_unmd; k_unfold; (try dsimp only)) | (k_end; wrow_close) | walk1 | (dsimp only; walk1) | (leave1; walk_say "STEP leave1"; try dsimp only) | fail "no step")
    (rename News _ _ _ _ => lN)
    refine hret _ _ _ _ (by assumption) (fin_num lN (by intro p hp; (repeat' (first | exact hp | refine List.mem_cons_of_mem _ ?_)))) (.mk _ _ _ _ _ _ _ _ _ _ _ _ ?_ ?_ ?_ ?_)
    all_goals first | tbn_find | assumption | omega
  intro spec_number3
  exact ⟨fold_num, fold_bin_add, fold_all_add, fold_bin_sub, fold_all_sub, spec_fold, spec_call_of, spec_safe, spec_vec, spec_vecA, spec_sym, spec_call, spec_clo, spec_mis, spec_number, spec_number3⟩
theorem fold_num : ∀ (w : World) (base : List (Addr × Obj)) (x dx li tp : Addr) (sb : Bool) (e : Nat) (v : Int) (hE : NumAt w base x dx li tp sb e v), FoldSpec w base x v 0 0 := grpC.1
theorem fold_bin_add : ∀ (w : World) (base : List (Addr × Obj)) (x dx li tg f df a b : Addr) (e1 e2 ka kb da db : Nat) (va vb : Int) (hE : CallAt w base x dx li tg f df a b e1 e2 (Str.ofString "+")) (iha : FoldSpec w base a va ka da) (ihb : FoldSpec w base b vb kb db) (va0 : -100000 ≤ va) (va1 : va ≤ 100000) (vb0 : -100000 ≤ vb) (vb1 : vb ≤ 100000), FoldSpec w base x (va + vb) (ka + kb + 1) (max da db + 1) := grpC.2.1
theorem fold_all_add : ∀ (w : World) (base : List (Addr × Obj)) (x : Addr) (v : Int) (c dep : Nat) (h : ExprIn w base (Str.ofString "+") (fun x1 x2 => x1 + x2) x v c dep), FoldSpec w base x v c dep := grpC.2.2.1
theorem fold_bin_sub : ∀ (w : World) (base : List (Addr × Obj)) (x dx li tg f df a b : Addr) (e1 e2 ka kb da db : Nat) (va vb : Int) (hE : CallAt w base x dx li tg f df a b e1 e2 (Str.ofString "-")) (iha : FoldSpec w base a va ka da) (ihb : FoldSpec w base b vb kb db) (va0 : -100000 ≤ va) (va1 : va ≤ 100000) (vb0 : -100000 ≤ vb) (vb1 : vb ≤ 100000), FoldSpec w base x (va - vb) (ka + kb + 1) (max da db + 1) := grpC.2.2.2.1
theorem fold_all_sub : ∀ (w : World) (base : List (Addr × Obj)) (x : Addr) (v : Int) (c dep : Nat) (h : ExprIn w base (Str.ofString "-") (fun x1 x2 => x1 - x2) x v c dep), FoldSpec w base x v c dep := grpC.2.2.2.2.1
theorem spec_fold : ∀ (w : World) (op : Str) (f : Int → Int → Int) (H : ∀ (base : List (Addr × Obj)) (x : Addr) (v : Int) (c dep : Nat), ExprIn w base op f x v c dep → FoldSpec w base x v c dep) (x sf : Addr) (v : Int) (c dep : Nat), Spec w 818 [.ref x, .ref sf] (70 + dep) (600 + 10 * dep) (fun news => ExprIn w news op f x v c dep ∧ SafeAt news sf) (PFold w v c dep) := grpC.2.2.2.2.2.1
theorem spec_call_of : ∀ (w : World) (la a b : Addr) (e : Nat) (nm : Str) (t0 : Tok), Spec w 395 [.str nm t0, .ref la] 20 200 (fun news => (la, W.listOf #[.ref a, .ref b] e) ∈ news) (PCO w a b nm) := grpC.2.2.2.2.2.2.1
theorem spec_safe : ∀ (w : World), Spec w 769 [] 20 200 (fun news => True) PSafe := grpC.2.2.2.2.2.2.2.1
theorem spec_vec : ∀ (w : World) (kd : Str) (li : Addr) (t0 : Tok), Spec w 297 [.str kd t0, .ref li] 12 120 (fun news => True) (PVec w kd li t0 .none) := grpC.2.2.2.2.2.2.2.2.1
theorem spec_vecA : ∀ (w : World) (kd : Str) (li da : Addr) (t0 : Tok), Spec w 297 [.str kd t0, .ref li, .ref da] 12 120 (fun news => True) (PVec w kd li t0 (.ref da)) := grpC.2.2.2.2.2.2.2.2.2.1
theorem spec_sym : ∀ (w : World) (nm : Str) (t0 : Tok), Spec w 318 [.str nm t0] 12 120 (fun news => True) (PSym w nm t0) := grpC.2.2.2.2.2.2.2.2.2.2.1
theorem spec_call : ∀ (w : World) (li tg : Addr), Spec w 340 [.ref li, .ref tg] 12 120 (fun news => True) (PCall w li tg) := grpC.2.2.2.2.2.2.2.2.2.2.2.1
theorem spec_clo : ∀ (w : World) (lf b : Addr), Spec w 362 [.ref lf, .ref b, .none] 12 120 (fun news => True) (PClo w lf b) := grpC.2.2.2.2.2.2.2.2.2.2.2.2.1
theorem spec_mis : ∀ (w : World), Spec w 268 [] 12 120 (fun news => True) (PMis w) := grpC.2.2.2.2.2.2.2.2.2.2.2.2.2.1
theorem spec_number : ∀ (w : World) (t0 : Tok), Spec w 388 [.int 1 t0] 20 200 (fun news => True) (PNum w 1) := grpC.2.2.2.2.2.2.2.2.2.2.2.2.2.2.1
theorem spec_number3 : ∀ (w : World) (t0 : Tok), Spec w 388 [.int 3 t0] 20 200 (fun news => True) (PNum w 3) := grpC.2.2.2.2.2.2.2.2.2.2.2.2.2.2.2
theorem law_all.tw10024686837709580625 : True := trivial
theorem law_all.tw10075033275381536440 : True := trivial
theorem law_all.tw10090999975856555344 : True := trivial
theorem law_all.tw10112902700007934811 : True := trivial
theorem law_all.tw10145363553656391591 : True := trivial
theorem law_all.tw10221997122443297352 : True := trivial
theorem law_all.tw10240734782212473332 : True := trivial
theorem law_all.tw10253732280001569212 : True := trivial
theorem law_all.tw10294897870698960256 : True := trivial
theorem law_all.tw10297145265793509435 : True := trivial
theorem law_all.tw10300875812035996732 : True := trivial
theorem law_all.tw10332199025257759670 : True := trivial
theorem law_all.tw10340441938079615943 : True := trivial
theorem law_all.tw10344729229328920165 : True := trivial
theorem law_all.tw10382579582808609351 : True := trivial
theorem law_all.tw10423822332596533971 : True := trivial
theorem law_all.tw10425333190776739551 : True := trivial
theorem law_all.tw10427663710399940043 : True := trivial
theorem law_all.tw10427768884268684552 : True := trivial
theorem law_all.tw10437830444076844960 : True := trivial
theorem law_all.tw10452931643263569262 : True := trivial
theorem law_all.tw10464263001826078911 : True := trivial
theorem law_all.tw10470740866990187283 : True := trivial
theorem law_all.tw10486281728991561039 : True := trivial
theorem law_all.tw10487270797120572952 : True := trivial
theorem law_all.tw10495323473316150548 : True := trivial
theorem law_all.tw10517906790627618544 : True := trivial
theorem law_all.tw10519519679866249972 : True := trivial
theorem law_all.tw10529780158634616513 : True := trivial
theorem law_all.tw10548317783181927485 : True := trivial
theorem law_all.tw10562567905742353873 : True := trivial
theorem law_all.tw10565121375587587042 : True := trivial
theorem law_all.tw10575808222751662728 : True := trivial
theorem law_all.tw10610644917846335340 : True := trivial
theorem law_all.tw10613774242637059868 : True := trivial
theorem law_all.tw10623982647197800651 : True := trivial
theorem law_all.tw10632998686855480601 : True := trivial
theorem law_all.tw1068153473233568800 : True := trivial
theorem law_all.tw1071026390990159442 : True := trivial
theorem law_all.tw10754601566845926611 : True := trivial
theorem law_all.tw10780945830723714241 : True := trivial
theorem law_all.tw10806039510188334631 : True := trivial
theorem law_all.tw10834972849280226571 : True := trivial
theorem law_all.tw10842723371336156597 : True := trivial
theorem law_all.tw10938250296463516022 : True := trivial
theorem law_all.tw10972643930856128791 : True := trivial
theorem law_all.tw11008839944985332601 : True := trivial
theorem law_all.tw11020806828292283134 : True := trivial
theorem law_all.tw11061263923128422616 : True := trivial
theorem law_all.tw11072852086419898238 : True := trivial
theorem law_all.tw11085147635474315433 : True := trivial
theorem law_all.tw11090485264053204359 : True := trivial
theorem law_all.tw11125228077776306136 : True := trivial
theorem law_all.tw11126621595802289062 : True := trivial
theorem law_all.tw11169120883424520007 : True := trivial
theorem law_all.tw11185291794543270386 : True := trivial
theorem law_all.tw11195006048519719982 : True := trivial
theorem law_all.tw11208032702916000851 : True := trivial
theorem law_all.tw11237757471492391802 : True := trivial
theorem law_all.tw11239549508614699967 : True := trivial
theorem law_all.tw11266150474529332087 : True := trivial
theorem law_all.tw1126804568260048138 : True := trivial
theorem law_all.tw11283148420750326516 : True := trivial
theorem law_all.tw11366365906516837970 : True := trivial
theorem law_all.tw11370059905445811129 : True := trivial
theorem law_all.tw11404586228399824523 : True := trivial
theorem law_all.tw11407212017213923087 : True := trivial
theorem law_all.tw11464865452401227656 : True := trivial
theorem law_all.tw11509529326707108785 : True := trivial
theorem law_all.tw11549886222698464505 : True := trivial
theorem law_all.tw11566998951525393313 : True := trivial
theorem law_all.tw11575233253633470811 : True := trivial
theorem law_all.tw11587524997120335971 : True := trivial
theorem law_all.tw11596821628577882342 : True := trivial
theorem law_all.tw11604076886869528917 : True := trivial
theorem law_all.tw11615710364362942683 : True := trivial
theorem law_all.tw11655911931479345256 : True := trivial
theorem law_all.tw11666791612657790110 : True := trivial
theorem law_all.tw11681217401251675389 : True := trivial
theorem law_all.tw11739812003963863410 : True := trivial
theorem law_all.tw11755048821886595345 : True := trivial
theorem law_all.tw11777551436872283101 : True := trivial
theorem law_all.tw11779399842900871346 : True := trivial
theorem law_all.tw1178986762315405437 : True := trivial
theorem law_all.tw11806459468589365706 : True := trivial
theorem law_all.tw11819635365892184359 : True := trivial
theorem law_all.tw11833566044642688545 : True := trivial
theorem law_all.tw11836482064631991793 : True := trivial
theorem law_all.tw11881262548007025425 : True := trivial
theorem law_all.tw11887014909107480075 : True := trivial
theorem law_all.tw11911069920064303837 : True := trivial
theorem law_all.tw11968179528029030403 : True := trivial
theorem law_all.tw11973853004191696713 : True := trivial
theorem law_all.tw11977895914950762854 : True := trivial
theorem law_all.tw11978475443051844996 : True := trivial
theorem law_all.tw11981917482434212799 : True := trivial
theorem law_all.tw11986533732874898875 : True := trivial
theorem law_all.tw1200807466883419909 : True := trivial
theorem law_all.tw12012145143388645040 : True := trivial
theorem law_all.tw12018720973117135595 : True := trivial
theorem law_all.tw12020096104662128255 : True := trivial
theorem law_all.tw12051850038722144316 : True := trivial
theorem law_all.tw12055539081176029090 : True := trivial
theorem law_all.tw12057113539981475253 : True := trivial
theorem law_all.tw12074057436302401830 : True := trivial
theorem law_all.tw12078552371085240558 : True := trivial
theorem law_all.tw12095277606438711637 : True := trivial
theorem law_all.tw12104823046187114806 : True := trivial
theorem law_all.tw1213014688269875124 : True := trivial
theorem law_all.tw1216541509919387563 : True := trivial
theorem law_all.tw12230927248747617965 : True := trivial
theorem law_all.tw1224010249265392569 : True := trivial
theorem law_all.tw12240263347232697027 : True := trivial
theorem law_all.tw12281828514994423027 : True := trivial
theorem law_all.tw12303014915382014946 : True := trivial
theorem law_all.tw12309555987426629805 : True := trivial
theorem law_all.tw12338384112835736923 : True := trivial
theorem law_all.tw12384212371979683370 : True := trivial
theorem law_all.tw12415205634060267573 : True := trivial
theorem law_all.tw1244168298268136379 : True := trivial
theorem law_all.tw12466342130767247577 : True := trivial
theorem law_all.tw12481217338035120217 : True := trivial
theorem law_all.tw12491990524712166927 : True := trivial
theorem law_all.tw12507762813244862470 : True := trivial
theorem law_all.tw12509682125398910234 : True := trivial
theorem law_all.tw12534027776361810370 : True := trivial
theorem law_all.tw12539917319762660869 : True := trivial
theorem law_all.tw12540705440526740223 : True := trivial
theorem law_all.tw12544625488745276325 : True := trivial
theorem law_all.tw12578298129586543361 : True := trivial
theorem law_all.tw12588457292089711807 : True := trivial
theorem law_all.tw12610587468927266379 : True := trivial
theorem law_all.tw12613626564643572922 : True := trivial
theorem law_all.tw12623802867859471158 : True := trivial
theorem law_all.tw12676381275849426890 : True := trivial
theorem law_all.tw12681778448758301329 : True := trivial
theorem law_all.tw12685006382546950688 : True := trivial
theorem law_all.tw12693317078590836893 : True := trivial
theorem law_all.tw12703074045546933829 : True := trivial
theorem law_all.tw12719020962863150717 : True := trivial
theorem law_all.tw12729013581757030507 : True := trivial
theorem law_all.tw12742291788480804056 : True := trivial
theorem law_all.tw12760510453615215998 : True := trivial
theorem law_all.tw12813073819124887621 : True := trivial
theorem law_all.tw12821476480046859578 : True := trivial
theorem law_all.tw12829037096407747505 : True := trivial
theorem law_all.tw12829309888951384908 : True := trivial
theorem law_all.tw12836747770095448064 : True := trivial
theorem law_all.tw12852575843583276402 : True := trivial
theorem law_all.tw12857768353395258856 : True := trivial
theorem law_all.tw12880530043633816451 : True := trivial
theorem law_all.tw12882822379246445372 : True := trivial
theorem law_all.tw12961678295145188246 : True := trivial
theorem law_all.tw13008198028515782221 : True := trivial
theorem law_all.tw13020986372997557548 : True := trivial
theorem law_all.tw13023151741414912232 : True := trivial
theorem law_all.tw13046477148728071147 : True := trivial
theorem law_all.tw13048455256248648906 : True := trivial
theorem law_all.tw13095150338055272814 : True := trivial
theorem law_all.tw13104927337049522412 : True := trivial
theorem law_all.tw13105876084392545070 : True := trivial
theorem law_all.tw13211181752546427078 : True := trivial
theorem law_all.tw13242965595582236870 : True := trivial
theorem law_all.tw13262692118744678910 : True := trivial
theorem law_all.tw13274840464982359763 : True := trivial
theorem law_all.tw13298211186511003629 : True := trivial
theorem law_all.tw13312783184378385674 : True := trivial
theorem law_all.tw13323004776771469176 : True := trivial
theorem law_all.tw13367176642022358155 : True := trivial
theorem law_all.tw13444409871249696073 : True := trivial
theorem law_all.tw13446384164382990572 : True := trivial
theorem law_all.tw1348223827413200919 : True := trivial
theorem law_all.tw13491740491915545503 : True := trivial
theorem law_all.tw13515836412680247291 : True := trivial
theorem law_all.tw13528875618702146035 : True := trivial
theorem law_all.tw13531483092564520072 : True := trivial
theorem law_all.tw13581327203777572028 : True := trivial
theorem law_all.tw13685136416335799533 : True := trivial
theorem law_all.tw13697446050514408011 : True := trivial
theorem law_all.tw13699687274142533169 : True := trivial
theorem law_all.tw13701370508385015645 : True := trivial
theorem law_all.tw1373718396076105583 : True := trivial
theorem law_all.tw13760747126890918739 : True := trivial
theorem law_all.tw13760851721862378156 : True := trivial
theorem law_all.tw13763162616901922433 : True := trivial
theorem law_all.tw13786776866538912107 : True := trivial
theorem law_all.tw13794602993731048600 : True := trivial
theorem law_all.tw13801121007944782333 : True := trivial
theorem law_all.tw13809103348235374114 : True := trivial
theorem law_all.tw13814730616935933626 : True := trivial
theorem law_all.tw13833317127055801060 : True := trivial
theorem law_all.tw13838683757722122955 : True := trivial
theorem law_all.tw13846950719819077829 : True := trivial
theorem law_all.tw13851053519262918477 : True := trivial
theorem law_all.tw13880960847138548369 : True := trivial
theorem law_all.tw13963356664251284108 : True := trivial
theorem law_all.tw13977805788617109767 : True := trivial
theorem law_all.tw13985060576507940359 : True := trivial
theorem law_all.tw13989974958611873218 : True := trivial
theorem law_all.tw14007897523862953668 : True := trivial
theorem law_all.tw14022319627245857414 : True := trivial
theorem law_all.tw14024095959683317476 : True := trivial
theorem law_all.tw14038700456328504219 : True := trivial
theorem law_all.tw14042146004648414333 : True := trivial
theorem law_all.tw14044939770858608774 : True := trivial
theorem law_all.tw14058198244844264512 : True := trivial
theorem law_all.tw1407716047416726741 : True := trivial
theorem law_all.tw14086168745368120678 : True := trivial
theorem law_all.tw14100515932553792916 : True := trivial
theorem law_all.tw14115007137499183204 : True := trivial
theorem law_all.tw14161950200463332022 : True := trivial
theorem law_all.tw14165149365823648315 : True := trivial
theorem law_all.tw14169471996915453906 : True := trivial
theorem law_all.tw14174517074612190596 : True := trivial
theorem law_all.tw14200917436561629008 : True := trivial
theorem law_all.tw14225962978905420208 : True := trivial
theorem law_all.tw14228614434331140909 : True := trivial
theorem law_all.tw14236084546645660719 : True := trivial
theorem law_all.tw14253376895313793166 : True := trivial
theorem law_all.tw14285781888347874446 : True := trivial
theorem law_all.tw14300270879109701445 : True := trivial
theorem law_all.tw14305966270870369670 : True := trivial
theorem law_all.tw14384918623772240547 : True := trivial
theorem law_all.tw14396964315094823396 : True := trivial
theorem law_all.tw14404595031650566798 : True := trivial
theorem law_all.tw14427759038551237300 : True := trivial
theorem law_all.tw14437242743615798716 : True := trivial
theorem law_all.tw14448975606232184337 : True := trivial
theorem law_all.tw14483480384061991028 : True := trivial
theorem law_all.tw14484216793023953687 : True := trivial
theorem law_all.tw14512922981909422826 : True := trivial
theorem law_all.tw14573240092562081179 : True := trivial
theorem law_all.tw14578468027487938174 : True := trivial
theorem law_all.tw1458131495679319933 : True := trivial
theorem law_all.tw14636622166468137105 : True := trivial
theorem law_all.tw14640322939972922974 : True := trivial
theorem law_all.tw14690459059760270787 : True := trivial
theorem law_all.tw14745461692227509293 : True := trivial
theorem law_all.tw14783403437535847111 : True := trivial
theorem law_all.tw14816879207175617225 : True := trivial
theorem law_all.tw14966067393961270158 : True := trivial
theorem law_all.tw14967953119522679212 : True := trivial
theorem law_all.tw14969216848811132704 : True := trivial
theorem law_all.tw14971921406432897392 : True := trivial
theorem law_all.tw14976291558557332888 : True := trivial
theorem law_all.tw14978941665995686438 : True := trivial
theorem law_all.tw14991419344657449139 : True := trivial
theorem law_all.tw14998430357298625318 : True := trivial
theorem law_all.tw15026446780328764363 : True := trivial
theorem law_all.tw15041844750066439977 : True := trivial
theorem law_all.tw15053150841094675366 : True := trivial
theorem law_all.tw15076095784800757957 : True := trivial
theorem law_all.tw15090710645362110852 : True := trivial
theorem law_all.tw15106878835201008470 : True := trivial
theorem law_all.tw15121837243256198043 : True := trivial
theorem law_all.tw15189314362614519228 : True := trivial
theorem law_all.tw15222793665863523046 : True := trivial
theorem law_all.tw1526100267518658005 : True := trivial
theorem law_all.tw15275527861284700546 : True := trivial
theorem law_all.tw15313853814466723436 : True := trivial
theorem law_all.tw15327138436386969399 : True := trivial
theorem law_all.tw15353343082906663676 : True := trivial
theorem law_all.tw154029563992915288 : True := trivial
theorem law_all.tw15404506543987917969 : True := trivial
theorem law_all.tw1541181133342956825 : True := trivial
theorem law_all.tw15421464354274691625 : True := trivial
theorem law_all.tw15421611283047414692 : True := trivial
theorem law_all.tw1542534431135467645 : True := trivial
theorem law_all.tw15476179445698796577 : True := trivial
theorem law_all.tw15510922497428549454 : True := trivial
theorem law_all.tw15516733807979383809 : True := trivial
theorem law_all.tw1556948465960636121 : True := trivial
theorem law_all.tw15627020587669677704 : True := trivial
theorem law_all.tw15638214500589831823 : True := trivial
theorem law_all.tw15640896081885072018 : True := trivial
theorem law_all.tw15680072974341577534 : True := trivial
theorem law_all.tw15693939393655280204 : True := trivial
theorem law_all.tw15696156366995490489 : True := trivial
theorem law_all.tw15740732772335265587 : True := trivial
theorem law_all.tw15743857825236497588 : True := trivial
theorem law_all.tw15753174923161979217 : True := trivial
theorem law_all.tw15775596325662777338 : True := trivial
theorem law_all.tw15795279041995733746 : True := trivial
theorem law_all.tw15796676433106474108 : True := trivial
theorem law_all.tw15804987732041531161 : True := trivial
theorem law_all.tw15816446151563789378 : True := trivial
theorem law_all.tw15817853144674484978 : True := trivial
theorem law_all.tw15830664036860437652 : True := trivial
theorem law_all.tw15845778499796225489 : True := trivial
theorem law_all.tw15877617104253876215 : True := trivial
theorem law_all.tw15982079766070313398 : True := trivial
theorem law_all.tw15988576510117618290 : True := trivial
theorem law_all.tw15991014356718627131 : True := trivial
theorem law_all.tw15994752243992478524 : True := trivial
theorem law_all.tw16084122824873582314 : True := trivial
theorem law_all.tw16101399557488211435 : True := trivial
theorem law_all.tw16108003277724382137 : True := trivial
theorem law_all.tw16147590587498475195 : True := trivial
theorem law_all.tw1618355861504449712 : True := trivial
theorem law_all.tw1619606534716276043 : True := trivial
theorem law_all.tw16258484221863406547 : True := trivial
theorem law_all.tw16280616582512762277 : True := trivial
theorem law_all.tw16317050728709778059 : True := trivial
theorem law_all.tw16357951813041135294 : True := trivial
theorem law_all.tw16364907183938773818 : True := trivial
theorem law_all.tw16378840673372724951 : True := trivial
theorem law_all.tw16385951753907185183 : True := trivial
theorem law_all.tw16389678097679539626 : True := trivial
theorem law_all.tw16413752452701970063 : True := trivial
theorem law_all.tw16414695610588875360 : True := trivial
theorem law_all.tw16428596772273243351 : True := trivial
theorem law_all.tw16434993861110634532 : True := trivial
theorem law_all.tw16436836394604217106 : True := trivial
theorem law_all.tw16577843217576899742 : True := trivial
theorem law_all.tw16610364562264112213 : True := trivial
theorem law_all.tw16611412123790042429 : True := trivial
theorem law_all.tw16625629747186990877 : True := trivial
theorem law_all.tw16654605471950451980 : True := trivial
theorem law_all.tw16693345006668779598 : True := trivial
theorem law_all.tw16731210891918897592 : True := trivial
theorem law_all.tw16736700015079776020 : True := trivial
theorem law_all.tw16741880675132489432 : True := trivial
theorem law_all.tw16745809935298821572 : True := trivial
theorem law_all.tw16759230557537464115 : True := trivial
theorem law_all.tw1682832674239571567 : True := trivial
theorem law_all.tw1682840521854849442 : True := trivial
theorem law_all.tw16829598718399601788 : True := trivial
theorem law_all.tw1684386024576819110 : True := trivial
theorem law_all.tw16850067431916028951 : True := trivial
theorem law_all.tw16892600953724058444 : True := trivial
theorem law_all.tw16903987867393959857 : True := trivial
theorem law_all.tw16994514146051193508 : True := trivial
theorem law_all.tw17002978438999879153 : True := trivial
theorem law_all.tw1702886262042523489 : True := trivial
theorem law_all.tw1703305540711997886 : True := trivial
theorem law_all.tw17035568942905013000 : True := trivial
theorem law_all.tw17073913150402608559 : True := trivial
theorem law_all.tw17074971947010181610 : True := trivial
theorem law_all.tw17091725206767289263 : True := trivial
theorem law_all.tw17115713224241774592 : True := trivial
theorem law_all.tw17120200779325065073 : True := trivial
theorem law_all.tw17138794587834298416 : True := trivial
theorem law_all.tw17139090271463625037 : True := trivial
theorem law_all.tw17162081525036864674 : True := trivial
theorem law_all.tw17177926690069352239 : True := trivial
theorem law_all.tw17198419215744740974 : True := trivial
theorem law_all.tw17212444080908859552 : True := trivial
theorem law_all.tw17213219829386642084 : True := trivial
theorem law_all.tw17213418721671049187 : True := trivial
theorem law_all.tw17215917983952657280 : True := trivial
theorem law_all.tw17238692654854937651 : True := trivial
theorem law_all.tw17240311926567722313 : True := trivial
theorem law_all.tw17264329242000108839 : True := trivial
theorem law_all.tw17311543511305506410 : True := trivial
theorem law_all.tw17333561848662834254 : True := trivial
theorem law_all.tw1745867294719425553 : True := trivial
theorem law_all.tw17459176674885784516 : True := trivial
theorem law_all.tw17461023701970706658 : True := trivial
theorem law_all.tw17535888986555872392 : True := trivial
theorem law_all.tw17550541601872772917 : True := trivial
theorem law_all.tw1756717570143565084 : True := trivial
theorem law_all.tw17610193108198147946 : True := trivial
theorem law_all.tw17613353281601113540 : True := trivial
theorem law_all.tw17628540532235563227 : True := trivial
theorem law_all.tw1766896147755282778 : True := trivial
theorem law_all.tw17671693468899418834 : True := trivial
theorem law_all.tw17676645770964659787 : True := trivial
theorem law_all.tw17699220586243776058 : True := trivial
theorem law_all.tw17711649757482097080 : True := trivial
theorem law_all.tw17749092094045793073 : True := trivial
theorem law_all.tw17769878892396552597 : True := trivial
theorem law_all.tw17783994495123558372 : True := trivial
theorem law_all.tw17811419955406721850 : True := trivial
theorem law_all.tw17818739092667572935 : True := trivial
theorem law_all.tw17821587149742552891 : True := trivial
theorem law_all.tw17824699565076465075 : True := trivial
theorem law_all.tw17956888979338296214 : True := trivial
theorem law_all.tw17960093718700428271 : True := trivial
theorem law_all.tw17962646048161934237 : True := trivial
theorem law_all.tw17964100949573051663 : True := trivial
theorem law_all.tw18031673381082608066 : True := trivial
theorem law_all.tw18049563021733404900 : True := trivial
theorem law_all.tw18069371669798473238 : True := trivial
theorem law_all.tw18084503921448002766 : True := trivial
theorem law_all.tw18084819778460367582 : True := trivial
theorem law_all.tw1809502294756820286 : True := trivial
theorem law_all.tw18115598367602769801 : True := trivial
theorem law_all.tw18135408350670230780 : True := trivial
theorem law_all.tw18180275025638004960 : True := trivial
theorem law_all.tw1819660966834464121 : True := trivial
theorem law_all.tw18198256975539810143 : True := trivial
theorem law_all.tw18260159938748754179 : True := trivial
theorem law_all.tw18299426437183154797 : True := trivial
theorem law_all.tw18313445508184284481 : True := trivial
theorem law_all.tw18369321035705266579 : True := trivial
theorem law_all.tw18402216632963273465 : True := trivial
theorem law_all.tw18424452837839797475 : True := trivial
theorem law_all.tw18425384942027050804 : True := trivial
theorem law_all.tw18437768301239656569 : True := trivial
theorem law_all.tw18438550808169337630 : True := trivial
theorem law_all.tw1851005829296705102 : True := trivial
theorem law_all.tw1908834790331025158 : True := trivial
theorem law_all.tw1909231634321623422 : True := trivial
theorem law_all.tw1938755509981744232 : True := trivial
theorem law_all.tw1961576592547977382 : True := trivial
theorem law_all.tw196974008228917347 : True := trivial
theorem law_all.tw19739987971221059 : True := trivial
theorem law_all.tw1988555749612562791 : True := trivial
theorem law_all.tw2018976290973465159 : True := trivial
theorem law_all.tw2030871139163601056 : True := trivial
theorem law_all.tw2103784332974290115 : True := trivial
theorem law_all.tw2126261026752179203 : True := trivial
theorem law_all.tw2127671843654578818 : True := trivial
theorem law_all.tw2135314059674174450 : True := trivial
theorem law_all.tw2154737406897626791 : True := trivial
theorem law_all.tw2224743311408289904 : True := trivial
theorem law_all.tw2225694422541459837 : True := trivial
theorem law_all.tw2289857599661718217 : True := trivial
theorem law_all.tw2313850143442069465 : True := trivial
theorem law_all.tw232006020691507172 : True := trivial
theorem law_all.tw2394756045033803996 : True := trivial
theorem law_all.tw2406078263742745528 : True := trivial
theorem law_all.tw2413856156487422069 : True := trivial
theorem law_all.tw241976606968684680 : True := trivial
theorem law_all.tw2425498562415444253 : True := trivial
theorem law_all.tw2427204884901857759 : True := trivial
theorem law_all.tw2432424846941410789 : True := trivial
theorem law_all.tw2440259602994764050 : True := trivial
theorem law_all.tw2455935472648855358 : True := trivial
theorem law_all.tw2465578340897827915 : True := trivial
theorem law_all.tw2525653633432605389 : True := trivial
theorem law_all.tw2534205154373081525 : True := trivial
theorem law_all.tw254210294449290986 : True := trivial
theorem law_all.tw2558263876058320549 : True := trivial
theorem law_all.tw2560851641824476598 : True := trivial
theorem law_all.tw2586092790497031182 : True := trivial
theorem law_all.tw2619257411496593575 : True := trivial
theorem law_all.tw2637589859259975594 : True := trivial
theorem law_all.tw265244927588178289 : True := trivial
theorem law_all.tw2714459630560403676 : True := trivial
theorem law_all.tw2721814648045382242 : True := trivial
theorem law_all.tw2726533656112109469 : True := trivial
theorem law_all.tw2746415857694854958 : True := trivial
theorem law_all.tw2754305514957794308 : True := trivial
theorem law_all.tw2763200530551224835 : True := trivial
theorem law_all.tw2791512771193701167 : True := trivial
theorem law_all.tw2885707341163702077 : True := trivial
theorem law_all.tw2891144412967124082 : True := trivial
theorem law_all.tw289511000256421866 : True := trivial
theorem law_all.tw2897607846274201091 : True := trivial
theorem law_all.tw2919649542600381882 : True := trivial
theorem law_all.tw2924756278709178009 : True := trivial
theorem law_all.tw2947101405759643883 : True := trivial
theorem law_all.tw2981204530259232531 : True := trivial
theorem law_all.tw3012268511640468390 : True := trivial
theorem law_all.tw3015541545424464467 : True := trivial
theorem law_all.tw3049941219963327188 : True := trivial
theorem law_all.tw3050570416659367537 : True := trivial
theorem law_all.tw3053660256275331401 : True := trivial
theorem law_all.tw308099982120028020 : True := trivial
theorem law_all.tw3116252448390264038 : True := trivial
theorem law_all.tw31263012393092130 : True := trivial
theorem law_all.tw3187445147277105537 : True := trivial
theorem law_all.tw3207115444309807146 : True := trivial
theorem law_all.tw3226911033302893226 : True := trivial
theorem law_all.tw3231379065138021979 : True := trivial
theorem law_all.tw324088458086427686 : True := trivial
theorem law_all.tw3261250254779219729 : True := trivial
theorem law_all.tw3263060017730090603 : True := trivial
theorem law_all.tw3284748957273996875 : True := trivial
theorem law_all.tw3325111520719290175 : True := trivial
theorem law_all.tw334817136852401495 : True := trivial
theorem law_all.tw3416886346130291467 : True := trivial
theorem law_all.tw3426539022656043222 : True := trivial
theorem law_all.tw34981568851968291 : True := trivial
theorem law_all.tw3498384184797677056 : True := trivial
theorem law_all.tw3560663033078476128 : True := trivial
theorem law_all.tw3602784471345507114 : True := trivial
theorem law_all.tw3663503265976199116 : True := trivial
theorem law_all.tw3669051535078491162 : True := trivial
theorem law_all.tw3672090284324724409 : True := trivial
theorem law_all.tw3707600311073335261 : True := trivial
theorem law_all.tw3740185271146487245 : True := trivial
theorem law_all.tw3743276652137241584 : True := trivial
theorem law_all.tw374766727668220859 : True := trivial
theorem law_all.tw3777453917453456667 : True := trivial
theorem law_all.tw3806819470392062991 : True := trivial
theorem law_all.tw3813577191599259775 : True := trivial
theorem law_all.tw3877723044392924569 : True := trivial
theorem law_all.tw3903515962272563663 : True := trivial
theorem law_all.tw3907663706730131783 : True := trivial
theorem law_all.tw3933338468746785916 : True := trivial
theorem law_all.tw3983192056104361193 : True := trivial
theorem law_all.tw3986953027485292477 : True := trivial
theorem law_all.tw404534946110283943 : True := trivial
theorem law_all.tw4073406199993252850 : True := trivial
theorem law_all.tw4105255371170773908 : True := trivial
theorem law_all.tw4116516876634802910 : True := trivial
theorem law_all.tw4142882797520435500 : True := trivial
theorem law_all.tw4179209112946984403 : True := trivial
theorem law_all.tw4182408002180818360 : True := trivial
theorem law_all.tw4198061620403395136 : True := trivial
theorem law_all.tw4218093189155465367 : True := trivial
theorem law_all.tw4261436866732715612 : True := trivial
theorem law_all.tw4289236661132030044 : True := trivial
theorem law_all.tw4298725709549585746 : True := trivial
theorem law_all.tw4338267340049963969 : True := trivial
theorem law_all.tw4342722941339302979 : True := trivial
theorem law_all.tw4357118453508938140 : True := trivial
theorem law_all.tw4373205857372294398 : True := trivial
theorem law_all.tw43822206185756307 : True := trivial
theorem law_all.tw4411415793883364592 : True := trivial
theorem law_all.tw4438399736822516121 : True := trivial
theorem law_all.tw4449761216389261190 : True := trivial
theorem law_all.tw4463155090383804945 : True := trivial
theorem law_all.tw4493041973297072924 : True := trivial
theorem law_all.tw4513022563276176288 : True := trivial
theorem law_all.tw4531640430275123664 : True := trivial
theorem law_all.tw4545471796157021838 : True := trivial
theorem law_all.tw4547236602926478784 : True := trivial
theorem law_all.tw4607750278909125284 : True := trivial
theorem law_all.tw4629605032302363013 : True := trivial
theorem law_all.tw4638716497167235156 : True := trivial
theorem law_all.tw4640835974096237147 : True := trivial
theorem law_all.tw4665142225715192508 : True := trivial
theorem law_all.tw4724553419533229902 : True := trivial
theorem law_all.tw4767241430983704032 : True := trivial
theorem law_all.tw4771868648470891126 : True := trivial
theorem law_all.tw4783601065168354762 : True := trivial
theorem law_all.tw4787805881238422163 : True := trivial
theorem law_all.tw4800166454244708440 : True := trivial
theorem law_all.tw4810359999024667066 : True := trivial
theorem law_all.tw4813512349449720863 : True := trivial
theorem law_all.tw4832144476604611284 : True := trivial
theorem law_all.tw4875587917594351017 : True := trivial
theorem law_all.tw4881685112826633117 : True := trivial
theorem law_all.tw4959470712613272833 : True := trivial
theorem law_all.tw4971525033006987312 : True := trivial
theorem law_all.tw4984181149395053762 : True := trivial
theorem law_all.tw498969334165971575 : True := trivial
theorem law_all.tw5007728179111998763 : True := trivial
theorem law_all.tw5046676412343541489 : True := trivial
theorem law_all.tw5058365699104195747 : True := trivial
theorem law_all.tw5077807667812295140 : True := trivial
theorem law_all.tw50990029914848857 : True := trivial
theorem law_all.tw5099097261256123588 : True := trivial
theorem law_all.tw5105902913525381356 : True := trivial
theorem law_all.tw5113565536986230370 : True := trivial
theorem law_all.tw51366843150158886 : True := trivial
theorem law_all.tw5143838461203301668 : True := trivial
theorem law_all.tw5184584404607951288 : True := trivial
theorem law_all.tw5196125583654719661 : True := trivial
theorem law_all.tw5199301434253951998 : True := trivial
theorem law_all.tw5306588570621787507 : True := trivial
theorem law_all.tw5355107437934412706 : True := trivial
theorem law_all.tw5386138778478946084 : True := trivial
theorem law_all.tw5391715999942285979 : True := trivial
theorem law_all.tw540954306642092798 : True := trivial
theorem law_all.tw541292884143145059 : True := trivial
theorem law_all.tw5429858767254799258 : True := trivial
theorem law_all.tw5453859960540951435 : True := trivial
theorem law_all.tw5465242347971369183 : True := trivial
theorem law_all.tw5467091673537627360 : True := trivial
theorem law_all.tw5483578599265696199 : True := trivial
theorem law_all.tw5515175385397997255 : True := trivial
theorem law_all.tw5542367601281971411 : True := trivial
theorem law_all.tw5583749985031357005 : True := trivial
theorem law_all.tw5591302951066050737 : True := trivial
theorem law_all.tw569701484050765398 : True := trivial
theorem law_all.tw5719042974799534917 : True := trivial
theorem law_all.tw5774103589672948085 : True := trivial
theorem law_all.tw5810238935025566227 : True := trivial
theorem law_all.tw581509044858899661 : True := trivial
theorem law_all.tw5881413082840422312 : True := trivial
theorem law_all.tw5883778265082202921 : True := trivial
theorem law_all.tw5914833246583547866 : True := trivial
theorem law_all.tw5918046297749794308 : True := trivial
theorem law_all.tw5925129876391146066 : True := trivial
theorem law_all.tw5945882358115643694 : True := trivial
theorem law_all.tw5947366203799548357 : True := trivial
theorem law_all.tw5961023722609971472 : True := trivial
theorem law_all.tw5962365601980372440 : True := trivial
theorem law_all.tw6001686606448372975 : True := trivial
theorem law_all.tw6022211634629375331 : True := trivial
theorem law_all.tw6039264787345505811 : True := trivial
theorem law_all.tw6064550380648306667 : True := trivial
theorem law_all.tw6068437695709350847 : True := trivial
theorem law_all.tw6231318655119160662 : True := trivial
theorem law_all.tw623384496221371744 : True := trivial
theorem law_all.tw6250623550151289363 : True := trivial
theorem law_all.tw6281336798887741830 : True := trivial
theorem law_all.tw6317846471518068684 : True := trivial
theorem law_all.tw6352045179492744985 : True := trivial
theorem law_all.tw6355135678535457092 : True := trivial
theorem law_all.tw6372170185144319752 : True := trivial
theorem law_all.tw6394399434190074597 : True := trivial
theorem law_all.tw6411806976011853373 : True := trivial
theorem law_all.tw644193453371022997 : True := trivial
theorem law_all.tw6456847839567275990 : True := trivial
theorem law_all.tw6463489072841894807 : True := trivial
theorem law_all.tw6471123649784635168 : True := trivial
theorem law_all.tw6478741611622195713 : True := trivial
theorem law_all.tw6513319782983348548 : True := trivial
theorem law_all.tw6539801629210723327 : True := trivial
theorem law_all.tw6541656116107318362 : True := trivial
theorem law_all.tw6546989136924606136 : True := trivial
theorem law_all.tw6550320685308687620 : True := trivial
theorem law_all.tw6555256405940155819 : True := trivial
theorem law_all.tw6564360385875737041 : True := trivial
theorem law_all.tw6592884879708733306 : True := trivial
theorem law_all.tw6645749129768185620 : True := trivial
theorem law_all.tw6652356289361680949 : True := trivial
theorem law_all.tw6699625200842085812 : True := trivial
theorem law_all.tw6723525195617269812 : True := trivial
theorem law_all.tw6775264209203825292 : True := trivial
theorem law_all.tw6801470937092483863 : True := trivial
theorem law_all.tw6818535541638068524 : True := trivial
theorem law_all.tw6851157634355297669 : True := trivial
theorem law_all.tw6974504298890653878 : True := trivial
theorem law_all.tw7028125823600010858 : True := trivial
theorem law_all.tw7032130934624792205 : True := trivial
theorem law_all.tw7035262430463298820 : True := trivial
theorem law_all.tw711021382710547372 : True := trivial
theorem law_all.tw7188791813448049371 : True := trivial
theorem law_all.tw7209142699435546151 : True := trivial
theorem law_all.tw7213851623774115239 : True := trivial
theorem law_all.tw7219402698325937587 : True := trivial
theorem law_all.tw7224549994232214638 : True := trivial
theorem law_all.tw7230154756104869063 : True := trivial
theorem law_all.tw7241301525396740710 : True := trivial
theorem law_all.tw7244142420057014546 : True := trivial
theorem law_all.tw7245700242062677723 : True := trivial
theorem law_all.tw7271498159299846290 : True := trivial
theorem law_all.tw7271922334478322552 : True := trivial
theorem law_all.tw7290121776363987770 : True := trivial
theorem law_all.tw7292434958787203408 : True := trivial
theorem law_all.tw7296818474457393607 : True := trivial
theorem law_all.tw7297819598837024618 : True := trivial
theorem law_all.tw7318158564511299729 : True := trivial
theorem law_all.tw7379131392961922385 : True := trivial
theorem law_all.tw7385059913978287034 : True := trivial
theorem law_all.tw7406990479455149028 : True := trivial
theorem law_all.tw742109610064614720 : True := trivial
theorem law_all.tw7424173207631694637 : True := trivial
theorem law_all.tw743412211500013303 : True := trivial
theorem law_all.tw7470513268851451213 : True := trivial
theorem law_all.tw7497220510776412333 : True := trivial
theorem law_all.tw7506031421445054254 : True := trivial
theorem law_all.tw7515087699904939769 : True := trivial
theorem law_all.tw7517537711377488852 : True := trivial
theorem law_all.tw7518268271031788722 : True := trivial
theorem law_all.tw7570389025846386837 : True := trivial
theorem law_all.tw7574916185476446870 : True := trivial
theorem law_all.tw7601383465899748548 : True := trivial
theorem law_all.tw7647884552941119451 : True := trivial
theorem law_all.tw7658680413803366864 : True := trivial
theorem law_all.tw7697204384454675280 : True := trivial
theorem law_all.tw7715188989104879811 : True := trivial
theorem law_all.tw7718588101098686155 : True := trivial
theorem law_all.tw7757561431791933054 : True := trivial
theorem law_all.tw7762748990098453861 : True := trivial
theorem law_all.tw7770836001619578197 : True := trivial
theorem law_all.tw7790677649225985756 : True := trivial
theorem law_all.tw7791439051762490624 : True := trivial
theorem law_all.tw7804374761869212844 : True := trivial
theorem law_all.tw7810743181515291045 : True := trivial
theorem law_all.tw782427809645370415 : True := trivial
theorem law_all.tw7848056648850132878 : True := trivial
theorem law_all.tw7897600568026276390 : True := trivial
theorem law_all.tw7902074397041296349 : True := trivial
theorem law_all.tw7911531064090814180 : True := trivial
theorem law_all.tw796818876455020728 : True := trivial
theorem law_all.tw7979492120457570264 : True := trivial
theorem law_all.tw801417409540640141 : True := trivial
theorem law_all.tw8053974599713079812 : True := trivial
theorem law_all.tw8093662343118647261 : True := trivial
theorem law_all.tw8100261704194928128 : True := trivial
theorem law_all.tw8102590376130340518 : True := trivial
theorem law_all.tw8114463401510658588 : True := trivial
theorem law_all.tw8192627400900402444 : True := trivial
theorem law_all.tw8259473591719373357 : True := trivial
theorem law_all.tw8295653638501232855 : True := trivial
theorem law_all.tw8305597428437692698 : True := trivial
theorem law_all.tw8351115422591919128 : True := trivial
theorem law_all.tw8352638903468824440 : True := trivial
theorem law_all.tw8373480759210339737 : True := trivial
theorem law_all.tw8410422384732016249 : True := trivial
theorem law_all.tw8496572883052770167 : True := trivial
theorem law_all.tw8552878003761168958 : True := trivial
theorem law_all.tw8559622642134532576 : True := trivial
theorem law_all.tw857312800663944748 : True := trivial
theorem law_all.tw8587321083128229445 : True := trivial
theorem law_all.tw8595197912787149095 : True := trivial
theorem law_all.tw8618336906785351942 : True := trivial
theorem law_all.tw8636992181308737738 : True := trivial
theorem law_all.tw8645198988984335144 : True := trivial
theorem law_all.tw8652508824891024273 : True := trivial
theorem law_all.tw865885312489698057 : True := trivial
theorem law_all.tw8665318985690784266 : True := trivial
theorem law_all.tw866564066945910344 : True := trivial
theorem law_all.tw866766908457270551 : True := trivial
theorem law_all.tw868222490149932729 : True := trivial
theorem law_all.tw8729561690571945798 : True := trivial
theorem law_all.tw8732206733074496467 : True := trivial
theorem law_all.tw876161497427613219 : True := trivial
theorem law_all.tw8765806042451288875 : True := trivial
theorem law_all.tw8810399088073249494 : True := trivial
theorem law_all.tw8810683771702325575 : True := trivial
theorem law_all.tw8820261365336496098 : True := trivial
theorem law_all.tw8836462397961589918 : True := trivial
theorem law_all.tw8858638111541304496 : True := trivial
theorem law_all.tw8921295990715661176 : True := trivial
theorem law_all.tw892440070764786429 : True := trivial
theorem law_all.tw8925359147337055447 : True := trivial
theorem law_all.tw8937883705780218553 : True := trivial
theorem law_all.tw8961255980978662838 : True := trivial
theorem law_all.tw8986646422429841763 : True := trivial
theorem law_all.tw9015332790510971594 : True := trivial
theorem law_all.tw9019875401820227665 : True := trivial
theorem law_all.tw9026439464527418359 : True := trivial
theorem law_all.tw9055577570390366099 : True := trivial
theorem law_all.tw9058530902327166115 : True := trivial
theorem law_all.tw9098079959301702225 : True := trivial
theorem law_all.tw9126654936404069527 : True := trivial
theorem law_all.tw9135970852051700672 : True := trivial
theorem law_all.tw9144500139776326259 : True := trivial
theorem law_all.tw9278401209076089947 : True := trivial
theorem law_all.tw9285932881680792518 : True := trivial
theorem law_all.tw9310598725500422130 : True := trivial
theorem law_all.tw9337859482809679654 : True := trivial
theorem law_all.tw9350206980387211188 : True := trivial
theorem law_all.tw937055499877386264 : True := trivial
theorem law_all.tw9389932311233280350 : True := trivial
theorem law_all.tw9421408513443329588 : True := trivial
theorem law_all.tw9429942708143374130 : True := trivial
theorem law_all.tw9437977712622912741 : True := trivial
theorem law_all.tw9441140268209864922 : True := trivial
theorem law_all.tw9496831969247301946 : True := trivial
theorem law_all.tw9507049440517255830 : True := trivial
theorem law_all.tw9548666868741536164 : True := trivial
theorem law_all.tw9552890226225023792 : True := trivial
theorem law_all.tw9619780615421632182 : True := trivial
theorem law_all.tw9621619661464635597 : True := trivial
theorem law_all.tw9626924371936766941 : True := trivial
theorem law_all.tw9697324461614764831 : True := trivial
theorem law_all.tw9706086234395682267 : True := trivial
theorem law_all.tw9729604732972894722 : True := trivial
theorem law_all.tw9741297799410488584 : True := trivial
theorem law_all.tw9758465039191818689 : True := trivial
theorem law_all.tw9793429609119093069 : True := trivial
theorem law_all.tw9837858002760397563 : True := trivial
theorem law_all.tw9847930118418132646 : True := trivial
theorem law_all.tw9881681013793774600 : True := trivial
theorem law_all.tw9882341161845427535 : True := trivial
theorem law_all.tw9885059535474818502 : True := trivial
theorem law_all.tw9906353361400467681 : True := trivial
theorem law_all.tw9929707098585528879 : True := trivial
theorem law_all.tw9930186087560989292 : True := trivial
theorem law_all.tw9986427169250320848 : True := trivial
theorem law_all.tw9987792911408698340 : True := trivial
theorem law_all.tw9992796612143662886 : True := trivial
theorem law_all.tw17542531393944789768 : True := trivial
set_option Elab.async true in
set_option maxHeartbeats 0 in
theorem law_all : PySem.Challenge.rw_qd0178_01.Holds := by
  w_on; o_law
  o_head (kHook Mine.kept.heap_1 [2, 3, 15, 17, 18, 20, 21, 22, 25, 26, 27, 29, 30, 32, 33, 34, 36, 37, 39, 40, 41, 48, 49, 50, 51, 54, 61, 63, 64, 66, 67, 68, 69, 70, 73, 74, 75, 76, 77, 79, 80, 82, 83, 84, 86, 87, 89, 90, 91, 93, 94, 96, 97, 98, 100, 101, 103, 104, 105, 107, 108, 110, 111, 112, 114, 115, 117, 118, 119, 121, 122, 124, 125, 126, 128, 129, 131, 132, 133, 135, 136, 138, 139, 140, 142, 143, 145, 146, 147, 149, 150, 152, 153, 154, 156, 157, 159, 160, 161, 163, 164, 166, 167, 168, 170, 171, 173, 174, 175, 177, 178, 180, 181, 182, 184, 185, 187, 188, 189, 191, 192, 194, 195, 196, 198, 199, 201, 202, 203, 205, 206, 208, 209, 210, 212, 213, 215, 216, 217, 219, 220, 222, 223, 224, 226, 227, 229, 230, 231, 233, 234, 236, 237, 238, 240, 241, 243, 244, 245, 247, 248, 250, 251, 259, 261, 262, 264, 265, 266, 267, 268, 269, 270, 280, 281, 283, 284, 286, 287, 288, 290, 291, 293, 294, 295, 296, 297, 298, 299, 309, 311, 312, 314, 315, 316, 317, 318, 319, 320, 330, 331, 333, 334, 336, 337, 338, 339, 340, 341, 342, 352, 353, 355, 356, 358, 359, 360, 361, 362, 363, 364, 367, 369, 370, 372, 373, 374, 376, 377, 379, 380, 381, 382, 384, 385, 387, 388, 389, 391, 392, 394, 395, 396, 398, 399, 401, 402, 403, 405, 406, 408, 409, 410, 412, 413, 415, 416, 417, 419, 420, 422, 423, 424, 426, 427, 429, 430, 431, 433, 434, 436, 437, 438, 440, 441, 443, 444, 445, 447, 448, 450, 451, 452, 454, 455, 457, 458, 459, 461, 462, 464, 465, 466, 468, 469, 471, 472, 473, 475, 476, 478, 479, 480, 482, 483, 485, 486, 487, 489, 490, 492, 493, 494, 496, 497, 499, 500, 501, 503, 504, 506, 507, 508, 511, 512, 513, 515, 516, 518, 519, 520, 523, 524, 525, 527, 528, 530, 531, 532, 534, 535, 537, 538, 539, 541, 542, 544, 545, 546, 549, 550, 551, 553, 554, 556, 557, 558, 560, 561, 563, 564, 565, 567, 568, 570, 571, 572, 574, 575, 577, 578, 579, 581, 582, 584, 585, 586, 588, 589, 591, 592, 593, 595, 596, 598, 599, 600, 602, 603, 605, 606, 607, 609, 610, 612, 613, 614, 616, 617, 619, 620, 621, 623, 624, 626, 627, 628, 631, 632, 633, 634, 636, 637, 639, 640, 641, 643, 644, 646, 647, 648, 650, 651, 653, 654, 655, 657, 658, 660, 661, 662, 664, 665, 667, 668, 669, 672, 673, 674, 677, 678, 679, 680, 683, 684, 685, 687, 688, 690, 691, 692, 694, 695, 697, 698, 699, 701, 702, 704, 705, 706, 708, 709, 711, 712, 713, 716, 717, 718, 720, 721, 723, 724, 725, 728, 729, 730, 732, 733, 735, 736, 737, 739, 740, 742, 743, 744, 747, 748, 749, 751, 752, 754, 755, 756, 758, 759, 761, 762, 763, 765, 766, 768, 769, 770, 772, 773, 775, 776, 777, 779, 780, 782, 783, 784, 786, 787, 789, 790, 791, 793, 794, 796, 797, 798, 800, 801, 803, 804, 805, 807, 808, 810, 811, 812, 814, 815, 817, 818, 819, 821, 822, 824, 825, 826, 829, 830] (fun _ => by kernel_rfl))
  (case hw => w_witness2)
  k_with_none
  k_with "execs cons" => ((k_here; (refine wpAny_execs_cons ?_); (try k_fold)))
  k_with "exec If" => ((k_here; (refine wpAny_If ?_); (try k_fold)))
  k_with "callWith ref nil nil" => ((k_here; (with_reducible show wpAny _ _ (callWith _ (Value.ref _) _ (backTo _ (starEach [] _)) []) _ _ _); k_dflt (refine callWith_K0 (Frag.In.keeps (by with_reducible assumption) (Fr.keep (by with_reducible assumption))) (by k_is) ?_)))
  k_with "k_mem" => (((repeat' (first | ktr_member | refine' List.mem_cons_of_mem _ ?_)); done))
  k_with "k_room" => (first | exact room2 (by with_reducible assumption) (by decide) | exact Nat.le_of_ble_eq_true rfl | exact room1 (by with_reducible assumption) (by decide) | exact room4 (by with_reducible assumption) (by decide) | (simp only [depth_under_make, depth_under_kw, depth_in1, depth_deeper, depth_caller, recursionLimit] at *; omega))
  k_with "k_units" => (first | exact room2 (by with_reducible assumption) (by decide) | exact Nat.le_of_ble_eq_true rfl | exact room1 (by with_reducible assumption) (by decide) | exact room4 (by with_reducible assumption) (by decide) | (simp only [units_in1, units_deeper, Around.mark_units, units_caller, cLine] at *; omega))
  k_with "call builtin:len" => ((k_here; (with_reducible show wpAny _ _ (call (Value.builtin "len") [Value.ref _]) _ _ _); k_dflt (refine' lw_len ?N_w283 ?m_w283 ?f_w283 ?_; (case N_w283 => k_asm); (case m_w283 => k_mem); (case f_w283 => first | exact Nat.le_trans (by with_reducible assumption) (by exact Nat.le_of_ble_eq_true rfl) | omega); k_whole)))
  k_with "call builtin:list.pop" => ((k_here; (with_reducible show wpAny _ _ (call (Value.builtin _) [Value.ref _]) _ _ _); k_dflt (refine' lw_pop ?F_w284 ?N_w284 ?U_w284 ?z_w284 ?_; (case F_w284 => k_asm); (case N_w284 => k_asm); (case U_w284 => k_upd); (case z_w284 => first | exact Nat.le_trans (by with_reducible assumption) (by exact Nat.le_of_ble_eq_true rfl) | omega); k_whole); intro h' F' N'; (try k_sweep)))
  k_with "call builtin:list.append" => ((k_here; (with_reducible show wpAny _ _ (call (Value.builtin _) [Value.ref _, _]) _ _ _); k_dflt (refine' lw_append ?F_w285 ?N_w285 ?U_w285 ?z_w285 ?_; (case F_w285 => k_asm); (case N_w285 => k_asm); (case U_w285 => k_upd); (case z_w285 => first | exact Nat.le_trans (by with_reducible assumption) (by exact Nat.le_of_ble_eq_true rfl) | omega); k_whole); intro h' F' N'; (try k_sweep)))
  k_with "call builtin:list.extend" => ((k_here; (with_reducible show wpAny _ _ (call (Value.builtin _) [Value.ref _, Value.ref _]) _ _ _); k_dflt (refine' lw_extend ?F_w286 ?N_w286 ?b_w286 ?ne_w286 ?U_w286 ?z_w286 ?y_w286 ?_; (case F_w286 => k_asm); (case N_w286 => k_asm); (case b_w286 => k_mem); (case U_w286 => k_upd); (case ne_w286 => exact Nat.succ_ne_zero _); (case z_w286 => first | exact Nat.le_trans (by with_reducible assumption) (by exact Nat.le_of_ble_eq_true rfl) | omega); (case y_w286 => exact Nat.le_of_ble_eq_true rfl); k_whole); intro h' F' N'; (try k_sweep)))
  k_with "CompEnd" => (((rename News _ _ _ _ => nE'); refine LCg.CompEnd.intro (by assumption) nE' _ (fun _ h => h) (by first | assumption | (with_unfolding_all assumption)) (by first | lcg_src | k_mem) ?_))
  k_with "k_ne" => ((refine neN ?_; (try dsimp only); first | exact Nat.ne_of_lt (by (first | with_reducible assumption | exact And.left (by with_reducible assumption) | exact And.left (And.right (by with_reducible assumption)) | exact And.left (And.right (And.right (by with_reducible assumption))) | exact And.left (And.right (And.right (And.right (by with_reducible assumption)))) | exact And.left (And.right (And.right (And.right (And.right (by with_reducible assumption))))) | exact And.left (And.right (And.right (And.right (And.right (And.right (by with_reducible assumption)))))) | exact And.left (And.right (And.right (And.right (And.right (And.right (And.right (by with_reducible assumption))))))) | exact And.left (And.right (And.right (And.right (And.right (And.right (And.right (And.right (by with_reducible assumption)))))))) | exact And.left (And.right (And.right (And.right (And.right (And.right (And.right (And.right (And.right (by with_reducible assumption))))))))))) | exact Nat.ne_of_gt (by (first | with_reducible assumption | exact And.left (by with_reducible assumption) | exact And.left (And.right (by with_reducible assumption)) | exact And.left (And.right (And.right (by with_reducible assumption))) | exact And.left (And.right (And.right (And.right (by with_reducible assumption)))) | exact And.left (And.right (And.right (And.right (And.right (by with_reducible assumption))))) | exact And.left (And.right (And.right (And.right (And.right (And.right (by with_reducible assumption)))))) | exact And.left (And.right (And.right (And.right (And.right (And.right (And.right (by with_reducible assumption))))))) | exact And.left (And.right (And.right (And.right (And.right (And.right (And.right (And.right (by with_reducible assumption)))))))) | exact And.left (And.right (And.right (And.right (And.right (And.right (And.right (And.right (And.right (by with_reducible assumption))))))))))) | omega))
  k_with "k_all" => (first | assumption | ((with_reducible refine List.forall_mem_append.mpr ⟨?_, ?_⟩) <;> k_all))
  k_with "call type:range" => ((k_here; (with_reducible show wpAny _ _ (call _ [Value.int _ _]) _ _ _); (rename Fr _ _ _ _ => F'); (rename News _ _ _ _ => N'); (with_unfolding_all refine range1_rows F' N' ?_); intro _ _ _ _ _ _ _ _ _))
  k_with "subscriptTail" => ((k_here; (with_reducible show wpAny _ _ (subscriptTail _ _ (Value.ref _) (Value.int _ _)) _ _ _); k_dflt (first | (refine' lw_getCell ?I_w291 ?N_w291 ?m_w291 ?a_w291 ?b_w291 ?c_w291 ?_; (case I_w291 => assumption); (case N_w291 => k_asm); (case m_w291 => k_mem); (case a_w291 => first | exact (by decide) | omega); (case b_w291 => first | exact lt_len (by with_reducible assumption) (by decide) | omega); (case c_w291 => first | exact Nat.le_trans (Nat.le_of_eq (by with_reducible assumption)) (by exact Nat.le_of_ble_eq_true rfl) | omega); k_whole; intro _) | (refine' lw_getRef ?I_w291 ?N_w291 ?m_w291 ?a_w291 ?b_w291 ?c_w291 ?_; (case I_w291 => assumption); (case N_w291 => k_asm); (case m_w291 => k_mem); (case a_w291 => first | with_reducible assumption | exact Int.fmod_nonneg_of_pos _ (by with_reducible assumption) | omega | exact Int.fmod_nonneg_of_pos _ (by omega)); (case b_w291 => first | with_reducible assumption | exact Int.fmod_lt_of_pos _ (by with_reducible assumption) | omega | exact Int.fmod_lt_of_pos _ (by omega)); (case c_w291 => first | exact Nat.le_trans (by with_reducible assumption) (by exact Nat.le_of_ble_eq_true rfl) | omega); k_whole; intro _ _) | (refine' lw_getInt ?I_w291 ?N_w291 ?m_w291 ?a_w291 ?b_w291 ?c_w291 ?_; (case I_w291 => assumption); (case N_w291 => k_asm); (case m_w291 => k_mem); (case a_w291 => first | with_reducible assumption | exact Int.fmod_nonneg_of_pos _ (by with_reducible assumption) | omega | exact Int.fmod_nonneg_of_pos _ (by omega)); (case b_w291 => first | with_reducible assumption | exact Int.fmod_lt_of_pos _ (by with_reducible assumption) | omega | exact Int.fmod_lt_of_pos _ (by omega)); (case c_w291 => first | exact Nat.le_trans (by with_reducible assumption) (by exact Nat.le_of_ble_eq_true rfl) | omega); k_whole; intro _ _ _))))
  k_with "call ref" => ((k_here; (with_reducible show wpAny _ _ (call (Value.ref 388) _) _ _ _); k_dflt (refine' (spec_number _ _).use (by k_asm) (by k_asm) (by k_asm) (by k_asm) (by k_asm) (by first | exact rfl | assumption) (by exact trivial) ?hd_w292 ?hu_w292 ?_; (case hd_w292 => k_room); (case hu_w292 => k_units)); k_whole; intro r9 n9 h9 t9 F9 N9 p9; (obtain ⟨x9, dx9, li9, tp9, t19, t29, t39, t49, t59, t69, t79, t89, l9, m9, q9, o9⟩ := p9; (try simp only [AllLt, and_true] at l9)); (try dsimp only); (try k_unmd); (try k_sweep)))
  k_with "call ref" => ((k_here; (with_reducible show wpAny _ _ (call (Value.ref 388) _) _ _ _); k_dflt (refine' (spec_number3 _ _).use (by k_asm) (by k_asm) (by k_asm) (by k_asm) (by k_asm) (by first | exact rfl | assumption) (by exact trivial) ?hd_w293 ?hu_w293 ?_; (case hd_w293 => k_room); (case hu_w293 => k_units)); k_whole; intro r9 n9 h9 t9 F9 N9 p9; (obtain ⟨x9, dx9, li9, tp9, t19, t29, t39, t49, t59, t69, t79, t89, l9, m9, q9, o9⟩ := p9; (try simp only [AllLt, and_true] at l9)); (try dsimp only); (try k_unmd); (try k_sweep)))
  k_go0; (all_goals try k_fold)
  repeat' (first | (k_unfold; (try dsimp only)) | (k_unmd; k_unfold; (try dsimp only)) | (k_end; wrow_close) | ((fail_if_success (with_reducible show wpAny _ _ (exec (Stmt.For _ _ _ _ _) _) _ _ _)); walk1) | ((fail_if_success (with_reducible show wpAny _ _ (exec (Stmt.For _ _ _ _ _) _) _ _ _)); dsimp only; walk1) | (leave1; walk_say "STEP leave1"; try dsimp only) | fail "no step")
  (rename IntsAre _ (_ ++ _) => hCe)
  (rename ((List.take 12 _).length = min 12 _) => hTk)
  (rename ((0 : Int) ≤ 12 - _ → _) => hE3)
  (rename List.length (List.flatten (List.replicate _ [0])) = _ => hE1)
  k_with_none
  k_with "execs cons" => ((k_here; (refine wpAny_execs_cons ?_); (try k_fold)))
  k_with "exec If" => ((k_here; (refine wpAny_If ?_); (try k_fold)))
  k_with "callWith ref nil nil" => ((k_here; (with_reducible show wpAny _ _ (callWith _ (Value.ref _) _ (backTo _ (starEach [] _)) []) _ _ _); k_dflt (refine callWith_K0 (Frag.In.keeps (by with_reducible assumption) (Fr.keep (by with_reducible assumption))) (by k_is) ?_)))
  k_with "k_mem" => (((repeat' (first | ktr_member | refine' List.mem_cons_of_mem _ ?_)); done))
  k_with "k_room" => (first | exact room2 (by with_reducible assumption) (by decide) | exact Nat.le_of_ble_eq_true rfl | exact room1 (by with_reducible assumption) (by decide) | exact room4 (by with_reducible assumption) (by decide) | (simp only [depth_under_make, depth_under_kw, depth_in1, depth_deeper, depth_caller, recursionLimit] at *; omega))
  k_with "k_units" => (first | exact room2 (by with_reducible assumption) (by decide) | exact Nat.le_of_ble_eq_true rfl | exact room1 (by with_reducible assumption) (by decide) | exact room4 (by with_reducible assumption) (by decide) | (simp only [units_in1, units_deeper, Around.mark_units, units_caller, cLine] at *; omega))
  k_with "call builtin:len" => ((k_here; (with_reducible show wpAny _ _ (call (Value.builtin "len") [Value.ref _]) _ _ _); k_dflt (refine' lw_len ?N_w271 ?m_w271 ?f_w271 ?_; (case N_w271 => k_asm); (case m_w271 => k_mem); (case f_w271 => first | exact Nat.le_trans (by with_reducible assumption) (by exact Nat.le_of_ble_eq_true rfl) | omega); k_whole)))
  k_with "call builtin:list.pop" => ((k_here; (with_reducible show wpAny _ _ (call (Value.builtin _) [Value.ref _]) _ _ _); k_dflt (refine' lw_pop ?F_w272 ?N_w272 ?U_w272 ?z_w272 ?_; (case F_w272 => k_asm); (case N_w272 => k_asm); (case U_w272 => k_upd); (case z_w272 => first | exact Nat.le_trans (by with_reducible assumption) (by exact Nat.le_of_ble_eq_true rfl) | omega); k_whole); intro h' F' N'; (try k_sweep)))
  k_with "call builtin:list.append" => ((k_here; (with_reducible show wpAny _ _ (call (Value.builtin _) [Value.ref _, _]) _ _ _); k_dflt (refine' lw_append ?F_w273 ?N_w273 ?U_w273 ?z_w273 ?_; (case F_w273 => k_asm); (case N_w273 => k_asm); (case U_w273 => k_upd); (case z_w273 => first | exact Nat.le_trans (by with_reducible assumption) (by exact Nat.le_of_ble_eq_true rfl) | omega); k_whole); intro h' F' N'; (try k_sweep)))
  k_with "call builtin:list.extend" => ((k_here; (with_reducible show wpAny _ _ (call (Value.builtin _) [Value.ref _, Value.ref _]) _ _ _); k_dflt (refine' lw_extend ?F_w274 ?N_w274 ?b_w274 ?ne_w274 ?U_w274 ?z_w274 ?y_w274 ?_; (case F_w274 => k_asm); (case N_w274 => k_asm); (case b_w274 => k_mem); (case U_w274 => k_upd); (case ne_w274 => exact Nat.succ_ne_zero _); (case z_w274 => first | exact Nat.le_trans (by with_reducible assumption) (by exact Nat.le_of_ble_eq_true rfl) | omega); (case y_w274 => exact Nat.le_of_ble_eq_true rfl); k_whole); intro h' F' N'; (try k_sweep)))
  k_with "CompEnd" => (((rename News _ _ _ _ => nE'); refine LCg.CompEnd.intro (by assumption) nE' _ (fun _ h => h) (by first | assumption | (with_unfolding_all assumption)) (by first | lcg_src | k_mem) ?_))
  k_with "k_ne" => ((refine neN ?_; (try dsimp only); first | exact Nat.ne_of_lt (by (first | with_reducible assumption | exact And.left (by with_reducible assumption) | exact And.left (And.right (by with_reducible assumption)) | exact And.left (And.right (And.right (by with_reducible assumption))) | exact And.left (And.right (And.right (And.right (by with_reducible assumption)))) | exact And.left (And.right (And.right (And.right (And.right (by with_reducible assumption))))) | exact And.left (And.right (And.right (And.right (And.right (And.right (by with_reducible assumption)))))) | exact And.left (And.right (And.right (And.right (And.right (And.right (And.right (by with_reducible assumption))))))) | exact And.left (And.right (And.right (And.right (And.right (And.right (And.right (And.right (by with_reducible assumption)))))))) | exact And.left (And.right (And.right (And.right (And.right (And.right (And.right (And.right (And.right (by with_reducible assumption))))))))))) | exact Nat.ne_of_gt (by (first | with_reducible assumption | exact And.left (by with_reducible assumption) | exact And.left (And.right (by with_reducible assumption)) | exact And.left (And.right (And.right (by with_reducible assumption))) | exact And.left (And.right (And.right (And.right (by with_reducible assumption)))) | exact And.left (And.right (And.right (And.right (And.right (by with_reducible assumption))))) | exact And.left (And.right (And.right (And.right (And.right (And.right (by with_reducible assumption)))))) | exact And.left (And.right (And.right (And.right (And.right (And.right (And.right (by with_reducible assumption))))))) | exact And.left (And.right (And.right (And.right (And.right (And.right (And.right (And.right (by with_reducible assumption)))))))) | exact And.left (And.right (And.right (And.right (And.right (And.right (And.right (And.right (And.right (by with_reducible assumption))))))))))) | omega))
  k_with "k_all" => (first | assumption | ((with_reducible refine List.forall_mem_append.mpr ⟨?_, ?_⟩) <;> k_all))
  k_with "call type:range" => ((k_here; (with_reducible show wpAny _ _ (call _ [Value.int _ _]) _ _ _); (rename Fr _ _ _ _ => F'); (rename News _ _ _ _ => N'); (with_unfolding_all refine range1_rows F' N' ?_); intro _ _ _ _ _ _ _ _ _))
  k_with "subscriptTail" => ((k_here; (with_reducible show wpAny _ _ (subscriptTail _ _ (Value.ref _) (Value.int _ _)) _ _ _); k_dflt (first | (refine' lw_getCell ?I_w279 ?N_w279 ?m_w279 ?a_w279 ?b_w279 ?c_w279 ?_; (case I_w279 => assumption); (case N_w279 => k_asm); (case m_w279 => k_mem); (case a_w279 => first | exact (by decide) | omega); (case b_w279 => first | exact lt_len (by with_reducible assumption) (by decide) | omega); (case c_w279 => first | exact Nat.le_trans (Nat.le_of_eq (by with_reducible assumption)) (by exact Nat.le_of_ble_eq_true rfl) | omega); k_whole; intro _) | (refine' lw_getRef ?I_w279 ?N_w279 ?m_w279 ?a_w279 ?b_w279 ?c_w279 ?_; (case I_w279 => assumption); (case N_w279 => k_asm); (case m_w279 => k_mem); (case a_w279 => first | with_reducible assumption | exact Int.fmod_nonneg_of_pos _ (by with_reducible assumption) | omega | exact Int.fmod_nonneg_of_pos _ (by omega)); (case b_w279 => first | with_reducible assumption | exact Int.fmod_lt_of_pos _ (by with_reducible assumption) | omega | exact Int.fmod_lt_of_pos _ (by omega)); (case c_w279 => first | exact Nat.le_trans (by with_reducible assumption) (by exact Nat.le_of_ble_eq_true rfl) | omega); k_whole; intro _ _) | (refine' lw_getInt ?I_w279 ?N_w279 ?m_w279 ?a_w279 ?b_w279 ?c_w279 ?_; (case I_w279 => assumption); (case N_w279 => k_asm); (case m_w279 => k_mem); (case a_w279 => first | with_reducible assumption | exact Int.fmod_nonneg_of_pos _ (by with_reducible assumption) | omega | exact Int.fmod_nonneg_of_pos _ (by omega)); (case b_w279 => first | with_reducible assumption | exact Int.fmod_lt_of_pos _ (by with_reducible assumption) | omega | exact Int.fmod_lt_of_pos _ (by omega)); (case c_w279 => first | exact Nat.le_trans (by with_reducible assumption) (by exact Nat.le_of_ble_eq_true rfl) | omega); k_whole; intro _ _ _))))
  (rename IntsAre _ (_ ++ _) => hCe)
  (rename ((List.take 12 _).length = min 12 _) => hTk)
  (rename ((0 : Int) ≤ 12 - _ → _) => hE3)
  (rename List.length (List.flatten (List.replicate _ [0])) = _ => hE1)
  have hC12 := congrArg id (rfl : (12:Nat) = 12)
  generalize hcs : (List.map _ (List.take 12 _) ++ List.flatten (List.replicate _ [(0:Int)])) = cs at hCe
  have hLen : cs.length = 12 := by rw [← hcs, List.length_append, hE1, List.length_map]; rw [List.length_map] at hE3;  omega
  have hPos : ∀ c ∈ cs, 0 ≤ c := by
    intro c hc
    rw [← hcs] at hc
    rcases List.mem_append.mp hc with hc | hc
    · obtain ⟨k, _, rfl⟩ := List.mem_map.mp hc
      split <;> omega
    · obtain ⟨l, hl, hc⟩ := List.mem_flatten.mp hc
      rw [List.eq_of_mem_replicate hl] at hc
      rw [List.mem_singleton.mp hc]; exact Int.le_refl _
  clear hcs
  (rename Fr _ _ _ _ => lF'); (with_unfolding_all refine' For_invVF lF' ?k1_W7t2 ?k2_W7t2 ?_)
  (case k1_W7t2 => exact rfl)
  (case k2_W7t2 => exact rfl)
  repeat' (first | (k_unfold; (try dsimp only)) | (k_unmd; k_unfold; (try dsimp only)) | (k_end; wrow_close) | ((fail_if_success (with_reducible show wpAny _ _ (pyIter _) _ _ _)); walk1) | ((fail_if_success (with_reducible show wpAny _ _ (pyIter _) _ _ _)); dsimp only; walk1) | (leave1; walk_say "STEP leave1"; try dsimp only) | fail "no step")
  have hF9 := fmod_nat (getD_mem hPos 0) 9 (by decide)
  (rename Fr _ _ _ _ => lF'); (rename News _ _ _ _ => lN'); (rename IsRange _ _ _ _ _ _ _ _ => lR')
  obtain ⟨nx, hN, hJ⟩ := law_start lF' hCe lN' (by k_mem) (by omega) (by omega)
  with_unfolding_all refine' tbr_invG (n := (Int.fmod (cs.getD 0 0) 9).toNat) (LawJ _ _ _ _ _ _) (by rfl) lR' ?ks_W7t2 ?kn_W7t2 lF' hN hJ ?turn_W7t2 ?done_W7t2
  case ks_W7t2 => exact range_small _ _ (Int.toNat_of_nonneg hF9.1).symm (by omega)
  case kn_W7t2 => exact range_size _ _ (Int.toNat_of_nonneg hF9.1).symm
  case turn_W7t2 =>
    clear lF' hN hJ nx lN'
    intro i k t m₁ nx h tk own hk hoff hJ F' N'
    obtain ⟨vs, us, ep, ep', tr, hM, hvl, ho1, ho2, ho3, hm⟩ := hJ
    rw [stored_eq hm] at F'
    k_with_none
    k_with "execs cons" => ((k_here; (refine wpAny_execs_cons ?_); (try k_fold)))
    k_with "exec If" => ((k_here; (refine wpAny_If ?_); (try k_fold)))
    k_with "callWith ref nil nil" => ((k_here; (with_reducible show wpAny _ _ (callWith _ (Value.ref _) _ (backTo _ (starEach [] _)) []) _ _ _); k_dflt (refine callWith_K0 (Frag.In.keeps (by with_reducible assumption) (Fr.keep (by with_reducible assumption))) (by k_is) ?_)))
    k_with "k_mem" => (((repeat' (first | ktr_member | refine' List.mem_cons_of_mem _ ?_)); done))
    k_with "k_room" => (first | exact room2 (by with_reducible assumption) (by decide) | exact Nat.le_of_ble_eq_true rfl | exact room1 (by with_reducible assumption) (by decide) | exact room4 (by with_reducible assumption) (by decide) | (simp only [depth_under_make, depth_under_kw, depth_in1, depth_deeper, depth_caller, recursionLimit] at *; omega))
    k_with "k_units" => (first | exact room2 (by with_reducible assumption) (by decide) | exact Nat.le_of_ble_eq_true rfl | exact room1 (by with_reducible assumption) (by decide) | exact room4 (by with_reducible assumption) (by decide) | (simp only [units_in1, units_deeper, Around.mark_units, units_caller, cLine] at *; omega))
    k_with "call builtin:len" => ((k_here; (with_reducible show wpAny _ _ (call (Value.builtin "len") [Value.ref _]) _ _ _); k_dflt (refine' lw_len ?N_w238 ?m_w238 ?f_w238 ?_; (case N_w238 => k_asm); (case m_w238 => k_mem); (case f_w238 => first | exact Nat.le_trans (by with_reducible assumption) (by exact Nat.le_of_ble_eq_true rfl) | omega); k_whole)))
    k_with "call builtin:list.pop" => ((k_here; (with_reducible show wpAny _ _ (call (Value.builtin _) [Value.ref _]) _ _ _); k_dflt (refine' lw_pop ?F_w239 ?N_w239 ?U_w239 ?z_w239 ?_; (case F_w239 => k_asm); (case N_w239 => k_asm); (case U_w239 => k_upd); (case z_w239 => first | exact Nat.le_trans (by with_reducible assumption) (by exact Nat.le_of_ble_eq_true rfl) | omega); k_whole); intro h' F' N'; (try k_sweep)))
    k_with "call builtin:list.append" => ((k_here; (with_reducible show wpAny _ _ (call (Value.builtin _) [Value.ref _, _]) _ _ _); k_dflt (refine' lw_append ?F_w240 ?N_w240 ?U_w240 ?z_w240 ?_; (case F_w240 => k_asm); (case N_w240 => k_asm); (case U_w240 => k_upd); (case z_w240 => first | exact Nat.le_trans (by with_reducible assumption) (by exact Nat.le_of_ble_eq_true rfl) | omega); k_whole); intro h' F' N'; (try k_sweep)))
    k_with "call builtin:list.extend" => ((k_here; (with_reducible show wpAny _ _ (call (Value.builtin _) [Value.ref _, Value.ref _]) _ _ _); k_dflt (refine' lw_extend ?F_w241 ?N_w241 ?b_w241 ?ne_w241 ?U_w241 ?z_w241 ?y_w241 ?_; (case F_w241 => k_asm); (case N_w241 => k_asm); (case b_w241 => k_mem); (case U_w241 => k_upd); (case ne_w241 => exact Nat.succ_ne_zero _); (case z_w241 => first | exact Nat.le_trans (by with_reducible assumption) (by exact Nat.le_of_ble_eq_true rfl) | omega); (case y_w241 => exact Nat.le_of_ble_eq_true rfl); k_whole); intro h' F' N'; (try k_sweep)))
    k_with "CompEnd" => (((rename News _ _ _ _ => nE'); refine LCg.CompEnd.intro (by assumption) nE' _ (fun _ h => h) (by first | assumption | (with_unfolding_all assumption)) (by first | lcg_src | k_mem) ?_))
    k_with "k_ne" => ((refine neN ?_; (try dsimp only); first | exact Nat.ne_of_lt (by (first | with_reducible assumption | exact And.left (by with_reducible assumption) | exact And.left (And.right (by with_reducible assumption)) | exact And.left (And.right (And.right (by with_reducible assumption))) | exact And.left (And.right (And.right (And.right (by with_reducible assumption)))) | exact And.left (And.right (And.right (And.right (And.right (by with_reducible assumption))))) | exact And.left (And.right (And.right (And.right (And.right (And.right (by with_reducible assumption)))))) | exact And.left (And.right (And.right (And.right (And.right (And.right (And.right (by with_reducible assumption))))))) | exact And.left (And.right (And.right (And.right (And.right (And.right (And.right (And.right (by with_reducible assumption)))))))) | exact And.left (And.right (And.right (And.right (And.right (And.right (And.right (And.right (And.right (by with_reducible assumption))))))))))) | exact Nat.ne_of_gt (by (first | with_reducible assumption | exact And.left (by with_reducible assumption) | exact And.left (And.right (by with_reducible assumption)) | exact And.left (And.right (And.right (by with_reducible assumption))) | exact And.left (And.right (And.right (And.right (by with_reducible assumption)))) | exact And.left (And.right (And.right (And.right (And.right (by with_reducible assumption))))) | exact And.left (And.right (And.right (And.right (And.right (And.right (by with_reducible assumption)))))) | exact And.left (And.right (And.right (And.right (And.right (And.right (And.right (by with_reducible assumption))))))) | exact And.left (And.right (And.right (And.right (And.right (And.right (And.right (And.right (by with_reducible assumption)))))))) | exact And.left (And.right (And.right (And.right (And.right (And.right (And.right (And.right (And.right (by with_reducible assumption))))))))))) | omega))
    k_with "k_all" => (first | assumption | ((with_reducible refine List.forall_mem_append.mpr ⟨?_, ?_⟩) <;> k_all))
    k_with "call type:range" => ((k_here; (with_reducible show wpAny _ _ (call _ [Value.int _ _]) _ _ _); (rename Fr _ _ _ _ => F'); (rename News _ _ _ _ => N'); (with_unfolding_all refine range1_rows F' N' ?_); intro _ _ _ _ _ _ _ _ _))
    k_with "subscriptTail" => ((k_here; (with_reducible show wpAny _ _ (subscriptTail _ _ (Value.ref _) (Value.int _ _)) _ _ _); k_dflt (first | (refine' lw_getCell ?I_w246 ?N_w246 ?m_w246 ?a_w246 ?b_w246 ?c_w246 ?_; (case I_w246 => assumption); (case N_w246 => k_asm); (case m_w246 => k_mem); (case a_w246 => first | exact (by decide) | omega); (case b_w246 => first | exact lt_len (by with_reducible assumption) (by decide) | omega); (case c_w246 => first | exact Nat.le_trans (Nat.le_of_eq (by with_reducible assumption)) (by exact Nat.le_of_ble_eq_true rfl) | omega); k_whole; intro _) | (refine' lw_getRef ?I_w246 ?N_w246 ?m_w246 ?a_w246 ?b_w246 ?c_w246 ?_; (case I_w246 => assumption); (case N_w246 => k_asm); (case m_w246 => k_mem); (case a_w246 => first | with_reducible assumption | exact Int.fmod_nonneg_of_pos _ (by with_reducible assumption) | omega | exact Int.fmod_nonneg_of_pos _ (by omega)); (case b_w246 => first | with_reducible assumption | exact Int.fmod_lt_of_pos _ (by with_reducible assumption) | omega | exact Int.fmod_lt_of_pos _ (by omega)); (case c_w246 => first | exact Nat.le_trans (by with_reducible assumption) (by exact Nat.le_of_ble_eq_true rfl) | omega); k_whole; intro _ _) | (refine' lw_getInt ?I_w246 ?N_w246 ?m_w246 ?a_w246 ?b_w246 ?c_w246 ?_; (case I_w246 => assumption); (case N_w246 => k_asm); (case m_w246 => k_mem); (case a_w246 => first | with_reducible assumption | exact Int.fmod_nonneg_of_pos _ (by with_reducible assumption) | omega | exact Int.fmod_nonneg_of_pos _ (by omega)); (case b_w246 => first | with_reducible assumption | exact Int.fmod_lt_of_pos _ (by with_reducible assumption) | omega | exact Int.fmod_lt_of_pos _ (by omega)); (case c_w246 => first | exact Nat.le_trans (by with_reducible assumption) (by exact Nat.le_of_ble_eq_true rfl) | omega); k_whole; intro _ _ _))))
    k_with "call ref" => ((k_here; (with_reducible show wpAny _ _ (call (Value.ref 297) _) _ _ _); k_dflt (refine' (spec_vec _ _ _ _).use (by k_asm) (by k_asm) (by k_asm) (by k_asm) (by k_asm) (by first | exact rfl | assumption) (by exact trivial) ?hd_w247 ?hu_w247 ?_; (case hd_w247 => k_room); (case hu_w247 => k_units)); k_whole; intro r9 n9 h9 t9 F9 N9 p9; (obtain ⟨x9, dx9, t19, t29, t39, t49, t59, l9, m9⟩ := p9; (try simp only [AllLt, and_true] at l9)); (try dsimp only); (try k_unmd); (try k_sweep)))
    k_with "call ref" => ((k_here; (with_reducible show wpAny _ _ (call (Value.ref 297) _) _ _ _); k_dflt (refine' (spec_vecA _ _ _ _ _).use (by k_asm) (by k_asm) (by k_asm) (by k_asm) (by k_asm) (by first | exact rfl | assumption) (by exact trivial) ?hd_w248 ?hu_w248 ?_; (case hd_w248 => k_room); (case hu_w248 => k_units)); k_whole; intro r9 n9 h9 t9 F9 N9 p9; (obtain ⟨x9, dx9, t19, t29, t39, t49, t59, l9, m9⟩ := p9; (try simp only [AllLt, and_true] at l9)); (try dsimp only); (try k_unmd); (try k_sweep)))
    k_with "call ref" => ((k_here; (with_reducible show wpAny _ _ (call (Value.ref 318) _) _ _ _); k_dflt (refine' (spec_sym _ _ _).use (by k_asm) (by k_asm) (by k_asm) (by k_asm) (by k_asm) (by first | exact rfl | assumption) (by exact trivial) ?hd_w249 ?hu_w249 ?_; (case hd_w249 => k_room); (case hu_w249 => k_units)); k_whole; intro r9 n9 h9 t9 F9 N9 p9; (obtain ⟨x9, dx9, t19, t29, t39, t49, l9, m9⟩ := p9; (try simp only [AllLt, and_true] at l9)); (try dsimp only); (try k_unmd); (try k_sweep)))
    k_with "call ref" => ((k_here; (with_reducible show wpAny _ _ (call (Value.ref 340) _) _ _ _); k_dflt (refine' (spec_call _ _ _).use (by k_asm) (by k_asm) (by k_asm) (by k_asm) (by k_asm) (by first | exact rfl | assumption) (by exact trivial) ?hd_w250 ?hu_w250 ?_; (case hd_w250 => k_room); (case hu_w250 => k_units)); k_whole; intro r9 n9 h9 t9 F9 N9 p9; (obtain ⟨x9, dx9, t19, t29, t39, t49, t59, t69, l9, m9⟩ := p9; (try simp only [AllLt, and_true] at l9)); (try dsimp only); (try k_unmd); (try k_sweep)))
    k_with "call ref" => ((k_here; (with_reducible show wpAny _ _ (call (Value.ref 362) _) _ _ _); k_dflt (refine' (spec_clo _ _ _).use (by k_asm) (by k_asm) (by k_asm) (by k_asm) (by k_asm) (by first | exact rfl | assumption) (by exact trivial) ?hd_w251 ?hu_w251 ?_; (case hd_w251 => k_room); (case hu_w251 => k_units)); k_whole; intro r9 n9 h9 t9 F9 N9 p9; (obtain ⟨x9, dx9, t19, t29, t39, t49, t59, t69, l9, m9⟩ := p9; (try simp only [AllLt, and_true] at l9)); (try dsimp only); (try k_unmd); (try k_sweep)))
    k_with "call ref" => ((k_here; (with_reducible show wpAny _ _ (call (Value.ref 268) _) _ _ _); k_dflt (refine' (spec_mis _).use (by k_asm) (by k_asm) (by k_asm) (by k_asm) (by k_asm) (by first | exact rfl | assumption) (by exact trivial) ?hd_w252 ?hu_w252 ?_; (case hd_w252 => k_room); (case hu_w252 => k_units)); k_whole; intro r9 n9 h9 t9 F9 N9 p9; (obtain ⟨x9, dx9, t19, t29, t39, l9, m9⟩ := p9; (try simp only [AllLt, and_true] at l9)); (try dsimp only); (try k_unmd); (try k_sweep)))
    (rename Made _ _ _ _ => hM)
    (rename List.length _ = _ + 1 => hvl)
    (rename (rangeKs _ _)[_]? = some _ => hk)
    (rename List.length _ = 12 => hLen)
    (rename (0 ≤ Int.fmod _ 9 ∧ _) => hF9)
    (rename Fr _ _ _ _ => lF'); (rename News _ _ _ _ => lN')
    (try dsimp only [envOf] at lF' lN')
    revert lF' lN'
    (repeat (rename Fr _ _ _ _ => hZ; clear hZ)); (repeat (rename News _ _ _ _ => hZ; clear hZ)); (repeat (rename BMod _ _ _ _ _ => hZ; clear hZ)); (repeat (rename ReadsAll _ _ _ _ => hZ; clear hZ)); (repeat (rename IsRange _ _ _ _ _ _ _ _ => hZ; clear hZ))
    intro F' N'
    obtain ⟨rfl, hi⟩ := range_at hk
    simp only [List.cons_append] at N'
    (rename TbOff _ _ => hoff)
    obtain ⟨hw1, hw2⟩ := off_two hoff
    dsimp only at hw1 hw2
    have hul := hM.len
    obtain ⟨hv9, hu9⟩ := made_small hM hvl hi hF9
    have hp9 := made_pos hvl
    repeat' (first | (k_unfold; (try dsimp only)) | (k_unmd; k_unfold; (try dsimp only)) | (k_end; wrow_close) | ((fail_if_success (with_reducible show TbEnd _ _ _ _ _ _)); walk1) | ((fail_if_success (with_reducible show TbEnd _ _ _ _ _ _)); dsimp only; walk1) | (leave1; walk_say "STEP leave1"; try dsimp only) | fail "no step")
    · (rename Made _ _ _ _ => hM); (rename List.length _ = _ + 1 => hvl)
      (rename TbOff _ _ => hoff)
      (rename Fr _ _ _ _ => lF); (rename News _ _ _ _ => lN)
      refine' law_end (add := [_, _]) lF lN hM hvl (by assumption) (by assumption) (by assumption) hoff ?hadd_W11e0 ?hz_W11e0 ?hn_W11e0 ?hb_W11e0 (law_same (by assumption) (by rfl))
      case hadd_W11e0 =>
        (repeat' (first | exact List.forall_mem_nil _ | (refine List.forall_mem_cons.mpr ⟨?_, ?_⟩)))
        all_goals (try dsimp only)
        all_goals (first | (first | with_reducible assumption | exact And.right (by with_reducible assumption) | exact And.right (And.right (by with_reducible assumption)) | exact And.right (And.right (And.right (by with_reducible assumption))) | exact And.right (And.right (And.right (And.right (by with_reducible assumption)))) | exact And.right (And.right (And.right (And.right (And.right (by with_reducible assumption))))) | exact And.right (And.right (And.right (And.right (And.right (And.right (by with_reducible assumption)))))) | exact And.right (And.right (And.right (And.right (And.right (And.right (And.right (by with_reducible assumption))))))) | exact And.right (And.right (And.right (And.right (And.right (And.right (And.right (And.right (by with_reducible assumption)))))))) | exact And.right (And.right (And.right (And.right (And.right (And.right (And.right (And.right (And.right (by with_reducible assumption)))))))))) | exact up4 (by (first | with_reducible assumption | exact And.left (by with_reducible assumption) | exact And.left (And.right (by with_reducible assumption)) | exact And.left (And.right (And.right (by with_reducible assumption))) | exact And.left (And.right (And.right (And.right (by with_reducible assumption)))) | exact And.left (And.right (And.right (And.right (And.right (by with_reducible assumption))))) | exact And.left (And.right (And.right (And.right (And.right (And.right (by with_reducible assumption)))))) | exact And.left (And.right (And.right (And.right (And.right (And.right (And.right (by with_reducible assumption))))))) | exact And.left (And.right (And.right (And.right (And.right (And.right (And.right (And.right (by with_reducible assumption)))))))) | exact And.left (And.right (And.right (And.right (And.right (And.right (And.right (And.right (And.right (by with_reducible assumption))))))))))) (by (first | with_reducible assumption | exact And.right (by with_reducible assumption) | exact And.right (And.right (by with_reducible assumption)) | exact And.right (And.right (And.right (by with_reducible assumption))) | exact And.right (And.right (And.right (And.right (by with_reducible assumption)))) | exact And.right (And.right (And.right (And.right (And.right (by with_reducible assumption))))) | exact And.right (And.right (And.right (And.right (And.right (And.right (by with_reducible assumption)))))) | exact And.right (And.right (And.right (And.right (And.right (And.right (And.right (by with_reducible assumption))))))) | exact And.right (And.right (And.right (And.right (And.right (And.right (And.right (And.right (by with_reducible assumption)))))))) | exact And.right (And.right (And.right (And.right (And.right (And.right (And.right (And.right (And.right (by with_reducible assumption))))))))))) | (refine ⟨?_, ?_, ?_, ?_⟩ <;> (first | tbn_find | (exact tbn_up (by assumption) (by tbn_find)) | ((try dsimp only); omega))))
      case hn_W11e0 => exact NodeIn.sym (List.mem_append_left _ (by k_memK)) (List.mem_append_left _ (by k_memK))
      case hz_W11e0 => exact rfl
      case hb_W11e0 => exact Nat.pow_pos (by decide)
    · (rename Made _ _ _ _ => hM); (rename List.length _ = _ + 1 => hvl)
      (rename TbOff _ _ => hoff)
      (rename (_[_]? = some (Value.int _ _)) => i2); revert i2; (rename (_[_]? = some (Value.int _ _)) => i1); intro i2
      (rename (_[_]? = some (Value.ref _)) => r2); revert r2; (rename (_[_]? = some (Value.ref _)) => r1); intro r2
      obtain ⟨n1, z1, k1, b1⟩ := hM.both r1 i1
      obtain ⟨n2, z2, k2, b2⟩ := hM.both r2 i2
      (rename Fr _ _ _ _ => lF); (rename News _ _ _ _ => lN)
      refine' law_end (add := [_, _, _, _, _, _]) lF lN hM hvl (by assumption) (by assumption) (by assumption) hoff ?hadd_W11e1 ?hz_W11e1 ?hn_W11e1 ?hb_W11e1 (law_same (by assumption) (by rfl))
      case hadd_W11e1 =>
        (repeat' (first | exact List.forall_mem_nil _ | (refine List.forall_mem_cons.mpr ⟨?_, ?_⟩)))
        all_goals (try dsimp only)
        all_goals (first | (first | with_reducible assumption | exact And.right (by with_reducible assumption) | exact And.right (And.right (by with_reducible assumption)) | exact And.right (And.right (And.right (by with_reducible assumption))) | exact And.right (And.right (And.right (And.right (by with_reducible assumption)))) | exact And.right (And.right (And.right (And.right (And.right (by with_reducible assumption))))) | exact And.right (And.right (And.right (And.right (And.right (And.right (by with_reducible assumption)))))) | exact And.right (And.right (And.right (And.right (And.right (And.right (And.right (by with_reducible assumption))))))) | exact And.right (And.right (And.right (And.right (And.right (And.right (And.right (And.right (by with_reducible assumption)))))))) | exact And.right (And.right (And.right (And.right (And.right (And.right (And.right (And.right (And.right (by with_reducible assumption)))))))))) | exact up4 (by (first | with_reducible assumption | exact And.left (by with_reducible assumption) | exact And.left (And.right (by with_reducible assumption)) | exact And.left (And.right (And.right (by with_reducible assumption))) | exact And.left (And.right (And.right (And.right (by with_reducible assumption)))) | exact And.left (And.right (And.right (And.right (And.right (by with_reducible assumption))))) | exact And.left (And.right (And.right (And.right (And.right (And.right (by with_reducible assumption)))))) | exact And.left (And.right (And.right (And.right (And.right (And.right (And.right (by with_reducible assumption))))))) | exact And.left (And.right (And.right (And.right (And.right (And.right (And.right (And.right (by with_reducible assumption)))))))) | exact And.left (And.right (And.right (And.right (And.right (And.right (And.right (And.right (And.right (by with_reducible assumption))))))))))) (by (first | with_reducible assumption | exact And.right (by with_reducible assumption) | exact And.right (And.right (by with_reducible assumption)) | exact And.right (And.right (And.right (by with_reducible assumption))) | exact And.right (And.right (And.right (And.right (by with_reducible assumption)))) | exact And.right (And.right (And.right (And.right (And.right (by with_reducible assumption))))) | exact And.right (And.right (And.right (And.right (And.right (And.right (by with_reducible assumption)))))) | exact And.right (And.right (And.right (And.right (And.right (And.right (And.right (by with_reducible assumption))))))) | exact And.right (And.right (And.right (And.right (And.right (And.right (And.right (And.right (by with_reducible assumption)))))))) | exact And.right (And.right (And.right (And.right (And.right (And.right (And.right (And.right (And.right (by with_reducible assumption))))))))))) | (refine ⟨?_, ?_, ?_, ?_⟩ <;> (first | tbn_find | (exact tbn_up (by assumption) (by tbn_find)) | ((try dsimp only); omega))))
      case hn_W11e1 => exact NodeIn.call (List.mem_append_left _ (by k_memK)) (List.mem_append_left _ (by k_memK)) (List.mem_append_left _ (by k_memK)) (NodeIn.sym (List.mem_append_left _ (by k_memK)) (List.mem_append_left _ (by k_memK))) (NodeIn.mono k1 fun p hp => List.mem_append_right _ hp) (NodeIn.mono k2 fun p hp => List.mem_append_right _ hp)
      case hz_W11e1 => rw [z1, z2]; omega
      case hb_W11e1 => exact grow_bound b1 b2 (List.getElem?_eq_some_iff.mp r1).1 (List.getElem?_eq_some_iff.mp r2).1
    · (rename Made _ _ _ _ => hM); (rename List.length _ = _ + 1 => hvl)
      (rename TbOff _ _ => hoff)
      (rename (_[_]? = some (Value.int _ _)) => i2); revert i2; (rename (_[_]? = some (Value.int _ _)) => i1); intro i2
      (rename (_[_]? = some (Value.ref _)) => r2); revert r2; (rename (_[_]? = some (Value.ref _)) => r1); intro r2
      obtain ⟨n1, z1, k1, b1⟩ := hM.both r1 i1
      obtain ⟨n2, z2, k2, b2⟩ := hM.both r2 i2
      (rename Fr _ _ _ _ => lF); (rename News _ _ _ _ => lN)
      refine' law_end (add := [_, _, _, _, _, _, _]) lF lN hM hvl (by assumption) (by assumption) (by assumption) hoff ?hadd_W11e2 ?hz_W11e2 ?hn_W11e2 ?hb_W11e2 (law_same (by assumption) (by rfl))
      case hadd_W11e2 =>
        (repeat' (first | exact List.forall_mem_nil _ | (refine List.forall_mem_cons.mpr ⟨?_, ?_⟩)))
        all_goals (try dsimp only)
        all_goals (first | (first | with_reducible assumption | exact And.right (by with_reducible assumption) | exact And.right (And.right (by with_reducible assumption)) | exact And.right (And.right (And.right (by with_reducible assumption))) | exact And.right (And.right (And.right (And.right (by with_reducible assumption)))) | exact And.right (And.right (And.right (And.right (And.right (by with_reducible assumption))))) | exact And.right (And.right (And.right (And.right (And.right (And.right (by with_reducible assumption)))))) | exact And.right (And.right (And.right (And.right (And.right (And.right (And.right (by with_reducible assumption))))))) | exact And.right (And.right (And.right (And.right (And.right (And.right (And.right (And.right (by with_reducible assumption)))))))) | exact And.right (And.right (And.right (And.right (And.right (And.right (And.right (And.right (And.right (by with_reducible assumption)))))))))) | exact up4 (by (first | with_reducible assumption | exact And.left (by with_reducible assumption) | exact And.left (And.right (by with_reducible assumption)) | exact And.left (And.right (And.right (by with_reducible assumption))) | exact And.left (And.right (And.right (And.right (by with_reducible assumption)))) | exact And.left (And.right (And.right (And.right (And.right (by with_reducible assumption))))) | exact And.left (And.right (And.right (And.right (And.right (And.right (by with_reducible assumption)))))) | exact And.left (And.right (And.right (And.right (And.right (And.right (And.right (by with_reducible assumption))))))) | exact And.left (And.right (And.right (And.right (And.right (And.right (And.right (And.right (by with_reducible assumption)))))))) | exact And.left (And.right (And.right (And.right (And.right (And.right (And.right (And.right (And.right (by with_reducible assumption))))))))))) (by (first | with_reducible assumption | exact And.right (by with_reducible assumption) | exact And.right (And.right (by with_reducible assumption)) | exact And.right (And.right (And.right (by with_reducible assumption))) | exact And.right (And.right (And.right (And.right (by with_reducible assumption)))) | exact And.right (And.right (And.right (And.right (And.right (by with_reducible assumption))))) | exact And.right (And.right (And.right (And.right (And.right (And.right (by with_reducible assumption)))))) | exact And.right (And.right (And.right (And.right (And.right (And.right (And.right (by with_reducible assumption))))))) | exact And.right (And.right (And.right (And.right (And.right (And.right (And.right (And.right (by with_reducible assumption)))))))) | exact And.right (And.right (And.right (And.right (And.right (And.right (And.right (And.right (And.right (by with_reducible assumption))))))))))) | (refine ⟨?_, ?_, ?_, ?_⟩ <;> (first | tbn_find | (exact tbn_up (by assumption) (by tbn_find)) | ((try dsimp only); omega))))
      case hn_W11e2 => exact NodeIn.lst (List.mem_append_left _ (by k_memK)) (List.mem_append_left _ (by k_memK)) (List.mem_append_left _ (by k_memK)) (List.mem_append_left _ (by k_memK)) (by assumption) (by assumption) (NodeIn.chr (List.mem_append_left _ (by k_memK)) (List.mem_append_left _ (by k_memK))) (NodeIn.mono k1 fun p hp => List.mem_append_right _ hp) (NodeIn.mono k2 fun p hp => List.mem_append_right _ hp)
      case hz_W11e2 => rw [z1, z2]; omega
      case hb_W11e2 => exact grow_bound b1 b2 (List.getElem?_eq_some_iff.mp r1).1 (List.getElem?_eq_some_iff.mp r2).1
    · (rename Made _ _ _ _ => hM); (rename List.length _ = _ + 1 => hvl)
      (rename TbOff _ _ => hoff)
      (rename Fr _ _ _ _ => lF); (rename News _ _ _ _ => lN)
      refine' law_end (add := [_, _, _, _, _]) lF lN hM hvl (by assumption) (by assumption) (by assumption) hoff ?hadd_W11e3 ?hz_W11e3 ?hn_W11e3 ?hb_W11e3 (law_same (by assumption) (by rfl))
      case hadd_W11e3 =>
        (repeat' (first | exact List.forall_mem_nil _ | (refine List.forall_mem_cons.mpr ⟨?_, ?_⟩)))
        all_goals (try dsimp only)
        all_goals (first | (first | with_reducible assumption | exact And.right (by with_reducible assumption) | exact And.right (And.right (by with_reducible assumption)) | exact And.right (And.right (And.right (by with_reducible assumption))) | exact And.right (And.right (And.right (And.right (by with_reducible assumption)))) | exact And.right (And.right (And.right (And.right (And.right (by with_reducible assumption))))) | exact And.right (And.right (And.right (And.right (And.right (And.right (by with_reducible assumption)))))) | exact And.right (And.right (And.right (And.right (And.right (And.right (And.right (by with_reducible assumption))))))) | exact And.right (And.right (And.right (And.right (And.right (And.right (And.right (And.right (by with_reducible assumption)))))))) | exact And.right (And.right (And.right (And.right (And.right (And.right (And.right (And.right (And.right (by with_reducible assumption)))))))))) | exact up4 (by (first | with_reducible assumption | exact And.left (by with_reducible assumption) | exact And.left (And.right (by with_reducible assumption)) | exact And.left (And.right (And.right (by with_reducible assumption))) | exact And.left (And.right (And.right (And.right (by with_reducible assumption)))) | exact And.left (And.right (And.right (And.right (And.right (by with_reducible assumption))))) | exact And.left (And.right (And.right (And.right (And.right (And.right (by with_reducible assumption)))))) | exact And.left (And.right (And.right (And.right (And.right (And.right (And.right (by with_reducible assumption))))))) | exact And.left (And.right (And.right (And.right (And.right (And.right (And.right (And.right (by with_reducible assumption)))))))) | exact And.left (And.right (And.right (And.right (And.right (And.right (And.right (And.right (And.right (by with_reducible assumption))))))))))) (by (first | with_reducible assumption | exact And.right (by with_reducible assumption) | exact And.right (And.right (by with_reducible assumption)) | exact And.right (And.right (And.right (by with_reducible assumption))) | exact And.right (And.right (And.right (And.right (by with_reducible assumption)))) | exact And.right (And.right (And.right (And.right (And.right (by with_reducible assumption))))) | exact And.right (And.right (And.right (And.right (And.right (And.right (by with_reducible assumption)))))) | exact And.right (And.right (And.right (And.right (And.right (And.right (And.right (by with_reducible assumption))))))) | exact And.right (And.right (And.right (And.right (And.right (And.right (And.right (And.right (by with_reducible assumption)))))))) | exact And.right (And.right (And.right (And.right (And.right (And.right (And.right (And.right (And.right (by with_reducible assumption))))))))))) | (refine ⟨?_, ?_, ?_, ?_⟩ <;> (first | tbn_find | (exact tbn_up (by assumption) (by tbn_find)) | ((try dsimp only); omega))))
      case hn_W11e3 => exact NodeIn.dbl (List.mem_append_left _ (by k_memK)) (List.mem_append_left _ (by k_memK))
      case hz_W11e3 => exact rfl
      case hb_W11e3 => exact Nat.pow_pos (by decide)
    · (rename Made _ _ _ _ => hM); (rename List.length _ = _ + 1 => hvl)
      (rename TbOff _ _ => hoff)
      (rename (_[_]? = some (Value.int _ _)) => i2); revert i2; (rename (_[_]? = some (Value.int _ _)) => i1); intro i2
      (rename (_[_]? = some (Value.ref _)) => r2); revert r2; (rename (_[_]? = some (Value.ref _)) => r1); intro r2
      obtain ⟨n1, z1, k1, b1⟩ := hM.both r1 i1
      obtain ⟨n2, z2, k2, b2⟩ := hM.both r2 i2
      (rename Fr _ _ _ _ => lF); (rename News _ _ _ _ => lN)
      refine' law_end (add := [_, _, _, _, _, _, _]) lF lN hM hvl (by assumption) (by assumption) (by assumption) hoff ?hadd_W11e4 ?hz_W11e4 ?hn_W11e4 ?hb_W11e4 (law_same (by assumption) (by rfl))
      case hadd_W11e4 =>
        (repeat' (first | exact List.forall_mem_nil _ | (refine List.forall_mem_cons.mpr ⟨?_, ?_⟩)))
        all_goals (try dsimp only)
        all_goals (first | (first | with_reducible assumption | exact And.right (by with_reducible assumption) | exact And.right (And.right (by with_reducible assumption)) | exact And.right (And.right (And.right (by with_reducible assumption))) | exact And.right (And.right (And.right (And.right (by with_reducible assumption)))) | exact And.right (And.right (And.right (And.right (And.right (by with_reducible assumption))))) | exact And.right (And.right (And.right (And.right (And.right (And.right (by with_reducible assumption)))))) | exact And.right (And.right (And.right (And.right (And.right (And.right (And.right (by with_reducible assumption))))))) | exact And.right (And.right (And.right (And.right (And.right (And.right (And.right (And.right (by with_reducible assumption)))))))) | exact And.right (And.right (And.right (And.right (And.right (And.right (And.right (And.right (And.right (by with_reducible assumption)))))))))) | exact up4 (by (first | with_reducible assumption | exact And.left (by with_reducible assumption) | exact And.left (And.right (by with_reducible assumption)) | exact And.left (And.right (And.right (by with_reducible assumption))) | exact And.left (And.right (And.right (And.right (by with_reducible assumption)))) | exact And.left (And.right (And.right (And.right (And.right (by with_reducible assumption))))) | exact And.left (And.right (And.right (And.right (And.right (And.right (by with_reducible assumption)))))) | exact And.left (And.right (And.right (And.right (And.right (And.right (And.right (by with_reducible assumption))))))) | exact And.left (And.right (And.right (And.right (And.right (And.right (And.right (And.right (by with_reducible assumption)))))))) | exact And.left (And.right (And.right (And.right (And.right (And.right (And.right (And.right (And.right (by with_reducible assumption))))))))))) (by (first | with_reducible assumption | exact And.right (by with_reducible assumption) | exact And.right (And.right (by with_reducible assumption)) | exact And.right (And.right (And.right (by with_reducible assumption))) | exact And.right (And.right (And.right (And.right (by with_reducible assumption)))) | exact And.right (And.right (And.right (And.right (And.right (by with_reducible assumption))))) | exact And.right (And.right (And.right (And.right (And.right (And.right (by with_reducible assumption)))))) | exact And.right (And.right (And.right (And.right (And.right (And.right (And.right (by with_reducible assumption))))))) | exact And.right (And.right (And.right (And.right (And.right (And.right (And.right (And.right (by with_reducible assumption)))))))) | exact And.right (And.right (And.right (And.right (And.right (And.right (And.right (And.right (And.right (by with_reducible assumption))))))))))) | (refine ⟨?_, ?_, ?_, ?_⟩ <;> (first | tbn_find | (exact tbn_up (by assumption) (by tbn_find)) | ((try dsimp only); omega))))
      case hn_W11e4 => exact NodeIn.clo (List.mem_append_left _ (by k_memK)) (List.mem_append_left _ (by k_memK)) (List.mem_append_left _ (by k_memK)) (List.mem_append_left _ (by k_memK)) (List.mem_append_left _ (by k_memK)) (NodeIn.mis (List.mem_append_left _ (by k_memK)) (List.mem_append_left _ (by k_memK))) (NodeIn.mono k1 fun p hp => List.mem_append_right _ hp) (NodeIn.mono k2 fun p hp => List.mem_append_right _ hp)
      case hz_W11e4 => rw [z1, z2]; omega
      case hb_W11e4 => exact grow_bound b1 b2 (List.getElem?_eq_some_iff.mp r1).1 (List.getElem?_eq_some_iff.mp r2).1
  case done_W7t2 =>
    clear lF' hN hJ nx lN'
    intro m₁ nx h tk hJ F' N'
    obtain ⟨vs, us, ep, ep', tr, hM, hvl, ho1, ho2, ho3, hm⟩ := hJ
    rw [stored_eq hm] at F'
    k_with_none
    k_with "execs cons" => ((k_here; (refine wpAny_execs_cons ?_); (try k_fold)))
    k_with "exec If" => ((k_here; (refine wpAny_If ?_); (try k_fold)))
    k_with "callWith ref nil nil" => ((k_here; (with_reducible show wpAny _ _ (callWith _ (Value.ref _) _ (backTo _ (starEach [] _)) []) _ _ _); k_dflt (refine callWith_K0 (Frag.In.keeps (by with_reducible assumption) (Fr.keep (by with_reducible assumption))) (by k_is) ?_)))
    k_with "k_mem" => (((repeat' (first | ktr_member | refine' List.mem_cons_of_mem _ ?_)); done))
    k_with "k_room" => (first | exact room2 (by with_reducible assumption) (by decide) | exact Nat.le_of_ble_eq_true rfl | exact room1 (by with_reducible assumption) (by decide) | exact room4 (by with_reducible assumption) (by decide) | (simp only [depth_under_make, depth_under_kw, depth_in1, depth_deeper, depth_caller, recursionLimit] at *; omega))
    k_with "k_units" => (first | exact room2 (by with_reducible assumption) (by decide) | exact Nat.le_of_ble_eq_true rfl | exact room1 (by with_reducible assumption) (by decide) | exact room4 (by with_reducible assumption) (by decide) | (simp only [units_in1, units_deeper, Around.mark_units, units_caller, cLine] at *; omega))
    k_with "call builtin:len" => ((k_here; (with_reducible show wpAny _ _ (call (Value.builtin "len") [Value.ref _]) _ _ _); k_dflt (refine' lw_len ?N_w256 ?m_w256 ?f_w256 ?_; (case N_w256 => k_asm); (case m_w256 => k_mem); (case f_w256 => first | exact Nat.le_trans (by with_reducible assumption) (by exact Nat.le_of_ble_eq_true rfl) | omega); k_whole)))
    k_with "call builtin:list.pop" => ((k_here; (with_reducible show wpAny _ _ (call (Value.builtin _) [Value.ref _]) _ _ _); k_dflt (refine' lw_pop ?F_w257 ?N_w257 ?U_w257 ?z_w257 ?_; (case F_w257 => k_asm); (case N_w257 => k_asm); (case U_w257 => k_upd); (case z_w257 => first | exact Nat.le_trans (by with_reducible assumption) (by exact Nat.le_of_ble_eq_true rfl) | omega); k_whole); intro h' F' N'; (try k_sweep)))
    k_with "call builtin:list.append" => ((k_here; (with_reducible show wpAny _ _ (call (Value.builtin _) [Value.ref _, _]) _ _ _); k_dflt (refine' lw_append ?F_w258 ?N_w258 ?U_w258 ?z_w258 ?_; (case F_w258 => k_asm); (case N_w258 => k_asm); (case U_w258 => k_upd); (case z_w258 => first | exact Nat.le_trans (by with_reducible assumption) (by exact Nat.le_of_ble_eq_true rfl) | omega); k_whole); intro h' F' N'; (try k_sweep)))
    k_with "call builtin:list.extend" => ((k_here; (with_reducible show wpAny _ _ (call (Value.builtin _) [Value.ref _, Value.ref _]) _ _ _); k_dflt (refine' lw_extend ?F_w259 ?N_w259 ?b_w259 ?ne_w259 ?U_w259 ?z_w259 ?y_w259 ?_; (case F_w259 => k_asm); (case N_w259 => k_asm); (case b_w259 => k_mem); (case U_w259 => k_upd); (case ne_w259 => exact Nat.succ_ne_zero _); (case z_w259 => first | exact Nat.le_trans (by with_reducible assumption) (by exact Nat.le_of_ble_eq_true rfl) | omega); (case y_w259 => exact Nat.le_of_ble_eq_true rfl); k_whole); intro h' F' N'; (try k_sweep)))
    k_with "CompEnd" => (((rename News _ _ _ _ => nE'); refine LCg.CompEnd.intro (by assumption) nE' _ (fun _ h => h) (by first | assumption | (with_unfolding_all assumption)) (by first | lcg_src | k_mem) ?_))
    k_with "k_ne" => ((refine neN ?_; (try dsimp only); first | exact Nat.ne_of_lt (by (first | with_reducible assumption | exact And.left (by with_reducible assumption) | exact And.left (And.right (by with_reducible assumption)) | exact And.left (And.right (And.right (by with_reducible assumption))) | exact And.left (And.right (And.right (And.right (by with_reducible assumption)))) | exact And.left (And.right (And.right (And.right (And.right (by with_reducible assumption))))) | exact And.left (And.right (And.right (And.right (And.right (And.right (by with_reducible assumption)))))) | exact And.left (And.right (And.right (And.right (And.right (And.right (And.right (by with_reducible assumption))))))) | exact And.left (And.right (And.right (And.right (And.right (And.right (And.right (And.right (by with_reducible assumption)))))))) | exact And.left (And.right (And.right (And.right (And.right (And.right (And.right (And.right (And.right (by with_reducible assumption))))))))))) | exact Nat.ne_of_gt (by (first | with_reducible assumption | exact And.left (by with_reducible assumption) | exact And.left (And.right (by with_reducible assumption)) | exact And.left (And.right (And.right (by with_reducible assumption))) | exact And.left (And.right (And.right (And.right (by with_reducible assumption)))) | exact And.left (And.right (And.right (And.right (And.right (by with_reducible assumption))))) | exact And.left (And.right (And.right (And.right (And.right (And.right (by with_reducible assumption)))))) | exact And.left (And.right (And.right (And.right (And.right (And.right (And.right (by with_reducible assumption))))))) | exact And.left (And.right (And.right (And.right (And.right (And.right (And.right (And.right (by with_reducible assumption)))))))) | exact And.left (And.right (And.right (And.right (And.right (And.right (And.right (And.right (And.right (by with_reducible assumption))))))))))) | omega))
    k_with "k_all" => (first | assumption | ((with_reducible refine List.forall_mem_append.mpr ⟨?_, ?_⟩) <;> k_all))
    k_with "call type:range" => ((k_here; (with_reducible show wpAny _ _ (call _ [Value.int _ _]) _ _ _); (rename Fr _ _ _ _ => F'); (rename News _ _ _ _ => N'); (with_unfolding_all refine range1_rows F' N' ?_); intro _ _ _ _ _ _ _ _ _))
    k_with "subscriptTail" => ((k_here; (with_reducible show wpAny _ _ (subscriptTail _ _ (Value.ref _) (Value.int _ _)) _ _ _); k_dflt (first | (refine' lw_getCell ?I_w264 ?N_w264 ?m_w264 ?a_w264 ?b_w264 ?c_w264 ?_; (case I_w264 => assumption); (case N_w264 => k_asm); (case m_w264 => k_mem); (case a_w264 => first | exact (by decide) | omega); (case b_w264 => first | exact lt_len (by with_reducible assumption) (by decide) | omega); (case c_w264 => first | exact Nat.le_trans (Nat.le_of_eq (by with_reducible assumption)) (by exact Nat.le_of_ble_eq_true rfl) | omega); k_whole; intro _) | (refine' lw_getRef ?I_w264 ?N_w264 ?m_w264 ?a_w264 ?b_w264 ?c_w264 ?_; (case I_w264 => assumption); (case N_w264 => k_asm); (case m_w264 => k_mem); (case a_w264 => first | with_reducible assumption | exact Int.fmod_nonneg_of_pos _ (by with_reducible assumption) | omega | exact Int.fmod_nonneg_of_pos _ (by omega)); (case b_w264 => first | with_reducible assumption | exact Int.fmod_lt_of_pos _ (by with_reducible assumption) | omega | exact Int.fmod_lt_of_pos _ (by omega)); (case c_w264 => first | exact Nat.le_trans (by with_reducible assumption) (by exact Nat.le_of_ble_eq_true rfl) | omega); k_whole; intro _ _) | (refine' lw_getInt ?I_w264 ?N_w264 ?m_w264 ?a_w264 ?b_w264 ?c_w264 ?_; (case I_w264 => assumption); (case N_w264 => k_asm); (case m_w264 => k_mem); (case a_w264 => first | with_reducible assumption | exact Int.fmod_nonneg_of_pos _ (by with_reducible assumption) | omega | exact Int.fmod_nonneg_of_pos _ (by omega)); (case b_w264 => first | with_reducible assumption | exact Int.fmod_lt_of_pos _ (by with_reducible assumption) | omega | exact Int.fmod_lt_of_pos _ (by omega)); (case c_w264 => first | exact Nat.le_trans (by with_reducible assumption) (by exact Nat.le_of_ble_eq_true rfl) | omega); k_whole; intro _ _ _))))
    k_with "ite" => ((k_here; k_dflt (refine ite_neg (min_ne _ _) ?_)))
    k_with "subscriptTail" => ((k_here; k_extra "tsz"; (with_reducible show wpAny _ _ (subscriptTail _ _ (Value.ref _) (Value.int _ _)) _ _ _); k_dflt (refine' lw_getItem ?N_w266 ?m_w266 ?a_w266 ?b_w266 ?x_w266 ?_; (case N_w266 => k_asm); (case m_w266 => k_mem); (case x_w266 => assumption); (case a_w266 => omega); (case b_w266 => omega); k_whole)))
    k_with "call ref" => ((k_here; k_extra "tsz"; (with_reducible show wpAny _ _ (call (Value.ref 26) _) _ _ _); k_dflt (k_extra "tree_size"); k_whole; intro r9 n9 h9 t9 F9 N9 p9; (cases p9); (try dsimp only); (try k_sweep)))
    (rename Made _ _ _ _ => hM)
    (rename List.length _ = _ + 1 => hvl)
    (rename List.length _ = 12 => hLen)
    (rename (∀ c ∈ _, (0:Int) ≤ c) => hPos)
    (rename (0 ≤ Int.fmod _ 9 ∧ _) => hF9)
    (rename Fr _ _ _ _ => lF'); (rename News _ _ _ _ => lN')
    (try dsimp only [envOf] at lF' lN')
    revert lF' lN'
    (repeat (rename Fr _ _ _ _ => hZ; clear hZ)); (repeat (rename News _ _ _ _ => hZ; clear hZ)); (repeat (rename BMod _ _ _ _ _ => hZ; clear hZ)); (repeat (rename ReadsAll _ _ _ _ => hZ; clear hZ)); (repeat (rename IsRange _ _ _ _ _ _ _ _ => hZ; clear hZ))
    intro F' N'
    have hul := hM.len
    repeat' (first | (k_unfold; (try dsimp only)) | (k_unmd; k_unfold; (try dsimp only)) | (k_end; wrow_close) | ((fail_if_success (with_reducible show wpAny _ _ (exec (Stmt.For _ _ _ _ _) _) _ _ _)); walk1) | ((fail_if_success (with_reducible show wpAny _ _ (exec (Stmt.For _ _ _ _ _) _) _ _ _)); dsimp only; walk1) | (leave1; walk_say "STEP leave1"; try dsimp only) | fail "no step")
    (rename Fr _ _ _ _ => lF'); (with_unfolding_all refine' For_invVF lF' ?k1_W12t4 ?k2_W12t4 ?_)
    (case k1_W12t4 => exact rfl)
    (case k2_W12t4 => exact rfl)
    repeat' (first | (k_unfold; (try dsimp only)) | (k_unmd; k_unfold; (try dsimp only)) | (k_end; wrow_close) | ((fail_if_success (with_reducible show wpAny _ _ (pyIter _) _ _ _)); walk1) | ((fail_if_success (with_reducible show wpAny _ _ (pyIter _) _ _ _)); dsimp only; walk1) | (leave1; walk_say "STEP leave1"; try dsimp only) | fail "no step")
    (rename Fr _ _ _ _ => lF'); (rename News _ _ _ _ => lN'); (rename IsRange _ _ _ _ _ _ _ _ => lR')
    with_unfolding_all refine' loop_keep _ [Str.ofString "spot", Str.ofString "most"] (by rfl) lR' (by rfl) (by omega) lF' lN' ?turn_W12t4 ?done_W12t4
    case turn_W12t4 =>
      clear lF' lN' lR'
      intro i t u h tk own hi hoff F' N'
      (try dsimp only [envOf] at F' N')
      obtain ⟨a9, n9, t9, e1, e2, hnode, hb⟩ := hM.get (k := i) hi
      have hb2 : n9 ≤ 100000 := Nat.le_trans hb (Nat.le_trans (Nat.pow_le_pow_right (by decide) (by omega : i ≤ 8)) (by decide))
      have hn0 := NodesIn.pos hnode
      k_with "tsz" => skip
      k_with "tree_size" => (
        refine' (spec_tree_size _ _ n9 _ _).use ?B_W12t4 ?F_W12t4 ?X_W12t4 ?N_W12t4 ?T_W12t4 ?hk_W12t4 (And.intro (hnode.mono ?hs_W12t4) ⟨?q1_W12t4, ?q2_W12t4, hb2⟩) ?hd_W12t4 ?hu_W12t4 ?_
        (case B_W12t4 => k_asm); (case F_W12t4 => k_asm); (case X_W12t4 => k_asm); (case N_W12t4 => k_asm); (case T_W12t4 => k_asm); (case hk_W12t4 => exact rfl)
        (case hs_W12t4 => (intro p hp; (repeat' (first | exact hp | exact List.mem_append_left _ hp | refine List.mem_cons_of_mem _ ?_ | refine List.mem_append_left _ ?_))))
        (case q1_W12t4 => omega); (case q2_W12t4 => omega); (case hd_W12t4 => k_room); (case hu_W12t4 => k_units))
      repeat' (first | (k_unfold; (try dsimp only)) | (k_unmd; k_unfold; (try dsimp only)) | (k_end; wrow_close) | ((fail_if_success (with_reducible show wpAny _ _ (pyIter _) _ _ _)); walk1) | ((fail_if_success (with_reducible show wpAny _ _ (pyIter _) _ _ _)); dsimp only; walk1) | (leave1; walk_say "STEP leave1"; try dsimp only) | fail "no step")
      (rename Fr _ _ _ _ => lF'); (rename News _ _ _ _ => lN')
      with_unfolding_all refine' loop_keepL (ns := [0, 1, 5, 40, 2000]) [Str.ofString "most"] (by rfl) (by k_mem) (.cons _ _ (.cons _ _ (.cons _ _ (.cons _ _ (.cons _ _ .nil))))) lF' lN' ?turn2_W12t4 ?done2_W12t4
      case turn2_W12t4 =>
        clear lF' lN'
        intro k t u h tk own2 hk hoff2 F' N'
        (try dsimp only [envOf] at F' N')
        have hk0 : 0 ≤ k ∧ k ≤ 2000 := by
          simp only [List.mem_cons, List.not_mem_nil, or_false] at hk
          omega
        simp only [List.cons_append] at N'
        repeat' (first | (k_unfold; (try dsimp only)) | (k_unmd; k_unfold; (try dsimp only)) | (k_end; wrow_close) | ((fail_if_success (with_reducible show InvEndN _ _ _ _ _ _ _)); walk1) | ((fail_if_success (with_reducible show InvEndN _ _ _ _ _ _ _)); dsimp only; walk1) | (leave1; walk_say "STEP leave1"; try dsimp only) | fail "no step")
        (rename Fr _ _ _ _ => lF); (rename News _ _ _ _ => lN)
        exact loop_keepL_end (.head _) lF lN (by intro p hp; exact List.mem_append_left _ hp) (by intro p hp; (repeat' (first | exact hp | exact List.mem_append_right _ hp | refine List.mem_cons_of_mem _ ?_))) (same_one rfl)
      case done2_W12t4 =>
        clear lF' lN'
        intro u h tk F' N'
        repeat' (first | (k_unfold; (try dsimp only)) | (k_unmd; k_unfold; (try dsimp only)) | (k_end; wrow_close) | ((fail_if_success (with_reducible show TbEnd _ _ _ _ _ _)); walk1) | ((fail_if_success (with_reducible show TbEnd _ _ _ _ _ _)); dsimp only; walk1) | (leave1; walk_say "STEP leave1"; try dsimp only) | fail "no step")
        (rename Fr _ _ _ _ => lF); (rename News _ _ _ _ => lN)
        exact loop_keep_end lF lN (by intro p hp; exact List.mem_cons_of_mem _ (List.mem_append_left _ hp)) (by intro p hp; exact List.mem_cons_of_mem _ (List.mem_append_right _ hp)) hoff (same_two rfl rfl)
    case done_W12t4 =>
      clear lF' lN' lR'
      intro u h tk F' N'
      k_with_none
      k_with "execs cons" => ((k_here; (refine wpAny_execs_cons ?_); (try k_fold)))
      k_with "exec If" => ((k_here; (refine wpAny_If ?_); (try k_fold)))
      k_with "callWith ref nil nil" => ((k_here; (with_reducible show wpAny _ _ (callWith _ (Value.ref _) _ (backTo _ (starEach [] _)) []) _ _ _); k_dflt (refine callWith_K0 (Frag.In.keeps (by with_reducible assumption) (Fr.keep (by with_reducible assumption))) (by k_is) ?_)))
      k_with "k_mem" => (((repeat' (first | ktr_member | refine' List.mem_cons_of_mem _ ?_)); done))
      k_with "k_room" => (first | exact room2 (by with_reducible assumption) (by decide) | exact Nat.le_of_ble_eq_true rfl | exact room1 (by with_reducible assumption) (by decide) | exact room4 (by with_reducible assumption) (by decide) | (simp only [depth_under_make, depth_under_kw, depth_in1, depth_deeper, depth_caller, recursionLimit] at *; omega))
      k_with "k_units" => (first | exact room2 (by with_reducible assumption) (by decide) | exact Nat.le_of_ble_eq_true rfl | exact room1 (by with_reducible assumption) (by decide) | exact room4 (by with_reducible assumption) (by decide) | (simp only [units_in1, units_deeper, Around.mark_units, units_caller, cLine] at *; omega))
      k_with "call builtin:len" => ((k_here; (with_reducible show wpAny _ _ (call (Value.builtin "len") [Value.ref _]) _ _ _); k_dflt (refine' lw_len ?N_w223 ?m_w223 ?f_w223 ?_; (case N_w223 => k_asm); (case m_w223 => k_mem); (case f_w223 => first | exact Nat.le_trans (by with_reducible assumption) (by exact Nat.le_of_ble_eq_true rfl) | omega); k_whole)))
      k_with "call builtin:list.pop" => ((k_here; (with_reducible show wpAny _ _ (call (Value.builtin _) [Value.ref _]) _ _ _); k_dflt (refine' lw_pop ?F_w224 ?N_w224 ?U_w224 ?z_w224 ?_; (case F_w224 => k_asm); (case N_w224 => k_asm); (case U_w224 => k_upd); (case z_w224 => first | exact Nat.le_trans (by with_reducible assumption) (by exact Nat.le_of_ble_eq_true rfl) | omega); k_whole); intro h' F' N'; (try k_sweep)))
      k_with "call builtin:list.append" => ((k_here; (with_reducible show wpAny _ _ (call (Value.builtin _) [Value.ref _, _]) _ _ _); k_dflt (refine' lw_append ?F_w225 ?N_w225 ?U_w225 ?z_w225 ?_; (case F_w225 => k_asm); (case N_w225 => k_asm); (case U_w225 => k_upd); (case z_w225 => first | exact Nat.le_trans (by with_reducible assumption) (by exact Nat.le_of_ble_eq_true rfl) | omega); k_whole); intro h' F' N'; (try k_sweep)))
      k_with "call builtin:list.extend" => ((k_here; (with_reducible show wpAny _ _ (call (Value.builtin _) [Value.ref _, Value.ref _]) _ _ _); k_dflt (refine' lw_extend ?F_w226 ?N_w226 ?b_w226 ?ne_w226 ?U_w226 ?z_w226 ?y_w226 ?_; (case F_w226 => k_asm); (case N_w226 => k_asm); (case b_w226 => k_mem); (case U_w226 => k_upd); (case ne_w226 => exact Nat.succ_ne_zero _); (case z_w226 => first | exact Nat.le_trans (by with_reducible assumption) (by exact Nat.le_of_ble_eq_true rfl) | omega); (case y_w226 => exact Nat.le_of_ble_eq_true rfl); k_whole); intro h' F' N'; (try k_sweep)))
      k_with "CompEnd" => (((rename News _ _ _ _ => nE'); refine LCg.CompEnd.intro (by assumption) nE' _ (fun _ h => h) (by first | assumption | (with_unfolding_all assumption)) (by first | lcg_src | k_mem) ?_))
      k_with "k_ne" => ((refine neN ?_; (try dsimp only); first | exact Nat.ne_of_lt (by (first | with_reducible assumption | exact And.left (by with_reducible assumption) | exact And.left (And.right (by with_reducible assumption)) | exact And.left (And.right (And.right (by with_reducible assumption))) | exact And.left (And.right (And.right (And.right (by with_reducible assumption)))) | exact And.left (And.right (And.right (And.right (And.right (by with_reducible assumption))))) | exact And.left (And.right (And.right (And.right (And.right (And.right (by with_reducible assumption)))))) | exact And.left (And.right (And.right (And.right (And.right (And.right (And.right (by with_reducible assumption))))))) | exact And.left (And.right (And.right (And.right (And.right (And.right (And.right (And.right (by with_reducible assumption)))))))) | exact And.left (And.right (And.right (And.right (And.right (And.right (And.right (And.right (And.right (by with_reducible assumption))))))))))) | exact Nat.ne_of_gt (by (first | with_reducible assumption | exact And.left (by with_reducible assumption) | exact And.left (And.right (by with_reducible assumption)) | exact And.left (And.right (And.right (by with_reducible assumption))) | exact And.left (And.right (And.right (And.right (by with_reducible assumption)))) | exact And.left (And.right (And.right (And.right (And.right (by with_reducible assumption))))) | exact And.left (And.right (And.right (And.right (And.right (And.right (by with_reducible assumption)))))) | exact And.left (And.right (And.right (And.right (And.right (And.right (And.right (by with_reducible assumption))))))) | exact And.left (And.right (And.right (And.right (And.right (And.right (And.right (And.right (by with_reducible assumption)))))))) | exact And.left (And.right (And.right (And.right (And.right (And.right (And.right (And.right (And.right (by with_reducible assumption))))))))))) | omega))
      k_with "k_all" => (first | assumption | ((with_reducible refine List.forall_mem_append.mpr ⟨?_, ?_⟩) <;> k_all))
      k_with "call type:range" => ((k_here; (with_reducible show wpAny _ _ (call _ [Value.int _ _]) _ _ _); (rename Fr _ _ _ _ => F'); (rename News _ _ _ _ => N'); (with_unfolding_all refine range1_rows F' N' ?_); intro _ _ _ _ _ _ _ _ _))
      k_with "subscriptTail" => ((k_here; (with_reducible show wpAny _ _ (subscriptTail _ _ (Value.ref _) (Value.int _ _)) _ _ _); k_dflt (first | (refine' lw_getCell ?I_w231 ?N_w231 ?m_w231 ?a_w231 ?b_w231 ?c_w231 ?_; (case I_w231 => assumption); (case N_w231 => k_asm); (case m_w231 => k_mem); (case a_w231 => first | exact (by decide) | omega); (case b_w231 => first | exact lt_len (by with_reducible assumption) (by decide) | omega); (case c_w231 => first | exact Nat.le_trans (Nat.le_of_eq (by with_reducible assumption)) (by exact Nat.le_of_ble_eq_true rfl) | omega); k_whole; intro _) | (refine' lw_getRef ?I_w231 ?N_w231 ?m_w231 ?a_w231 ?b_w231 ?c_w231 ?_; (case I_w231 => assumption); (case N_w231 => k_asm); (case m_w231 => k_mem); (case a_w231 => first | with_reducible assumption | exact Int.fmod_nonneg_of_pos _ (by with_reducible assumption) | omega | exact Int.fmod_nonneg_of_pos _ (by omega)); (case b_w231 => first | with_reducible assumption | exact Int.fmod_lt_of_pos _ (by with_reducible assumption) | omega | exact Int.fmod_lt_of_pos _ (by omega)); (case c_w231 => first | exact Nat.le_trans (by with_reducible assumption) (by exact Nat.le_of_ble_eq_true rfl) | omega); k_whole; intro _ _) | (refine' lw_getInt ?I_w231 ?N_w231 ?m_w231 ?a_w231 ?b_w231 ?c_w231 ?_; (case I_w231 => assumption); (case N_w231 => k_asm); (case m_w231 => k_mem); (case a_w231 => first | with_reducible assumption | exact Int.fmod_nonneg_of_pos _ (by with_reducible assumption) | omega | exact Int.fmod_nonneg_of_pos _ (by omega)); (case b_w231 => first | with_reducible assumption | exact Int.fmod_lt_of_pos _ (by with_reducible assumption) | omega | exact Int.fmod_lt_of_pos _ (by omega)); (case c_w231 => first | exact Nat.le_trans (by with_reducible assumption) (by exact Nat.le_of_ble_eq_true rfl) | omega); k_whole; intro _ _ _))))
      k_with "call ref" => ((k_here; (with_reducible show wpAny _ _ (call (Value.ref 395) _) _ _ _); k_dflt (refine' (spec_call_of _ _ _ _ _ _ _).use (by k_asm) (by k_asm) (by k_asm) (by k_asm) (by k_asm) (by first | exact rfl | assumption) (by k_mem) ?hd_w232 ?hu_w232 ?_; (case hd_w232 => k_room); (case hu_w232 => k_units)); k_whole; intro r9 n9 h9 t9 F9 N9 p9; (obtain ⟨x9, dx9, li9, tg9, f9, df9, e19, e29, add9, c9, o9⟩ := p9); (try dsimp only); (try k_unmd); (try k_sweep)))
      k_with "call ref" => ((k_here; (with_reducible show wpAny _ _ (call (Value.ref 388) _) _ _ _); k_dflt (refine' (spec_number _ _).use (by k_asm) (by k_asm) (by k_asm) (by k_asm) (by k_asm) (by first | exact rfl | assumption) (by exact trivial) ?hd_w233 ?hu_w233 ?_; (case hd_w233 => k_room); (case hu_w233 => k_units)); k_whole; intro r9 n9 h9 t9 F9 N9 p9; (obtain ⟨x9, dx9, li9, tp9, t19, t29, t39, t49, t59, t69, t79, t89, l9, m9, q9, o9⟩ := p9; (try simp only [AllLt, and_true] at l9)); (try dsimp only); (try k_unmd); (try k_sweep)))
      k_with "call ref" => ((k_here; (with_reducible show wpAny _ _ (call (Value.ref 388) _) _ _ _); k_dflt (refine' (spec_number3 _ _).use (by k_asm) (by k_asm) (by k_asm) (by k_asm) (by k_asm) (by first | exact rfl | assumption) (by exact trivial) ?hd_w234 ?hu_w234 ?_; (case hd_w234 => k_room); (case hu_w234 => k_units)); k_whole; intro r9 n9 h9 t9 F9 N9 p9; (obtain ⟨x9, dx9, li9, tp9, t19, t29, t39, t49, t59, t69, t79, t89, l9, m9, q9, o9⟩ := p9; (try simp only [AllLt, and_true] at l9)); (try dsimp only); (try k_unmd); (try k_sweep)))
      (rename Made _ _ _ _ => hM)
      (rename List.length _ = _ + 1 => hvl)
      (rename List.length _ = 12 => hLen)
      (rename (∀ c ∈ _, (0:Int) ≤ c) => hPos)
      (rename Fr _ _ _ _ => lF'); (rename News _ _ _ _ => lN')
      (try dsimp only [envOf] at lF' lN')
      revert lF' lN'
      (repeat (rename Fr _ _ _ _ => hZ; clear hZ)); (repeat (rename News _ _ _ _ => hZ; clear hZ)); (repeat (rename BMod _ _ _ _ _ => hZ; clear hZ)); (repeat (rename ReadsAll _ _ _ _ => hZ; clear hZ)); (repeat (rename IsRange _ _ _ _ _ _ _ _ => hZ; clear hZ))
      intro F' N'
      repeat' (first | (k_unfold; (try dsimp only)) | (k_unmd; k_unfold; (try dsimp only)) | (k_end; wrow_close) | ((fail_if_success (with_reducible show wpAny _ _ (exec (Stmt.For _ _ _ _ _) _) _ _ _)); walk1) | ((fail_if_success (with_reducible show wpAny _ _ (exec (Stmt.For _ _ _ _ _) _) _ _ _)); dsimp only; walk1) | (leave1; walk_say "STEP leave1"; try dsimp only) | fail "no step")
      have hT9 := fmod_nat (getD_mem hPos 10) 9 (by decide)
      (rename Fr _ _ _ _ => lF'); (with_unfolding_all refine' For_invVF lF' ?k1_W13t5 ?k2_W13t5 ?_)
      (case k1_W13t5 => exact rfl)
      (case k2_W13t5 => exact rfl)
      repeat' (first | (k_unfold; (try dsimp only)) | (k_unmd; k_unfold; (try dsimp only)) | (k_end; wrow_close) | ((fail_if_success (with_reducible show wpAny _ _ (pyIter _) _ _ _)); walk1) | ((fail_if_success (with_reducible show wpAny _ _ (pyIter _) _ _ _)); dsimp only; walk1) | (leave1; walk_say "STEP leave1"; try dsimp only) | fail "no step")
      (rename Fr _ _ _ _ => lF'); (rename News _ _ _ _ => lN'); (rename IsRange _ _ _ _ _ _ _ _ => lR')
      obtain ⟨nx, hN, hJ⟩ := bld_start (op := Str.ofString "+") (f := (· + ·)) (Str.ofString "doubled") (fun i => (2 : Int) ^ i) (fun i => 2 ^ i - 1) lF' lN' (by k_mem) (by rfl) (by decide) (by decide) (by decide) (by decide)
      with_unfolding_all refine tbr_invG (n := (Int.fmod (List.getD _ 10 0) 9).toNat) (BldJ _ _ _ _ _ _ _ _ _) (by rfl) lR' (range_small _ _ (Int.toNat_of_nonneg hT9.1).symm (by omega)) (range_size _ _ (Int.toNat_of_nonneg hT9.1).symm) lF' hN hJ ?turn_W13t5 ?done_W13t5
      case turn_W13t5 =>
        clear lF' hN hJ nx lN' lR'
        intro i k t m₁ nx h tk own hk hoff hJ F' N'
        obtain ⟨xD, trD, hE, hv, hm⟩ := hJ
        rw [bld_frame hv hm] at F'
        obtain ⟨rfl, hi⟩ := range_at hk
        simp only [List.cons_append] at N'
        repeat' (first | (k_unfold; (try dsimp only)) | (k_unmd; k_unfold; (try dsimp only)) | (k_end; wrow_close) | ((fail_if_success (with_reducible show TbEnd _ _ _ _ _ _)); walk1) | ((fail_if_success (with_reducible show TbEnd _ _ _ _ _ _)); dsimp only; walk1) | (leave1; walk_say "STEP leave1"; try dsimp only) | fail "no step")
        (rename Fr _ _ _ _ => lF); (rename News _ _ _ _ => lN); (rename CallAt _ _ _ _ _ _ _ _ _ _ _ _ _ => hcall)
        exact bld_end _ lF lN (fun p hp => List.mem_append_left _ hp) (fun p hp => List.mem_append_right _ (.tail _ hp)) hoff (fun q hq p hp => (‹∀ q ∈ (_ :: _ :: (_ ++ _)), ∀ p ∈ _, @Ne Nat (Prod.fst q) (Prod.fst p)›) q (.tail _ (.tail _ (List.mem_append_right _ hq))) p hp) (dbl_step (by omega) hcall hE) (by rfl) (bld_same (by rfl))
      case done_W13t5 =>
        clear lF' hN hJ nx lN' lR'
        intro m₁ nx h tk hJ F' N'
        obtain ⟨xD, trD, hE, hv, hm⟩ := hJ
        rw [bld_frame hv hm] at F'
        (try dsimp only [envOf] at F' N')
        k_with_none
        k_with "execs cons" => ((k_here; (refine wpAny_execs_cons ?_); (try k_fold)))
        k_with "exec If" => ((k_here; (refine wpAny_If ?_); (try k_fold)))
        k_with "callWith ref nil nil" => ((k_here; (with_reducible show wpAny _ _ (callWith _ (Value.ref _) _ (backTo _ (starEach [] _)) []) _ _ _); k_dflt (refine callWith_K0 (Frag.In.keeps (by with_reducible assumption) (Fr.keep (by with_reducible assumption))) (by k_is) ?_)))
        k_with "k_mem" => (((repeat' (first | ktr_member | refine' List.mem_cons_of_mem _ ?_)); done))
        k_with "k_room" => (first | exact room2 (by with_reducible assumption) (by decide) | exact Nat.le_of_ble_eq_true rfl | exact room1 (by with_reducible assumption) (by decide) | exact room4 (by with_reducible assumption) (by decide) | (simp only [depth_under_make, depth_under_kw, depth_in1, depth_deeper, depth_caller, recursionLimit] at *; omega))
        k_with "k_units" => (first | exact room2 (by with_reducible assumption) (by decide) | exact Nat.le_of_ble_eq_true rfl | exact room1 (by with_reducible assumption) (by decide) | exact room4 (by with_reducible assumption) (by decide) | (simp only [units_in1, units_deeper, Around.mark_units, units_caller, cLine] at *; omega))
        k_with "call builtin:len" => ((k_here; (with_reducible show wpAny _ _ (call (Value.builtin "len") [Value.ref _]) _ _ _); k_dflt (refine' lw_len ?N_w208 ?m_w208 ?f_w208 ?_; (case N_w208 => k_asm); (case m_w208 => k_mem); (case f_w208 => first | exact Nat.le_trans (by with_reducible assumption) (by exact Nat.le_of_ble_eq_true rfl) | omega); k_whole)))
        k_with "call builtin:list.pop" => ((k_here; (with_reducible show wpAny _ _ (call (Value.builtin _) [Value.ref _]) _ _ _); k_dflt (refine' lw_pop ?F_w209 ?N_w209 ?U_w209 ?z_w209 ?_; (case F_w209 => k_asm); (case N_w209 => k_asm); (case U_w209 => k_upd); (case z_w209 => first | exact Nat.le_trans (by with_reducible assumption) (by exact Nat.le_of_ble_eq_true rfl) | omega); k_whole); intro h' F' N'; (try k_sweep)))
        k_with "call builtin:list.append" => ((k_here; (with_reducible show wpAny _ _ (call (Value.builtin _) [Value.ref _, _]) _ _ _); k_dflt (refine' lw_append ?F_w210 ?N_w210 ?U_w210 ?z_w210 ?_; (case F_w210 => k_asm); (case N_w210 => k_asm); (case U_w210 => k_upd); (case z_w210 => first | exact Nat.le_trans (by with_reducible assumption) (by exact Nat.le_of_ble_eq_true rfl) | omega); k_whole); intro h' F' N'; (try k_sweep)))
        k_with "call builtin:list.extend" => ((k_here; (with_reducible show wpAny _ _ (call (Value.builtin _) [Value.ref _, Value.ref _]) _ _ _); k_dflt (refine' lw_extend ?F_w211 ?N_w211 ?b_w211 ?ne_w211 ?U_w211 ?z_w211 ?y_w211 ?_; (case F_w211 => k_asm); (case N_w211 => k_asm); (case b_w211 => k_mem); (case U_w211 => k_upd); (case ne_w211 => exact Nat.succ_ne_zero _); (case z_w211 => first | exact Nat.le_trans (by with_reducible assumption) (by exact Nat.le_of_ble_eq_true rfl) | omega); (case y_w211 => exact Nat.le_of_ble_eq_true rfl); k_whole); intro h' F' N'; (try k_sweep)))
        k_with "CompEnd" => (((rename News _ _ _ _ => nE'); refine LCg.CompEnd.intro (by assumption) nE' _ (fun _ h => h) (by first | assumption | (with_unfolding_all assumption)) (by first | lcg_src | k_mem) ?_))
        k_with "k_ne" => ((refine neN ?_; (try dsimp only); first | exact Nat.ne_of_lt (by (first | with_reducible assumption | exact And.left (by with_reducible assumption) | exact And.left (And.right (by with_reducible assumption)) | exact And.left (And.right (And.right (by with_reducible assumption))) | exact And.left (And.right (And.right (And.right (by with_reducible assumption)))) | exact And.left (And.right (And.right (And.right (And.right (by with_reducible assumption))))) | exact And.left (And.right (And.right (And.right (And.right (And.right (by with_reducible assumption)))))) | exact And.left (And.right (And.right (And.right (And.right (And.right (And.right (by with_reducible assumption))))))) | exact And.left (And.right (And.right (And.right (And.right (And.right (And.right (And.right (by with_reducible assumption)))))))) | exact And.left (And.right (And.right (And.right (And.right (And.right (And.right (And.right (And.right (by with_reducible assumption))))))))))) | exact Nat.ne_of_gt (by (first | with_reducible assumption | exact And.left (by with_reducible assumption) | exact And.left (And.right (by with_reducible assumption)) | exact And.left (And.right (And.right (by with_reducible assumption))) | exact And.left (And.right (And.right (And.right (by with_reducible assumption)))) | exact And.left (And.right (And.right (And.right (And.right (by with_reducible assumption))))) | exact And.left (And.right (And.right (And.right (And.right (And.right (by with_reducible assumption)))))) | exact And.left (And.right (And.right (And.right (And.right (And.right (And.right (by with_reducible assumption))))))) | exact And.left (And.right (And.right (And.right (And.right (And.right (And.right (And.right (by with_reducible assumption)))))))) | exact And.left (And.right (And.right (And.right (And.right (And.right (And.right (And.right (And.right (by with_reducible assumption))))))))))) | omega))
        k_with "k_all" => (first | assumption | ((with_reducible refine List.forall_mem_append.mpr ⟨?_, ?_⟩) <;> k_all))
        k_with "call type:range" => ((k_here; (with_reducible show wpAny _ _ (call _ [Value.int _ _]) _ _ _); (rename Fr _ _ _ _ => F'); (rename News _ _ _ _ => N'); (with_unfolding_all refine range1_rows F' N' ?_); intro _ _ _ _ _ _ _ _ _))
        k_with "subscriptTail" => ((k_here; (with_reducible show wpAny _ _ (subscriptTail _ _ (Value.ref _) (Value.int _ _)) _ _ _); k_dflt (first | (refine' lw_getCell ?I_w216 ?N_w216 ?m_w216 ?a_w216 ?b_w216 ?c_w216 ?_; (case I_w216 => assumption); (case N_w216 => k_asm); (case m_w216 => k_mem); (case a_w216 => first | exact (by decide) | omega); (case b_w216 => first | exact lt_len (by with_reducible assumption) (by decide) | omega); (case c_w216 => first | exact Nat.le_trans (Nat.le_of_eq (by with_reducible assumption)) (by exact Nat.le_of_ble_eq_true rfl) | omega); k_whole; intro _) | (refine' lw_getRef ?I_w216 ?N_w216 ?m_w216 ?a_w216 ?b_w216 ?c_w216 ?_; (case I_w216 => assumption); (case N_w216 => k_asm); (case m_w216 => k_mem); (case a_w216 => first | with_reducible assumption | exact Int.fmod_nonneg_of_pos _ (by with_reducible assumption) | omega | exact Int.fmod_nonneg_of_pos _ (by omega)); (case b_w216 => first | with_reducible assumption | exact Int.fmod_lt_of_pos _ (by with_reducible assumption) | omega | exact Int.fmod_lt_of_pos _ (by omega)); (case c_w216 => first | exact Nat.le_trans (by with_reducible assumption) (by exact Nat.le_of_ble_eq_true rfl) | omega); k_whole; intro _ _) | (refine' lw_getInt ?I_w216 ?N_w216 ?m_w216 ?a_w216 ?b_w216 ?c_w216 ?_; (case I_w216 => assumption); (case N_w216 => k_asm); (case m_w216 => k_mem); (case a_w216 => first | with_reducible assumption | exact Int.fmod_nonneg_of_pos _ (by with_reducible assumption) | omega | exact Int.fmod_nonneg_of_pos _ (by omega)); (case b_w216 => first | with_reducible assumption | exact Int.fmod_lt_of_pos _ (by with_reducible assumption) | omega | exact Int.fmod_lt_of_pos _ (by omega)); (case c_w216 => first | exact Nat.le_trans (by with_reducible assumption) (by exact Nat.le_of_ble_eq_true rfl) | omega); k_whole; intro _ _ _))))
        k_with "call ref" => ((k_here; (with_reducible show wpAny _ _ (call (Value.ref 769) _) _ _ _); k_dflt (refine' (spec_safe _).use (by k_asm) (by k_asm) (by k_asm) (by k_asm) (by k_asm) (by first | exact rfl | assumption) (by exact trivial) ?hd_w217 ?hu_w217 ?_; (case hd_w217 => k_room); (case hu_w217 => k_units)); k_whole; intro r9 n9 h9 t9 F9 N9 p9; (obtain ⟨sf9, add9, c9, o9⟩ := p9); (try dsimp only); (try k_unmd); (try k_sweep)))
        k_with "call ref" => ((k_here; (with_reducible show wpAny _ _ (call (Value.ref 388) _) _ _ _); k_dflt (refine' (spec_number _ _).use (by k_asm) (by k_asm) (by k_asm) (by k_asm) (by k_asm) (by first | exact rfl | assumption) (by exact trivial) ?hd_w218 ?hu_w218 ?_; (case hd_w218 => k_room); (case hu_w218 => k_units)); k_whole; intro r9 n9 h9 t9 F9 N9 p9; (obtain ⟨x9, dx9, li9, tp9, t19, t29, t39, t49, t59, t69, t79, t89, l9, m9, q9, o9⟩ := p9; (try simp only [AllLt, and_true] at l9)); (try dsimp only); (try k_unmd); (try k_sweep)))
        k_with "call ref" => ((k_here; (with_reducible show wpAny _ _ (call (Value.ref 388) _) _ _ _); k_dflt (refine' (spec_number3 _ _).use (by k_asm) (by k_asm) (by k_asm) (by k_asm) (by k_asm) (by first | exact rfl | assumption) (by exact trivial) ?hd_w219 ?hu_w219 ?_; (case hd_w219 => k_room); (case hu_w219 => k_units)); k_whole; intro r9 n9 h9 t9 F9 N9 p9; (obtain ⟨x9, dx9, li9, tp9, t19, t29, t39, t49, t59, t69, t79, t89, l9, m9, q9, o9⟩ := p9; (try simp only [AllLt, and_true] at l9)); (try dsimp only); (try k_unmd); (try k_sweep)))
        (rename (∀ c ∈ _, (0:Int) ≤ c) => hPos)
        (rename ExprIn _ _ _ _ _ _ _ _ => hE)
        (rename (0 ≤ Int.fmod _ 9 ∧ Int.fmod _ 9 < 9) => hT9)
        (rename Fr _ _ _ _ => lF'); (rename News _ _ _ _ => lN')
        revert lF' lN'
        (repeat (rename Fr _ _ _ _ => hZ; clear hZ)); (repeat (rename News _ _ _ _ => hZ; clear hZ)); (repeat (rename BMod _ _ _ _ _ => hZ; clear hZ)); (repeat (rename ReadsAll _ _ _ _ => hZ; clear hZ)); (repeat (rename IsRange _ _ _ _ _ _ _ _ => hZ; clear hZ))
        intro F' N'
        (rename Fr _ _ _ _ => lF'); (rename News _ _ _ _ => lN')
        refine cut_law lF' lN' ?_ ?_
        rotate_left
        · clear lF' lN'
          intro h' tk mm tl F1 N1 hm
          rw [cut_frame hm] at F1
          repeat' (first | (k_unfold; (try dsimp only)) | (k_unmd; k_unfold; (try dsimp only)) | (k_end; wrow_close) | ((fail_if_success (with_reducible show wpAny _ _ (exec (Stmt.For _ _ _ _ _) _) _ _ _)); walk1) | ((fail_if_success (with_reducible show wpAny _ _ (exec (Stmt.For _ _ _ _ _) _) _ _ _)); dsimp only; walk1) | (leave1; walk_say "STEP leave1"; try dsimp only) | fail "no step")
          k_with_none
          k_with "execs cons" => ((k_here; (refine wpAny_execs_cons ?_); (try k_fold)))
          k_with "exec If" => ((k_here; (refine wpAny_If ?_); (try k_fold)))
          k_with "callWith ref nil nil" => ((k_here; (with_reducible show wpAny _ _ (callWith _ (Value.ref _) _ (backTo _ (starEach [] _)) []) _ _ _); k_dflt (refine callWith_K0 (Frag.In.keeps (by with_reducible assumption) (Fr.keep (by with_reducible assumption))) (by k_is) ?_)))
          k_with "k_mem" => (((repeat' (first | ktr_member | refine' List.mem_cons_of_mem _ ?_)); done))
          k_with "k_room" => (first | exact room2 (by with_reducible assumption) (by decide) | exact Nat.le_of_ble_eq_true rfl | exact room1 (by with_reducible assumption) (by decide) | exact room4 (by with_reducible assumption) (by decide) | (simp only [depth_under_make, depth_under_kw, depth_in1, depth_deeper, depth_caller, recursionLimit] at *; omega))
          k_with "k_units" => (first | exact room2 (by with_reducible assumption) (by decide) | exact Nat.le_of_ble_eq_true rfl | exact room1 (by with_reducible assumption) (by decide) | exact room4 (by with_reducible assumption) (by decide) | (simp only [units_in1, units_deeper, Around.mark_units, units_caller, cLine] at *; omega))
          k_with "call builtin:len" => ((k_here; (with_reducible show wpAny _ _ (call (Value.builtin "len") [Value.ref _]) _ _ _); k_dflt (refine' lw_len ?N_w192 ?m_w192 ?f_w192 ?_; (case N_w192 => k_asm); (case m_w192 => k_mem); (case f_w192 => first | exact Nat.le_trans (by with_reducible assumption) (by exact Nat.le_of_ble_eq_true rfl) | omega); k_whole)))
          k_with "call builtin:list.pop" => ((k_here; (with_reducible show wpAny _ _ (call (Value.builtin _) [Value.ref _]) _ _ _); k_dflt (refine' lw_pop ?F_w193 ?N_w193 ?U_w193 ?z_w193 ?_; (case F_w193 => k_asm); (case N_w193 => k_asm); (case U_w193 => k_upd); (case z_w193 => first | exact Nat.le_trans (by with_reducible assumption) (by exact Nat.le_of_ble_eq_true rfl) | omega); k_whole); intro h' F' N'; (try k_sweep)))
          k_with "call builtin:list.append" => ((k_here; (with_reducible show wpAny _ _ (call (Value.builtin _) [Value.ref _, _]) _ _ _); k_dflt (refine' lw_append ?F_w194 ?N_w194 ?U_w194 ?z_w194 ?_; (case F_w194 => k_asm); (case N_w194 => k_asm); (case U_w194 => k_upd); (case z_w194 => first | exact Nat.le_trans (by with_reducible assumption) (by exact Nat.le_of_ble_eq_true rfl) | omega); k_whole); intro h' F' N'; (try k_sweep)))
          k_with "call builtin:list.extend" => ((k_here; (with_reducible show wpAny _ _ (call (Value.builtin _) [Value.ref _, Value.ref _]) _ _ _); k_dflt (refine' lw_extend ?F_w195 ?N_w195 ?b_w195 ?ne_w195 ?U_w195 ?z_w195 ?y_w195 ?_; (case F_w195 => k_asm); (case N_w195 => k_asm); (case b_w195 => k_mem); (case U_w195 => k_upd); (case ne_w195 => exact Nat.succ_ne_zero _); (case z_w195 => first | exact Nat.le_trans (by with_reducible assumption) (by exact Nat.le_of_ble_eq_true rfl) | omega); (case y_w195 => exact Nat.le_of_ble_eq_true rfl); k_whole); intro h' F' N'; (try k_sweep)))
          k_with "CompEnd" => (((rename News _ _ _ _ => nE'); refine LCg.CompEnd.intro (by assumption) nE' _ (fun _ h => h) (by first | assumption | (with_unfolding_all assumption)) (by first | lcg_src | k_mem) ?_))
          k_with "k_ne" => ((refine neN ?_; (try dsimp only); first | exact Nat.ne_of_lt (by (first | with_reducible assumption | exact And.left (by with_reducible assumption) | exact And.left (And.right (by with_reducible assumption)) | exact And.left (And.right (And.right (by with_reducible assumption))) | exact And.left (And.right (And.right (And.right (by with_reducible assumption)))) | exact And.left (And.right (And.right (And.right (And.right (by with_reducible assumption))))) | exact And.left (And.right (And.right (And.right (And.right (And.right (by with_reducible assumption)))))) | exact And.left (And.right (And.right (And.right (And.right (And.right (And.right (by with_reducible assumption))))))) | exact And.left (And.right (And.right (And.right (And.right (And.right (And.right (And.right (by with_reducible assumption)))))))) | exact And.left (And.right (And.right (And.right (And.right (And.right (And.right (And.right (And.right (by with_reducible assumption))))))))))) | exact Nat.ne_of_gt (by (first | with_reducible assumption | exact And.left (by with_reducible assumption) | exact And.left (And.right (by with_reducible assumption)) | exact And.left (And.right (And.right (by with_reducible assumption))) | exact And.left (And.right (And.right (And.right (by with_reducible assumption)))) | exact And.left (And.right (And.right (And.right (And.right (by with_reducible assumption))))) | exact And.left (And.right (And.right (And.right (And.right (And.right (by with_reducible assumption)))))) | exact And.left (And.right (And.right (And.right (And.right (And.right (And.right (by with_reducible assumption))))))) | exact And.left (And.right (And.right (And.right (And.right (And.right (And.right (And.right (by with_reducible assumption)))))))) | exact And.left (And.right (And.right (And.right (And.right (And.right (And.right (And.right (And.right (by with_reducible assumption))))))))))) | omega))
          k_with "k_all" => (first | assumption | ((with_reducible refine List.forall_mem_append.mpr ⟨?_, ?_⟩) <;> k_all))
          k_with "call type:range" => ((k_here; (with_reducible show wpAny _ _ (call _ [Value.int _ _]) _ _ _); (rename Fr _ _ _ _ => F'); (rename News _ _ _ _ => N'); (with_unfolding_all refine range1_rows F' N' ?_); intro _ _ _ _ _ _ _ _ _))
          k_with "subscriptTail" => ((k_here; (with_reducible show wpAny _ _ (subscriptTail _ _ (Value.ref _) (Value.int _ _)) _ _ _); k_dflt (first | (refine' lw_getCell ?I_w200 ?N_w200 ?m_w200 ?a_w200 ?b_w200 ?c_w200 ?_; (case I_w200 => assumption); (case N_w200 => k_asm); (case m_w200 => k_mem); (case a_w200 => first | exact (by decide) | omega); (case b_w200 => first | exact lt_len (by with_reducible assumption) (by decide) | omega); (case c_w200 => first | exact Nat.le_trans (Nat.le_of_eq (by with_reducible assumption)) (by exact Nat.le_of_ble_eq_true rfl) | omega); k_whole; intro _) | (refine' lw_getRef ?I_w200 ?N_w200 ?m_w200 ?a_w200 ?b_w200 ?c_w200 ?_; (case I_w200 => assumption); (case N_w200 => k_asm); (case m_w200 => k_mem); (case a_w200 => first | with_reducible assumption | exact Int.fmod_nonneg_of_pos _ (by with_reducible assumption) | omega | exact Int.fmod_nonneg_of_pos _ (by omega)); (case b_w200 => first | with_reducible assumption | exact Int.fmod_lt_of_pos _ (by with_reducible assumption) | omega | exact Int.fmod_lt_of_pos _ (by omega)); (case c_w200 => first | exact Nat.le_trans (by with_reducible assumption) (by exact Nat.le_of_ble_eq_true rfl) | omega); k_whole; intro _ _) | (refine' lw_getInt ?I_w200 ?N_w200 ?m_w200 ?a_w200 ?b_w200 ?c_w200 ?_; (case I_w200 => assumption); (case N_w200 => k_asm); (case m_w200 => k_mem); (case a_w200 => first | with_reducible assumption | exact Int.fmod_nonneg_of_pos _ (by with_reducible assumption) | omega | exact Int.fmod_nonneg_of_pos _ (by omega)); (case b_w200 => first | with_reducible assumption | exact Int.fmod_lt_of_pos _ (by with_reducible assumption) | omega | exact Int.fmod_lt_of_pos _ (by omega)); (case c_w200 => first | exact Nat.le_trans (by with_reducible assumption) (by exact Nat.le_of_ble_eq_true rfl) | omega); k_whole; intro _ _ _))))
          k_with "call ref" => ((k_here; (with_reducible show wpAny _ _ (call (Value.ref 395) _) _ _ _); k_dflt (refine' (spec_call_of _ _ _ _ _ _ _).use (by k_asm) (by k_asm) (by k_asm) (by k_asm) (by k_asm) (by first | exact rfl | assumption) (by k_mem) ?hd_w201 ?hu_w201 ?_; (case hd_w201 => k_room); (case hu_w201 => k_units)); k_whole; intro r9 n9 h9 t9 F9 N9 p9; (obtain ⟨x9, dx9, li9, tg9, f9, df9, e19, e29, add9, c9, o9⟩ := p9); (try dsimp only); (try k_unmd); (try k_sweep)))
          k_with "call ref" => ((k_here; (with_reducible show wpAny _ _ (call (Value.ref 769) _) _ _ _); k_dflt (refine' (spec_safe _).use (by k_asm) (by k_asm) (by k_asm) (by k_asm) (by k_asm) (by first | exact rfl | assumption) (by exact trivial) ?hd_w202 ?hu_w202 ?_; (case hd_w202 => k_room); (case hu_w202 => k_units)); k_whole; intro r9 n9 h9 t9 F9 N9 p9; (obtain ⟨sf9, add9, c9, o9⟩ := p9); (try dsimp only); (try k_unmd); (try k_sweep)))
          k_with "call ref" => ((k_here; (with_reducible show wpAny _ _ (call (Value.ref 388) _) _ _ _); k_dflt (refine' (spec_number _ _).use (by k_asm) (by k_asm) (by k_asm) (by k_asm) (by k_asm) (by first | exact rfl | assumption) (by exact trivial) ?hd_w203 ?hu_w203 ?_; (case hd_w203 => k_room); (case hu_w203 => k_units)); k_whole; intro r9 n9 h9 t9 F9 N9 p9; (obtain ⟨x9, dx9, li9, tp9, t19, t29, t39, t49, t59, t69, t79, t89, l9, m9, q9, o9⟩ := p9; (try simp only [AllLt, and_true] at l9)); (try dsimp only); (try k_unmd); (try k_sweep)))
          k_with "call ref" => ((k_here; (with_reducible show wpAny _ _ (call (Value.ref 388) _) _ _ _); k_dflt (refine' (spec_number3 _ _).use (by k_asm) (by k_asm) (by k_asm) (by k_asm) (by k_asm) (by first | exact rfl | assumption) (by exact trivial) ?hd_w204 ?hu_w204 ?_; (case hd_w204 => k_room); (case hu_w204 => k_units)); k_whole; intro r9 n9 h9 t9 F9 N9 p9; (obtain ⟨x9, dx9, li9, tp9, t19, t29, t39, t49, t59, t69, t79, t89, l9, m9, q9, o9⟩ := p9; (try simp only [AllLt, and_true] at l9)); (try dsimp only); (try k_unmd); (try k_sweep)))
          (rename (∀ c ∈ _, (0:Int) ≤ c) => hPos)
          (rename Fr _ _ _ _ => lF'); (rename News _ _ _ _ => lN')
          (try dsimp only [envOf] at lF' lN')
          revert lF' lN'
          (repeat (rename Fr _ _ _ _ => hZ; clear hZ)); (repeat (rename News _ _ _ _ => hZ; clear hZ)); (repeat (rename BMod _ _ _ _ _ => hZ; clear hZ)); (repeat (rename ReadsAll _ _ _ _ => hZ; clear hZ)); (repeat (rename IsRange _ _ _ _ _ _ _ _ => hZ; clear hZ)); (repeat (rename ExprIn _ _ _ _ _ _ _ _ => hZ; clear hZ)); (repeat (rename Made _ _ _ _ => hZ; clear hZ))
          intro F' N'
          have hT9 := fmod_nat (getD_mem hPos 11) 46 (by decide)
          (rename Fr _ _ _ _ => lF'); (with_unfolding_all refine' For_invVF lF' ?k1_W15t7 ?k2_W15t7 ?_)
          (case k1_W15t7 => exact rfl)
          (case k2_W15t7 => exact rfl)
          repeat' (first | (k_unfold; (try dsimp only)) | (k_unmd; k_unfold; (try dsimp only)) | (k_end; wrow_close) | ((fail_if_success (with_reducible show wpAny _ _ (pyIter _) _ _ _)); walk1) | ((fail_if_success (with_reducible show wpAny _ _ (pyIter _) _ _ _)); dsimp only; walk1) | (leave1; walk_say "STEP leave1"; try dsimp only) | fail "no step")
          (rename Fr _ _ _ _ => lF'); (rename News _ _ _ _ => lN'); (rename IsRange _ _ _ _ _ _ _ _ => lR')
          obtain ⟨nx, hN, hJ⟩ := bld_start (op := Str.ofString "-") (f := (· - ·)) (Str.ofString "nested") (fun i => 3 - (i : Int)) (fun i => i) lF' lN' (by k_mem) (by rfl) (by decide) (by decide) (by decide) (by decide)
          with_unfolding_all refine tbr_invG (n := (Int.fmod (List.getD _ 11 0) 46).toNat) (BldJ _ _ _ _ _ _ _ _ _) (by rfl) lR' (range_small _ _ (Int.toNat_of_nonneg hT9.1).symm (by omega)) (range_size _ _ (Int.toNat_of_nonneg hT9.1).symm) lF' hN hJ ?turn_W15t7 ?done_W15t7
          case turn_W15t7 =>
            clear lF' hN hJ nx lN' lR'
            intro i k t m₁ nx h tk own hk hoff hJ F' N'
            obtain ⟨xD, trD, hE, hv, hm⟩ := hJ
            rw [bld_frame hv hm] at F'
            obtain ⟨rfl, hi⟩ := range_at hk
            simp only [List.cons_append] at N'
            repeat' (first | (k_unfold; (try dsimp only)) | (k_unmd; k_unfold; (try dsimp only)) | (k_end; wrow_close) | ((fail_if_success (with_reducible show TbEnd _ _ _ _ _ _)); walk1) | ((fail_if_success (with_reducible show TbEnd _ _ _ _ _ _)); dsimp only; walk1) | (leave1; walk_say "STEP leave1"; try dsimp only) | fail "no step")
            (rename Fr _ _ _ _ => lF); (rename News _ _ _ _ => lN); (rename CallAt _ _ _ _ _ _ _ _ _ _ _ _ _ => hcall)
            exact nest_end (by omega) lF lN hcall hE hoff (by assumption) (And.right (by with_reducible assumption)) (by with_reducible assumption) (by with_reducible assumption) (by with_reducible assumption) (by rfl) (bld_same (by rfl))
          case done_W15t7 =>
            clear lF' hN hJ nx lN' lR'
            intro m₁ nx h tk hJ F' N'
            obtain ⟨xD, trD, hE, hv, hm⟩ := hJ
            rw [bld_frame hv hm] at F'
            (try dsimp only [envOf] at F' N')
            repeat' (first | (k_unfold; (try dsimp only)) | (k_unmd; k_unfold; (try dsimp only)) | (k_end; wrow_close) | ((fail_if_success (with_reducible show wpAny _ _ (call (Value.ref 818) _) _ _ _)); walk1) | ((fail_if_success (with_reducible show wpAny _ _ (call (Value.ref 818) _) _ _ _)); dsimp only; walk1) | (leave1; walk_say "STEP leave1"; try dsimp only) | fail "no step")
            (rename SafeAt _ _ => hS)
            k_dflt (refine' (spec_fold _ _ _ (fold_all_sub _) _ _ _ _ _).use (by k_asm) (by k_asm) (by k_asm) (by k_asm) (by k_asm) rfl ⟨hE.mono (fun p hp => List.mem_append_right _ (.tail _ hp)), hS.mono (fun p hp => List.mem_append_left _ hp)⟩ ?hd_W15t7 ?hu_W15t7 ?_; (case hd_W15t7 => k_room); (case hu_W15t7 => k_units))
            k_whole
            intro r9 n9 h9 t9 F9 N9 p9
            rcases p9 with ⟨tr9, tl9, o9, d1, d2, y9, yd9, yl9, yt9, ys9, ye9, tm9, yn9⟩ | ⟨tr9, tl9, o9, d1, tm9⟩
            · (try dsimp only); (try k_unmd); (try k_sweep)
              obtain ⟨s11, s12, s13, s14, s15, s16, s17, s18, g11, g12, g13, g14⟩ := id yn9
              k_with "ite" => (k_dflt (refine ite_pos (nest_yes hT9.1 d1 rfl) ?_))
              repeat' (first | (k_unfold; (try dsimp only)) | (k_unmd; k_unfold; (try dsimp only)) | (k_end; ((rename Fr _ _ _ _ => gF); (rename (Shared.gens _ = #[]) => gG); k_dflt (exact good_true (nest_val hT9.1 rfl) (law_true gF gG rfl)))) | (k_end; wrow_close) | walk1 | (dsimp only; walk1) | (leave1; walk_say "STEP leave1"; try dsimp only) | fail "no step")
            · (try dsimp only); (try k_unmd); (try k_sweep)
              k_with "ite" => (k_dflt (refine ite_pos (nest_no hT9.1 d1 rfl) ?_))
              repeat' (first | (k_unfold; (try dsimp only)) | (k_unmd; k_unfold; (try dsimp only)) | (k_end; ((rename Fr _ _ _ _ => gF); (rename (Shared.gens _ = #[]) => gG); k_dflt (exact good_true rfl (law_true gF gG rfl)))) | (k_end; wrow_close) | walk1 | (dsimp only; walk1) | (leave1; walk_say "STEP leave1"; try dsimp only) | fail "no step")
        · k_with_none
          k_with "execs cons" => ((k_here; (refine wpAny_execs_cons ?_); (try k_fold)))
          k_with "exec If" => ((k_here; (refine wpAny_If ?_); (try k_fold)))
          k_with "callWith ref nil nil" => ((k_here; (with_reducible show wpAny _ _ (callWith _ (Value.ref _) _ (backTo _ (starEach [] _)) []) _ _ _); k_dflt (refine callWith_K0 (Frag.In.keeps (by with_reducible assumption) (Fr.keep (by with_reducible assumption))) (by k_is) ?_)))
          k_with "k_mem" => (((repeat' (first | ktr_member | refine' List.mem_cons_of_mem _ ?_)); done))
          k_with "k_room" => (first | exact room2 (by with_reducible assumption) (by decide) | exact Nat.le_of_ble_eq_true rfl | exact room1 (by with_reducible assumption) (by decide) | exact room4 (by with_reducible assumption) (by decide) | (simp only [depth_under_make, depth_under_kw, depth_in1, depth_deeper, depth_caller, recursionLimit] at *; omega))
          k_with "k_units" => (first | exact room2 (by with_reducible assumption) (by decide) | exact Nat.le_of_ble_eq_true rfl | exact room1 (by with_reducible assumption) (by decide) | exact room4 (by with_reducible assumption) (by decide) | (simp only [units_in1, units_deeper, Around.mark_units, units_caller, cLine] at *; omega))
          k_with "call builtin:len" => ((k_here; (with_reducible show wpAny _ _ (call (Value.builtin "len") [Value.ref _]) _ _ _); k_dflt (refine' lw_len ?N_w177 ?m_w177 ?f_w177 ?_; (case N_w177 => k_asm); (case m_w177 => k_mem); (case f_w177 => first | exact Nat.le_trans (by with_reducible assumption) (by exact Nat.le_of_ble_eq_true rfl) | omega); k_whole)))
          k_with "call builtin:list.pop" => ((k_here; (with_reducible show wpAny _ _ (call (Value.builtin _) [Value.ref _]) _ _ _); k_dflt (refine' lw_pop ?F_w178 ?N_w178 ?U_w178 ?z_w178 ?_; (case F_w178 => k_asm); (case N_w178 => k_asm); (case U_w178 => k_upd); (case z_w178 => first | exact Nat.le_trans (by with_reducible assumption) (by exact Nat.le_of_ble_eq_true rfl) | omega); k_whole); intro h' F' N'; (try k_sweep)))
          k_with "call builtin:list.append" => ((k_here; (with_reducible show wpAny _ _ (call (Value.builtin _) [Value.ref _, _]) _ _ _); k_dflt (refine' lw_append ?F_w179 ?N_w179 ?U_w179 ?z_w179 ?_; (case F_w179 => k_asm); (case N_w179 => k_asm); (case U_w179 => k_upd); (case z_w179 => first | exact Nat.le_trans (by with_reducible assumption) (by exact Nat.le_of_ble_eq_true rfl) | omega); k_whole); intro h' F' N'; (try k_sweep)))
          k_with "call builtin:list.extend" => ((k_here; (with_reducible show wpAny _ _ (call (Value.builtin _) [Value.ref _, Value.ref _]) _ _ _); k_dflt (refine' lw_extend ?F_w180 ?N_w180 ?b_w180 ?ne_w180 ?U_w180 ?z_w180 ?y_w180 ?_; (case F_w180 => k_asm); (case N_w180 => k_asm); (case b_w180 => k_mem); (case U_w180 => k_upd); (case ne_w180 => exact Nat.succ_ne_zero _); (case z_w180 => first | exact Nat.le_trans (by with_reducible assumption) (by exact Nat.le_of_ble_eq_true rfl) | omega); (case y_w180 => exact Nat.le_of_ble_eq_true rfl); k_whole); intro h' F' N'; (try k_sweep)))
          k_with "CompEnd" => (((rename News _ _ _ _ => nE'); refine LCg.CompEnd.intro (by assumption) nE' _ (fun _ h => h) (by first | assumption | (with_unfolding_all assumption)) (by first | lcg_src | k_mem) ?_))
          k_with "k_ne" => ((refine neN ?_; (try dsimp only); first | exact Nat.ne_of_lt (by (first | with_reducible assumption | exact And.left (by with_reducible assumption) | exact And.left (And.right (by with_reducible assumption)) | exact And.left (And.right (And.right (by with_reducible assumption))) | exact And.left (And.right (And.right (And.right (by with_reducible assumption)))) | exact And.left (And.right (And.right (And.right (And.right (by with_reducible assumption))))) | exact And.left (And.right (And.right (And.right (And.right (And.right (by with_reducible assumption)))))) | exact And.left (And.right (And.right (And.right (And.right (And.right (And.right (by with_reducible assumption))))))) | exact And.left (And.right (And.right (And.right (And.right (And.right (And.right (And.right (by with_reducible assumption)))))))) | exact And.left (And.right (And.right (And.right (And.right (And.right (And.right (And.right (And.right (by with_reducible assumption))))))))))) | exact Nat.ne_of_gt (by (first | with_reducible assumption | exact And.left (by with_reducible assumption) | exact And.left (And.right (by with_reducible assumption)) | exact And.left (And.right (And.right (by with_reducible assumption))) | exact And.left (And.right (And.right (And.right (by with_reducible assumption)))) | exact And.left (And.right (And.right (And.right (And.right (by with_reducible assumption))))) | exact And.left (And.right (And.right (And.right (And.right (And.right (by with_reducible assumption)))))) | exact And.left (And.right (And.right (And.right (And.right (And.right (And.right (by with_reducible assumption))))))) | exact And.left (And.right (And.right (And.right (And.right (And.right (And.right (And.right (by with_reducible assumption)))))))) | exact And.left (And.right (And.right (And.right (And.right (And.right (And.right (And.right (And.right (by with_reducible assumption))))))))))) | omega))
          k_with "k_all" => (first | assumption | ((with_reducible refine List.forall_mem_append.mpr ⟨?_, ?_⟩) <;> k_all))
          k_with "call type:range" => ((k_here; (with_reducible show wpAny _ _ (call _ [Value.int _ _]) _ _ _); (rename Fr _ _ _ _ => F'); (rename News _ _ _ _ => N'); (with_unfolding_all refine range1_rows F' N' ?_); intro _ _ _ _ _ _ _ _ _))
          k_with "subscriptTail" => ((k_here; (with_reducible show wpAny _ _ (subscriptTail _ _ (Value.ref _) (Value.int _ _)) _ _ _); k_dflt (first | (refine' lw_getCell ?I_w185 ?N_w185 ?m_w185 ?a_w185 ?b_w185 ?c_w185 ?_; (case I_w185 => assumption); (case N_w185 => k_asm); (case m_w185 => k_mem); (case a_w185 => first | exact (by decide) | omega); (case b_w185 => first | exact lt_len (by with_reducible assumption) (by decide) | omega); (case c_w185 => first | exact Nat.le_trans (Nat.le_of_eq (by with_reducible assumption)) (by exact Nat.le_of_ble_eq_true rfl) | omega); k_whole; intro _) | (refine' lw_getRef ?I_w185 ?N_w185 ?m_w185 ?a_w185 ?b_w185 ?c_w185 ?_; (case I_w185 => assumption); (case N_w185 => k_asm); (case m_w185 => k_mem); (case a_w185 => first | with_reducible assumption | exact Int.fmod_nonneg_of_pos _ (by with_reducible assumption) | omega | exact Int.fmod_nonneg_of_pos _ (by omega)); (case b_w185 => first | with_reducible assumption | exact Int.fmod_lt_of_pos _ (by with_reducible assumption) | omega | exact Int.fmod_lt_of_pos _ (by omega)); (case c_w185 => first | exact Nat.le_trans (by with_reducible assumption) (by exact Nat.le_of_ble_eq_true rfl) | omega); k_whole; intro _ _) | (refine' lw_getInt ?I_w185 ?N_w185 ?m_w185 ?a_w185 ?b_w185 ?c_w185 ?_; (case I_w185 => assumption); (case N_w185 => k_asm); (case m_w185 => k_mem); (case a_w185 => first | with_reducible assumption | exact Int.fmod_nonneg_of_pos _ (by with_reducible assumption) | omega | exact Int.fmod_nonneg_of_pos _ (by omega)); (case b_w185 => first | with_reducible assumption | exact Int.fmod_lt_of_pos _ (by with_reducible assumption) | omega | exact Int.fmod_lt_of_pos _ (by omega)); (case c_w185 => first | exact Nat.le_trans (by with_reducible assumption) (by exact Nat.le_of_ble_eq_true rfl) | omega); k_whole; intro _ _ _))))
          k_with "call ref" => ((k_here; (with_reducible show wpAny _ _ (call (Value.ref 769) _) _ _ _); k_dflt (refine' (spec_safe _).use (by k_asm) (by k_asm) (by k_asm) (by k_asm) (by k_asm) (by first | exact rfl | assumption) (by exact trivial) ?hd_w186 ?hu_w186 ?_; (case hd_w186 => k_room); (case hu_w186 => k_units)); k_whole; intro r9 n9 h9 t9 F9 N9 p9; (obtain ⟨sf9, add9, c9, o9⟩ := p9); (try dsimp only); (try k_unmd); (try k_sweep)))
          k_with "call ref" => ((k_here; (with_reducible show wpAny _ _ (call (Value.ref 388) _) _ _ _); k_dflt (refine' (spec_number _ _).use (by k_asm) (by k_asm) (by k_asm) (by k_asm) (by k_asm) (by first | exact rfl | assumption) (by exact trivial) ?hd_w187 ?hu_w187 ?_; (case hd_w187 => k_room); (case hu_w187 => k_units)); k_whole; intro r9 n9 h9 t9 F9 N9 p9; (obtain ⟨x9, dx9, li9, tp9, t19, t29, t39, t49, t59, t69, t79, t89, l9, m9, q9, o9⟩ := p9; (try simp only [AllLt, and_true] at l9)); (try dsimp only); (try k_unmd); (try k_sweep)))
          k_with "call ref" => ((k_here; (with_reducible show wpAny _ _ (call (Value.ref 388) _) _ _ _); k_dflt (refine' (spec_number3 _ _).use (by k_asm) (by k_asm) (by k_asm) (by k_asm) (by k_asm) (by first | exact rfl | assumption) (by exact trivial) ?hd_w188 ?hu_w188 ?_; (case hd_w188 => k_room); (case hu_w188 => k_units)); k_whole; intro r9 n9 h9 t9 F9 N9 p9; (obtain ⟨x9, dx9, li9, tp9, t19, t29, t39, t49, t59, t69, t79, t89, l9, m9, q9, o9⟩ := p9; (try simp only [AllLt, and_true] at l9)); (try dsimp only); (try k_unmd); (try k_sweep)))
          repeat' (first | (k_unfold; (try dsimp only)) | (k_unmd; k_unfold; (try dsimp only)) | (k_end; wrow_close) | ((fail_if_success (with_reducible show wpAny _ _ (call (Value.ref 818) _) _ _ _)); walk1) | ((fail_if_success (with_reducible show wpAny _ _ (call (Value.ref 818) _) _ _ _)); dsimp only; walk1) | (leave1; walk_say "STEP leave1"; try dsimp only) | fail "no step")
          (rename SafeAt _ _ => hS)
          k_dflt (refine' (spec_fold _ _ _ (fold_all_add _) _ _ _ _ _).use (by k_asm) (by k_asm) (by k_asm) (by k_asm) (by k_asm) rfl ⟨hE.mono (fun p hp => List.mem_append_right _ (.tail _ hp)), hS.mono (fun p hp => List.mem_append_left _ hp)⟩ ?hd_W14t6 ?hu_W14t6 ?_; (case hd_W14t6 => k_room); (case hu_W14t6 => k_units))
          k_whole
          intro r9 n9 h9 t9 F9 N9 p9
          rcases p9 with ⟨tr9, tl9, o9, d1, d2, y9, yd9, yl9, yt9, ys9, ye9, tm9, yn9⟩ | ⟨tr9, tl9, o9, d1, tm9⟩
          · (try dsimp only); (try k_unmd); (try k_sweep)
            have hcM := mem_cells N9
            obtain ⟨s11, s12, s13, s14, s15, s16, s17, s18, g11, g12, g13, g14⟩ := id yn9
            k_with "ite" => (k_dflt (first | refine ite_neg (dbl_yes hT9 d2 rfl) ?_ | refine ite_neg (dbl_same rfl) ?_))
            repeat' (first | (k_unfold; (try dsimp only)) | (k_unmd; k_unfold; (try dsimp only)) | (k_end; wrow_close) | walk1 | (dsimp only; walk1) | (leave1; walk_say "STEP leave1"; try dsimp only) | fail "no step")
            (rename Fr _ _ _ _ => lF); (rename News _ _ _ _ => lN)
            exact cut_fin _ _ _ _ lF lN (by k_mem) (by rfl)
          · (try dsimp only); (try k_unmd); (try k_sweep)
            have hcM := mem_cells N9
            k_with "ite" => (k_dflt (refine ite_neg (dbl_no hT9 d1 rfl) ?_))
            repeat' (first | (k_unfold; (try dsimp only)) | (k_unmd; k_unfold; (try dsimp only)) | (k_end; wrow_close) | walk1 | (dsimp only; walk1) | (leave1; walk_say "STEP leave1"; try dsimp only) | fail "no step")
            (rename Fr _ _ _ _ => lF); (rename News _ _ _ _ => lN)
            exact cut_fin _ _ _ _ lF lN (by k_mem) (by rfl)
end Mine
theorem PySem.Challenge.cw_qd0178_01_holds : PySem.Challenge.rw_qd0178_01.Holds :=
  Mine.law_all
