import PyProof.Rows.All
import Wide.All
import OpenK.AllK
import Wide.FinOn
import PySem.Challenge.RW_ok0112_01
set_option Elab.async false
set_option maxRecDepth 100000
set_option maxHeartbeats 8000000
namespace Mine
section
open PySem PySem.W PyProof.Rows
open_top hd for PySem.Challenge.rw_ok0112_01
end
open PySem PySem.Calls PySem.W PySem.Spec PyProof.Rows
theorem szl {i : Nat} (h : i ≤ 4000000) : i ≤ sizeLine := by rw [sizeLine_eq]; omega
theorem neg_nat (n : Nat) : (-1000000 : Int) ≤ (n : Int) := by omega
theorem o_t0 (k : Nat) : ((k : Int) - 0).toNat = k := by omega
theorem o_t1 {j k : Nat} (h : j < ((k : Int) - 0).toNat) : j < k := by omega
theorem o_t2 {j k : Nat} (h : j < ((k : Int) - 0).toNat) : j + 1 ≤ k := by omega
theorem o_e2 {a b c d : Nat} (h : a = b) (h2 : b ≤ c) (h3 : c ≤ d) : a ≤ d := by omega
theorem o_s2 {a b c d : Nat} (h : a < b) (h2 : b ≤ c) (h3 : c ≤ d) : a ≤ d := by omega
theorem o_l2 {a b c d : Nat} (h : a ≤ b) (h2 : b ≤ c) (h3 : c ≤ d) : a ≤ d := by omega
theorem o_s3 {a b c d e : Nat} (h : a < b) (h2 : b ≤ c) (h3 : c ≤ d) (h4 : d ≤ e) : a ≤ e := by omega
theorem o_e3 {a b c d e : Nat} (h : a = b) (h2 : b ≤ c) (h3 : c ≤ d) (h4 : d ≤ e) : a ≤ e := by omega
theorem o_i1 {a b : Nat} (h : a ≤ b) (h2 : b ≤ 1000000) : (a : Int) ≤ 1000000 := by omega
theorem o_i2 {a b c : Nat} (h : a < b) (h2 : b ≤ c) (h3 : c ≤ 1000000) : (a : Int) ≤ 1000000 := by omega
theorem o_i3 {a b c : Nat} (h : a = b) (h2 : b ≤ c) (h3 : c ≤ 1000000) : (a : Int) ≤ 1000000 := by omega
theorem o_i63 {a b c : Nat} (h : a < b) (h2 : b ≤ c) (h3 : c ≤ 1000000) : (a : Int) < 2 ^ 63 := by omega
theorem o_pw {a b c d : Nat} (h : a < b) (h2 : b ≤ c) (h3 : c ≤ d) : a < d := by omega
theorem o_le {a b c : Nat} (h : a < b) (h2 : c = b) : a < c := by omega
theorem o_tn {g : Int} (h : 0 ≤ g) : g = (g.toNat : Int) := by omega
theorem o_dec {i n : Nat} (h : i < n) : n - (i + 1) < n - i := by omega
theorem o_em {n m : Nat} (h : (n : Int) = (m : Int)) : n = m := by omega
theorem o_lc {n m : Nat} (h : n < m) : (n : Int) < (m : Int) := by omega
theorem o_neg {n : Nat} (h : (n : Int) < 0) : False := by omega
theorem o_z {n : Nat} (h : n < 0) : False := by omega
set_option hygiene false in
local macro_rules | `(tactic| walk_at "n") => `(tactic| first
  | (with_reducible refine wpAny_execs_nil ?_)
  | (with_reducible refine wpAny_Return_some ?_)
  | (with_reducible refine wpAny_If ?_)
  | (with_reducible refine wpAny_BinOp ?_)
  | (with_reducible refine wpAny_UnaryOp ?_)
  | (with_reducible refine Subscript_ ?_)
  | ((with_reducible show wpAny _ _ (exec (Stmt.Assign [Expr.Name _ _] _ _) _) _ _ _); refine wpAny_Assign_Name ?_)
  | ((with_reducible show wpAny _ _ (exec (Stmt.Expr _ _) _) _ _ _); refine wpAny_Expr ?_)
  | ((with_reducible show wpAny _ _ (PySem.isTrue (Expr.Compare _ _ _ _) _ _) _ _ _); refine wpAny_isTrue_Compare1 ?_)
  | ((with_reducible show wpAny _ _ (eval (Expr.Compare _ _ _ _) _) _ _ _); refine wpAny_Compare1 ?_)
  | ((with_reducible show wpAny _ _ (eval (Expr.Constant (Const.int _) _ _) _) _ _ _); refine r_int S ?_; clear S; intro t s S)
  | ((with_reducible show wpAny _ _ (eval (Expr.Name _ _) _) _ _ _); refine r_loc S (by rfl) ?_)
  | ((with_reducible show wpAny _ _ (storeName _ _ _) _ _ _); refine r_store S ?_; clear S; intro s S)
  | ((with_reducible show wpAny _ _ (binaryOp Operator.Add (Value.int _ _) (Value.int _ _)) _ _ _); refine r_add S ?_; clear S; intro t s S)
  | ((with_reducible show wpAny _ _ (binaryOp Operator.Sub (Value.int _ _) (Value.int _ _)) _ _ _); refine r_sub S ?_; clear S; intro t s S)
  | ((with_reducible show wpAny _ _ (binaryOp Operator.BitAnd (Value.int _ _) (Value.int _ _)) _ _ _); refine r_and S ?_; clear S; intro t s S)
  | ((with_reducible show wpAny _ _ (binaryOp Operator.BitOr (Value.int _ _) (Value.int _ _)) _ _ _); refine r_or S ?_; clear S; intro t s S)
  | ((with_reducible show wpAny _ _ (unaryOp UnaryOp.USub (Value.int _ _)) _ _ _); refine r_neg S ?_; clear S; intro t s S)
  | ((with_reducible show wpAny _ _ (compareOp CmpOp.Gt (Value.int _ _) (Value.int _ _)) _ _ _); refine PyProof.Rows.gt_int ?_)
  | ((with_reducible show wpAny _ _ (compareOp CmpOp.Lt (Value.int _ _) (Value.int _ _)) _ _ _); refine PyProof.Rows.lt_int ?_)
  | ((with_reducible show wpAny _ _ (compareOp CmpOp.Eq (Value.int _ _) (Value.int _ _)) _ _ _); refine eq_int ?_)
  | ((with_reducible show wpAny _ _ (compareOp CmpOp.NotEq (Value.int _ _) (Value.int _ _)) _ _ _); refine PyProof.Rows.ne_int ?_)
  | ((with_reducible show wpAny _ _ (truthy (Value.bool _)) _ _ _); refine wpAny_truthy_bool ?_)
  | ((with_reducible show wpAny _ _ (spliced (backTo _ (starEach [] _))) _ _ _); refine spliced_none ?_)
  | ((with_reducible show wpAny _ _ (spliced (backTo _ (starEach (_ :: _) _))) _ _ _); refine spliced_more ?_)
  | ((with_reducible show wpAny _ _ (eval (Expr.List _ _) _) _ _ _); refine List_ ?_)
  | ((with_reducible show wpAny _ _ (eval (Expr.Tuple _ _ _) _) _ _ _); refine Tuple_ ?_)
  | ((with_reducible show wpAny _ _ (eval (Expr.Attribute _ _ _) _) _ _ _); refine Attribute_any_ ?_)
  | ((with_reducible show wpAny _ _ (exec (Stmt.Assign [Expr.Subscript _ _ _] _ _) _) _ _ _); refine wpAny_Assign_Subscript ?_)
  | ((with_reducible show wpAny _ _ (PySem.isTrue (Expr.Subscript _ _ _) _ _) _ _ _); refine isTrue_plain ?_)
  | ((with_reducible show wpAny _ _ (PySem.isTrue (Expr.BinOp _ _ _ _) _ _) _ _ _); refine isTrue_plain ?_)
  | ((with_reducible show wpAny _ _ (exec (Stmt.Continue _) _) _ _ _); refine wpAny_Continue ?_)
  | ((with_reducible show wpAny _ _ (truthy (Value.int _ _)) _ _ _); refine truthy_int ?_)
  | ((with_reducible show wpAny _ _ (eval (Expr.IfExp _ _ _ _) _) _ _ _); refine IfExp_ ?_)
  | ((with_reducible show wpAny _ _ (PySem.isTrue (Expr.BoolOp BoolOp.And (_ :: _) _) _ _) _ _ _); refine isTrue_and ?_)
  | ((with_reducible show wpAny _ _ (PySem.isTrue (Expr.BoolOp BoolOp.And [] _) _ _) _ _ _); refine isTrue_and_nil ?_)
  | ((with_reducible show wpAny _ _ (PySem.isTrue (Expr.BoolOp BoolOp.Or (_ :: _) _) _ _) _ _ _); refine isTrue_or ?_)
  | ((with_reducible show wpAny _ _ (PySem.isTrue (Expr.BoolOp BoolOp.Or [] _) _ _) _ _ _); refine isTrue_or_nil ?_)
  | ((with_reducible show wpAny _ _ (eval (Expr.Constant (Const.bool _) _ _) _) _ _ _); refine Constant_bool ?_)
  | ((with_reducible show wpAny _ _ (PySem.isTrue (Expr.Name _ _) _ _) _ _ _); refine isTrue_plain ?_)
  | ((with_reducible show wpAny _ _ (compareOp CmpOp.GtE (Value.int _ _) (Value.int _ _)) _ _ _); refine PyProof.Rows.ge_int ?_)
  | ((with_reducible show wpAny _ _ (eval (Expr.BoolOp BoolOp.And (_ :: _ :: _) _) _) _ _ _); refine BoolOp_and ?_)
  | ((with_reducible show wpAny _ _ (eval (Expr.BoolOp BoolOp.And [_] _) _) _ _ _); refine BoolOp_one ?_)
  | dsimp only)
set_option hygiene false in
local macro_rules | `(tactic| walk_at "m") => `(tactic| first
  | (with_reducible refine wpAny_execs_cons ?_)
  | walk_at "n")
section
abbrev Cell := Obj → Prop
abbrev Imm := Addr → Obj → Prop

/-- the frames around have room: no exception is handled, n more frames and 10 n more units fit -/
def OkA (n : Nat) (A : Around) : Prop := A.handled = none ∧ A.depth + n < 1000 ∧ A.units + 10 * n < 9900

theorem OkA.le {n k : Nat} {A : Around} (h : OkA n A) (hk : k ≤ n) : OkA k A := ⟨h.1, by have := h.2.1; omega, by have := h.2.2; omega⟩
theorem OkA.deeper {n : Nat} {A : Around} {env : Env} (h : OkA (n + 1) A) : OkA n (A.deeper env) :=
  ⟨h.1, by have := h.2.1; show A.depth + 1 + n < 1000; omega, by have := h.2.2; show A.units + 3 + 10 * n < 9900; omega⟩
theorem OkA.in1 {n : Nat} {A : Around} (h : OkA (n + 1) A) : OkA n A.in1 :=
  ⟨h.1, by have := h.2.1; show A.depth + n < 1000; omega, by have := h.2.2; show A.units + 1 + 10 * n < 9900; omega⟩
theorem OkA.hh {n : Nat} {A : Around} (h : OkA n A) : A.handled = none := h.1
theorem OkA.room {n : Nat} {A : Around} (h : OkA n A) : A.depth < recursionLimit := by have := h.2.1; show A.depth < 1000; omega
theorem OkA.cl {n : Nat} {A : Around} (h : OkA n A) : A.units < cLine := by have := h.2.2; have := cLine_is; omega
theorem OkA.cl1 {n : Nat} {A : Around} (h : OkA (n + 1) A) : A.units + 1 < cLine := by have := h.2.2; have := cLine_is; omega

/-- the world's facts over a heap: the written part, the names -/
def Wd (K : Frag) (h : Heap) : Prop := K.In h ∧ ∃ p loose mg mb, TopRead p loose mg mb h

theorem Wd.keeps {K : Frag} {h h' : Heap} (W : Wd K h) (k : ∀ b o, h.get? b = some o → h'.get? b = some o) : Wd K h' :=
  let ⟨X, p, loose, mg, mb, T⟩ := W
  ⟨X.keeps k, p, loose, mg, mb, ⟨T.g.keeps k, T.b.keeps k, T.nolimit.keeps k, T.builtins, T.free⟩⟩
theorem Wd.nolimit {K : Frag} {h : Heap} (W : Wd K h) : h.NoLimit := let ⟨_, _, _, _, _, T⟩ := W; T.nolimit

/-- what a call finds: the heap, and what is finished in it -/
structure Base where
  h : Heap
  I : Imm

/-- the state of a frame: h₀ the heap at the call, I what is finished, L the frame's names, muts the cells that may turn -/
structure St (K : Frag) (h₀ : Base) (I : Imm) (L : Addr) (vars : List (Str × Value)) (muts : List (Addr × Cell)) (s₀ s : Shared) : Prop where
  wd : Wd K h₀.h
  gens : s.gens = s₀.gens
  drawn : s.drawn = s₀.drawn
  os : s.os = s₀.os
  keep : ∀ b o, h₀.h.get? b = some o → s.heap.get? b = some o
  above : h₀.h.objs.size ≤ L
  fresh : ∀ a o, I a o → h₀.I a o ∨ h₀.h.get? a = none
  ns : ∃ m, s.heap.Ns L m ∧ ∀ x v, vars.lookup x = some v → m x = some v
  imm : ∀ a o, I a o → s.heap.get? a = some o ∧ a ≠ L
  cel : ∀ p ∈ muts, (∃ o, s.heap.get? p.1 = some o ∧ p.2 o) ∧ p.1 ≠ L ∧ h₀.h.get? p.1 = none ∧ ∀ o, ¬ I p.1 o
  nd : muts.Pairwise (fun p q => p.1 ≠ q.1)

variable {K : Frag} {h₀ : Base} {I I' : Imm} {L : Addr} {vars vars' : List (Str × Value)} {muts muts' : List (Addr × Cell)} {s₀ s s' : Shared}

theorem St.wds (S : St K h₀ I L vars muts s₀ s) : Wd K s.heap := S.wd.keeps S.keep
theorem St.X (S : St K h₀ I L vars muts s₀ s) : K.In s.heap := S.wds.1
theorem St.lnew (S : St K h₀ I L vars muts s₀ s) : h₀.h.get? L = none := by
  cases h : h₀.h.get? L with
  | none => rfl
  | some o => exact absurd (Heap.lt_size h) (Nat.not_lt.mpr S.above)
theorem St.eq (S : St K h₀ I L vars muts s₀ s) : s = { s₀ with heap := s.heap, toks := s.toks } := by
  cases s; cases s₀; have := S.gens; have := S.drawn; have := S.os; simp_all
theorem St.llt (S : St K h₀ I L vars muts s₀ s) : L < s.heap.objs.size := let ⟨_, n, _⟩ := S.ns; n.lt

/-- nothing that stood has turned -/
theorem St.ext (S : St K h₀ I L vars muts s₀ s) {h' : Heap} {tk : Nat} (k : ∀ b o, s.heap.get? b = some o → h'.get? b = some o) :
    St K h₀ I L vars muts s₀ { s with heap := h', toks := tk } where
  wd := S.wd
  gens := S.gens
  drawn := S.drawn
  os := S.os
  keep := fun b o e => k b o (S.keep b o e)
  above := S.above
  fresh := S.fresh
  ns := let ⟨m, n, q⟩ := S.ns; ⟨m, n.keeps k, q⟩
  imm := fun a o e => ⟨k _ _ (S.imm a o e).1, (S.imm a o e).2⟩
  cel := fun p hp => let ⟨⟨o, e, c⟩, r⟩ := S.cel p hp; ⟨⟨o, k _ _ e, c⟩, r⟩
  nd := S.nd
theorem St.toks (S : St K h₀ I L vars muts s₀ s) {tk : Nat} : St K h₀ I L vars muts s₀ { s with toks := tk } := S.ext fun _ _ e => e

/-- a new object, held as a cell -/
theorem St.new (S : St K h₀ I L vars muts s₀ s) {h' : Heap} {tk : Nat} {a : Addr} {o : Obj} {c : Cell} (k : ∀ b o, s.heap.get? b = some o → h'.get? b = some o)
    (ha : s.heap.get? a = none) (ho : h'.get? a = some o) (hc : c o) : St K h₀ I L vars ((a, c) :: muts) s₀ { s with heap := h', toks := tk } :=
  let S' := S.ext (tk := tk) k
  { S' with
    cel := fun p hp => by
      rcases List.mem_cons.mp hp with rfl | hp
      · refine ⟨⟨o, ho, hc⟩, ?_, ?_, ?_⟩
        · rintro rfl
          obtain ⟨m, ⟨o', _, _, e, _⟩, _⟩ := S.ns
          rw [e] at ha; cases ha
        · cases e : h₀.h.get? a with
          | none => rfl
          | some o' => have := S.keep _ _ e; rw [this] at ha; cases ha
        · intro o' e
          have := (S.imm _ _ e).1
          rw [this] at ha; cases ha
      · exact S'.cel p hp
    nd := by
      refine List.pairwise_cons.mpr ⟨fun p hp => ?_, S'.nd⟩
      rintro rfl
      obtain ⟨⟨o', e, _⟩, _⟩ := S.cel p hp
      rw [e] at ha; cases ha }
theorem St.push (S : St K h₀ I L vars muts s₀ s) {tk : Nat} {o : Obj} {c : Cell} (hc : c o) (hf : o.isFreed = false := by rfl) :
    St K h₀ I L vars ((s.heap.objs.size, c) :: muts) s₀ { s with heap := s.heap.push o, toks := tk } :=
  S.new (fun b o' e => Heap.get?_push_of_some o e) (by
    cases e : s.heap.get? s.heap.objs.size with
    | none => rfl
    | some o' => exact absurd (Heap.lt_size e) (Nat.lt_irrefl _)) (Heap.get?_push_size _ hf) hc

/-- the cell at the head turns -/
theorem St.upd {a : Addr} {c c' : Cell} (S : St K h₀ I L vars ((a, c) :: muts) s₀ s) {h' : Heap} {tk : Nat} {o : Obj} (k : ∀ b o, b ≠ a → s.heap.get? b = some o → h'.get? b = some o)
    (ho : h'.get? a = some o) (hc : c' o) : St K h₀ I L vars ((a, c') :: muts) s₀ { s with heap := h', toks := tk } := by
  obtain ⟨_, haL, hah, haI⟩ := S.cel _ (.head _)
  refine { wd := S.wd, gens := S.gens, drawn := S.drawn, os := S.os, fresh := S.fresh, keep := fun b o e => ?_, above := S.above, ns := ?_, imm := fun b o e => ?_, cel := fun p hp => ?_, nd := ?_ }
  · refine k _ _ ?_ (S.keep b o e)
    rintro rfl
    simp only at hah; rw [hah] at e; cases e
  · obtain ⟨m, n, q⟩ := S.ns
    exact ⟨m, n.at' fun o e => k _ _ (Ne.symm haL) e, q⟩
  · refine ⟨k _ _ ?_ (S.imm b o e).1, (S.imm b o e).2⟩
    rintro rfl
    exact haI _ e
  · rcases List.mem_cons.mp hp with rfl | hp
    · exact ⟨⟨o, ho, hc⟩, haL, hah, haI⟩
    · obtain ⟨⟨o', e, c''⟩, r⟩ := S.cel p (.tail _ hp)
      exact ⟨⟨o', k _ _ (Ne.symm ((List.pairwise_cons.mp S.nd).1 p hp)) e, c''⟩, r⟩
  · exact List.pairwise_cons.mpr ⟨fun p hp => (List.pairwise_cons.mp S.nd).1 p hp, (List.pairwise_cons.mp S.nd).2⟩

/-- a name is stored -/
theorem St.store (S : St K h₀ I L vars muts s₀ s) {h' : Heap} {tk : Nat} {x : Str} {v : Value} {m m' : Str → Option Value} (hm : ∀ x v, vars.lookup x = some v → m x = some v)
    (hn : h'.Ns L m') (he : ∀ y, m' y = if y = x then some v else m y) (hs : ∀ b o, b ≠ L → s.heap.get? b = some o → h'.get? b = some o) : St K h₀ I L ((x, v) :: vars) muts s₀ { s with heap := h', toks := tk } where
  wd := S.wd
  gens := S.gens
  drawn := S.drawn
  os := S.os
  keep := fun b o e => hs b o (by rintro rfl; have := S.lnew; rw [this] at e; cases e) (S.keep b o e)
  above := S.above
  fresh := S.fresh
  ns := ⟨m', hn, fun y u e => by
    rw [he]
    rw [List.lookup_cons] at e
    by_cases h : y = x
    · subst h; simp at e; simp [e]
    · have : (y == x) = false := by simpa using h
      rw [this] at e
      rw [if_neg h]; exact hm y u e⟩
  imm := fun a o e => ⟨hs _ _ (S.imm a o e).2 (S.imm a o e).1, (S.imm a o e).2⟩
  cel := fun p hp => let ⟨⟨o, e, c⟩, r⟩ := S.cel p hp; ⟨⟨o, hs _ _ r.1 e, c⟩, r⟩
  nd := S.nd

/-- all these names are known -/
def VIn (vars : List (Str × Value)) : List (Str × Value) → Prop
  | [] => True
  | p :: r => vars.lookup p.1 = some p.2 ∧ VIn vars r
theorem VIn.mem {vars : List (Str × Value)} : ∀ {vs : List (Str × Value)}, VIn vars vs → ∀ p ∈ vs, vars.lookup p.1 = some p.2
  | _ :: _, ⟨h, _⟩, _, .head _ => h
  | _ :: _, ⟨_, r⟩, _, .tail _ m => r.mem _ m

theorem St.revarsM (S : St K h₀ I L vars muts s₀ s) (h : ∀ p ∈ vars', vars.lookup p.1 = some p.2) : St K h₀ I L vars' muts s₀ s :=
  { S with
    ns := by
      obtain ⟨m, n, q⟩ := S.ns
      refine ⟨m, n, fun x v e => q x v ?_⟩
      have : (x, v) ∈ vars' := by
        clear h q
        induction vars' with
        | nil => simp at e
        | cons p r ih =>
          obtain ⟨y, u⟩ := p
          rw [List.lookup_cons] at e
          cases hb : x == y with
          | true => rw [hb] at e; simp at e; have := eq_of_beq hb; subst this; subst e; exact .head _
          | false => rw [hb] at e; exact .tail _ (ih e)
      exact h _ this }

theorem St.revars (S : St K h₀ I L vars muts s₀ s) (h : VIn vars vars') : St K h₀ I L vars' muts s₀ s := S.revarsM h.mem

/-- fewer cells, in another order -/
theorem St.recells (S : St K h₀ I L vars muts s₀ s) (h : ∀ p ∈ muts', ∃ q ∈ muts, q.1 = p.1 ∧ ∀ o, q.2 o → p.2 o) (nd : muts'.Pairwise (fun p q => p.1 ≠ q.1)) : St K h₀ I L vars muts' s₀ s :=
  { S with
    cel := fun p hp => by
      obtain ⟨q, hq, e, i⟩ := h p hp
      obtain ⟨⟨o, e1, c⟩, r⟩ := S.cel q hq
      rw [e] at r e1
      exact ⟨⟨o, e1, i _ c⟩, r⟩
    nd := nd }
theorem St.drop {p : Addr × Cell} (S : St K h₀ I L vars (p :: muts) s₀ s) : St K h₀ I L vars muts s₀ s :=
  S.recells (fun q hq => ⟨q, .tail _ hq, rfl, fun _ h => h⟩) (List.pairwise_cons.mp S.nd).2
theorem St.swap {p q : Addr × Cell} (S : St K h₀ I L vars (p :: q :: muts) s₀ s) : St K h₀ I L vars (q :: p :: muts) s₀ s := by
  have h := List.pairwise_cons.mp S.nd
  have h2 := List.pairwise_cons.mp h.2
  refine S.recells (fun r hr => ⟨r, ?_, rfl, fun _ h => h⟩) (List.pairwise_cons.mpr ⟨fun r hr => ?_, List.pairwise_cons.mpr ⟨fun r hr => h.1 r (.tail _ hr), h2.2⟩⟩)
  · simp only [List.mem_cons] at hr ⊢; rcases hr with h | h | h <;> simp [h]
  · rcases List.mem_cons.mp hr with rfl | hr
    · exact Ne.symm (h.1 _ (.head _))
    · exact h2.1 r hr
/-- the second, third, fourth .. cell to the front -/
theorem St.rot2 {p q r : Addr × Cell} (S : St K h₀ I L vars (p :: q :: r :: muts) s₀ s) : St K h₀ I L vars (r :: p :: q :: muts) s₀ s := by
  have h := List.pairwise_cons.mp S.nd
  have h2 := List.pairwise_cons.mp h.2
  have h3 := List.pairwise_cons.mp h2.2
  refine S.recells (fun t ht => ⟨t, ?_, rfl, fun _ h => h⟩) ?_
  · simp only [List.mem_cons] at ht ⊢; rcases ht with h | h | h | h <;> simp [h]
  · refine List.pairwise_cons.mpr ⟨fun t ht => ?_, List.pairwise_cons.mpr ⟨fun t ht => ?_, List.pairwise_cons.mpr ⟨fun t ht => h2.1 t (.tail _ ht), h3.2⟩⟩⟩
    · simp only [List.mem_cons] at ht
      rcases ht with rfl | rfl | ht
      · exact Ne.symm (h.1 _ (.tail _ (.head _)))
      · exact Ne.symm (h2.1 _ (.head _))
      · exact h3.1 t ht
    · simp only [List.mem_cons] at ht
      rcases ht with rfl | ht
      · exact h.1 _ (.head _)
      · exact h.1 _ (.tail _ (.tail _ ht))
theorem St.weak {a : Addr} {c c' : Cell} (S : St K h₀ I L vars ((a, c) :: muts) s₀ s) (h : ∀ o, c o → c' o) : St K h₀ I L vars ((a, c') :: muts) s₀ s :=
  S.recells (fun p hp => by
    rcases List.mem_cons.mp hp with rfl | hp
    · exact ⟨_, .head _, rfl, h⟩
    · exact ⟨p, .tail _ hp, rfl, fun _ h => h⟩) (List.pairwise_cons.mpr ⟨fun p hp => (List.pairwise_cons.mp S.nd).1 p hp, (List.pairwise_cons.mp S.nd).2⟩)

/-- the finished ones and one more -/
def Add (I : Imm) (a : Addr) (o : Obj) : Imm := fun b o' => I b o' ∨ (b = a ∧ o' = o)
theorem St.freeze {a : Addr} {c : Cell} (S : St K h₀ I L vars ((a, c) :: muts) s₀ s) : ∃ o, c o ∧ s.heap.get? a = some o ∧ St K h₀ (Add I a o) L vars muts s₀ s := by
  obtain ⟨⟨o, e, hc⟩, hL, hn, hI⟩ := S.cel _ (.head _)
  refine ⟨o, hc, e, { S.drop with imm := fun b o' h => ?_, cel := fun p hp => ?_, fresh := fun b o' h => h.elim (S.fresh b o') fun e => .inr (e.1 ▸ hn) }⟩
  · rcases h with h | ⟨rfl, rfl⟩
    · exact S.imm b o' h
    · exact ⟨e, hL⟩
  · obtain ⟨r1, r2, r3, r4⟩ := S.cel p (.tail _ hp)
    refine ⟨r1, r2, r3, fun o' h => ?_⟩
    rcases h with h | ⟨e', _⟩
    · exact r4 o' h
    · exact (List.pairwise_cons.mp S.nd).1 p hp e'.symm

/-- the finished may be taken as fewer -/
theorem St.reimm (S : St K h₀ I L vars muts s₀ s) (h : ∀ a o, I' a o → I a o) : St K h₀ I' L vars muts s₀ s :=
  { S with imm := fun a o e => S.imm a o (h a o e), fresh := fun a o e => S.fresh a o (h a o e), cel := fun p hp => let ⟨a, b, c, d⟩ := S.cel p hp; ⟨a, b, c, fun o e => d o (h _ _ e)⟩ }
end
section
variable {prog : Program} {w : World} {A : Around} {E : Value → Shared → Prop} {env : Env}
variable {K : Frag} {h₀ : Base} {I I' : Imm} {L : Addr} {vars vars' : List (Str × Value)} {muts muts' : List (Addr × Cell)} {s₀ s s' : Shared}
variable {x : Str} {pos npos : Pos} {v : Value} {a b : Int} {t u : Tok}

section names
variable {Q : Value → Shared → Prop}
theorem r_loc (S : St K h₀ I L vars muts s₀ s) (hv : vars.lookup x = some v) (h : Q v s) (hL : env.locals = L := by rfl) (hk : env.scope.kind = .function := by rfl)
    (hx : env.kindOf x = some .local := by rfl) (hd : (x == ("__debug__" : Str)) = false := by decide) : wpAny (model prog w) A (eval (.Name x pos) env) Q E s := by
  subst hL
  obtain ⟨m, n, q⟩ := S.ns
  exact wpAny_Name (wpAny_loadName_local hk hx n (q _ _ hv) h) hd

def IsCellO (v : Value) : Cell := fun o => o.data = .cell (some v)

theorem r_cell {c : Addr} {o : Obj} (S : St K h₀ I L vars muts s₀ s) (hc : env.cells.lookup x = some c) (hI : I c o) (hv : o.data = .cell (some v)) (h : Q v s) (hk : env.scope.kind = .function := by rfl)
    (hx : env.kindOf x = some .cell := by rfl) (hd : (x == ("__debug__" : Str)) = false := by decide) : wpAny (model prog w) A (eval (.Name x pos) env) Q E s :=
  wpAny_Name (wpAny_loadName_cell hk hx hc ⟨o, (S.imm _ _ hI).1, hv⟩ h) hd
theorem r_free {c : Addr} {o : Obj} (S : St K h₀ I L vars muts s₀ s) (hc : env.cells.lookup x = some c) (hI : I c o) (hv : o.data = .cell (some v)) (h : Q v s) (hk : env.scope.kind = .function := by rfl)
    (hx : env.kindOf x = some .free := by rfl) (hd : (x == ("__debug__" : Str)) = false := by decide) (hn : (x == ("__classdict__" : Str)) = false := by decide) : wpAny (model prog w) A (eval (.Name x pos) env) Q E s :=
  wpAny_Name (wpAny_loadName_free hk hx hc ⟨o, (S.imm _ _ hI).1, hv⟩ h hn) hd

theorem r_glob (S : St K h₀ I L vars muts s₀ s) (e : nsIn K mainGlobals x = some (some v)) (h : Q v s) (hg : env.globals = mainGlobals := by rfl) (hk : env.scope.kind = .function := by rfl)
    (hx : env.kindOf x = some .globalImplicit := by rfl) (hd : (x == ("__debug__" : Str)) = false := by decide) : wpAny (model prog w) A (eval (.Name x pos) env) Q E s := by
  obtain ⟨X, p, loose, mg, mb, T⟩ := S.wds
  exact Name_function_global hk hx (loadGlobal_global (mg := mg) (by rw [hg]; exact T.g) (mg_of X T.g e) h) hd
theorem r_bi (S : St K h₀ I L vars muts s₀ s) (e : nsIn K mainGlobals x = some none) (hv : bootBuiltins x = some v) (hn : x ≠ "__name__") (h : Q v s) (hg : env.globals = mainGlobals := by rfl) (hb : env.builtins = builtinsNs := by rfl)
    (hk : env.scope.kind = .function := by rfl) (hx : env.kindOf x = some .globalImplicit := by rfl) (hd : (x == ("__debug__" : Str)) = false := by decide) : wpAny (model prog w) A (eval (.Name x pos) env) Q E s := by
  obtain ⟨X, p, loose, mg, mb, T⟩ := S.wds
  exact Name_function_global hk hx (loadGlobal_builtin (mg := mg) (mb := mb) (by rw [hg]; exact T.g) (mg_none_of X T.g e) (by rw [hb]; exact T.b) ((T.builtins x hn).trans hv) h) hd
end names

section stores
variable {Q : Unit → Shared → Prop}
theorem r_store (S : St K h₀ I L vars muts s₀ s) (h : ∀ s', St K h₀ I L ((x, v) :: vars) muts s₀ s' → Q () s') (hL : env.locals = L := by rfl) (hx : env.kindOf x = some .local := by rfl) (hk : env.scope.kind = .function := by rfl) :
    wpAny (model prog w) A (storeName env x v) Q E s := by
  subst hL
  obtain ⟨m, n, q⟩ := S.ns
  refine wpAny_storeName_local hx n (fun h' hn hs => h _ (S.store q hn (fun y => rfl) fun b o hb e => (hs.2 b hb).trans e)) ?_
  rw [hk]; rfl
/-- a captured name is stored for the first time: its cell is at the head -/
theorem r_storeC {c : Addr} {v₀ : Option Value} (S : St K h₀ I L vars ((c, fun o => o.data = .cell v₀) :: muts) s₀ s) (hc : env.cells.lookup x = some c) (h : ∀ s', St K h₀ I L vars ((c, IsCellO v) :: muts) s₀ s' → Q () s')
    (hx : env.kindOf x = some .cell := by rfl) (hk : env.scope.kind = .function := by rfl) : wpAny (model prog w) A (storeName env x v) Q E s := by
  obtain ⟨⟨o, e, hd⟩, _⟩ := S.cel _ (.head _)
  refine wpAny_storeName_cell hk hx hc ⟨o, e, hd⟩ fun h' hv hs => h _ ?_
  obtain ⟨o', e', hd'⟩ := hv
  exact S.upd (fun b o hb e => (hs.2 b hb).trans e) e' hd'
end stores

section ops
variable {Q : Value → Shared → Prop}
theorem r_int {k : Nat} (S : St K h₀ I L vars muts s₀ s) (h : ∀ t s', St K h₀ I L vars muts s₀ s' → Q (.int a t) s') : wpAny (model prog w) A (eval (.Constant (.int a) k pos) env) Q E s := wpAny_Constant_int (h _ _ S.toks)
theorem r_add (S : St K h₀ I L vars muts s₀ s) (h : ∀ t s', St K h₀ I L vars muts s₀ s' → Q (.int (a + b) t) s') : wpAny (model prog w) A (binaryOp .Add (.int a t) (.int b u)) Q E s := add_int (h _ _ S.toks)
theorem r_sub (S : St K h₀ I L vars muts s₀ s) (h : ∀ t s', St K h₀ I L vars muts s₀ s' → Q (.int (a - b) t) s') : wpAny (model prog w) A (binaryOp .Sub (.int a t) (.int b u)) Q E s := sub_int (h _ _ S.toks)
theorem r_mul (S : St K h₀ I L vars muts s₀ s) (hm : IntMulOk a b) (h : ∀ t s', St K h₀ I L vars muts s₀ s' → Q (.int (a * b) t) s') : wpAny (model prog w) A (binaryOp .Mult (.int a t) (.int b u)) Q E s := mul_int (h _ _ S.toks) hm
theorem r_mod (S : St K h₀ I L vars muts s₀ s) (hb : b ≠ 0) (h : ∀ t s', St K h₀ I L vars muts s₀ s' → Q (.int (Int.fmod a b) t) s') : wpAny (model prog w) A (binaryOp .Mod (.int a t) (.int b u)) Q E s := mod_int' hb (h _ _ S.toks)
theorem r_or (S : St K h₀ I L vars muts s₀ s) (h : ∀ t s', St K h₀ I L vars muts s₀ s' → Q (.int (Builtin.bitOr a b) t) s') : wpAny (model prog w) A (binaryOp .BitOr (.int a t) (.int b u)) Q E s := or_int (h _ _ S.toks)
theorem r_and (S : St K h₀ I L vars muts s₀ s) (h : ∀ t s', St K h₀ I L vars muts s₀ s' → Q (.int (Builtin.bitAnd a b) t) s') : wpAny (model prog w) A (binaryOp .BitAnd (.int a t) (.int b u)) Q E s := and_int (h _ _ S.toks)
theorem r_shl (S : St K h₀ I L vars muts s₀ s) (h0 : 0 ≤ b) (h1 : b ≤ 1000000) (ha : a.natAbs < 2 ^ 64) (h : ∀ t s', St K h₀ I L vars muts s₀ s' → Q (.int (a * 2 ^ b.toNat) t) s') : wpAny (model prog w) A (binaryOp .LShift (.int a t) (.int b u)) Q E s :=
  lshift_int_small h0 h1 ha (h _ _ S.toks)
theorem r_shr1 (S : St K h₀ I L vars muts s₀ s) (h0 : 0 ≤ a) (h : ∀ t s', St K h₀ I L vars muts s₀ s' → Q (.int (a / 2) t) s') : wpAny (model prog w) A (binaryOp .RShift (.int a t) (.int 1 u)) Q E s := wpAny_rshift1_int h0 (h _ _ S.toks)
theorem r_neg (S : St K h₀ I L vars muts s₀ s) (h : ∀ t s', St K h₀ I L vars muts s₀ s' → Q (.int (-a) t) s') : wpAny (model prog w) A (unaryOp .USub (.int a t)) Q E s := neg_int (h _ _ S.toks)
theorem r_fdiv (S : St K h₀ I L vars muts s₀ s) (hb : b ≠ 0) (h : ∀ t s', St K h₀ I L vars muts s₀ s' → Q (.int (Int.fdiv a b) t) s') (hp : Builtin.divisionGoesByPylong a b = false ∨ PylongRoom (model prog w) A s) :
    wpAny (model prog w) A (binaryOp .FloorDiv (.int a t) (.int b u)) Q E s := floordiv_int hb (h _ _ S.toks) hp
end ops
end
section
variable {prog : Program} {w : World} {A : Around} {E : Value → Shared → Prop} {env : Env}
variable {K : Frag} {h₀ : Base} {I I' : Imm} {L : Addr} {vars vars' : List (Str × Value)} {muts muts' : List (Addr × Cell)} {s₀ s s' : Shared}
variable {x : Str} {pos npos : Pos} {v : Value} {a b : Int} {t u : Tok}

def Sub (I I' : Imm) : Prop := ∀ a o, I a o → I' a o
theorem Sub.refl : Sub I I := fun _ _ h => h
theorem Sub.trans {I'' : Imm} (h : Sub I I') (k : Sub I' I'') : Sub I I'' := fun a o e => k a o (h a o e)
theorem Sub.add {a : Addr} {o : Obj} : Sub I (Add I a o) := fun _ _ h => .inl h
theorem Add.here {a : Addr} {o : Obj} : Add I a o a o := .inr ⟨rfl, rfl⟩

/-- a list object, a tuple object -/
abbrev LO (vs : List Value) (n : Nat) : Obj := { cls := .type "list", data := .seq vs.toArray n }
abbrev TO (vs : List Value) : Obj := { cls := .type "tuple", data := .seq vs.toArray }
def cList (vs : List Value) : Cell := fun o => ∃ n, o = LO vs n

/-- an object is a list, a tuple, of these items -/
def IsLO (vs : List Value) : Cell := fun o => o.cls = .type "list" ∧ ∃ n, o.data = .seq vs.toArray n
def IsTO (vs : List Value) : Cell := fun o => o.cls = .type "tuple" ∧ ∃ n, o.data = .seq vs.toArray n
/-- finished at a: a list, a tuple -/
def IL (I : Imm) (a : Addr) (vs : List Value) : Prop := ∃ o, I a o ∧ IsLO vs o
def IT (I : Imm) (a : Addr) (vs : List Value) : Prop := ∃ o, I a o ∧ IsTO vs o
theorem IL.sub {a : Addr} {vs : List Value} (h : IL I a vs) (s : Sub I I') : IL I' a vs := let ⟨o, e, c⟩ := h; ⟨o, s _ _ e, c⟩
theorem IT.sub {a : Addr} {vs : List Value} (h : IT I a vs) (s : Sub I I') : IT I' a vs := let ⟨o, e, c⟩ := h; ⟨o, s _ _ e, c⟩
theorem cList.is {vs : List Value} {o : Obj} (h : cList vs o) : IsLO vs o := by obtain ⟨n, rfl⟩ := h; exact ⟨rfl, n, rfl⟩

theorem St.lstI {l : Addr} {vs : List Value} (S : St K h₀ I L vars muts s₀ s) (h : IL I l vs) : s.heap.IsList l vs.toArray := let ⟨o, e, c, n, d⟩ := h; ⟨o, (S.imm _ _ e).1, c, n, d⟩
theorem St.tupI {l : Addr} {vs : List Value} (S : St K h₀ I L vars muts s₀ s) (h : IT I l vs) : s.heap.IsTuple l vs.toArray := let ⟨o, e, c, n, d⟩ := h; ⟨o, (S.imm _ _ e).1, c, n, d⟩
theorem St.lstW {l : Addr} {vs : List Value} (S : St K h₀ I L vars muts s₀ s) (h : (l, IsLO vs) ∈ muts) : s.heap.IsList l vs.toArray := by
  obtain ⟨⟨o, e, c, n, d⟩, _⟩ := S.cel _ h
  exact ⟨o, e, c, n, d⟩
theorem St.lstM {l : Addr} {vs : List Value} (S : St K h₀ I L vars muts s₀ s) (h : (l, cList vs) ∈ muts) : s.heap.PlainList l vs.toArray := by
  obtain ⟨⟨o, e, n, rfl⟩, _⟩ := S.cel _ h
  exact ⟨n, e⟩

/-- an iterator at a that gives n items, at rest in a cell -/
structure ItOk (prog : Program) (w : World) (A : Around) (K : Frag) (h₀ : Base) (B : Imm) (a : Addr) (n : Nat) (P : Nat → Value → Prop) (c : Nat → Cell) : Prop where
  item : ∀ i I L vars muts s₀ s Q E, i < n → Sub B I → St K h₀ I L vars ((a, c i) :: muts) s₀ s →
    (∀ v s', P i v → St K h₀ I L vars ((a, c (i + 1)) :: muts) s₀ s' → Q (some v) s') → wpAny (model prog w) A (pyNext (.ref a)) Q E s
  done : ∀ I L vars muts s₀ s Q E, Sub B I → St K h₀ I L vars ((a, c n) :: muts) s₀ s →
    (∀ s', St K h₀ I L vars muts s₀ s' → Q none s') → wpAny (model prog w) A (pyNext (.ref a)) Q E s
  self : ∀ I L vars muts s₀ s Q E, Sub B I → St K h₀ I L vars ((a, c 0) :: muts) s₀ s → Q (.ref a) s → wpAny (model prog w) A (pyIter (.ref a)) Q E s

/-- what a library's walk says, as an iterator of ours: ax, the walked object, is finished -/
theorem ItOk.of_walks {B : Imm} {a : Addr} {fp : List Addr} {n : Nat} {P : Nat → Value → Prop} {WSt : Nat → Heap → Prop} (W : Walks prog w A a fp [a] n P WSt)
    (C : Nat → Cell) (toC : ∀ i h, WSt i h → ∃ o, h.get? a = some o ∧ C i o)
    (ofC : ∀ i h o, h.get? a = some o → C i o → (∀ b o', B b o' → h.get? b = some o') → WSt i h) : ItOk prog w A K h₀ B a n P C where
  item := fun i I L vars muts s₀ s Q E hi hB S hQ => by
    obtain ⟨⟨o, e, c⟩, _⟩ := S.cel _ (.head _)
    refine W.item i s Q E hi (ofC i _ o e c fun b o' h => (S.imm b o' (hB b o' h)).1) fun v h' tk hP hst hk => hQ v _ hP ?_
    obtain ⟨o', e', c'⟩ := toC _ _ hst
    exact S.upd (fun b o hb => hk b o (by simpa using hb)) e' c'
  done := fun I L vars muts s₀ s Q E hB S hQ => by
    obtain ⟨⟨o, e, c⟩, r1, r2, r3⟩ := S.cel _ (.head _)
    refine W.done s Q E (ofC n _ o e c fun b o' h => (S.imm b o' (hB b o' h)).1) fun h' tk hk => hQ _ ?_
    have hk' : ∀ b o, b ≠ a → s.heap.get? b = some o → h'.get? b = some o := fun b o hb => hk b o (by simpa using hb)
    refine { wd := S.wd, gens := S.gens, drawn := S.drawn, os := S.os, above := S.above, fresh := S.fresh, keep := fun b o e2 => ?_, ns := ?_, imm := fun b o e2 => ?_, cel := fun p hp => ?_, nd := S.drop.nd }
    · refine hk' _ _ ?_ (S.keep b o e2)
      rintro rfl; simp only at r2; rw [r2] at e2; cases e2
    · obtain ⟨m, n, q⟩ := S.ns
      exact ⟨m, n.at' fun o e => hk' _ _ (Ne.symm r1) e, q⟩
    · refine ⟨hk' _ _ ?_ (S.imm b o e2).1, (S.imm b o e2).2⟩
      rintro rfl; exact r3 _ e2
    · obtain ⟨⟨o', e', c''⟩, r⟩ := S.cel p (.tail _ hp)
      exact ⟨⟨o', hk' _ _ (Ne.symm ((List.pairwise_cons.mp S.nd).1 p hp)) e', c''⟩, r⟩
  self := fun I L vars muts s₀ s Q E hB S h => by
    obtain ⟨⟨o, e, c⟩, _⟩ := S.cel _ (.head _)
    exact W.self 0 s Q E (ofC 0 _ o e c fun b o' h => (S.imm b o' (hB b o' h)).1) h

theorem ItOk.mono {B B' : Imm} {a : Addr} {n : Nat} {P : Nat → Value → Prop} {c : Nat → Cell} (W : ItOk prog w A K h₀ B a n P c) (h : Sub B B') : ItOk prog w A K h₀ B' a n P c where
  item := fun i I L vars muts s₀ s Q E hi hB S hQ => W.item i I L vars muts s₀ s Q E hi (h.trans hB) S hQ
  done := fun I L vars muts s₀ s Q E hB S hQ => W.done I L vars muts s₀ s Q E (h.trans hB) S hQ
  self := fun I L vars muts s₀ s Q E hB S hQ => W.self I L vars muts s₀ s Q E (h.trans hB) S hQ

def One (a : Addr) (o : Obj) : Imm := fun b o' => b = a ∧ o' = o
theorem One.sub {a : Addr} {o : Obj} (h : I a o) : Sub (One a o) I := fun b o' ⟨e, e'⟩ => by subst e; subst e'; exact h

def cIt (T : String) (l : Addr) (i : Nat) : Cell := fun o => o.cls = .type T ∧ o.data = .fields #[.ref l, .int i 0]

theorem ItOk.list {l it : Addr} {vs : List Value} {o : Obj} (hh : A.handled = none) (hne : l ≠ it) (ho : IsLO vs o) : ItOk prog w A K h₀ (One l o) it vs.length (fun i v => vs[i]? = some v) (cIt "list_iterator" l) := by
  have W := Walks.list (prog := prog) (w := w) hh it l hne vs.toArray
  rw [List.size_toArray] at W
  have W' : Walks prog w A it [it, l] [it] vs.length (fun i v => vs[i]? = some v) (fun i h => h.IsListIter it l i ∧ h.IsList l vs.toArray) := by simpa using W
  refine ItOk.of_walks W' _ (fun i h st => ?_) fun i h o' e c hb => ?_
  · obtain ⟨⟨o, e, c1, c2⟩, _⟩ := st
    exact ⟨o, e, c1, c2⟩
  · exact ⟨⟨o', e, c.1, c.2⟩, ⟨_, hb l _ ⟨rfl, rfl⟩, ho.1, ho.2⟩⟩
theorem ItOk.tuple {l it : Addr} {vs : List Value} {o : Obj} (hh : A.handled = none) (hne : l ≠ it) (ho : IsTO vs o) : ItOk prog w A K h₀ (One l o) it vs.length (fun i v => vs[i]? = some v) (cIt "tuple_iterator" l) := by
  have W := Walks.tuple (prog := prog) (w := w) hh it l hne vs.toArray
  rw [List.size_toArray] at W
  have W' : Walks prog w A it [it, l] [it] vs.length (fun i v => vs[i]? = some v) (fun i h => h.IsTupleIter it l i ∧ h.IsTuple l vs.toArray) := by simpa using W
  refine ItOk.of_walks W' _ (fun i h st => ?_) fun i h o' e c hb => ?_
  · obtain ⟨⟨o, e, c1, c2⟩, _⟩ := st
    exact ⟨o, e, c1, c2⟩
  · exact ⟨⟨o', e, c.1, c.2⟩, ⟨_, hb l _ ⟨rfl, rfl⟩, ho.1, ho.2⟩⟩

theorem rsize (a b : Int) : Builtin.Range.rangeSize a b 1 = ((b - a).toNat : Int) := by rw [rangeSize_one]; split <;> omega

theorem ItOk.range {it : Addr} {n : Nat} (hh : A.handled = none) : ItOk prog w A K h₀ (fun _ _ => False) it n (fun i v => ∃ t, v = .int (a + (i : Int)) t)
    (fun i o => o = { cls := .type "range_iterator", dict := none, data := .fields #[rawInt (a + (i : Int)), rawInt ((n : Int) - (i : Int)), rawInt 1], slots := #[] }) := by
  have W := Walks.range (prog := prog) (w := w) hh it a 1 n
  simp only [Int.mul_one] at W
  refine ItOk.of_walks W _ (fun i h st => ⟨_, st, rfl⟩) fun i h o e c _ => ?_
  subst c; exact e

/-- how a turn of a loop ends -/
def LoopPost (K : Frag) (h₀ : Base) (L : Addr) (s₀ : Shared) (I : Imm) (J : Imm → List (Str × Value) → List (Addr × Cell) → Prop) (a : Addr) (c : Cell) (Q : Flow → Shared → Prop) (f : Flow) (s : Shared) : Prop :=
  match f with
  | .next | .cont => ∃ I' vars muts, Sub I I' ∧ J I' vars muts ∧ St K h₀ I' L vars ((a, c) :: muts) s₀ s
  | .brk => Q .next s
  | .ret v => Q (.ret v) s

/-- a loop that stands before its first turn -/
def LoopAt (prog : Program) (w : World) (A : Around) (K : Frag) (h₀ : Base) (env : Env) (s₀ : Shared) (x : Str) (body : List Stmt) (Q : Flow → Shared → Prop) (it : Value) (s : Shared) : Prop :=
  ∃ (B : Imm) (a : Addr) (n : Nat) (P : Nat → Value → Prop) (c : Nat → Cell) (I : Imm) (vars : List (Str × Value)) (muts : List (Addr × Cell)) (J : Nat → Imm → List (Str × Value) → List (Addr × Cell) → Prop),
    it = .ref a ∧ ItOk prog w A K h₀ B a n P c ∧ Sub B I ∧ St K h₀ I env.locals vars ((a, c 0) :: muts) s₀ s ∧ J 0 I vars muts ∧
    (∀ i v I vars muts s₁ E', i < n → P i v → J i I vars muts → Sub B I → St K h₀ I env.locals ((x, v) :: vars) ((a, c (i + 1)) :: muts) s₀ s₁ →
      wpAny (model prog w) A (execs body env) (LoopPost K h₀ env.locals s₀ I (J (i + 1)) a (c (i + 1)) Q) E' s₁) ∧
    ∀ I vars muts s', J n I vars muts → St K h₀ I env.locals vars muts s₀ s' → Q .next s'

theorem r_for {iter : Expr} {px : Pos} {body : List Stmt} {Q : Flow → Shared → Prop} (hx : env.kindOf x = some .local) (hk : env.scope.kind = .function)
    (h : wpAny (model prog w) A (eval iter env) (fun xv s₁ => wpAny (model prog w) A (pyIter xv) (fun it s₂ => LoopAt prog w A K h₀ env s₀ x body Q it s₂) E s₁) E s)
    (hs : ∀ x, foldedSetIterable iter env x = pure x := by intro _; rfl) : wpAny (model prog w) A (exec (.For (.Name x px) iter body [] pos) env) Q E s := by
  refine wpAny_For (wpAny_mono h (fun xv s₁ h₁ => wpAny_mono h₁ (fun it s₂ h₂ => ?_) fun _ _ e => e) fun _ _ e => e) hs
  obtain ⟨B, a, n, P, c, I, vars, muts, J, rfl, W, hB, S, hJ, turn, done⟩ := h₂
  refine codeAny_forLoop (fun k s' => ∃ i I vars muts, i ≤ n ∧ k = n - i ∧ Sub B I ∧ J i I vars muts ∧ St K h₀ I env.locals vars ((a, c i) :: muts) s₀ s') ?_ n ⟨0, I, vars, muts, Nat.zero_le _, rfl, hB, hJ, S⟩
  rintro k s' ⟨i, I, vars, muts, hi, rfl, hB, hJ, S⟩
  by_cases hlt : i < n
  · refine W.item i I _ vars muts s₀ s' _ _ hlt hB S fun v s₁ hP S₁ => ?_
    refine wpAny_assign_Name (r_store (v := v) S₁ (fun s₂ S₂ => ?_) rfl hx hk)
    refine wpAny_mono (turn i v I vars muts s₂ _ hlt hP hJ hB S₂) (fun f s₃ h₃ => ?_) fun _ _ e => e
    cases f with
    | next => obtain ⟨I', vars', muts', hs, hJ', S'⟩ := h₃; exact ⟨n - (i + 1), by (with_reducible exact o_dec (by assumption)), i + 1, I', vars', muts', by (with_reducible exact Nat.succ_le_of_lt (by assumption)), rfl, hB.trans hs, hJ', S'⟩
    | cont => obtain ⟨I', vars', muts', hs, hJ', S'⟩ := h₃; exact ⟨n - (i + 1), by (with_reducible exact o_dec (by assumption)), i + 1, I', vars', muts', by (with_reducible exact Nat.succ_le_of_lt (by assumption)), rfl, hB.trans hs, hJ', S'⟩
    | brk => exact h₃
    | ret v => exact h₃
  · have : i = n := by omega
    subst this
    exact W.done I _ vars muts s₀ s' _ _ hB S fun s₁ S₁ => wpAny_execs_nil (done I vars muts s₁ hJ S₁)

section iters
variable {body : List Stmt} {Q : Flow → Shared → Prop} (J : Nat → Imm → List (Str × Value) → List (Addr × Cell) → Prop)

theorem iter_list {l : Addr} {vs : List Value} (hh : A.handled = none) (S : St K h₀ I env.locals vars muts s₀ s) (hl : IL I l vs) (hJ : J 0 I vars muts)
    (turn : ∀ i v I' vars muts s₁ a c E', vs[i]? = some v → J i I' vars muts → IL I' l vs → St K h₀ I' env.locals ((x, v) :: vars) ((a, c) :: muts) s₀ s₁ →
      wpAny (model prog w) A (execs body env) (LoopPost K h₀ env.locals s₀ I' (J (i + 1)) a c Q) E' s₁)
    (done : ∀ I' vars muts s', J vs.length I' vars muts → St K h₀ I' env.locals vars muts s₀ s' → Q .next s') :
    wpAny (model prog w) A (pyIter (.ref l)) (fun it s₂ => LoopAt prog w A K h₀ env s₀ x body Q it s₂) E s := by
  obtain ⟨o, hI, ho⟩ := id hl
  have hne : l ≠ s.heap.objs.size := Nat.ne_of_lt (Heap.lt_size (S.imm _ _ hI).1)
  refine wpAny_pyIter_list (S.lstI hl) ⟨_, _, vs.length, _, _, I, vars, muts, J, rfl, ItOk.list hh hne ho, One.sub hI, S.push ⟨rfl, rfl⟩, hJ, ?_, done⟩
  intro i v I' vars muts s₁ E' _ hP hJ hB S₁
  exact turn i v I' vars muts s₁ _ _ E' hP hJ ⟨o, hB _ _ ⟨rfl, rfl⟩, ho⟩ S₁
theorem iter_tuple {l : Addr} {vs : List Value} (hh : A.handled = none) (S : St K h₀ I env.locals vars muts s₀ s) (hl : IT I l vs) (hJ : J 0 I vars muts)
    (turn : ∀ i v I' vars muts s₁ a c E', vs[i]? = some v → J i I' vars muts → IT I' l vs → St K h₀ I' env.locals ((x, v) :: vars) ((a, c) :: muts) s₀ s₁ →
      wpAny (model prog w) A (execs body env) (LoopPost K h₀ env.locals s₀ I' (J (i + 1)) a c Q) E' s₁)
    (done : ∀ I' vars muts s', J vs.length I' vars muts → St K h₀ I' env.locals vars muts s₀ s' → Q .next s') :
    wpAny (model prog w) A (pyIter (.ref l)) (fun it s₂ => LoopAt prog w A K h₀ env s₀ x body Q it s₂) E s := by
  obtain ⟨o, hI, ho⟩ := id hl
  have hne : l ≠ s.heap.objs.size := Nat.ne_of_lt (Heap.lt_size (S.imm _ _ hI).1)
  refine wpAny_pyIter_tuple (S.tupI hl) ⟨_, _, vs.length, _, _, I, vars, muts, J, rfl, ItOk.tuple hh hne ho, One.sub hI, S.push ⟨rfl, rfl⟩, hJ, ?_, done⟩
  intro i v I' vars muts s₁ E' _ hP hJ hB S₁
  exact turn i v I' vars muts s₁ _ _ E' hP hJ ⟨o, hB _ _ ⟨rfl, rfl⟩, ho⟩ S₁
/-- over a range by ones, from a to b -/
theorem iter_range {r : Addr} {t₁ t₂ t₃ : Tok} (hh : A.handled = none) (S : St K h₀ I env.locals vars muts s₀ s) (hr : IsRange s.heap r a b 1 t₁ t₂ t₃) (h1 : -1000000 ≤ a) (h2 : a ≤ 1000000) (h3 : -1000000 ≤ b) (h4 : b ≤ 1000000) (hJ : J 0 I vars muts)
    (turn : ∀ (i : Nat) t I' vars muts s₁ a' c E', i < (b - a).toNat → J i I' vars muts → St K h₀ I' env.locals ((x, .int (a + (i : Int)) t) :: vars) ((a', c) :: muts) s₀ s₁ →
      wpAny (model prog w) A (execs body env) (LoopPost K h₀ env.locals s₀ I' (J (i + 1)) a' c Q) E' s₁)
    (done : ∀ I' vars muts s', J (b - a).toNat I' vars muts → St K h₀ I' env.locals vars muts s₀ s' → Q .next s') :
    wpAny (model prog w) A (pyIter (.ref r)) (fun it s₂ => LoopAt prog w A K h₀ env s₀ x body Q it s₂) E s := by
  refine wpAny_pyIter_range hr (small_one (by omega) (by omega) (by omega) (by omega)) ⟨_, _, (b - a).toNat, _, _, I, vars, muts, J, rfl, ItOk.range (a := a) hh, (fun _ _ h => h.elim), S.push ?_, hJ, ?_, done⟩
  · simp [rsize]
  · rintro i v I' vars muts s₁ E' hi ⟨t, rfl⟩ hJ _ S₁
    exact turn i t I' vars muts s₁ _ _ E' hi hJ S₁
end iters

/-- a while loop, by a measure -/
theorem r_while {test : Expr} {body : List Stmt} {Q : Flow → Shared → Prop} (J : Nat → Shared → Prop) (n : Nat) (h : J n s)
    (turn : ∀ n s E', J n s → wpAny (model prog w) A (isTrue test env (eval test env)) (fun b s₂ =>
      if b then wpAny (model prog w) A (execs body env) (fun f s₃ => match f with
          | .next | .cont => ∃ m, m < n ∧ J m s₃
          | .brk => Q .next s₃
          | .ret v => Q (.ret v) s₃) E' s₂
      else Q .next s₂) E' s) : wpAny (model prog w) A (exec (.While test body [] pos) env) Q E s := by
  refine wpAny_While (codeAny_whileLoop J (fun n s hJ => ?_) n h)
  refine wpAny_mono (turn n s _ hJ) (fun b s₂ h₂ => ?_) fun _ _ e => e
  cases b with
  | true =>
    simp only [if_true] at h₂ ⊢
    refine wpAny_mono h₂ (fun f s₃ h₃ => ?_) fun _ _ e => e
    cases f <;> exact h₃
  | false => exact wpAny_execs_nil h₂
end
section
variable {prog : Program} {w : World} {A : Around} {E : Value → Shared → Prop} {env : Env}
variable {K : Frag} {h₀ : Base} {I I' : Imm} {L : Addr} {vars vars' : List (Str × Value)} {muts muts' : List (Addr × Cell)} {s₀ s s' : Shared}
variable {x : Str} {pos npos : Pos} {v : Value} {a b : Int} {t u : Tok}

/-- a cell deep in the list comes to the head, and goes back -/
theorem St.front {ex : List (Addr × Cell)} {p : Addr × Cell} (S : St K h₀ I L vars (ex ++ p :: muts) s₀ s) : St K h₀ I L vars (p :: (ex ++ muts)) s₀ s := by
  refine S.recells (fun q hq => ⟨q, ?_, rfl, fun _ h => h⟩) ?_
  · simp only [List.mem_cons, List.mem_append] at hq ⊢
    rcases hq with h | h | h <;> simp [h]
  · exact (List.pairwise_middle (fun h => Ne.symm h)).mp S.nd
theorem St.back {ex : List (Addr × Cell)} {p : Addr × Cell} (S : St K h₀ I L vars (p :: (ex ++ muts)) s₀ s) : St K h₀ I L vars (ex ++ p :: muts) s₀ s := by
  refine S.recells (fun q hq => ⟨q, ?_, rfl, fun _ h => h⟩) ?_
  · simp only [List.mem_cons, List.mem_append] at hq ⊢
    rcases hq with h | h | h <;> simp [h]
  · exact (List.pairwise_middle (fun h => Ne.symm h)).mpr S.nd

/-- the head cell is let go: what becomes of it is not asked -/
theorem St.lose {a : Addr} {c : Cell} (S : St K h₀ I L vars ((a, c) :: muts) s₀ s) {h' : Heap} {tk : Nat} (hk : ∀ b o, b ≠ a → s.heap.get? b = some o → h'.get? b = some o) :
    St K h₀ I L vars muts s₀ { s with heap := h', toks := tk } := by
  obtain ⟨⟨o, e, c⟩, r1, r2, r3⟩ := S.cel _ (.head _)
  refine { wd := S.wd, gens := S.gens, drawn := S.drawn, os := S.os, above := S.above, fresh := S.fresh, keep := fun b o e2 => ?_, ns := ?_, imm := fun b o e2 => ?_, cel := fun p hp => ?_, nd := S.drop.nd }
  · refine hk _ _ ?_ (S.keep b o e2)
    rintro rfl; simp only at r2; rw [r2] at e2; cases e2
  · obtain ⟨m, n, q⟩ := S.ns
    exact ⟨m, n.at' fun o e => hk _ _ (Ne.symm r1) e, q⟩
  · refine ⟨hk _ _ ?_ (S.imm b o e2).1, (S.imm b o e2).2⟩
    rintro rfl; exact r3 _ e2
  · obtain ⟨⟨o', e', c''⟩, r⟩ := S.cel p (.tail _ hp)
    exact ⟨⟨o', hk _ _ (Ne.symm ((List.pairwise_cons.mp S.nd).1 p hp)) e', c''⟩, r⟩

def cNs : Cell := fun o => ∃ es ep, o.data = .dict es ep ∧ StrKeys es
def cIs (o : Obj) : Cell := fun o' => o' = o

/-- a block of names C is entered: the frame's own names L lie as a cell -/
theorem St.enterNs {C : Addr} (S : St K h₀ I L vars muts s₀ s) {h' : Heap} {tk : Nat} (k : ∀ b o, s.heap.get? b = some o → h'.get? b = some o) (hC : s.heap.get? C = none) (hlt : s.heap.objs.size ≤ C)
    (hn : h'.Ns C fun _ => none) : ∃ oL, (∀ h : Heap, h.get? L = some oL → ∃ m, h.Ns L m ∧ ∀ x v, vars.lookup x = some v → m x = some v) ∧ St K h₀ I C [] ((L, cIs oL) :: muts) s₀ { s with heap := h', toks := tk } := by
  obtain ⟨m, ⟨oL, es, ep, e, hd, hk, hm⟩, q⟩ := S.ns
  refine ⟨oL, fun h e' => ⟨m, ⟨oL, es, ep, e', hd, hk, hm⟩, q⟩, ?_⟩
  refine { wd := S.wd, gens := S.gens, drawn := S.drawn, os := S.os, above := ?_, fresh := S.fresh, keep := fun b o e => k _ _ (S.keep b o e), ns := ⟨_, hn, fun x v e => by simp at e⟩, imm := fun b o e => ⟨k _ _ (S.imm b o e).1, ?_⟩, cel := fun p hp => ?_, nd := ?_ }
  · exact Nat.le_trans S.above (Nat.le_trans (Nat.le_of_lt S.llt) hlt)
  · rintro rfl; have := (S.imm _ o e).1; rw [hC] at this; cases this
  · rcases List.mem_cons.mp hp with rfl | hp
    · refine ⟨⟨oL, k _ _ e, rfl⟩, ?_, S.lnew, fun o hI => (S.imm _ _ hI).2 rfl⟩
      rintro rfl; rw [hC] at e; cases e
    · obtain ⟨⟨o', e', c''⟩, r1, r2, r3⟩ := S.cel p hp
      refine ⟨⟨o', k _ _ e', c''⟩, ?_, r2, r3⟩
      rintro rfl; rw [hC] at e'; cases e'
  · refine List.pairwise_cons.mpr ⟨fun p hp => Ne.symm (S.cel p hp).2.1, S.nd⟩

/-- and left again: the block lies as a cell -/
theorem St.leaveNs {C : Addr} {oL : Obj} (S : St K h₀ I C vars' ((L, cIs oL) :: muts) s₀ s) (hL : ∀ h : Heap, h.get? L = some oL → ∃ m, h.Ns L m ∧ ∀ x v, vars.lookup x = some v → m x = some v)
    (hab : h₀.h.objs.size ≤ L) : St K h₀ I L vars ((C, cNs) :: muts) s₀ s := by
  obtain ⟨⟨o, e, c⟩, r1, r2, r3⟩ := S.cel _ (.head _)
  simp only [cIs] at c
  subst c
  obtain ⟨m, ⟨oC, es, ep, eC, hd, hk, hm⟩, q⟩ := S.ns
  refine { wd := S.wd, gens := S.gens, drawn := S.drawn, os := S.os, above := hab, fresh := S.fresh, keep := S.keep, ns := hL _ e, imm := fun b o e2 => ⟨(S.imm b o e2).1, ?_⟩, cel := fun p hp => ?_, nd := ?_ }
  · rintro rfl; exact r3 _ e2
  · rcases List.mem_cons.mp hp with rfl | hp
    · exact ⟨⟨oC, eC, es, ep, hd, hk⟩, Ne.symm r1, S.lnew, fun o hI => (S.imm _ _ hI).2 rfl⟩
    · obtain ⟨c1, c2, c3, c4⟩ := S.cel p (.tail _ hp)
      exact ⟨c1, Ne.symm ((List.pairwise_cons.mp S.nd).1 p hp), c3, c4⟩
  · refine List.pairwise_cons.mpr ⟨fun p hp => Ne.symm (S.cel p (.tail _ hp)).2.1, (List.pairwise_cons.mp S.nd).2⟩

section turns
variable {R : Result → Shared → Prop}

theorem compTurn_last {elt : Expr} {gens : List Comprehension} {scope : Scope} {d : Nat} {target iter : Expr} {ifs : List Expr} {it acc : Value} (hg : gens[d]? = some ⟨target, iter, ifs, 0⟩) (hl : gens[d + 1]? = none) :
    compTurn (.ListComp elt gens scope pos) d it acc env = (do
      standAt iter.pos
      match ← pyNext it with
      | none => pure (.done .next)
      | some v =>
        letOwnedTupleGo target it v
        assign target env v
        let mut ok := true
        for c in ifs do
          if ok then ok ← isTrue c env (eval c env)
        if ok then
          (do let _ ← call (.builtin "list.append") [acc, ← eval elt env])
        again (.compLoop (.ListComp elt gens scope pos) d it acc env)) := by
  unfold compTurn
  simp only [hg, hl]
  rfl

theorem compTurn_more {elt : Expr} {gens : List Comprehension} {scope : Scope} {d : Nat} {target iter target' iter' : Expr} {ifs ifs' : List Expr} {it acc : Value} (hg : gens[d]? = some ⟨target, iter, ifs, 0⟩) (hl : gens[d + 1]? = some ⟨target', iter', ifs', 0⟩) :
    compTurn (.ListComp elt gens scope pos) d it acc env = (do
      standAt iter.pos
      match ← pyNext it with
      | none => pure (.done .next)
      | some v =>
        letOwnedTupleGo target it v
        assign target env v
        let ok ← forIn ifs true fun c r => if r = true then do let ok ← isTrue c env (eval c env); pure (ForInStep.yield ok) else pure (ForInStep.yield r)
        if ok = true then
          (do
            let x ← eval iter' env
            standAt iter'.pos
            let x ← foldedSetIterable iter' env x
            let i ← holding [x] (pyIter x)
            let _ ← runOwn (.compStart (.ListComp elt gens scope pos) (d + 1) i acc env) env
            again (.compLoop (.ListComp elt gens scope pos) d it acc env))
        else again (.compLoop (.ListComp elt gens scope pos) d it acc env)) := by
  unfold compTurn
  simp only [hg, hl, bne_self_eq_false, Bool.false_eq_true, if_false]
  rfl

theorem codeAny_compStartG {elt : Expr} {gens : List Comprehension} {scope : Scope} {d : Nat} {target iter : Expr} {ifs : List Expr} {it acc : Value} (hg : gens[d]? = some ⟨target, iter, ifs, 0⟩)
    (h0 : codeAny (model prog w) A (.compLoop (.ListComp elt gens scope pos) d it acc env) R s)
    (h : wpAny (model prog w) A (pyIter it) (fun it' s' => codeAny (model prog w) A (.compLoop (.ListComp elt gens scope pos) d it' acc env) R s') (notedBy (model prog w) A env fun x s' => R (.error x) s') s) :
    codeAny (model prog w) A (.compStart (.ListComp elt gens scope pos) d it acc env) R s := by
  refine codeAny_of_tree ?_
  show wpAny _ _ ((compStart (.ListComp elt gens scope pos) d it acc env).onRaise (fun x => do noteFrame x env; standAt theWindowsPlace)) _ _ s
  refine wpAny_notedAt ?_
  unfold compStart
  have e : clausesOf (.ListComp elt gens scope pos) = gens := rfl
  rw [e]
  simp only [hg]
  show wpAny _ _ (ask >>= _) _ _ s
  refine wpAny_bind (wpAny_askSetting (wpAny_ite ?_))
  split
  · first
      | exact wpAny_bind (wpAny_pure (wpAny_pure (And.intro rfl h0)))
      | exact wpAny_pure (And.intro rfl h0)
  · exact wpAny_bind (wpAny_rule (wpAny_bind (wpAny_standAt (wpAny_bind (wpAny_mono h (fun it' s' h' => wpAny_pure (And.intro rfl h')) fun _ _ x => x)))))

def testsT (env : Env) (ifs : List Expr) : Sem Bool := forIn ifs true fun c r => if r = true then do let ok ← isTrue c env (eval c env); pure (ForInStep.yield ok) else pure (ForInStep.yield r)
theorem tests0 {Q : Bool → Shared → Prop} (h : Q true s) : wpAny (model prog w) A (testsT env []) Q E s := wpAny_pure h
theorem tests1 {c : Expr} {Q : Bool → Shared → Prop} (h : wpAny (model prog w) A (isTrue c env (eval c env)) Q E s) : wpAny (model prog w) A (testsT env [c]) Q E s := wpAny_tests_one h

/-- how a turn of a comprehension ends -/
def CEnd (K : Frag) (h₀ : Base) (C : Addr) (s₀ : Shared) (I : Imm) (J : Imm → List (Addr × Cell) → Prop) (ex : List (Addr × Cell)) (vars : List (Str × Value)) (s : Shared) : Prop :=
  ∃ I' muts, Sub I I' ∧ J I' muts ∧ St K h₀ I' C vars (ex ++ muts) s₀ s

theorem cloop_last {elt : Expr} {gens : List Comprehension} {scope : Scope} {d : Nat} {px : Pos} {iter : Expr} {ifs : List Expr} {B : Imm} {a D : Addr} {n : Nat} {P : Nat → Value → Prop} {c : Nat → Cell} {ex : List (Addr × Cell)} {acc : List Value}
    (hg : gens[d]? = some ⟨.Name x px, iter, ifs, 0⟩) (hl : gens[d + 1]? = none) (hx : env.kindOf x = some .local) (hk : env.scope.kind = .function)
    (W : ItOk prog w A K h₀ B a n P c) (J : Nat → Imm → List Value → List (Addr × Cell) → Prop) (hsz : ∀ i I acc muts, J i I acc muts → acc.length ≤ sizeLine)
    (hB : Sub B I) (S : St K h₀ I env.locals vars ((a, c 0) :: (ex ++ (D, cList acc) :: muts)) s₀ s) (hJ : J 0 I acc muts)
    (hv : ∀ v : Value, ∀ p ∈ vars, List.lookup p.1 ((x, v) :: vars) = some p.2)
    (turn : ∀ i v I acc muts s₁ E', i < n → P i v → J i I acc muts → Sub B I → St K h₀ I env.locals ((x, v) :: vars) (((a, c (i + 1)) :: (ex ++ [(D, cList acc)])) ++ muts) s₀ s₁ →
      wpAny (model prog w) A (testsT env ifs) (fun ok s₂ => if ok = true then wpAny (model prog w) A (eval elt env) (fun y s₃ => CEnd K h₀ env.locals s₀ I (fun I' m' => J (i + 1) I' (acc ++ [y]) m') ((a, c (i + 1)) :: (ex ++ [(D, cList acc)])) ((x, v) :: vars) s₃) E' s₂
        else CEnd K h₀ env.locals s₀ I (fun I' m' => J (i + 1) I' acc m') ((a, c (i + 1)) :: (ex ++ [(D, cList acc)])) ((x, v) :: vars) s₂) E' s₁)
    (done : ∀ I acc muts s', J n I acc muts → Sub B I → St K h₀ I env.locals vars (ex ++ (D, cList acc) :: muts) s₀ s' → R (.ok .next) s') :
    codeAny (model prog w) A (.compLoop (.ListComp elt gens scope pos) d (.ref a) (.ref D) env) R s := by
  refine codeAny_loop rfl (fun k s' => ∃ i I acc muts, i ≤ n ∧ k = n - i ∧ Sub B I ∧ J i I acc muts ∧ St K h₀ I env.locals vars ((a, c i) :: (ex ++ (D, cList acc) :: muts)) s₀ s') (fun k s' hI => ?_) n ⟨0, I, acc, muts, Nat.zero_le _, rfl, hB, hJ, S⟩
  obtain ⟨i, I, acc, muts, hi, rfl, hB, hJ, S⟩ := hI
  show wpAny _ A ((compTurn (.ListComp elt gens scope pos) d (.ref a) (.ref D) env).onRaise (fun x => do noteFrame x env; theTreesLotGoes x)) _ _ s'
  refine wpAny_noted ?_
  rw [compTurn_last hg hl]
  refine wpAny_bind (wpAny_standAt (wpAny_bind ?_))
  by_cases hlt : i < n
  · refine W.item i I _ vars _ s₀ s' _ _ hlt hB S fun v s₁ hP S₁ => ?_
    refine wpAny_bind (wpAny_of_eq (by rfl) (wpAny_bind (wpAny_assign_Name (r_store (v := v) S₁ (fun s₂ S₂ => ?_) rfl hx hk))))
    have S₂' : St K h₀ I env.locals ((x, v) :: vars) (((a, c (i + 1)) :: (ex ++ [(D, cList acc)])) ++ muts) s₀ s₂ := by simpa using S₂
    refine wpAny_bind (wpAny_mono (turn i v I acc muts s₂ _ hlt hP hJ hB S₂') (fun ok s₃ h₃ => ?_) fun _ _ e => e)
    cases ok with
    | false =>
      obtain ⟨I', m', hs, hJ', S'⟩ := h₃
      exact wpAny_pure ⟨rfl, n - (i + 1), by (with_reducible exact o_dec (by assumption)), i + 1, I', acc, m', by (with_reducible exact Nat.succ_le_of_lt (by assumption)), rfl, hB.trans hs, hJ', by simpa using S'.revarsM (hv v)⟩
    | true =>
      refine wpAny_bind (wpAny_bind (wpAny_mono h₃ (fun y s₄ h₄ => ?_) fun _ _ h' => h'))
      obtain ⟨I', m', hs, hJ', S'⟩ := h₄
      have S4 : St K h₀ I' env.locals ((x, v) :: vars) ((a, c (i + 1)) :: (ex ++ (D, cList acc) :: m')) s₀ s₄ := by simpa using S'
      have S5 : St K h₀ I' env.locals ((x, v) :: vars) ((D, cList acc) :: ((a, c (i + 1)) :: ex ++ m')) s₀ s₄ := St.front (ex := (a, c (i + 1)) :: ex) S4
      have hacc : acc.length ≤ sizeLine := hsz _ _ _ _ hJ
      refine wpAny_bind (wpAny_list_append_plain (items := acc.toArray) (S5.lstM (.head _)) (fun h' hl' hs' => ?_) (by simpa using hacc))
      refine wpAny_pure (wpAny_pure ⟨rfl, n - (i + 1), by (with_reducible exact o_dec (by assumption)), i + 1, I', acc ++ [y], m', by (with_reducible exact Nat.succ_le_of_lt (by assumption)), rfl, hB.trans hs, hJ', ?_⟩)
      obtain ⟨k, hk'⟩ := hl'
      have S6 : St K h₀ I' env.locals ((x, v) :: vars) ((D, cList (acc ++ [y])) :: ((a, c (i + 1)) :: ex ++ m')) s₀ { s₄ with heap := h' } :=
        S5.upd (tk := s₄.toks) (fun b o hb e => (hs'.2 b hb).trans e) hk' ⟨k, by simp⟩
      exact (St.back (ex := (a, c (i + 1)) :: ex) S6).revarsM (hv v)
  · have : i = n := by omega
    subst this
    exact W.done I _ vars _ s₀ s' _ _ hB S fun s₁ S₁ => wpAny_pure (done I acc muts s₁ hJ hB S₁)

/-- the loop of a clause is entered: the iterator's own iterator is itself -/
theorem cstart {elt : Expr} {gens : List Comprehension} {scope : Scope} {d : Nat} {target iter : Expr} {ifs : List Expr} {B : Imm} {a : Addr} {n : Nat} {P : Nat → Value → Prop} {c : Nat → Cell} {acc : Value} {L : Addr}
    (hg : gens[d]? = some ⟨target, iter, ifs, 0⟩) (W : ItOk prog w A K h₀ B a n P c) (hB : Sub B I) (S : St K h₀ I L vars ((a, c 0) :: muts) s₀ s)
    (h : codeAny (model prog w) A (.compLoop (.ListComp elt gens scope pos) d (.ref a) acc env) R s) : codeAny (model prog w) A (.compStart (.ListComp elt gens scope pos) d (.ref a) acc env) R s :=
  codeAny_compStartG hg h (W.self I L vars muts s₀ s _ _ hB S h)

theorem cloop_more {elt : Expr} {gens : List Comprehension} {scope : Scope} {d : Nat} {px : Pos} {iter target' iter' : Expr} {ifs ifs' : List Expr} {B : Imm} {a D : Addr} {n : Nat} {P : Nat → Value → Prop} {c : Nat → Cell} {ex : List (Addr × Cell)} {acc : List Value}
    (hg : gens[d]? = some ⟨.Name x px, iter, ifs, 0⟩) (hl : gens[d + 1]? = some ⟨target', iter', ifs', 0⟩) (hs' : ∀ x, foldedSetIterable iter' env x = pure x) (hx : env.kindOf x = some .local) (hk : env.scope.kind = .function)
    (W : ItOk prog w A K h₀ B a n P c) (J : Nat → Imm → List Value → List (Addr × Cell) → Prop)
    (hB : Sub B I) (S : St K h₀ I env.locals vars ((a, c 0) :: (ex ++ (D, cList acc) :: muts)) s₀ s) (hJ : J 0 I acc muts)
    (hv : ∀ v : Value, ∀ p ∈ vars, List.lookup p.1 ((x, v) :: vars) = some p.2)
    (turn : ∀ i v I acc muts s₁ E', i < n → P i v → J i I acc muts → Sub B I → St K h₀ I env.locals ((x, v) :: vars) (((a, c (i + 1)) :: (ex ++ [(D, cList acc)])) ++ muts) s₀ s₁ →
      wpAny (model prog w) A (testsT env ifs) (fun ok s₂ => if ok = true then wpAny (model prog w) A (eval iter' env) (fun xv s₃ => wpAny (model prog w) A (pyIter xv) (fun it' s₄ =>
          ∀ R' : Result → Shared → Prop, (∀ I' acc' muts' s', Sub I I' → J (i + 1) I' acc' muts' → St K h₀ I' env.locals ((x, v) :: vars) ((a, c (i + 1)) :: (ex ++ (D, cList acc') :: muts')) s₀ s' → R' (.ok .next) s') →
            codeAny (model prog w) A (.compStart (.ListComp elt gens scope pos) (d + 1) it' (.ref D) env) R' s₄) E' s₃) E' s₂
        else CEnd K h₀ env.locals s₀ I (fun I' m' => J (i + 1) I' acc m') ((a, c (i + 1)) :: (ex ++ [(D, cList acc)])) ((x, v) :: vars) s₂) E' s₁)
    (done : ∀ I acc muts s', J n I acc muts → Sub B I → St K h₀ I env.locals vars (ex ++ (D, cList acc) :: muts) s₀ s' → R (.ok .next) s') :
    codeAny (model prog w) A (.compLoop (.ListComp elt gens scope pos) d (.ref a) (.ref D) env) R s := by
  refine codeAny_loop rfl (fun k s' => ∃ i I acc muts, i ≤ n ∧ k = n - i ∧ Sub B I ∧ J i I acc muts ∧ St K h₀ I env.locals vars ((a, c i) :: (ex ++ (D, cList acc) :: muts)) s₀ s') (fun k s' hI => ?_) n ⟨0, I, acc, muts, Nat.zero_le _, rfl, hB, hJ, S⟩
  obtain ⟨i, I, acc, muts, hi, rfl, hB, hJ, S⟩ := hI
  show wpAny _ A ((compTurn (.ListComp elt gens scope pos) d (.ref a) (.ref D) env).onRaise (fun x => do noteFrame x env; theTreesLotGoes x)) _ _ s'
  refine wpAny_noted ?_
  rw [compTurn_more hg hl]
  refine wpAny_bind (wpAny_standAt (wpAny_bind ?_))
  by_cases hlt : i < n
  · refine W.item i I _ vars _ s₀ s' _ _ hlt hB S fun v s₁ hP S₁ => ?_
    refine wpAny_bind (wpAny_of_eq (by rfl) (wpAny_bind (wpAny_assign_Name (r_store (v := v) S₁ (fun s₂ S₂ => ?_) rfl hx hk))))
    have S₂' : St K h₀ I env.locals ((x, v) :: vars) (((a, c (i + 1)) :: (ex ++ [(D, cList acc)])) ++ muts) s₀ s₂ := by simpa using S₂
    refine wpAny_bind (wpAny_mono (turn i v I acc muts s₂ _ hlt hP hJ hB S₂') (fun ok s₃ h₃ => ?_) fun _ _ e => e)
    cases ok with
    | false =>
      obtain ⟨I', m', hs, hJ', S'⟩ := h₃
      exact wpAny_pure ⟨rfl, n - (i + 1), by (with_reducible exact o_dec (by assumption)), i + 1, I', acc, m', by (with_reducible exact Nat.succ_le_of_lt (by assumption)), rfl, hB.trans hs, hJ', by simpa using S'.revarsM (hv v)⟩
    | true =>
      refine wpAny_bind (wpAny_mono h₃ (fun xv s₄ h₄ => wpAny_bind (wpAny_standAt (wpAny_bind (wpAny_of_eq (hs' xv) (wpAny_bind (wpAny_holding (wpAny_mono h₄ (fun it' s₅ h₅ => ?_) fun _ _ h' => h'))))))) fun _ _ h' => h')
      refine wpAny_bind (wpAny_runOwn (codeAny_mono (h₅ (fun r s₆ => r = .ok .next ∧ ∃ I' acc' muts', Sub I I' ∧ J (i + 1) I' acc' muts' ∧ St K h₀ I' env.locals ((x, v) :: vars) ((a, c (i + 1)) :: (ex ++ (D, cList acc') :: muts')) s₀ s₆)
        fun I' acc' muts' s₆ hs hJ' S' => ⟨rfl, I', acc', muts', hs, hJ', S'⟩) (fun r s₆ hr => ?_)))
      obtain ⟨rfl, I', acc', muts', hs, hJ', S'⟩ := hr
      exact wpAny_pure ⟨rfl, n - (i + 1), by (with_reducible exact o_dec (by assumption)), i + 1, I', acc', muts', by (with_reducible exact Nat.succ_le_of_lt (by assumption)), rfl, hB.trans hs, hJ', S'.revarsM (hv v)⟩
  · have : i = n := by omega
    subst this
    exact W.done I _ vars _ s₀ s' _ _ hB S fun s₁ S₁ => wpAny_pure (done I acc muts s₁ hJ hB S₁)
end turns

/-- what a comprehension asks of its first clause's iterator: the loop, for every block C and list D -/
def CompAt (prog : Program) (w : World) (A : Around) (K : Frag) (h₀ : Base) (env : Env) (s₀ : Shared) (cenv : Addr → Env) (elt : Expr) (gens : List Comprehension) (scope : Scope) (pos : Pos) (Q : Imm → List (Str × Value) → List (Addr × Cell) → Addr → List Value → Prop) (it : Value) (s : Shared) : Prop :=
  ∃ I vars muts, St K h₀ I env.locals vars muts s₀ s ∧
      ∀ C D oL s₃ R, St K h₀ I C [] ((env.locals, cIs oL) :: (D, cList []) :: muts) s₀ s₃ →
        (∀ I' vars' acc muts' s', St K h₀ I' C vars' ((env.locals, cIs oL) :: (D, cList acc) :: muts') s₀ s' → Q I' vars muts' D acc → R (.ok .next) s') →
        codeAny (model prog w) A (.compStart (.ListComp elt gens scope pos) 0 it (.ref D) (cenv C)) R s₃

theorem comp_enter {elt iter : Expr} {target : Expr} {ifs : List Expr} {gs : List Comprehension} {scope : Scope} {cl : List (Str × Addr)} {Q : Imm → List (Str × Value) → List (Addr × Cell) → Addr → List Value → Prop} {it : Value} {RR : Value → Addr → Result → Shared → Prop}
    (hcell : ∀ y ∈ scope.names, y.2 ≠ .cell) (hkind : scope.kind = .function)
    (h : CompAt prog w A K h₀ env s₀ (fun C => compEnvC scope cl C env) elt (⟨target, iter, ifs, 0⟩ :: gs) scope pos Q it s)
    (hRR : ∀ I' vars C D acc muts' s', St K h₀ I' env.locals vars ((C, cNs) :: (D, cList acc) :: muts') s₀ s' → Q I' vars muts' D acc → RR (.ref D) C (.ok .next) s') :
    wpAny (model prog w) A (newList []) (fun acc s₃ => wpAny (model prog w) A (newFunctionEnv scope env.globals cl [] env.qual none .none (some env)) (fun cenv s₄ =>
      codeAny (model prog w) A (.compStart (.ListComp elt (⟨target, iter, ifs, 0⟩ :: gs) scope pos) 0 it acc { cenv with scope := relabel scope env }) (RR acc cenv.locals) s₄) E s₃) E s := by
  obtain ⟨I, vars, muts, S, run⟩ := h
  refine wpAny_newObj_type (wpAny_newFunctionEnv hcell (by intro y hy; simp at hy) (fun h₁ hns₁ hsb₁ => ?_) hkind)
  dsimp only at hns₁ hsb₁ ⊢
  have SD : St K h₀ I env.locals vars ((s.heap.objs.size, cList []) :: muts) s₀ { s with heap := s.heap.push { cls := .type "list", dict := none, data := .seq ([] : List Value).toArray } } := S.push (tk := s.toks) ⟨0, rfl⟩
  generalize hH2 : s.heap.push { cls := .type "list", dict := none, data := .seq ([] : List Value).toArray } = H2 at hns₁ hsb₁ SD ⊢
  have old : ∀ b o, H2.get? b = some o → h₁.get? b = some o := fun b o e => hsb₁.extBut b o (Nat.ne_of_lt (Heap.lt_size e)) (Heap.get?_push_of_some _ e)
  have hnC : H2.get? H2.objs.size = none := by
    cases e : H2.get? H2.objs.size with
    | none => rfl
    | some o' => exact absurd (Heap.lt_size e) (Nat.lt_irrefl _)
  obtain ⟨oL, hoL, SC⟩ := SD.enterNs (tk := s.toks + ([] : List (Str × Value)).length) old hnC (Nat.le_refl _) hns₁
  exact run H2.objs.size s.heap.objs.size oL _ _ SC fun I' vars' acc muts' s' S' hQ => hRR I' vars _ _ acc muts' s' (S'.leaveNs hoL S.above) hQ

/-- a list comprehension as a value -/
theorem r_comp {elt iter target : Expr} {ifs : List Expr} {gs : List Comprehension} {scope : Scope} {cl : List (Str × Addr)} {Q : Value → Shared → Prop}
    (hclos : closureFor scope env = pure cl) (hcell : ∀ y ∈ scope.names, y.2 ≠ .cell) (hkind : scope.kind = .function) (hnames : ∀ y ∈ scope.names, y.2 = .local → scope.names.lookup y.1 = some .local)
    (h : wpAny (model prog w) A (eval iter env) (fun xv s₁ => wpAny (model prog w) A (pyIter xv) (fun it s₂ =>
      CompAt prog w A K h₀ env s₀ (fun C => compEnvC scope cl C env) elt (⟨target, iter, ifs, 0⟩ :: gs) scope pos (fun I' vars muts' D acc => ∀ s', St K h₀ I' env.locals vars ((D, cList acc) :: muts') s₀ s' → Q (.ref D) s') it s₂) E s₁) E s)
    (hs : ∀ x, foldedSetIterable iter env x = pure x := by intro _; rfl) :
    wpAny (model prog w) A (eval (.ListComp elt (⟨target, iter, ifs, 0⟩ :: gs) scope pos) env) Q E s := by
  rw [eval_ListComp]
  refine wpAny_comprehension_free (e := .ListComp elt (⟨target, iter, ifs, 0⟩ :: gs) scope pos) (g := ⟨target, iter, ifs, 0⟩) (gs := gs) (use := none) rfl hs hclos hkind hnames (wpAny_mono h (fun xv s₁ h₁ => wpAny_mono h₁ (fun it s₂ h₂ => ?_) fun _ _ e => e) fun _ _ e => e)
  refine comp_enter (RR := fun acc C => compPost (model prog w) A E none Q acc C) hcell hkind h₂ fun I' vars C D acc muts' s' S' hQ => ?_
  obtain ⟨⟨oC, eC, es, ep, hd, hk⟩, _⟩ := S'.cel _ (.head _)
  exact ⟨_, ⟨oC, es, ep, eC, hd, hk, fun _ => rfl⟩, fun h' hsb => hQ _ (S'.lose (tk := s'.toks) fun b o hb e => (hsb.2 b hb).trans e)⟩

/-- a list comprehension that a name takes at once -/
theorem r_assign_comp {y : Str} {py spos : Pos} {elt iter target : Expr} {ifs : List Expr} {gs : List Comprehension} {scope : Scope} {cl : List (Str × Addr)} {Q : Flow → Shared → Prop}
    (hsw : swapsWith (.ListComp elt (⟨target, iter, ifs, 0⟩ :: gs) scope pos) (some (.Name y py)) spos.line env = pure true) (hy : env.kindOf y = some .local) (hk : env.scope.kind = .function)
    (hclos : closureFor scope env = pure cl) (hcell : ∀ y ∈ scope.names, y.2 ≠ .cell) (hkind : scope.kind = .function) (hnames : ∀ y ∈ scope.names, y.2 = .local → scope.names.lookup y.1 = some .local)
    (h : wpAny (model prog w) A (eval iter env) (fun xv s₁ => wpAny (model prog w) A (pyIter xv) (fun it s₂ =>
      CompAt prog w A K h₀ env s₀ (fun C => compEnvC scope cl C env) elt (⟨target, iter, ifs, 0⟩ :: gs) scope pos (fun I' vars muts' D acc => ∀ s', St K h₀ I' env.locals ((y, .ref D) :: vars) ((D, cList acc) :: muts') s₀ s' → Q .next s') it s₂) E s₁) E s)
    (hs : ∀ x, foldedSetIterable iter env x = pure x := by intro _; rfl) :
    wpAny (model prog w) A (exec (.Assign [.Name y py] (.ListComp elt (⟨target, iter, ifs, 0⟩ :: gs) scope pos) spos) env) Q E s := by
  rw [exec_Assign_Name_used _ _ _ _ hsw]
  refine wpAny_bind (wpAny_standAt (wpAny_bind ?_))
  show wpAny _ A (do let _ ← comprehension (.ListComp elt (⟨target, iter, ifs, 0⟩ :: gs) scope pos) scope env _ (newList []) false (eval iter env) (some (assign (.Name y py) env))) _ _ s
  refine wpAny_bind (wpAny_mono (wpAny_comprehension_free (e := .ListComp elt (⟨target, iter, ifs, 0⟩ :: gs) scope pos) (g := ⟨target, iter, ifs, 0⟩) (gs := gs) (use := some (assign (.Name y py) env)) (Q := fun _ s' => Q .next s') rfl hs hclos hkind hnames
    (wpAny_mono h (fun xv s₁ h₁ => wpAny_mono h₁ (fun it s₂ h₂ => ?_) fun _ _ e => e) fun _ _ e => e)) (fun _ s' hq => wpAny_pure (wpAny_pure hq)) fun _ _ e => e)
  refine comp_enter (RR := fun acc C => compPost (model prog w) A E (some (assign (.Name y py) env)) (fun _ s' => Q .next s') acc C) hcell hkind h₂ fun I' vars C D acc muts' s' S' hQ => ?_
  show wpAny _ A (assign (.Name y py) env (.ref D)) _ _ _
  refine wpAny_assign_Name (r_store S' (fun s'' S'' => ?_) rfl hy hk)
  obtain ⟨⟨oC, eC, es, ep, hd, hk⟩, _⟩ := S''.cel _ (.head _)
  exact ⟨_, ⟨oC, es, ep, eC, hd, hk, fun _ => rfl⟩, fun h' hsb => hQ _ (S''.lose (tk := s''.toks) fun b o hb e => (hsb.2 b hb).trans e)⟩
end
section
variable {prog : Program} {w : World} {A : Around} {E : Value → Shared → Prop} {env : Env}
variable {K : Frag} {h₀ : Base} {I I' : Imm} {L : Addr} {vars vars' : List (Str × Value)} {muts muts' : List (Addr × Cell)} {s₀ s s' : Shared}
variable {x : Str} {pos npos : Pos} {v : Value} {a b : Int} {t u : Tok}

/-- what comes back from a call that turns nothing that stood -/
def Ret (I : Imm) (s : Shared) (P : Imm → Value → Prop) (r : Result) (s' : Shared) : Prop :=
  ∃ v h' tk I', r = .ok (.ret v) ∧ s' = { s with heap := h', toks := tk } ∧ (∀ b o, s.heap.get? b = some o → h'.get? b = some o) ∧ Sub I I' ∧
    (∀ a o, I' a o → h'.get? a = some o ∧ (I a o ∨ s.heap.get? a = none)) ∧ P I' v

/-- a contract: called with these values over what is finished, the def comes back with P -/
def Fn (prog : Program) (w : World) (K : Frag) (f : Addr) (n : Nat) (args : List Value) (I : Imm) (P : Imm → Value → Prop) : Prop :=
  ∀ A s, OkA n A → Wd K s.heap → (∀ a o, I a o → s.heap.get? a = some o) → codeAny (model prog w) A (.call (.ref f) ⟨args, []⟩) (Ret I s P) s

theorem St.callee (S : St K h₀ I L vars muts s₀ s) {h' : Heap} {tk : Nat} (k : ∀ b o, s.heap.get? b = some o → h'.get? b = some o) 
    (hI : ∀ a o, I' a o → h'.get? a = some o ∧ (I a o ∨ s.heap.get? a = none)) : St K h₀ I' L vars muts s₀ { s with heap := h', toks := tk } :=
  { S.ext (tk := tk) k with
    fresh := fun a o h => by
      rcases (hI a o h).2 with h1 | h1
      · exact S.fresh a o h1
      · refine .inr ?_
        cases e : h₀.h.get? a with
        | none => rfl
        | some o' => have := S.keep _ _ e; rw [this] at h1; cases h1
    imm := fun a o h => by
      refine ⟨(hI a o h).1, ?_⟩
      rcases (hI a o h).2 with h1 | h1
      · exact (S.imm a o h1).2
      · rintro rfl
        obtain ⟨m, ⟨o', _, _, e, _⟩, _⟩ := S.ns
        rw [e] at h1; cases h1
    cel := fun p hp => by
      obtain ⟨⟨o, e, c⟩, r1, r2, r3⟩ := S.cel p hp
      refine ⟨⟨o, k _ _ e, c⟩, r1, r2, fun o' h => ?_⟩
      rcases (hI _ o' h).2 with h1 | h1
      · exact r3 o' h1
      · rw [e] at h1; cases h1 }

theorem r_call {f : Addr} {n : Nat} {args : List Value} {P : Imm → Value → Prop} {Q : Value → Shared → Prop} (F : Fn prog w K f n args I P) (hA : OkA n A) (S : St K h₀ I L vars muts s₀ s)
    (h : ∀ v I' s', Sub I I' → P I' v → St K h₀ I' L vars muts s₀ s' → Q v s') : wpAny (model prog w) A (call (.ref f) args []) Q E s := by
  refine wpAny_call (codeAny_mono (F A s hA S.wds fun a o e => (S.imm a o e).1) fun r s' hr => ?_)
  obtain ⟨v, h', tk, I', rfl, rfl, k, hs, hI, hP⟩ := hr
  exact h v I' _ hs hP (S.callee k hI)

/-- how a body ends -/
def FnEnd (K : Frag) (s : Shared) (I : Imm) (L : Addr) (P : Imm → Value → Prop) (fl : Flow) (s' : Shared) : Prop :=
  ∃ v I' vars muts, fl = .ret v ∧ Sub I I' ∧ St K ⟨s.heap, I⟩ I' L vars muts s s' ∧ P I' v

theorem FnEnd.ret {P : Imm → Value → Prop} {fl : Flow} : FnEnd K s I L P fl s' → Ret I s P (.ok (.ret (match fl with | .ret v => v | _ => .none))) s' := by
  intro h
  obtain ⟨v, I', vars, muts, rfl, hs, S, hP⟩ := h
  exact ⟨v, s'.heap, s'.toks, I', rfl, S.eq, S.keep, hs, fun a o h => ⟨(S.imm a o h).1, S.fresh a o h⟩, hP⟩

theorem fn_plain {f : Addr} {n : Nat} {args : List Value} {P : Imm → Value → Prop} {name qual : Str} {params : Arguments} {body : List Stmt} {scope : Scope} {dV kV doc pm cdv ct oc : Value} {an od : Option Addr} {osl : Array (Option Value)} {binds : List (Str × Value)}
    (ho : K.lookup f = some ⟨oc, od, .func (fnOf name qual params body scope dV kV doc pm an cdv ct), osl⟩) (hcd : codeIn K cdv qual = true)
    (hbind : ∀ s, BindsTo s (fnOf name qual params body scope dV kV doc pm an cdv ct) ⟨args, []⟩ binds) (hloc : ∀ y ∈ binds, scope.names.lookup y.1 = some .local) (hcell : ∀ x ∈ scope.names, x.2 ≠ .cell)
    (hvars : ∀ p ∈ vars, binds.reverse.lookup p.1 = some p.2)
    (h : ∀ A s L s₁ E, OkA n A → St K ⟨s.heap, I⟩ I L vars [] s s₁ → wpAny (model prog w) A (execs body (envX qual scope L f cdv [])) (FnEnd K s I L P) E s₁)
    (hco : scope.isCoroutine = false := by rfl) (hgen : scope.isGenerator = false := by rfl) (hk : scope.kind = .function := by rfl) : Fn prog w K f (n + 1) args I P := by
  intro A s hA W hI
  refine codeAny_call_def (fd := fnOf name qual params body scope dV kV doc pm an cdv ct) (body := body) (binds := binds) hA.room (W.1 _ _ ho) rfl W.nolimit (codeRec_of W.1 hcd) rfl (hbind s) hcell hloc (fun h₁ hns hk₁ => ?_) hco hgen hk
  have e : callEnv (fnOf name qual params body scope dV kV doc pm an cdv ct) s.heap.objs.size f = envX qual scope s.heap.objs.size f cdv [] := rfl
  rw [e]
  refine wpAny_mono (h _ s s.heap.objs.size _ _ hA.deeper ?_) (fun fl s' hl => hl.ret) fun _ _ e => e
  refine { wd := W, gens := rfl, drawn := rfl, os := rfl, keep := hk₁, above := Nat.le_refl _, fresh := fun a o h => .inl h, ns := ⟨_, hns, fun x v e => ?_⟩, imm := fun a o e => ⟨hk₁ _ _ (hI a o e), Nat.ne_of_lt (Heap.lt_size (hI a o e))⟩, cel := fun p hp => absurd hp List.not_mem_nil, nd := .nil }
  have hm : (x, v) ∈ vars := by
    clear hvars h
    induction vars with
    | nil => simp at e
    | cons p r ih =>
      obtain ⟨y, u⟩ := p
      rw [List.lookup_cons] at e
      cases hb : x == y with
      | true => rw [hb] at e; simp at e; have := eq_of_beq hb; subst this; subst e; exact .head _
      | false => rw [hb] at e; exact .tail _ (ih e)
  exact hvars _ hm

def cellsOf (L : Addr) (f : Addr) (qual : Str) (scope : Scope) (cdv : Value) (binds : List (Str × Value)) : List (Addr × Cell) :=
  (cellsFrom (L + 1) scope.names []).map fun p => (p.2, fun o => o.data = .cell (bindC (envOfC qual scope L f cdv).kindOf binds (fun _ => none) p.1))

theorem fn_cells {f : Addr} {n : Nat} {args : List Value} {P : Imm → Value → Prop} {name qual : Str} {params : Arguments} {body : List Stmt} {scope : Scope} {dV kV doc pm cdv ct oc : Value} {an od : Option Addr} {osl : Array (Option Value)} {binds : List (Str × Value)}
    (ho : K.lookup f = some ⟨oc, od, .func (fnOf name qual params body scope dV kV doc pm an cdv ct), osl⟩) (hcd : codeIn K cdv qual = true)
    (hbind : ∀ s, BindsTo s (fnOf name qual params body scope dV kV doc pm an cdv ct) ⟨args, []⟩ binds)
    (hkind : (binds.all fun y => scope.names.lookup y.1 == some .local || scope.names.lookup y.1 == some .cell) = true)
    (hnd : ((cellsFrom 0 scope.names []).map (·.1)).Nodup)
    (hvars : ∀ L x v, vars.lookup x = some v → bindL (envOfC qual scope L f cdv).kindOf binds (fun _ => none) x = some v)
    (h : ∀ A s L s₁ E, OkA n A → St K ⟨s.heap, I⟩ I L vars (cellsOf L f qual scope cdv binds) s s₁ → wpAny (model prog w) A (execs body (envX qual scope L f cdv (cellsFrom (L + 1) scope.names []))) (FnEnd K s I L P) E s₁)
    (hco : scope.isCoroutine = false := by rfl) (hgen : scope.isGenerator = false := by rfl) (hk : scope.kind = .function := by rfl) : Fn prog w K f (n + 1) args I P := by
  intro A s hA W hI
  refine codeAny_call_function (fd := fnOf name qual params body scope dV kV doc pm an cdv ct) (body := body) hA.room (W.1 _ _ ho) rfl hco hgen rfl (codeRec_of W.1 hcd) (hbind s _ _ _ _ ?_)
  refine wpAny_newFunctionEnv_cells hk (kindsX hkind _) fun env' he s' x => ?_
  subst he
  refine ⟨W.nolimit.keeps x.toInCall.keep, codeAny_func ?_⟩
  have xd := x.done
  obtain ⟨h₁, tk, rfl, _⟩ := xd
  have hk₁ := x.toInCall.keep
  have hlt : ∀ a, s.heap.objs.size ≤ a → s.heap.get? a = none := fun a ha => by
    cases e : s.heap.get? a with
    | none => rfl
    | some o' => exact absurd (Heap.lt_size e) (Nat.not_lt.mpr ha)
  refine wpAny_mono (h _ s s.heap.objs.size _ _ hA.deeper ?_) (fun fl s' hl => hl.ret) fun _ _ e => e
  refine { wd := W, gens := rfl, drawn := rfl, os := rfl, keep := hk₁, above := Nat.le_refl _, fresh := fun a o h => .inl h, ns := ⟨_, x.toInCall.ns, fun y v e => hvars _ y v e⟩, imm := fun a o e => ⟨hk₁ _ _ (hI a o e), Nat.ne_of_lt (Heap.lt_size (hI a o e))⟩, cel := fun p hp => ?_, nd := ?_ }
  · obtain ⟨⟨y, c⟩, hm, rfl⟩ := List.mem_map.mp hp
    have hl := lookup_of_mem_nodup (cellsFrom_names scope.names 0 (s.heap.objs.size + 1) [] [] rfl ▸ hnd) hm
    obtain ⟨o, e, hd⟩ := x.cell y c hl
    have hab := x.above y c hm
    have hab' : s.heap.objs.size < c := hab
    refine ⟨⟨o, e, hd⟩, Nat.ne_of_gt hab', hlt _ (Nat.le_of_lt hab'), fun o' h => ?_⟩
    have := Heap.lt_size (hI _ _ h)
    exact absurd this (Nat.not_lt.mpr (Nat.le_of_lt hab'))
  · exact List.pairwise_map.mpr x.apart
end
section
variable {prog : Program} {w : World} {A : Around} {E : Value → Shared → Prop} {env : Env}
variable {K : Frag} {h₀ : Base} {I I' : Imm} {L : Addr} {vars vars' : List (Str × Value)} {muts muts' : List (Addr × Cell)} {s₀ s s' : Shared}
variable {x : Str} {pos npos : Pos} {v : Value} {a b : Int} {t u : Tok} {Q : Value → Shared → Prop}

/-- a statement whose ways meet in R -/
theorem r_seq {st : Stmt} {rest : List Stmt} {Q : Flow → Shared → Prop} (R : Shared → Prop) (h1 : wpAny (model prog w) A (exec st env) (fun f s' => f = .next ∧ R s') E s) (h2 : ∀ s', R s' → wpAny (model prog w) A (execs rest env) Q E s') :
    wpAny (model prog w) A (execs (st :: rest) env) Q E s :=
  wpAny_execs_cons (wpAny_mono h1 (fun f s' h => by obtain ⟨rfl, hr⟩ := h; exact h2 s' hr) fun _ _ e => e)

section makes
theorem r_newList {vs : List Value} (S : St K h₀ I L vars muts s₀ s) (h : ∀ D s', St K h₀ I L vars ((D, cList vs) :: muts) s₀ s' → Q (.ref D) s') (hsz : vs.length ≤ sizeLine) : wpAny (model prog w) A (newList vs) Q E s :=
  wpAny_newList (h _ _ (S.push (tk := s.toks) ⟨0, rfl⟩)) hsz
theorem St.freezeAt {a : Addr} {o : Obj} (S : St K h₀ I L vars ((a, cIs o) :: muts) s₀ s) : St K h₀ (Add I a o) L vars muts s₀ s := by
  obtain ⟨o', hc, e, S'⟩ := S.freeze
  simp only [cIs] at hc
  subst hc
  exact S'
theorem r_newTuple {vs : List Value} (S : St K h₀ I L vars muts s₀ s) (h : ∀ D s' I', Sub I I' → IT I' D vs → St K h₀ I' L vars muts s₀ s' → Q (.ref D) s') (hsz : vs.length ≤ sizeLine) : wpAny (model prog w) A (newTuple vs) Q E s :=
  wpAny_newTuple (h _ _ _ Sub.add ⟨_, Add.here, rfl, 0, rfl⟩ (St.freezeAt (S.push (tk := s.toks) (c := cIs (TO vs)) rfl))) hsz
/-- a list that turns no more -/
theorem St.freezeL {a : Addr} {vs : List Value} (S : St K h₀ I L vars ((a, cList vs) :: muts) s₀ s) : ∃ I', Sub I I' ∧ IL I' a vs ∧ St K h₀ I' L vars muts s₀ s := by
  obtain ⟨o, hc, e, S'⟩ := S.freeze
  exact ⟨_, Sub.add, ⟨o, Add.here, hc.is⟩, S'⟩
theorem St.freezeW {a : Addr} {vs : List Value} (S : St K h₀ I L vars ((a, IsLO vs) :: muts) s₀ s) : ∃ I', Sub I I' ∧ IL I' a vs ∧ St K h₀ I' L vars muts s₀ s := by
  obtain ⟨o, hc, e, S'⟩ := S.freeze
  exact ⟨_, Sub.add, ⟨o, Add.here, hc⟩, S'⟩
theorem r_range1 (S : St K h₀ I L vars muts s₀ s) (h : ∀ r s' t₁ t₂ t₃, St K h₀ I L vars muts s₀ s' → IsRange s'.heap r 0 a 1 t₁ t₂ t₃ → Q (.ref r) s') : wpAny (model prog w) A (call (.type "range") [.int a t]) Q E s :=
  call_range_1 (h _ _ _ _ _ (S.ext fun _ _ e => Heap.get?_push_of_some _ e) (IsRange.new ..))
theorem r_range2 (S : St K h₀ I L vars muts s₀ s) (h : ∀ r s' t₁ t₂ t₃, St K h₀ I L vars muts s₀ s' → IsRange s'.heap r a b 1 t₁ t₂ t₃ → Q (.ref r) s') : wpAny (model prog w) A (call (.type "range") [.int a t, .int b u]) Q E s :=
  call_range_2 (h _ _ _ _ _ (S.ext fun _ _ e => Heap.get?_push_of_some _ e) (IsRange.new ..))
end makes

section lists
theorem r_len {l : Addr} {vs : List Value} (S : St K h₀ I L vars muts s₀ s) (hl : s.heap.IsList l vs.toArray) (hfit : vs.length ≤ sizeLine) (h : ∀ t s', St K h₀ I L vars muts s₀ s' → Q (.int vs.length t) s') :
    wpAny (model prog w) A (call (.builtin "len") [.ref l]) Q E s := by
  refine call_len_list hl ?_ ?_
  · rw [List.size_toArray]; rw [sizeLine_eq] at hfit; omega
  · rw [List.size_toArray]; exact h _ _ S.toks
theorem r_setList {l : Addr} {vs : List Value} {Q : Unit → Shared → Prop} (S : St K h₀ I L vars ((l, IsLO vs) :: muts) s₀ s) (h0 : 0 ≤ a) (hfit : a < 2 ^ 63) (hn : a.toNat < vs.length)
    (h : ∀ s', St K h₀ I L vars ((l, IsLO (vs.set a.toNat v)) :: muts) s₀ s' → Q () s') : wpAny (model prog w) A (setItem (.ref l) (.int a t) v) Q E s := by
  refine wpAny_setItem_list (S.lstW (.head _)) h0 hfit (by rw [List.size_toArray]; omega) fun h' hl hs => h _ ?_
  obtain ⟨o, e, c, n, d⟩ := hl
  exact S.upd (tk := s.toks) (fun b o hb e => (hs.2 b hb).trans e) e ⟨c, n, by simpa using d⟩
/-- the end of an append, the list at the head -/
theorem r_append {l : Addr} {vs : List Value} (S : St K h₀ I L vars ((l, cList vs) :: muts) s₀ s) (hsz : vs.length ≤ sizeLine) (h : ∀ s', St K h₀ I L vars ((l, cList (vs ++ [v])) :: muts) s₀ s' → Q .none s') :
    wpAny (model prog w) A (call (.builtin "list.append") [.ref l, v]) Q E s := by
  refine wpAny_list_append_plain (items := vs.toArray) (S.lstM (.head _)) (fun h' hl' hs' => ?_) (by simpa using hsz)
  obtain ⟨k, hk'⟩ := hl'
  exact h _ (S.upd (tk := s.toks) (fun b o hb e => (hs'.2 b hb).trans e) hk' ⟨k, by simp⟩)

/-- «o.append(e)», the list at the head when e is worth its value -/
theorem r_appendE {o elt : Expr} {apos : Pos}
    (h : wpAny (model prog w) A (eval o env) (fun ov s₁ => ∃ D vs, ov = .ref D ∧ (∃ o n, s₁.heap.get? D = some o ∧ o.cls = .type "list" ∧ o.dict = none ∧ o.data = .seq vs n) ∧
      wpAny (model prog w) A (eval elt env) (fun y s₂ => wpAny (model prog w) A (call (.builtin "list.append") [.ref D, y]) Q E s₂) E s₁) E s)
    (hbase : attributeBase o "append" env (eval o env) = eval o env := by rfl)
    (hfew : ((backTo pos (starEach [elt] env)).all (fun x => !x.1) && (backToKw pos (keywordEach [] env)).all (fun x => x.1.isSome)
      && decide (([elt] : List Expr).length + ([] : List Keyword).length + (if ([] : List Keyword).isEmpty then 0 else 1) < 30)) = true := by rfl)
    (hline : (apos.endLine == pos.line) = true := by rfl) (htrees : backTo pos (starEach [elt] env) = [(false, eval elt env)] := by rfl) :
    wpAny (model prog w) A (eval (.Call (.Attribute o "append" apos) [elt] [] pos) env) Q E s :=
  wpAny_Call_append hbase hfew hline htrees (wpAny_mono h (fun ov s₁ h₁ => by
    obtain ⟨D, vs, rfl, ⟨o, n, r⟩, h₂⟩ := h₁
    exact ⟨D, vs, rfl, ⟨o, n, r⟩, h₂⟩) fun _ _ e => e)
theorem St.plainL {l : Addr} {vs : List Value} (S : St K h₀ I L vars muts s₀ s) (h : (l, cList vs) ∈ muts) : ∃ o n, s.heap.get? l = some o ∧ o.cls = .type "list" ∧ o.dict = none ∧ o.data = .seq vs.toArray n := by
  obtain ⟨⟨o, e, n, rfl⟩, _⟩ := S.cel _ h
  exact ⟨_, n, e, rfl, rfl, rfl⟩
end lists
end
section
variable {prog : Program} {w : World} {A : Around} {E : Value → Shared → Prop} {env : Env}
variable {K : Frag} {h₀ : Base} {I I' : Imm} {L : Addr} {vars vars' : List (Str × Value)} {muts muts' : List (Addr × Cell)} {s₀ s s' : Shared}
variable {x : Str} {pos npos : Pos} {v : Value} {a b : Int} {t u : Tok} {Q : Value → Shared → Prop}

inductive All2 {α : Type} (R : Value → α → Prop) : List Value → List α → Prop
  | nil : All2 R [] []
  | cons {v d vs ds} : R v d → All2 R vs ds → All2 R (v :: vs) (d :: ds)
theorem All2.length {α : Type} {R : Value → α → Prop} {vs : List Value} {ds : List α} (h : All2 R vs ds) : vs.length = ds.length := by
  induction h with
  | nil => rfl
  | cons _ _ ih => simp [ih]
theorem All2.snoc {α : Type} {R : Value → α → Prop} {vs : List Value} {ds : List α} {v : Value} {d : α} (h : All2 R vs ds) (k : R v d) : All2 R (vs ++ [v]) (ds ++ [d]) := by
  induction h with
  | nil => exact .cons k .nil
  | cons h1 _ ih => exact .cons h1 ih
theorem All2.mono {α : Type} {R R' : Value → α → Prop} {vs : List Value} {ds : List α} (h : All2 R vs ds) (k : ∀ v d, R v d → R' v d) : All2 R' vs ds := by
  induction h with
  | nil => exact .nil
  | cons h1 _ ih => exact .cons (k _ _ h1) ih
theorem All2.get {α : Type} {R : Value → α → Prop} {vs : List Value} {ds : List α} (h : All2 R vs ds) {i : Nat} {v : Value} (hv : vs[i]? = some v) : ∃ d, ds[i]? = some d ∧ R v d := by
  induction h generalizing i with
  | nil => simp at hv
  | cons h1 _ ih =>
    cases i with
    | zero => simp at hv; subst hv; exact ⟨_, rfl, h1⟩
    | succ i => simp at hv; obtain ⟨d, e, r⟩ := ih hv; exact ⟨d, by simpa using e, r⟩
theorem All2.at {α : Type} {R : Value → α → Prop} {vs : List Value} {ds : List α} (h : All2 R vs ds) {i : Nat} {d : α} (hd : ds[i]? = some d) : ∃ v, vs[i]? = some v ∧ R v d := by
  induction h generalizing i with
  | nil => simp at hd
  | cons h1 _ ih =>
    cases i with
    | zero => simp at hd; subst hd; exact ⟨_, rfl, h1⟩
    | succ i => simp at hd; obtain ⟨d, e, r⟩ := ih hd; exact ⟨d, by simpa using e, r⟩
theorem All2.set {α : Type} {R : Value → α → Prop} {vs : List Value} {ds : List α} {v : Value} {d : α} (h : All2 R vs ds) (i : Nat) (k : R v d) : All2 R (vs.set i v) (ds.set i d) := by
  induction h generalizing i with
  | nil => exact .nil
  | cons h1 h2 ih =>
    cases i with
    | zero => exact .cons k h2
    | succ i => exact .cons h1 (ih i)
theorem All2.append {α : Type} {R : Value → α → Prop} {vs us : List Value} {ds es : List α} (h : All2 R vs ds) (k : All2 R us es) : All2 R (vs ++ us) (ds ++ es) := by
  induction h with
  | nil => exact k
  | cons h1 _ ih => exact .cons h1 ih

def IntV (v : Value) (n : Int) : Prop := ∃ t, v = .int n t
theorem IntsAre.of2 {vs : List Value} {ns : List Int} (h : All2 IntV vs ns) : IntsAre vs ns := by
  induction h with
  | nil => exact .nil
  | cons h1 _ ih => obtain ⟨t, rfl⟩ := h1; exact .cons _ t ih
theorem IntsAre.to2 {vs : List Value} {ns : List Int} (h : IntsAre vs ns) : All2 IntV vs ns := by
  induction h with
  | nil => exact .nil
  | cons n t _ ih => exact .cons ⟨t, rfl⟩ ih
theorem ints_snoc {vs : List Value} {ns : List Int} {n : Int} {t : Tok} (h : IntsAre vs ns) : IntsAre (vs ++ [.int n t]) (ns ++ [n]) := IntsAre.of2 ((IntsAre.to2 h).snoc ⟨t, rfl⟩)

/-- a finished list, tuple of ints; a list of lists of ints; a list of tuples of ints -/
def IntsL (I : Imm) (v : Value) (ns : List Int) : Prop := ∃ a vs, v = .ref a ∧ IL I a vs ∧ IntsAre vs ns
def IntsT (I : Imm) (v : Value) (ns : List Int) : Prop := ∃ a vs, v = .ref a ∧ IT I a vs ∧ IntsAre vs ns
def RowsL (I : Imm) (v : Value) (rows : List (List Int)) : Prop := ∃ a vs, v = .ref a ∧ IL I a vs ∧ All2 (IntsL I) vs rows
def TagsL (I : Imm) (v : Value) (ts : List (List Int)) : Prop := ∃ a vs, v = .ref a ∧ IL I a vs ∧ All2 (IntsT I) vs ts
theorem IntsL.sub {ns : List Int} (h : IntsL I v ns) (s : Sub I I') : IntsL I' v ns := let ⟨a, vs, e, l, i⟩ := h; ⟨a, vs, e, l.sub s, i⟩
theorem IntsT.sub {ns : List Int} (h : IntsT I v ns) (s : Sub I I') : IntsT I' v ns := let ⟨a, vs, e, l, i⟩ := h; ⟨a, vs, e, l.sub s, i⟩
theorem RowsL.sub {rows : List (List Int)} (h : RowsL I v rows) (s : Sub I I') : RowsL I' v rows := let ⟨a, vs, e, l, i⟩ := h; ⟨a, vs, e, l.sub s, i.mono fun _ _ r => r.sub s⟩
theorem TagsL.sub {rows : List (List Int)} (h : TagsL I v rows) (s : Sub I I') : TagsL I' v rows := let ⟨a, vs, e, l, i⟩ := h; ⟨a, vs, e, l.sub s, i.mono fun _ _ r => r.sub s⟩

/-- an item at a place that is known -/
theorem r_item {l : Addr} {vs : List Value} {value slice : Expr} {i : Nat} (hl : s.heap.IsList l vs.toArray) (ha : a = (i : Int)) (hx : vs[i]? = some v) (hi : i ≤ sizeLine) (h : Q v s)
    (hs : subscripted slice false (.ref l) (.int a u) = operate [.ref l, .int a u] (getItem (.ref l) (.int a u)) := by with_unfolding_all rfl) :
    wpAny (model prog w) A (subscriptTail value slice (.ref l) (.int a u)) Q E s :=
  item_litK hl (by omega) (by rw [sizeLine_eq] at hi; omega) (by subst ha; simpa using hx) h hs

/-- every object that the frame made, as a ledger: the library's own rules speak of it -/
def allNews (g : Heap) (L : Addr) (h : Heap) : List (Addr × Obj) :=
  (List.range h.objs.size).filterMap fun a => if a = L ∨ (g.get? a).isSome = true then none else (h.get? a).map fun o => (a, o)
theorem mem_allNews {g h : Heap} {L a : Addr} {o : Obj} : (a, o) ∈ allNews g L h ↔ h.get? a = some o ∧ a ≠ L ∧ g.get? a = none := by
  unfold allNews
  rw [List.mem_filterMap]
  constructor
  · rintro ⟨b, _, e⟩
    split at e
    · cases e
    · rename_i hb
      rw [not_or] at hb
      cases hg : h.get? b with
      | none => rw [hg] at e; cases e
      | some o' =>
        rw [hg] at e
        simp only [Option.map_some, Option.some.injEq, Prod.mk.injEq] at e
        obtain ⟨rfl, rfl⟩ := e
        refine ⟨hg, hb.1, ?_⟩
        cases hq : g.get? b with
        | none => rfl
        | some _ => rw [hq] at hb; exact absurd rfl hb.2
  · rintro ⟨e, hL, hg⟩
    refine ⟨a, List.mem_range.mpr (Heap.lt_size e), ?_⟩
    rw [if_neg (by rw [hg]; simpa using hL), e]; rfl

theorem St.toFr (S : St K h₀ I L vars muts s₀ s) : ∃ m, Fr h₀.h L s.heap m ∧ ∀ x v, vars.lookup x = some v → m x = some v :=
  let ⟨m, n, q⟩ := S.ns; ⟨m, ⟨n, S.keep, S.above⟩, q⟩
theorem St.toNews (_S : St K h₀ I L vars muts s₀ s) : News h₀.h L s.heap (allNews h₀.h L s.heap) := fun p hp => by
  obtain ⟨a, o⟩ := p
  exact mem_allNews.mp hp
theorem St.ofFr (S : St K h₀ I L vars muts s₀ s) {m : Str → Option Value} (hm : ∀ x v, vars.lookup x = some v → m x = some v) {h' : Heap} {tk : Nat} {more : List (Addr × Obj)}
    (F : Fr h₀.h L h' m) (N : News h₀.h L h' (more ++ allNews h₀.h L s.heap)) : St K h₀ I L vars muts s₀ { s with heap := h', toks := tk } := by
  have k : ∀ a o, a ≠ L → s.heap.get? a = some o → h'.get? a = some o := fun a o hL e => by
    cases hg : h₀.h.get? a with
    | some o' =>
      have := S.keep _ _ hg
      rw [e] at this; cases this
      exact F.keep _ _ hg
    | none => exact (N (a, o) (List.mem_append_right _ (mem_allNews.mpr ⟨e, hL, hg⟩))).1
  refine { wd := S.wd, gens := S.gens, drawn := S.drawn, os := S.os, above := S.above, fresh := S.fresh, keep := F.keep, ns := ⟨m, F.ns, hm⟩, imm := fun a o e => ⟨k a o (S.imm a o e).2 (S.imm a o e).1, (S.imm a o e).2⟩, cel := fun p hp => ?_, nd := S.nd }
  obtain ⟨⟨o, e, c⟩, r⟩ := S.cel p hp
  exact ⟨⟨o, k _ _ r.1 e, c⟩, r⟩
end
section
variable {prog : Program} {w : World} {A : Around} {E : Value → Shared → Prop} {env : Env}
variable {h₀ : Base} {I I' : Imm} {L : Addr} {vars vars' : List (Str × Value)} {muts muts' : List (Addr × Cell)} {s₀ s s' : Shared}
variable {pos npos : Pos} {v : Value} {a b : Int} {t u : Tok} {Q : Value → Shared → Prop}

noncomputable abbrev KK (w : World) : Frag := hd.heap_39 w.params

abbrev dfaDict (h1 h2 : Int) (k1 k2 : Tok) (n : Nat) (r t : Addr) : Obj := dictOf [⟨h1, .str "rows" k1, .ref r⟩, ⟨h2, .str "tags" k2, .ref t⟩] n
/-- an automaton stands finished at x: its rows, its tags -/
def DfaAt (I : Imm) (x r t : Addr) : Prop := ∃ dx h1 h2 k1 k2 n, I x (instObj 80 dx) ∧ I dx (dfaDict h1 h2 k1 k2 n r t)
theorem DfaAt.sub {x r t : Addr} (h : DfaAt I x r t) (s : Sub I I') : DfaAt I' x r t := let ⟨dx, h1, h2, k1, k2, n, e, d⟩ := h; ⟨dx, h1, h2, k1, k2, n, s _ _ e, s _ _ d⟩

theorem r_rows {x r t : Addr} {e : Bool} (S : St (KK w) h₀ I L vars muts s₀ s) (D : DfaAt I x r t) (h : ∀ s', St (KK w) h₀ I L vars muts s₀ s' → Q (.ref r) s') : wpAny (model prog w) A (getAttr (.ref x) "rows" e) Q E s := by
  obtain ⟨dx, h1, h2, k1, k2, n, ex, ed⟩ := D
  have II : PySem.W.InstAt s.heap x (instObj 80 dx) 80 (some (dfaDict h1 h2 k1 k2 n r t)) := ⟨(S.imm _ _ ex).1, rfl, rfl, (S.imm _ _ ed).1⟩
  exact get_value S.X II (by with_unfolding_all rfl) (by with_unfolding_all rfl) (by with_unfolding_all rfl) (h _ S.toks)
theorem r_tags {x r t : Addr} {e : Bool} (S : St (KK w) h₀ I L vars muts s₀ s) (D : DfaAt I x r t) (h : ∀ s', St (KK w) h₀ I L vars muts s₀ s' → Q (.ref t) s') : wpAny (model prog w) A (getAttr (.ref x) "tags" e) Q E s := by
  obtain ⟨dx, h1, h2, k1, k2, n, ex, ed⟩ := D
  have II : PySem.W.InstAt s.heap x (instObj 80 dx) 80 (some (dfaDict h1 h2 k1 k2 n r t)) := ⟨(S.imm _ _ ex).1, rfl, rfl, (S.imm _ _ ed).1⟩
  exact get_value S.X II (by with_unfolding_all rfl) (by with_unfolding_all rfl) (by with_unfolding_all rfl) (h _ S.toks)

theorem r_meth {x r t f : Addr} {name : Str} {pl : Sem Bool} {Q : Value × List Value → Shared → Prop} (S : St (KK w) h₀ I L vars muts s₀ s) (D : DfaAt I x r t)
    (hf : findIn (KK w) (.ref 80) name = some (some (.ref f))) (ht : isFn (KK w) (.ref f) = true) (hg : plainGet (KK w) 80 name = true) (h1 : ("rows" == name) = false) (h2 : ("tags" == name) = false)
    (h : Q (.ref f, [.ref x]) s) : wpAny (model prog w) A (getMethod (.ref x) name pl) Q E s := by
  obtain ⟨dx, h1', h2', k1, k2, n, ex, ed⟩ := D
  obtain ⟨m, F, _⟩ := S.toFr
  have II : PySem.W.InstAt s.heap x (instObj 80 dx) 80 (some (dfaDict h1' h2' k1 k2 n r t)) := ⟨(S.imm _ _ ex).1, rfl, rfl, (S.imm _ _ ed).1⟩
  refine method_inst F S.wd.1 II hg hf ht ?_ h
  unfold getL
  simp only [List.find?, Value.isStr]
  rw [h1, h2]
  rfl

/-- «o.f()» -/
theorem r_meth0 {x r t f : Addr} {o : Expr} {apos : Pos} {name : Str} (hf : findIn (KK w) (.ref 80) name = some (some (.ref f))) (ht : isFn (KK w) (.ref f) = true) (hg : plainGet (KK w) 80 name = true) (h1 : ("rows" == name) = false) (h2 : ("tags" == name) = false)
    (hk : keepIn (KK w) (.ref f) = true)
    (h : wpAny (model prog w) A (eval o env) (fun ov s₁ => ∃ h₀ I L vars muts s₀, ov = .ref x ∧ St (KK w) h₀ I L vars muts s₀ s₁ ∧ DfaAt I x r t ∧ wpAny (model prog w) A (call (.ref f) [.ref x] []) Q E s₁) E s) 
    {pl : Sem Bool} (he : eval (.Call (.Attribute o name apos) [] [] pos) env = (do
      let ov ← eval o env
      standAt apos.atName
      let (f, first) ← holding [ov] (getMethod ov name pl)
      callWith pos f first (backTo pos (starEach [] env)) (backToKw pos (keywordEach [] env))) := by rfl) :
    wpAny (model prog w) A (eval (.Call (.Attribute o name apos) [] [] pos) env) Q E s := by
  refine methodCall_KW (pl := pl) (wpAny_mono h (fun ov s₁ h₁ => ?_) fun _ _ e => e) he
  obtain ⟨h₀, I, L, vars, muts, s₀, rfl, S, D, hc⟩ := h₁
  exact r_meth S D hf ht hg h1 h2 (callWith_K0 S.X hk hc)
end
section
variable {prog : Program} {w : World} {A : Around} {E : Value → Shared → Prop} {env : Env}
variable {h₀ : Base} {I I' : Imm} {L : Addr} {vars vars' : List (Str × Value)} {muts muts' : List (Addr × Cell)} {s₀ s s' : Shared}
variable {pos npos : Pos} {v : Value} {a b : Int} {t u : Tok} {Q : Value → Shared → Prop}

/-- a def is entered, whatever its end is asked to be -/
theorem enter_def {K : Frag} {f : Addr} {args : List Value} {R : Result → Shared → Prop} {name qual : Str} {params : Arguments} {body : List Stmt} {scope : Scope} {dV kV doc pm cdv ct oc : Value} {an od : Option Addr} {osl : Array (Option Value)} {binds : List (Str × Value)}
    (ho : K.lookup f = some ⟨oc, od, .func (fnOf name qual params body scope dV kV doc pm an cdv ct), osl⟩) (hcd : codeIn K cdv qual = true)
    (hbind : ∀ s, BindsTo s (fnOf name qual params body scope dV kV doc pm an cdv ct) ⟨args, []⟩ binds) (hloc : ∀ y ∈ binds, scope.names.lookup y.1 = some .local) (hcell : ∀ x ∈ scope.names, x.2 ≠ .cell)
    (hroom : A.depth < recursionLimit) (W : Wd K s.heap)
    (h : ∀ A' h₁ tk E', h₁.Ns s.heap.objs.size (fun y => binds.reverse.lookup y) → (∀ b o, s.heap.get? b = some o → h₁.get? b = some o) →
      wpAny (model prog w) A' (execs body (envX qual scope s.heap.objs.size f cdv [])) (fun fl s' => R (.ok (.ret (match fl with | .ret v => v | _ => .none))) s') E' { s with heap := h₁, toks := tk })
    (hco : scope.isCoroutine = false := by rfl) (hgen : scope.isGenerator = false := by rfl) (hk : scope.kind = .function := by rfl) : codeAny (model prog w) A (.call (.ref f) ⟨args, []⟩) R s := by
  refine codeAny_call_def (fd := fnOf name qual params body scope dV kV doc pm an cdv ct) (body := body) (binds := binds) hroom (W.1 _ _ ho) rfl W.nolimit (codeRec_of W.1 hcd) rfl (hbind s) hcell hloc (fun h₁ hns hk₁ => ?_) hco hgen hk
  exact h _ h₁ _ _ hns hk₁

theorem make_dfa {r t : Addr} (S : St (KK w) h₀ I L vars muts s₀ s) (hA : OkA 3 A) (h : ∀ x I' s', Sub I I' → DfaAt I' x r t → St (KK w) h₀ I' L vars muts s₀ s' → Q (.ref x) s') :
    wpAny (model prog w) A (call (.ref 80) [.ref r, .ref t] []) Q E s := by
  obtain ⟨hh, g, d, tk, os⟩ := s
  refine wpAny_call (make_core (C := 80) (init := .ref 42) (makes_of S.X (by with_unfolding_all rfl)) (looks_findIn S.X (by with_unfolding_all rfl)) (fun self => bind_fn S.X self (by with_unfolding_all rfl)) (.inl (by with_unfolding_all rfl)) ?_)
  have k0 : ∀ b o, hh.get? b = some o → ((hh.push emptyDict).push (instObj 80 hh.objs.size)).get? b = some o := fun b o e => Heap.get?_push_of_some _ (Heap.get?_push_of_some _ e)
  have W' : Wd (KK w) ((hh.push emptyDict).push (instObj 80 hh.objs.size)) := S.wds.keeps k0
  have hsz : ((hh.push emptyDict).push (instObj 80 hh.objs.size)).objs.size = hh.objs.size + 2 := by rw [Heap.size_push, Heap.size_push]
  have hx : ((hh.push emptyDict).push (instObj 80 hh.objs.size)).get? (hh.objs.size + 1) = some (instObj 80 hh.objs.size) := by
    have := Heap.get?_push_size (hh.push emptyDict) (o := instObj 80 hh.objs.size) rfl
    rwa [Heap.size_push] at this
  have hd : ((hh.push emptyDict).push (instObj 80 hh.objs.size)).get? hh.objs.size = some emptyDict := Heap.get?_push_of_some _ (Heap.get?_push_size _ rfl)
  have hnone : ∀ a, hh.objs.size ≤ a → hh.get? a = none := fun a ha => by
    cases e : hh.get? a with
    | none => rfl
    | some o' => exact absurd (Heap.lt_size e) (Nat.not_lt.mpr ha)
  refine enter_def (K := KK w) (binds := [("self", .ref (hh.objs.size + 1)), ("rows", .ref r), ("tags", .ref t)]) (by with_unfolding_all rfl) (by with_unfolding_all rfl) (fun s => BindsTo.of_eq rfl) (locs rfl) (by decide) ?_ W' (fun A' h₁ tk' E' hns hk₁ => ?_)
  · have := hA.2.1
    show A.depth + 1 < 1000
    omega
  have F : Fr hh ((hh.push emptyDict).push (instObj 80 hh.objs.size)).objs.size h₁ (fun y => List.lookup y [("tags", .ref t), ("rows", .ref r), ("self", Value.ref (hh.objs.size + 1))]) :=
    ⟨hns, fun b o e => hk₁ _ _ (k0 b o e), by rw [hsz]; exact Nat.le_add_right _ _⟩
  have N : News hh ((hh.push emptyDict).push (instObj 80 hh.objs.size)).objs.size h₁ [(hh.objs.size, dictOf [] 0), (hh.objs.size + 1, instObj 80 hh.objs.size)] := fun p hp => by
    simp only [List.mem_cons, List.not_mem_nil, or_false] at hp
    rcases hp with rfl | rfl
    · exact ⟨hk₁ _ _ hd, by rw [hsz]; show hh.objs.size ≠ hh.objs.size + 2; omega, hnone _ (Nat.le_refl _)⟩
    · exact ⟨hk₁ _ _ hx, by rw [hsz]; show hh.objs.size + 1 ≠ hh.objs.size + 2; omega, hnone _ (Nat.le_succ _)⟩
  have X := S.X
  dsimp only at X
  generalize ((hh.push emptyDict).push (instObj 80 hh.objs.size)).objs.size = L' at F N ⊢
  refine wpAny_execs_cons (plainObj_wpAny_Assign_Attribute ?_)
  refine ld F rfl (ld F rfl ?_)
  refine set_dict F X N (C := 80) (ox := instObj 80 hh.objs.size) (es := []) (n := 0) ⟨(N _ (.tail _ (.head _))).1, rfl, rfl, (N _ (.head _)).1⟩ rfl (by with_unfolding_all rfl) (by with_unfolding_all rfl) (by with_unfolding_all rfl) (by with_unfolding_all rfl) rfl rfl (.head (by intro p hp; simp at hp; subst hp; show hh.objs.size + 1 ≠ hh.objs.size; omega)) (Nat.le_of_ble_eq_true rfl) ?_
  intro h2 F N
  dsimp only
  refine wpAny_execs_cons (plainObj_wpAny_Assign_Attribute ?_)
  refine ld F rfl (ld F rfl ?_)
  refine set_dict F X N (C := 80) (ox := instObj 80 hh.objs.size) ⟨(N _ (.tail _ (.head _))).1, rfl, rfl, (N _ (.head _)).1⟩ rfl (by with_unfolding_all rfl) (by with_unfolding_all rfl) (by with_unfolding_all rfl) (by with_unfolding_all rfl) rfl rfl (.head (by intro p hp; simp at hp; subst hp; show hh.objs.size + 1 ≠ hh.objs.size; omega)) (Nat.le_of_ble_eq_true rfl) ?_
  intro h3 F N
  dsimp only
  refine wpAny_execs_nil ⟨rfl, ?_⟩
  dsimp only
  obtain ⟨a1, a2, b1, b2, n, he⟩ : ∃ h1 h2 k1 k2 n, h3.get? hh.objs.size = some (dfaDict h1 h2 k1 k2 n r t) := ⟨_, _, _, _, _, (N _ (.head _)).1⟩
  refine h (hh.objs.size + 1) (Add (Add I (hh.objs.size + 1) (instObj 80 hh.objs.size)) hh.objs.size (dfaDict a1 a2 b1 b2 n r t)) _ (Sub.add.trans Sub.add) ⟨hh.objs.size, _, _, _, _, _, .inl Add.here, Add.here⟩ (S.callee F.keep ?_)
  rintro a o ((hI | ⟨rfl, rfl⟩) | ⟨rfl, rfl⟩)
  · exact ⟨F.keep _ _ (S.imm _ _ hI).1, .inl hI⟩
  · exact ⟨(N _ (.tail _ (.head _))).1, .inr (hnone _ (Nat.le_succ _))⟩
  · exact ⟨he, .inr (hnone _ (Nat.le_refl _))⟩
end
section
variable {prog : Program} {w : World} {A : Around} {E : Value → Shared → Prop} {env : Env}
variable {K : Frag} {h₀ : Base} {I I' : Imm} {L : Addr} {vars vars' : List (Str × Value)} {muts muts' : List (Addr × Cell)} {s₀ s s' : Shared}
variable {x : Str} {pos npos : Pos} {v : Value} {a b : Int} {t u : Tok} {Q : Value → Shared → Prop}

theorem r_callb {e : Expr} {rest : List Expr} {id : String} (S : St K h₀ I L vars muts s₀ s) (e1 : nsIn K mainGlobals x = some none) (hv : bootBuiltins x = some (.builtin id)) (hn : x ≠ "__name__")
    (h : wpAny (model prog w) A (spliced (backTo pos (starEach (e :: rest) env))) (fun vs s₁ => wpAny (model prog w) A (call (.builtin id) vs) Q E s₁) E s)
    (hg : env.globals = mainGlobals := by rfl) (hb : env.builtins = builtinsNs := by rfl) (hk : env.scope.kind = .function := by rfl) (hx : env.kindOf x = some .globalImplicit := by rfl) (hd : (x == ("__debug__" : Str)) = false := by decide)
    (he : starEach (e :: rest) env = (false, eval e env) :: starEach rest env := by rfl) (hplain : (backTo pos (starEach rest env)).any (·.1) = false := by rfl) :
    wpAny (model prog w) A (eval (.Call (.Name x npos) (e :: rest) [] pos) env) Q E s :=
  wpAny_Call_Name_kw (r_bi S e1 hv hn (PyProof.Rows.callWith_builtin1 h he hplain) hg hb hk hx hd)

theorem r_callt {e : Expr} {rest : List Expr} {T : String} (S : St K h₀ I L vars muts s₀ s) (e1 : nsIn K mainGlobals x = some none) (hv : bootBuiltins x = some (.type T)) (hn : x ≠ "__name__")
    (h : wpAny (model prog w) A (spliced (backTo pos (starEach (e :: rest) env))) (fun vs s₁ => wpAny (model prog w) A (call (.type T) vs) Q E s₁) E s)
    (hg : env.globals = mainGlobals := by rfl) (hb : env.builtins = builtinsNs := by rfl) (hk : env.scope.kind = .function := by rfl) (hx : env.kindOf x = some .globalImplicit := by rfl) (hd : (x == ("__debug__" : Str)) = false := by decide)
    (he : starEach (e :: rest) env = (false, eval e env) :: starEach rest env := by rfl) (hplain : (backTo pos (starEach rest env)).any (·.1) = false := by rfl) :
    wpAny (model prog w) A (eval (.Call (.Name x npos) (e :: rest) [] pos) env) Q E s :=
  wpAny_Call_Name_kw (r_bi S e1 hv hn (PyProof.Rows.callWith_type1 h he hplain) hg hb hk hx hd)

/-- a call of a def, or a class, of the text's own -/
theorem r_callg {e : Expr} {rest : List Expr} {f : Addr} (S : St K h₀ I L vars muts s₀ s) (e1 : nsIn K mainGlobals x = some (some (.ref f))) (hkp : keepIn K (.ref f) = true)
    (h : wpAny (model prog w) A (spliced (backTo pos (starEach (e :: rest) env))) (fun vs s₁ => (∃ h₀ I L vars muts s₀, St K h₀ I L vars muts s₀ s₁) ∧ wpAny (model prog w) A (call (.ref f) vs) Q E s₁) E s)
    (hg : env.globals = mainGlobals := by rfl) (hk : env.scope.kind = .function := by rfl) (hx : env.kindOf x = some .globalImplicit := by rfl) (hd : (x == ("__debug__" : Str)) = false := by decide)
    (he : starEach (e :: rest) env = (false, eval e env) :: starEach rest env := by rfl) (hplain : (backTo pos (starEach rest env)).any (·.1) = false := by rfl) :
    wpAny (model prog w) A (eval (.Call (.Name x npos) (e :: rest) [] pos) env) Q E s := by
  refine wpAny_Call_Name_kw (r_glob S e1 ?_ hg hk hx hd)
  refine callWith_K S.X hkp (wpAny_mono h (fun vs s₁ h₁ => ?_) fun _ _ e => e) he hplain
  obtain ⟨⟨_, _, _, _, _, _, S'⟩, hc⟩ := h₁
  exact ⟨S'.X, hc⟩
end
section
variable {prog : Program} {w : World} {A : Around} {E : Value → Shared → Prop} {env : Env}
variable {K : Frag} {h₀ : Base} {I I' : Imm} {L : Addr} {vars vars' : List (Str × Value)} {muts muts' : List (Addr × Cell)} {s₀ s s' : Shared}
variable {x : Str} {pos npos : Pos} {v : Value} {a b : Int} {t u : Tok} {Q : Value → Shared → Prop}

theorem St.noMods (S : St K h₀ I L vars muts s₀ s) {d : Addr} (h : s.heap.objs.size ≤ d) : (d == sysModules) = false := by
  have := modules_low S.wds.nolimit
  refine beq_eq_false_iff_ne.mpr ?_
  rintro rfl
  exact absurd this (Nat.not_lt.mpr h)

section dicts
variable {Kt : Type} [DecidableEq Kt] {knd : PySem.KeyKind prog w Kt}
/-- a dict that holds these pairs -/
def cDict (knd : PySem.KeyKind prog w Kt) (kvs : List (Kt × Value)) : Cell := fun o => ∃ es ep, o.ExactDict ∧ o.data = .dict es ep ∧ PySem.KeysOf knd es ∧ PySem.Pairs knd es.toList kvs ∧ (kvs.map (·.1)).Nodup
theorem St.dictOf {d : Addr} {kvs : List (Kt × Value)} (S : St K h₀ I L vars muts s₀ s) (h : (d, cDict knd kvs) ∈ muts) : s.heap.DictOf knd d kvs := by
  obtain ⟨⟨o, e, es, ep, r⟩, _⟩ := S.cel _ h
  exact ⟨o, es, ep, e, r⟩
theorem r_notinD {d : Addr} {kvs : List (Kt × Value)} {k : Kt} {key : Value} (S : St K h₀ I L vars muts s₀ s) (hm : (d, cDict knd kvs) ∈ muts) (hd : (d == sysModules) = false) (hk : knd.is k key = true)
    (h : ∀ s', St K h₀ I L vars muts s₀ s' → Q (.bool (!(valueAt kvs k).isSome)) s') : wpAny (model prog w) A (compareOp .NotIn key (.ref d)) Q E s :=
  wpAny_notIn_of hk hd (S.dictOf hm).mapOf (h _ S.toks)
theorem r_getD {d : Addr} {kvs : List (Kt × Value)} {k : Kt} {key : Value} (S : St K h₀ I L vars muts s₀ s) (hm : (d, cDict knd kvs) ∈ muts) (hk : knd.is k key = true) (hv : valueAt kvs k = some v)
    (h : ∀ s', St K h₀ I L vars muts s₀ s' → Q v s') : wpAny (model prog w) A (getItem (.ref d) key) Q E s :=
  wpAny_getItem_of hk (S.dictOf hm).mapOf hv (h _ S.toks)
theorem r_setD {d : Addr} {kvs : List (Kt × Value)} {k : Kt} {key : Value} {Q : Unit → Shared → Prop} (S : St K h₀ I L vars ((d, cDict knd kvs) :: muts) s₀ s) (hk : knd.is k key = true) (hsz : kvs.length ≤ sizeLine)
    (h : ∀ s', St K h₀ I L vars ((d, cDict knd (stored kvs k v)) :: muts) s₀ s' → Q () s') : wpAny (model prog w) A (setItem (.ref d) key v) Q E s := by
  refine wpAny_setItem_pairs hk (S.dictOf (.head _)) (fun h' hm hs => h _ ?_) hsz
  obtain ⟨o, es, ep, e, r⟩ := hm
  exact S.upd (fun b o hb e => (hs.2 b hb).trans e) e ⟨es, ep, r⟩
/-- «{k: v}» -/
theorem r_dict1 {ke ve : Expr} (S : St K h₀ I L vars muts s₀ s)
    (h : ∀ d s', (d == sysModules) = false → St K h₀ I L vars ((d, cDict knd []) :: muts) s₀ s' →
      wpAny (model prog w) A (eval ke env) (fun kv s₁ => wpAny (model prog w) A (eval ve env) (fun vv s₂ => ∃ k I vars muts, knd.is k kv = true ∧ St K h₀ I L vars ((d, cDict knd []) :: muts) s₀ s₂ ∧
        ∀ s₃, St K h₀ I L vars ((d, cDict knd [(k, vv)]) :: muts) s₀ s₃ → Q (.ref d) s₃) E s₁) E s') : wpAny (model prog w) A (eval (.Dict [some ke] [ve] pos) env) Q E s := by
  refine wpAny_Dict_pairs (knd := knd) (pairs := [(eval ke env, do let x ← eval ve env; standAt pos; pure x)]) rfl (by simp) (by simp) ?_
  have hd := S.noMods (Nat.le_refl _)
  have S' : St K h₀ I L vars ((s.heap.objs.size, cDict knd []) :: muts) s₀ { s with heap := s.heap.push { cls := .type "dict", data := .dict #[] } } :=
    S.push (tk := s.toks) ⟨#[], 0, ⟨rfl, rfl, rfl⟩, rfl, (fun e he => by simp at he), .nil, List.nodup_nil⟩
  refine evalPairs_cons (wpAny_mono (h _ _ hd S') (fun kv s₁ h₁ => wpAny_bind (wpAny_mono h₁ (fun vv s₂ h₂ => wpAny_bind (wpAny_standAt (wpAny_pure ?_))) fun _ _ e => e)) fun _ _ e => e)
  refine evalPairs_nil ?_
  obtain ⟨k, I', vars', muts', hk, S2, hQ⟩ := h₂
  refine ⟨[(k, vv)], ?_, S2.dictOf (.head _), fun h' hm hs => hQ _ ?_⟩
  · exact ⟨hk, rfl, trivial⟩
  · obtain ⟨o, es, ep, e, r⟩ := hm
    exact S2.upd (fun b o hb e => (hs.2 b hb).trans e) e ⟨es, ep, r⟩
end dicts

theorem r_truthyT {l : Addr} {vs : List Value} {Q : Bool → Shared → Prop} (S : St K h₀ I L vars muts s₀ s) (hl : IT I l vs) (hsz : vs.length ≤ sizeLine) (h : ∀ s', St K h₀ I L vars muts s₀ s' → Q (!vs.isEmpty) s') : wpAny (model prog w) A (truthy (.ref l)) Q E s := by
  refine truthy_tuple (S.tupI hl) (by rw [List.size_toArray]; rw [sizeLine_eq] at hsz; omega) ?_
  simpa using h _ S.toks

theorem St.ofFrNew (S : St K h₀ I L vars muts s₀ s) {m : Str → Option Value} (hm : ∀ x v, vars.lookup x = some v → m x = some v) {h' : Heap} {tk : Nat} {a : Addr} {o : Obj} {c : Cell}
    (F : Fr h₀.h L h' m) (N : News h₀.h L h' ((a, o) :: allNews h₀.h L s.heap)) (ha : s.heap.get? a = none) (hc : c o) : St K h₀ I L vars ((a, c) :: muts) s₀ { s with heap := h', toks := tk } := by
  have S' := S.ofFr (tk := tk) hm F (more := [(a, o)]) N
  obtain ⟨n1, n2, n3⟩ := N _ (.head _)
  refine { S' with cel := fun p hp => ?_, nd := ?_ }
  · rcases List.mem_cons.mp hp with rfl | hp
    · refine ⟨⟨o, n1, hc⟩, n2, n3, fun o' hI => ?_⟩
      have := (S.imm _ _ hI).1
      simp only at this; rw [ha] at this; cases this
    · exact S'.cel p hp
  · refine List.pairwise_cons.mpr ⟨fun p hp => ?_, S'.nd⟩
    rintro rfl
    obtain ⟨⟨o', e, _⟩, _⟩ := S.cel p hp
    exact absurd (ha.symm.trans e) (by simp)
theorem fresh_size {h : Heap} : h.get? h.objs.size = none := by
  cases e : h.get? h.objs.size with
  | none => rfl
  | some o' => exact absurd (Heap.lt_size e) (Nat.lt_irrefl _)

theorem foldl_one (v : Value) : ∀ (n : Nat) (acc : Array Value), (List.replicate n #[v]).foldl (· ++ ·) acc = acc ++ (List.replicate n v).toArray
  | 0, acc => by simp
  | n + 1, acc => by
    rw [List.replicate_succ, List.foldl_cons, foldl_one v n, List.replicate_succ]
    apply Array.ext'
    simp

/-- «[v] * n» -/
theorem r_mul1 {l : Addr} (S : St K h₀ I L vars ((l, cList [v]) :: muts) s₀ s) (h0 : 0 ≤ a) (h1 : a ≤ 1000000) (h : ∀ D s', St K h₀ I L vars ((D, cList (List.replicate a.toNat v)) :: muts) s₀ s' → Q (.ref D) s') :
    wpAny (model prog w) A (binaryOp .Mult (.ref l) (.int a t)) Q E s := by
  obtain ⟨⟨o, e, n, rfl⟩, _⟩ := S.cel _ (.head _)
  obtain ⟨m, F, hm⟩ := S.toFr
  refine mul_list F S.toNews e (by omega) (by omega) (by simp; omega) fun h' F' N' => h _ _ ?_
  have S' := S.ofFrNew (tk := s.toks) (c := cList (List.replicate a.toNat v)) hm F' N' fresh_size ⟨0, ?_⟩
  · refine S'.swap.drop
  · have : ([v].toArray).isEmpty = false := rfl
    rw [this]
    simp only [Bool.false_eq_true, if_false]
    rw [show [v].toArray = #[v] from rfl, foldl_one]
    simp

/-- the head cell, as the very object that it is -/
theorem St.pin {a : Addr} {c : Cell} (S : St K h₀ I L vars ((a, c) :: muts) s₀ s) : ∃ o, c o ∧ St K h₀ I L vars ((a, cIs o) :: muts) s₀ s := by
  obtain ⟨⟨o, e, hc⟩, r⟩ := S.cel _ (.head _)
  have hp := List.pairwise_cons.mp S.nd
  refine ⟨o, hc, { S with cel := fun p hp => ?_, nd := List.pairwise_cons.mpr ⟨fun p h => hp.1 p h, hp.2⟩ }⟩
  rcases List.mem_cons.mp hp with rfl | hp
  · exact ⟨⟨o, e, rfl⟩, r⟩
  · exact S.cel p (.tail _ hp)

theorem St.toEnd {p : Addr × Cell} (S : St K h₀ I L vars (p :: muts) s₀ s) : St K h₀ I L vars (muts ++ [p]) s₀ s := by
  have S' : St K h₀ I L vars (p :: (muts ++ [])) s₀ s := by simpa using S
  exact S'.back

/-- a list of ints at rest in a cell -/
def cInts (ns : List Int) : Cell := fun o => ∃ vs, IsLO vs o ∧ IntsAre vs ns
theorem St.ints {l : Addr} {ns : List Int} (S : St K h₀ I L vars muts s₀ s) (h : (l, cInts ns) ∈ muts) : ∃ vs, s.heap.IsList l vs.toArray ∧ IntsAre vs ns := by
  obtain ⟨⟨o, e, vs, ⟨c, n, d⟩, i⟩, _⟩ := S.cel _ h
  exact ⟨vs, ⟨o, e, c, n, d⟩, i⟩
theorem cList.ints {vs : List Value} {ns : List Int} (h : IntsAre vs ns) : ∀ o, cList vs o → cInts ns o := fun _ hc => ⟨vs, hc.is, h⟩
theorem r_setInts {l : Addr} {ns : List Int} {Q : Unit → Shared → Prop} (S : St K h₀ I L vars ((l, cInts ns) :: muts) s₀ s) (h0 : 0 ≤ a) (hfit : a < 2 ^ 63) (hn : a.toNat < ns.length)
    (h : ∀ s', St K h₀ I L vars ((l, cInts (ns.set a.toNat b)) :: muts) s₀ s' → Q () s') : wpAny (model prog w) A (setItem (.ref l) (.int a t) (.int b u)) Q E s := by
  obtain ⟨o, ⟨vs, ho, hi⟩, S1⟩ := S.pin
  have S' : St K h₀ I L vars ((l, IsLO vs) :: muts) s₀ s := S1.weak fun o' e => by cases e; exact ho
  refine r_setList S' h0 hfit (by rw [hi.length]; exact hn) fun s' S2 => h s' (S2.weak fun o ho => ⟨_, ho, ?_⟩)
  exact IntsAre.of2 ((IntsAre.to2 hi).set _ ⟨u, rfl⟩)

/-- a row of cells, each a list of ints -/
def bcells (F : Nat → List Int) : Nat → List Addr → List (Addr × Cell)
  | _, [] => []
  | i, a :: r => (a, cInts (F i)) :: bcells F (i + 1) r
theorem bcells_append (F : Nat → List Int) : ∀ (i : Nat) (l m : List Addr), bcells F i (l ++ m) = bcells F i l ++ bcells F (i + l.length) m
  | i, [], m => by simp [bcells]
  | i, a :: r, m => by
    simp only [List.cons_append, bcells, bcells_append F (i + 1) r m, List.length_cons]
    rw [show i + 1 + r.length = i + (r.length + 1) by omega]
theorem bcells_snoc (F : Nat → List Int) (i : Nat) (l : List Addr) (a : Addr) : bcells F i (l ++ [a]) = bcells F i l ++ [(a, cInts (F (i + l.length)))] := by
  rw [bcells_append]; rfl
theorem bcells_congr {F G : Nat → List Int} : ∀ (i : Nat) (l : List Addr), (∀ j, i ≤ j → j < i + l.length → F j = G j) → bcells F i l = bcells G i l
  | i, [], _ => rfl
  | i, a :: r, h => by
    simp only [bcells]
    rw [h i (Nat.le_refl _) (by simp), bcells_congr (i + 1) r fun j h1 h2 => h j (by omega) (by simp only [List.length_cons]; omega)]
end
section
variable {prog : Program} {w : World} {A : Around} {E : Value → Shared → Prop} {env : Env}
variable {K : Frag} {h₀ : Base} {I I' : Imm} {L : Addr} {vars vars' : List (Str × Value)} {muts muts' : List (Addr × Cell)} {s₀ s s' : Shared}
variable {x : Str} {pos npos : Pos} {v : Value} {a b : Int} {t u : Tok}

/-- an iterator just made: any way of going on that holds for every iterator that gives these items -/
def ItAt (prog : Program) (w : World) (A : Around) (K : Frag) (h₀ : Base) (L : Addr) (s₀ : Shared) (I : Imm) (vars : List (Str × Value)) (muts : List (Addr × Cell)) (n : Nat) (P : Nat → Value → Prop) (it : Value) (s : Shared) : Prop :=
  ∃ B a c, it = .ref a ∧ ItOk prog w A K h₀ B a n P c ∧ Sub B I ∧ St K h₀ I L vars ((a, c 0) :: muts) s₀ s

theorem it_list {l : Addr} {vs : List Value} {Q : Value → Shared → Prop} (hh : A.handled = none) (S : St K h₀ I L vars muts s₀ s) (hl : IL I l vs) (h : ∀ it s', ItAt prog w A K h₀ L s₀ I vars muts vs.length (fun i v => vs[i]? = some v) it s' → Q it s') :
    wpAny (model prog w) A (pyIter (.ref l)) Q E s := by
  obtain ⟨o, hI, ho⟩ := id hl
  have hne : l ≠ s.heap.objs.size := Nat.ne_of_lt (Heap.lt_size (S.imm _ _ hI).1)
  exact wpAny_pyIter_list (S.lstI hl) (h _ _ ⟨_, _, _, rfl, ItOk.list hh hne ho, One.sub hI, S.push ⟨rfl, rfl⟩⟩)
theorem it_range {r : Addr} {t₁ t₂ t₃ : Tok} {Q : Value → Shared → Prop} (hh : A.handled = none) (S : St K h₀ I L vars muts s₀ s) (hr : IsRange s.heap r a b 1 t₁ t₂ t₃) (h1 : -1000000 ≤ a) (h2 : a ≤ 1000000) (h3 : -1000000 ≤ b) (h4 : b ≤ 1000000)
    (h : ∀ it s', ItAt prog w A K h₀ L s₀ I vars muts (b - a).toNat (fun i v => ∃ t, v = .int (a + (i : Int)) t) it s' → Q it s') :
    wpAny (model prog w) A (pyIter (.ref r)) Q E s := by
  refine wpAny_pyIter_range hr (small_one (by omega) (by omega) (by omega) (by omega)) (h _ _ ⟨_, _, _, rfl, ItOk.range (a := a) hh, (fun _ _ h => h.elim), S.push ?_⟩)
  simp [rsize]

/-- a comprehension of one clause -/
theorem comp1 {elt : Expr} {px : Pos} {iter : Expr} {ifs : List Expr} {scope : Scope} {cl : List (Str × Addr)} {n : Nat} {P : Nat → Value → Prop} {it : Value} {Q : Imm → List (Str × Value) → List (Addr × Cell) → Addr → List Value → Prop}
    (X : ItAt prog w A K h₀ env.locals s₀ I vars muts n P it s) (hx : ∀ C, (compEnvC scope cl C env).kindOf x = some .local) (hk : scope.kind = .function)
    (J : Nat → Imm → List Value → List (Addr × Cell) → Prop) (hsz : ∀ i I acc muts, J i I acc muts → acc.length ≤ sizeLine) (hJ : J 0 I [] muts)
    (turn : ∀ i v I' acc muts' ex C s₁ E', i < n → P i v → Sub I I' → J i I' acc muts' → St K h₀ I' C [(x, v)] (ex ++ muts') s₀ s₁ →
      wpAny (model prog w) A (testsT (compEnvC scope cl C env) ifs) (fun ok s₂ => if ok = true then wpAny (model prog w) A (eval elt (compEnvC scope cl C env)) (fun y s₃ => CEnd K h₀ C s₀ I' (fun I'' m' => J (i + 1) I'' (acc ++ [y]) m') ex [(x, v)] s₃) E' s₂
        else CEnd K h₀ C s₀ I' (fun I'' m' => J (i + 1) I'' acc m') ex [(x, v)] s₂) E' s₁)
    (done : ∀ I' acc muts' D, Sub I I' → J n I' acc muts' → Q I' vars muts' D acc) :
    CompAt prog w A K h₀ env s₀ (fun C => compEnvC scope cl C env) elt [⟨.Name x px, iter, ifs, 0⟩] scope pos Q it s := by
  obtain ⟨B, a, c, rfl, W, hB, S⟩ := X
  refine ⟨I, vars, (a, c 0) :: muts, S, fun C D oL s₃ R S₃ hR => ?_⟩
  have S4 := S₃.rot2
  refine cstart (d := 0) rfl W hB S4 (cloop_last (d := 0) (B := fun a o => B a o ∨ I a o) (ex := [(env.locals, cIs oL)]) rfl rfl (hx C) hk (W.mono fun _ _ h => .inl h) J hsz (fun a o h => h.elim (hB a o) id) S4 hJ (fun v p hp => nomatch hp) ?_ ?_)
  · intro i v I' acc muts' s₁ E' hi hP hJ' hB' S5
    exact turn i v I' acc muts' _ C s₁ E' hi hP (fun a o h => hB' a o (.inr h)) hJ' S5
  · intro I' acc muts' s' hJ' hB' S5
    exact hR I' [] acc muts' s' S5 (done I' acc muts' D (fun a o h => hB' a o (.inr h)) hJ')

/-- the i-th cell to the front; the head to the i-th place -/
def toFront {α : Type} : Nat → List α → List α
  | 0, l => l
  | _ + 1, [] => []
  | i + 1, x :: l => match toFront i l with
    | y :: r => y :: x :: r
    | [] => [x]
def toPlace {α : Type} : Nat → List α → List α
  | 0, l => l
  | _ + 1, [] => []
  | _ + 1, [x] => [x]
  | i + 1, x :: y :: r => y :: toPlace i (x :: r)
theorem toFront_perm {α : Type} : ∀ (i : Nat) (l : List α), (toFront i l).Perm l
  | 0, l => .refl l
  | _ + 1, [] => .refl []
  | i + 1, x :: l => by
    have := toFront_perm i l
    unfold toFront
    split
    · rename_i y r e
      rw [e] at this
      exact (List.Perm.swap x y r).trans (this.cons x)
    · rename_i e
      rw [e] at this
      exact this.cons x
theorem toPlace_perm {α : Type} : ∀ (i : Nat) (l : List α), (toPlace i l).Perm l
  | 0, l => .refl l
  | _ + 1, [] => .refl []
  | _ + 1, [x] => .refl [x]
  | i + 1, x :: y :: r => ((toPlace_perm i (x :: r)).cons y).trans (List.Perm.swap x y r)
theorem St.perm (S : St K h₀ I L vars muts s₀ s) (h : muts'.Perm muts) : St K h₀ I L vars muts' s₀ s :=
  S.recells (fun p hp => ⟨p, h.mem_iff.mp hp, rfl, fun _ h => h⟩) ((h.pairwise_iff (fun h => Ne.symm h)).mpr S.nd)
theorem St.tf (S : St K h₀ I L vars muts s₀ s) (i : Nat) : St K h₀ I L vars (toFront i muts) s₀ s := S.perm (toFront_perm i muts)
theorem St.tp (S : St K h₀ I L vars muts s₀ s) (i : Nat) : St K h₀ I L vars (toPlace i muts) s₀ s := S.perm (toPlace_perm i muts)

theorem r_itemD {Kt : Type} [DecidableEq Kt] {knd : PySem.KeyKind prog w Kt} {d : Addr} {kvs : List (Kt × Value)} {k : Kt} {key : Value} {value slice : Expr} {Q : Value → Shared → Prop} (S : St K h₀ I L vars muts s₀ s) (hm : (d, cDict knd kvs) ∈ muts) (hk : knd.is k key = true) (hv : valueAt kvs k = some v)
    (h : ∀ s', St K h₀ I L vars muts s₀ s' → Q v s') (hs : subscripted slice false (.ref d) key = operate [.ref d, key] (getItem (.ref d) key)) :
    wpAny (model prog w) A (subscriptTail value slice (.ref d) key) Q E s :=
  tail_any (S.dictOf hm).mapOf.typeIs slot_dict_getitem.lookup (r_getD S hm hk hv h) hs

/-- a dict that maps each of the subsets to its place -/
inductive KnOk : Nat → List (Int × Value) → List Nat → Prop
  | nil (i : Nat) : KnOk i [] []
  | cons {i m : Nat} {t : Tok} {kvs : List (Int × Value)} {subs : List Nat} : KnOk (i + 1) kvs subs → KnOk i (((m : Int), .int (i : Int) t) :: kvs) (m :: subs)
theorem KnOk.length {i : Nat} {kvs : List (Int × Value)} {subs : List Nat} (h : KnOk i kvs subs) : kvs.length = subs.length := by
  induction h with
  | nil => rfl
  | cons _ ih => simp [ih]
theorem KnOk.some {i : Nat} {kvs : List (Int × Value)} {subs : List Nat} (h : KnOk i kvs subs) {g : Nat} (hg : g ∈ subs) : ∃ t, valueAt kvs (g : Int) = .some (.int ((i + subs.findIdx (· == g) : Nat) : Int) t) := by
  induction h with
  | nil => simp at hg
  | @cons i m t kvs subs _ ih =>
    by_cases e : m = g
    · subst e
      exact ⟨t, by simp [valueAt, List.findIdx_cons]⟩
    · obtain ⟨t', ht⟩ := ih (by rcases List.mem_cons.mp hg with h | h; exact absurd h.symm e; exact h)
      refine ⟨t', ?_⟩
      have e1 : ¬ ((m : Int) = (g : Int)) := by omega
      have e2 : (m == g) = false := by simpa using e
      unfold valueAt at ht ⊢
      rw [List.find?_cons]
      simp only [e1, decide_false]
      rw [ht, List.findIdx_cons, e2]
      simp only [cond_false]
      congr 2
      omega
theorem KnOk.none {i : Nat} {kvs : List (Int × Value)} {subs : List Nat} (h : KnOk i kvs subs) {g : Nat} (hg : g ∉ subs) : valueAt kvs (g : Int) = .none := by
  induction h with
  | nil => rfl
  | @cons i m t kvs subs _ ih =>
    obtain ⟨h1, h2⟩ := not_or.mp (fun h => hg (List.mem_cons.mpr h))
    have e1 : ¬ ((m : Int) = (g : Int)) := by omega
    have := ih h2
    unfold valueAt at this ⊢
    rw [List.find?_cons]
    simp only [e1, decide_false]
    exact this
theorem KnOk.snoc {i : Nat} {kvs : List (Int × Value)} {subs : List Nat} (h : KnOk i kvs subs) (g : Nat) (t : Tok) : KnOk i (kvs ++ [((g : Int), .int ((i + subs.length : Nat) : Int) t)]) (subs ++ [g]) := by
  induction h with
  | nil i => exact .cons (.nil _)
  | @cons i m t' kvs subs _ ih =>
    have e : i + 1 + subs.length = i + (m :: subs).length := by simp; omega
    rw [e] at ih
    exact .cons ih
theorem KnOk.stored {i : Nat} {kvs : List (Int × Value)} {subs : List Nat} (h : KnOk i kvs subs) {g : Nat} (hg : g ∉ subs) (v : Value) : PySem.stored kvs (g : Int) v = kvs ++ [((g : Int), v)] := by
  unfold PySem.stored
  rw [if_neg]
  induction h with
  | nil => simp
  | @cons i m t kvs subs _ ih =>
    obtain ⟨h1, h2⟩ := not_or.mp (fun h => hg (List.mem_cons.mpr h))
    have e1 : ¬ ((m : Int) = (g : Int)) := by omega
    simp only [List.any_cons, e1, decide_false, Bool.false_or]
    exact ih h2
end
section
open PySem PyProof.Rows

theorem bitOr_nat (x y : Nat) : Builtin.bitOr (x : Int) (y : Int) = ((x ||| y : Nat) : Int) := by
  have h (z : Nat) : Builtin.bitNot (z : Int) = -(z : Int) - 1 := rfl
  unfold Builtin.bitOr
  rw [bitAnd_nn (by rw [h]; omega) (by rw [h]; omega)]
  have e (z : Nat) : (Builtin.bitNot (Builtin.bitNot (z : Int))).toNat = z := by rw [h]; show (-(-(z : Int) - 1) - 1).toNat = z; omega
  rw [e, e]
  show -(-((x ||| y : Nat) : Int) - 1) - 1 = _
  omega

/-- the places of the ones, from the lowest -/
def bitsFrom : Nat → Nat → Nat → List Int
  | 0, _, _ => []
  | fuel + 1, left, i => if left = 0 then [] else (if left % 2 = 1 then [(i : Int)] else []) ++ bitsFrom fuel (left / 2) (i + 1)

theorem mem_bitsFrom : ∀ (fuel left i : Nat), left < 2 ^ fuel → ∀ x : Int, x ∈ bitsFrom fuel left i ↔ ∃ j : Nat, x = ((i + j : Nat) : Int) ∧ left.testBit j = true
  | 0, left, i, h, x => by
    have : left = 0 := by simpa using h
    subst this
    simp [bitsFrom]
  | fuel + 1, left, i, h, x => by
    unfold bitsFrom
    by_cases h0 : left = 0
    · subst h0; simp
    · rw [if_neg h0, List.mem_append, mem_bitsFrom fuel (left / 2) (i + 1) (by rw [Nat.pow_succ] at h; omega) x]
      constructor
      · rintro (h1 | ⟨j, e, hb⟩)
        · split at h1
          · rename_i ho
            simp at h1
            exact ⟨0, by simpa using h1, by rw [Nat.testBit_zero]; simpa using ho⟩
          · simp at h1
        · exact ⟨j + 1, by rw [e]; congr 1; omega, by rw [Nat.testBit_succ]; exact hb⟩
      · rintro ⟨j, e, hb⟩
        cases j with
        | zero =>
          left
          rw [Nat.testBit_zero] at hb
          rw [if_pos (by simpa using hb)]
          simpa using e
        | succ j =>
          right
          refine ⟨j, by rw [e]; congr 1; omega, ?_⟩
          rw [Nat.testBit_succ] at hb; exact hb

def entry (rows : List (List Int)) (st num : Nat) : Int := (rows.getD st []).getD num (-1)
/-- the states below i whose way by num leads to g -/
def backM (rows : List (List Int)) (num g : Nat) : Nat → Nat
  | 0 => 0
  | i + 1 => backM rows num g i ||| (if entry rows i num = (g : Int) then 2 ^ i else 0)
/-- the accepting states below i -/
def begM (tags : List (List Int)) : Nat → Nat
  | 0 => 0
  | i + 1 => begM tags i ||| (if tags.getD i [] = [] then 0 else 2 ^ i)
/-- the states from which num leads into the set -/
def goalM (rows : List (List Int)) (n num mask : Nat) : Nat := (bitsFrom 64 mask 0).foldl (fun acc st => acc ||| backM rows num st.toNat n) 0

def place (g : Nat) (subsets : List Nat) : Nat := subsets.findIdx (· == g)
def stepNum (rows : List (List Int)) (n mask : Nat) (acc : List Int × List Nat) (num : Nat) : List Int × List Nat :=
  let g := goalM rows n num mask
  if g = 0 then (acc.1 ++ [-1], acc.2)
  else if g ∈ acc.2 then (acc.1 ++ [(place g acc.2 : Int)], acc.2)
  else (acc.1 ++ [(acc.2.length : Int)], acc.2 ++ [g])
structure TS where
  subsets : List Nat
  rows : List (List Int)
  tags : List (List Int)
def stepT (rows : List (List Int)) (n k : Nat) (s : TS) : TS :=
  let mask := s.subsets.getD s.rows.length 0
  let r := (List.range k).foldl (stepNum rows n mask) ([], s.subsets)
  ⟨r.2, s.rows ++ [r.1], s.tags ++ [if mask % 2 = 1 then [0] else []]⟩
def runT (rows : List (List Int)) (n k : Nat) : Nat → TS → TS
  | 0, s => s
  | fuel + 1, s => if s.rows.length < s.subsets.length then runT rows n k fuel (stepT rows n k s) else s
def turnedS (rows tags : List (List Int)) : TS :=
  runT rows rows.length (rows.getD 0 []).length (2 ^ rows.length) ⟨[begM tags rows.length], [], []⟩

theorem backM_lt (rows : List (List Int)) (num g : Nat) : ∀ i, backM rows num g i < 2 ^ i
  | 0 => by simp [backM]
  | i + 1 => by
    unfold backM
    have := backM_lt rows num g i
    have h2 : 2 ^ i < 2 ^ (i + 1) := Nat.pow_lt_pow_right (by decide) (by with_reducible exact Nat.lt_succ_self _)
    refine Nat.or_lt_two_pow (by with_reducible exact Nat.lt_trans (by assumption) (by assumption)) ?_
    split <;> first | exact h2 | exact Nat.two_pow_pos _
theorem begM_lt (tags : List (List Int)) : ∀ i, begM tags i < 2 ^ i
  | 0 => by simp [begM]
  | i + 1 => by
    unfold begM
    have := begM_lt tags i
    have h2 : 2 ^ i < 2 ^ (i + 1) := Nat.pow_lt_pow_right (by decide) (by with_reducible exact Nat.lt_succ_self _)
    refine Nat.or_lt_two_pow (by with_reducible exact Nat.lt_trans (by assumption) (by assumption)) ?_
    split <;> first | exact h2 | exact Nat.two_pow_pos _
theorem foldl_or_lt (f : Int → Nat) (n : Nat) (hf : ∀ x, f x < 2 ^ n) : ∀ (l : List Int) (acc : Nat), acc < 2 ^ n → l.foldl (fun acc st => acc ||| f st) acc < 2 ^ n
  | [], acc, h => h
  | x :: l, acc, h => foldl_or_lt f n hf l _ (Nat.or_lt_two_pow h (hf x))
theorem goalM_lt (rows : List (List Int)) (n num mask : Nat) : goalM rows n num mask < 2 ^ n := foldl_or_lt _ n (fun x => backM_lt rows num x.toNat n) _ _ (Nat.two_pow_pos _)

/-- what a turn over the classes keeps -/
theorem foldStep (rows : List (List Int)) (n mask : Nat) (subs : List Nat) (h1 : subs.Nodup) (h2 : ∀ x ∈ subs, x < 2 ^ n) : ∀ j, 
    let r := (List.range j).foldl (stepNum rows n mask) ([], subs)
    r.2.Nodup ∧ (∀ x ∈ r.2, x < 2 ^ n) ∧ r.1.length = j ∧ ∃ more, r.2 = subs ++ more
  | 0 => ⟨h1, h2, rfl, [], by simp⟩
  | j + 1 => by
    obtain ⟨a, b, c, more, d⟩ := foldStep rows n mask subs h1 h2 j
    intro r
    have e : r = stepNum rows n mask ((List.range j).foldl (stepNum rows n mask) ([], subs)) j := by
      show (List.range (j + 1)).foldl _ _ = _
      rw [List.range_succ, List.foldl_append]; rfl
    rw [e]
    generalize (List.range j).foldl (stepNum rows n mask) ([], subs) = q at a b c d
    unfold stepNum
    dsimp only
    split
    · exact ⟨a, b, by simp [c], more, d⟩
    · split
      · exact ⟨a, b, by simp [c], more, d⟩
      · rename_i h3 h4
        refine ⟨?_, ?_, by simp [c], more ++ [goalM rows n j mask], by rw [d, List.append_assoc]⟩
        · rw [List.nodup_append]
          refine ⟨a, by simp, fun x hx y hy => ?_⟩
          simp only [List.mem_singleton] at hy
          rintro rfl
          exact h4 (hy ▸ hx)
        · intro x hx
          rcases List.mem_append.mp hx with h | h
          · exact b x h
          · rw [List.mem_singleton.mp h]; exact goalM_lt rows n j mask
theorem fold_succ (rows : List (List Int)) (n mask : Nat) (subs : List Nat) (j : Nat) : (List.range (j + 1)).foldl (stepNum rows n mask) ([], subs) = stepNum rows n mask ((List.range j).foldl (stepNum rows n mask) ([], subs)) j := by
  rw [List.range_succ, List.foldl_append]; rfl

theorem nodup_lt : ∀ (N : Nat) (l : List Nat), l.Nodup → (∀ x ∈ l, x < N) → l.length ≤ N
  | 0, l, _, h => by
    cases l with
    | nil => exact Nat.le_refl _
    | cons x r => exact absurd (h x (.head _)) (Nat.not_lt_zero _)
  | N + 1, l, hn, h => by
    have h1 := nodup_lt N (l.filter (· != N)) (hn.filter _) (fun x hx => by
      obtain ⟨h2, h3⟩ := List.mem_filter.mp hx
      have := h x h2
      have h4 : x ≠ N := by simpa using h3
      omega)
    have h2 : l.length ≤ (l.filter (· != N)).length + 1 := by
      clear h h1
      induction l with
      | nil => simp
      | cons x r ih =>
        obtain ⟨hx, hr⟩ := List.nodup_cons.mp hn
        by_cases e : x = N
        · subst e
          have : r.filter (· != x) = r := List.filter_eq_self.mpr fun y hy => by
            have : y ≠ x := by rintro rfl; exact hx hy
            simpa using this
          simp [this]
        · have hne : (x != N) = true := by simpa using e
          rw [List.filter_cons, if_pos hne]
          have := ih hr
          simp only [List.length_cons]
          omega
    omega
end
section
variable {prog : Program} {w : World} {A : Around} {E : Value → Shared → Prop} {env : Env}
variable {h₀ : Base} {I I' : Imm} {L : Addr} {vars vars' : List (Str × Value)} {muts muts' : List (Addr × Cell)} {s₀ s s' : Shared}
variable {pos npos : Pos} {v : Value} {a b : Int} {t u : Tok} {Q : Value → Shared → Prop}

theorem state_count_fn {x r t : Addr} {rows : List (List Int)} (D : DfaAt I x r t) (hr : RowsL I (.ref r) rows) (hsz : rows.length ≤ sizeLine) :
    Fn prog w (KK w) 56 1 [.ref x] I (fun _ v => IntV v rows.length) := by
  refine fn_plain (vars := [("self", .ref x)]) (binds := [("self", .ref x)]) (by with_unfolding_all rfl) (by with_unfolding_all rfl) (fun s => BindsTo.of_eq rfl) (locs rfl) (by decide) (by intro p hp; simp at hp; subst hp; rfl) ?_
  intro A s₀ L s E hA S
  walk_at "m"
  walk_at "m"
  refine r_callb (id := "len") S (by with_unfolding_all rfl) (by with_unfolding_all rfl) (by decide) ?_
  repeat walk_at "m"
  refine r_rows S D ?_
  clear S; intro s S
  repeat walk_at "m"
  obtain ⟨_, vs, e, hl, hR⟩ := hr
  injection e with e
  subst e
  refine r_len S (S.lstI hl) (by rw [hR.length]; exact hsz) ?_
  clear S; intro t s S
  exact ⟨_, I, _, _, rfl, Sub.refl, S, _, by rw [hR.length]⟩

theorem class_count_fn {x r t : Addr} {rows : List (List Int)} {row : List Int} (D : DfaAt I x r t) (hr : RowsL I (.ref r) rows) (h0 : rows[0]? = some row) (hsz : row.length ≤ sizeLine) :
    Fn prog w (KK w) 49 1 [.ref x] I (fun _ v => IntV v row.length) := by
  refine fn_plain (vars := [("self", .ref x)]) (binds := [("self", .ref x)]) (by with_unfolding_all rfl) (by with_unfolding_all rfl) (fun s => BindsTo.of_eq rfl) (locs rfl) (by decide) (by intro p hp; simp at hp; subst hp; rfl) ?_
  intro A s₀ L s E hA S
  walk_at "m"
  walk_at "m"
  refine r_callb (id := "len") S (by with_unfolding_all rfl) (by with_unfolding_all rfl) (by decide) ?_
  repeat walk_at "m"
  refine r_rows S D ?_
  clear S; intro s S
  repeat walk_at "m"
  obtain ⟨_, vs, e, hl, hR⟩ := hr
  injection e with e
  subst e
  obtain ⟨v, hv, _, us, rfl, hl', hi⟩ := hR.at h0
  refine r_item (S.lstI hl) (i := 0) rfl hv (Nat.zero_le _) ?_
  repeat walk_at "m"
  refine r_len S (S.lstI hl') (by rw [hi.length]; exact hsz) ?_
  clear S; intro t s S
  exact ⟨_, I, _, _, rfl, Sub.refl, S, _, by rw [hi.length]⟩
end
section
variable {prog : Program} {w : World} {A : Around} {E : Value → Shared → Prop} {env : Env}
variable {h₀ : Base} {I I' : Imm} {L : Addr} {vars vars' : List (Str × Value)} {muts muts' : List (Addr × Cell)} {s₀ s s' : Shared}
variable {pos npos : Pos} {v : Value} {a b : Int} {t u : Tok} {Q : Value → Shared → Prop}

theorem bits_fn {I : Imm} {m : Nat} {t : Tok} (hm : m < 2 ^ 63) : Fn prog w (KK w) 28 1 [.int m t] I (fun I' v => ∃ l vs, v = .ref l ∧ IL I' l vs ∧ IntsAre vs (bitsFrom 64 m 0)) := by
  refine fn_plain (vars := [("mask", .int m t)]) (binds := [("mask", .int m t)]) (by with_unfolding_all rfl) (by with_unfolding_all rfl) (fun s => BindsTo.of_eq rfl) (locs rfl) (by decide) (by intro p hp; simp at hp; subst hp; rfl) ?_
  intro A s₀ L s E hA S
  repeat walk_at "m"
  refine r_newList S (fun f s S => ?_) (by decide)
  repeat walk_at "m"
  refine r_while (fun left s => ∃ (i : Nat) (t₁ t₂ : Tok) (vs : List Value) (ns : List Int) (fuel : Nat), left < 2 ^ fuel ∧ vs.length + fuel ≤ 63 ∧ IntsAre vs ns ∧ ns ++ bitsFrom (fuel + 1) left i = bitsFrom 64 m 0 ∧
    St (KK w) ⟨s₀.heap, I⟩ I L [("left", .int left t₁), ("at", .int i t₂), ("found", .ref f)] [(f, cList vs)] s₀ s) m ?_ ?_
  · exact ⟨0, _, _, [], [], 63, hm, by simp, .nil, by simp, S.revars ⟨rfl, rfl, rfl, trivial⟩⟩
  · rintro left s E' ⟨i, t₁, t₂, vs, ns, fuel, hlt, hlen, hvs, hns, S⟩
    repeat walk_at "m"
    by_cases h0 : left = 0
    · subst h0
      rw [if_neg (by decide)]
      walk_at "m"
      walk_at "m"
      walk_at "m"
      walk_at "m"
      obtain ⟨I', hs, hl, S⟩ := S.freezeL
      refine ⟨_, I', _, _, rfl, hs, S, f, vs, rfl, hl, ?_⟩
      have : bitsFrom (fuel + 1) 0 i = [] := by simp [bitsFrom]
      rw [this, List.append_nil] at hns
      rw [← hns]; exact hvs
    · rw [if_pos (by simp; omega)]
      have hf : bitsFrom (fuel + 1) left i = (if left % 2 = 1 then [(i : Int)] else []) ++ bitsFrom fuel (left / 2) (i + 1) := by rw [bitsFrom, if_neg h0]
      obtain ⟨fu, rfl⟩ : ∃ fu, fuel = fu + 1 := ⟨fuel - 1, by cases fuel with | zero => simp at hlt; omega | succ n => omega⟩
      have hlt2 : left / 2 < 2 ^ fu := by rw [Nat.pow_succ] at hlt; omega
      refine r_seq (fun s => ∃ vs ns, IntsAre vs ns ∧ vs.length + fu ≤ 63 ∧ ns ++ bitsFrom (fu + 1) (left / 2) (i + 1) = bitsFrom 64 m 0 ∧
        St (KK w) ⟨s₀.heap, I⟩ I L [("left", .int left t₁), ("at", .int i t₂), ("found", .ref f)] [(f, cList vs)] s₀ s) ?_ ?_
      · repeat walk_at "m"
        rw [bitAnd_m1]
        by_cases h1 : left % 2 = 1
        · have e1 : (((left : Int) % 2 == 1) = true) := by rw [beq_iff_eq]; omega
          rw [if_pos e1]
          rw [if_pos h1] at hf
          repeat walk_at "m"
          refine r_appendE ?_
          walk_at "m"
          refine ⟨f, _, rfl, S.plainL (.head _), ?_⟩
          walk_at "m"
          refine r_append S (szl (by omega)) fun s S => ?_
          repeat walk_at "m"
          refine ⟨rfl, _, ns ++ [(i : Int)], ints_snoc hvs, by simp; omega, ?_, S⟩
          rw [← hns, hf]; simp
        · have e1 : ¬ (((left : Int) % 2 == 1) = true) := by rw [beq_iff_eq]; omega
          rw [if_neg e1]
          rw [if_neg h1] at hf
          repeat walk_at "m"
          refine ⟨rfl, vs, ns, hvs, by omega, ?_, S⟩
          rw [← hns, hf]; simp
      · rintro s ⟨vs, ns, hvs, hlen, hns, S⟩
        repeat walk_at "m"
        refine r_shr1 S (by with_reducible exact Int.natCast_nonneg _) ?_
        clear S; intro t s S
        repeat walk_at "m"
        exact ⟨left / 2, by omega, i + 1, _, _, vs, ns, fu, hlt2, hlen, hvs, hns, S.revars ⟨rfl, rfl, rfl, trivial⟩⟩
end
section
variable {prog : Program} {w : World} {A : Around} {E : Value → Shared → Prop} {env : Env}
variable {h₀ : Base} {I I' : Imm} {L : Addr} {vars vars' : List (Str × Value)} {muts muts' : List (Addr × Cell)} {s₀ s s' : Shared}
variable {pos npos : Pos} {v : Value} {a b : Int} {t u : Tok} {Q : Value → Shared → Prop}

/-- what is asked at the end, kept out of sight -/
theorem opq {α : Type} {M : Model} {t : Sem α} {Q : α → Shared → Prop} (h : ∀ Q' : α → Shared → Prop, (∀ a s', Q a s' → Q' a s') → wpAny M A t Q' E s) : wpAny M A t Q E s := h Q fun _ _ h => h

theorem ints_rep {t : Tok} : ∀ n : Nat, IntsAre (List.replicate ((n : Int).toNat) (Value.int 0 t)) (List.replicate n 0)
  | 0 => .nil
  | n + 1 => by
    have := ints_rep (t := t) n
    rw [Int.toNat_natCast] at this ⊢
    exact .cons 0 t this

theorem bcells_mem (F : Nat → List Int) : ∀ (i : Nat) (bs : List Addr) (j : Nat) (b : Addr), bs[j]? = some b → (b, cInts (F (i + j))) ∈ bcells F i bs
  | i, [], j, b, h => by simp at h
  | i, c :: r, 0, b, h => by simp at h; subst h; exact .head _
  | i, c :: r, j + 1, b, h => by
    have := bcells_mem F (i + 1) r j b (by simpa using h)
    rw [show i + 1 + j = i + (j + 1) by omega] at this
    exact .tail _ this

/-- the rows of back when the states below i are done -/
def backF (rows : List (List Int)) (n i : Nat) (num : Nat) : List Int := (List.range n).map fun g => ((backM rows num g i : Nat) : Int)

/-- and in the midst of state i, when the classes below j are done -/
def backG (rows : List (List Int)) (n i j : Nat) (num : Nat) : List Int := (List.range n).map fun g => (((if num < j then backM rows num g (i + 1) else backM rows num g i) : Nat) : Int)
theorem backG_zero (rows : List (List Int)) (n i num : Nat) : backG rows n i 0 num = backF rows n i num := by simp [backG, backF]
theorem backG_end (rows : List (List Int)) (n i k num : Nat) (h : num < k) : backG rows n i k num = backF rows n (i + 1) num := by simp [backG, backF, h]
theorem backG_other (rows : List (List Int)) (n i j num : Nat) (h : num ≠ j) : backG rows n i (j + 1) num = backG rows n i j num := by
  unfold backG
  have : (num < j + 1) ↔ num < j := by omega
  simp [this]
theorem backG_dead (rows : List (List Int)) (n i j : Nat) (h : entry rows i j = -1) : backG rows n i (j + 1) j = backG rows n i j j := by
  unfold backG
  refine List.map_congr_left fun g _ => ?_
  have : ¬ entry rows i j = (g : Int) := by omega
  simp [backM, this]
theorem backG_set (rows : List (List Int)) (n i j g : Nat) (hg : g < n) (h : entry rows i j = g) :
    backG rows n i (j + 1) j = (backG rows n i j j).set g ((backM rows j g i ||| 2 ^ i : Nat) : Int) := by
  apply List.ext_getElem
  · simp [backG]
  · intro m h1 h2
    simp only [backG, List.length_map, List.length_range] at h1
    rw [List.getElem_set]
    by_cases e : g = m
    · subst e
      simp [backG, backM, h]
    · rw [if_neg e]
      have : ¬ entry rows i j = (m : Int) := by rw [h]; omega
      simp [backG, backM, this]

theorem St.freezeB {F : Nat → List Int} {K : Frag} : ∀ {bs : List Addr} {i : Nat} {I : Imm} {muts : List (Addr × Cell)}, St K h₀ I L vars (bcells F i bs ++ muts) s₀ s →
    ∃ I', Sub I I' ∧ (∀ j b, bs[j]? = some b → IntsL I' (.ref b) (F (i + j))) ∧ St K h₀ I' L vars muts s₀ s
  | [], i, I, muts, S => ⟨I, Sub.refl, fun j b h => by simp at h, S⟩
  | a :: r, i, I, muts, S => by
    have S' : St K h₀ I L vars ((a, cInts (F i)) :: (bcells F (i + 1) r ++ muts)) s₀ s := S
    obtain ⟨o, ⟨vs, ho, hi⟩, _, S2⟩ := S'.freeze
    obtain ⟨I', hs, hB, S3⟩ := S2.freezeB
    refine ⟨I', Sub.add.trans hs, fun j b h => ?_, S3⟩
    cases j with
    | zero =>
      simp at h; subst h
      exact ⟨_, vs, rfl, ⟨o, hs _ _ Add.here, ho⟩, hi⟩
    | succ j =>
      have := hB j b (by simpa using h)
      rwa [show i + 1 + j = i + (j + 1) by omega] at this

theorem findIdx_snoc {g : Nat} : ∀ {l : List Nat}, g ∉ l → (l ++ [g]).findIdx (· == g) = l.length
  | [], _ => by simp [List.findIdx_cons]
  | x :: l, h => by
    obtain ⟨h1, h2⟩ := not_or.mp (fun h' => h (List.mem_cons.mpr h'))
    have e : (x == g) = false := by simpa using fun e => h1 e.symm
    rw [List.cons_append, List.findIdx_cons, e, findIdx_snoc h2]
    rfl

def NatV (v : Value) (m : Nat) : Prop := ∃ t, v = .int (m : Int) t

theorem turned_fn {x ra ta : Addr} {rows tags : List (List Int)} {n k : Nat} (D : DfaAt I x ra ta) (hr : RowsL I (.ref ra) rows) (ht : TagsL I (.ref ta) tags)
    (hn : rows.length = n) (hn1 : 1 ≤ n) (hn2 : n ≤ 20) (htn : tags.length = n) (htl : ∀ tg ∈ tags, tg = [] ∨ tg = [0]) (hk : ∀ row ∈ rows, row.length = k) (hk1 : k ≤ 100) (he : ∀ st num, st < n → num < k → entry rows st num = -1 ∨ ∃ g : Nat, g < n ∧ entry rows st num = g) :
    Fn prog w (KK w) 89 4 [.ref x] I (fun I' v => ∃ x' r' t', v = .ref x' ∧ DfaAt I' x' r' t' ∧ RowsL I' (.ref r') (turnedS rows tags).rows ∧ TagsL I' (.ref t') (turnedS rows tags).tags) := by
  refine fn_cells (vars := []) (binds := [("dfa", .ref x)]) (by with_unfolding_all rfl) (by with_unfolding_all rfl) (fun s => BindsTo.of_eq rfl) (by with_unfolding_all rfl) (by decide) (fun L x v h => by simp at h) ?_
  intro A s₀ L s E hA S
  replace S : St (KK w) ⟨s₀.heap, I⟩ I L [] [(L + 1, fun o => o.data = .cell (some (.ref x)))] s₀ s := S
  obtain ⟨oc, hoc, _, S⟩ := S.freeze
  have hIc : Add I (L + 1) oc (L + 1) oc := Add.here
  replace D := D.sub (Sub.add (I := I) (a := L + 1) (o := oc))
  replace hr := hr.sub (Sub.add (I := I) (a := L + 1) (o := oc))
  replace ht := ht.sub (Sub.add (I := I) (a := L + 1) (o := oc))
  generalize hI2 : Add I (L + 1) oc = I2 at *
  have hrow0 : ∃ row, rows[0]? = some row ∧ row.length = k := by
    obtain ⟨row, hrow⟩ : ∃ row, rows[0]? = some row := ⟨rows[0], by simp⟩
    exact ⟨row, hrow, hk row (List.mem_of_getElem? hrow)⟩
  obtain ⟨row0, hrow0, hlen0⟩ := hrow0
  walk_at "m"
  walk_at "m"
  refine r_meth0 (x := x) (r := ra) (t := ta) (f := 49) (by with_unfolding_all rfl) (by with_unfolding_all rfl) (by with_unfolding_all rfl) (by decide) (by decide) (by with_unfolding_all rfl) ?_
  refine r_cell S (c := L + 1) (o := oc) (by rfl) hIc hoc ?_
  refine ⟨_, _, _, _, _, _, rfl, S, D, ?_⟩
  refine r_call (class_count_fn D hr hrow0 (szl (by with_reducible exact o_e2 (by assumption) (by assumption) (by decide)))) (hA.le (by decide)) S ?_
  rintro _ I3 s hs3 ⟨tk, rfl⟩ S
  rw [hlen0]
  replace hIc := hs3 _ _ hIc
  replace D := D.sub hs3
  replace hr := hr.sub hs3
  replace ht := ht.sub hs3
  walk_at "m"
  dsimp only
  refine r_seq (fun s => ∃ I' bk bs t₁, Sub I3 I' ∧ bs.length = k ∧ IL I' bk (bs.map Value.ref) ∧
    St (KK w) ⟨s₀.heap, I⟩ I' L [("back", .ref bk), ("count", .int k t₁)] (bcells (fun _ => List.replicate n 0) 0 bs) s₀ s) ?_ ?_
  · refine opq fun QQ hQQ => ?_
    refine r_assign_comp (K := KK w) (h₀ := ⟨s₀.heap, I⟩) (s₀ := s₀) (cl := [("dfa", L + 1)]) (by rfl) (by rfl) (by rfl) (by rfl) (by decide) (by rfl) (by decide) ?_
    refine r_callt (T := "range") S (by with_unfolding_all rfl) (by with_unfolding_all rfl) (by decide) ?_
    repeat walk_at "m"
    refine r_range1 S ?_
    clear S; intro rg s t₁ t₂ t₃ S hrg
    refine it_range hA.hh S hrg (by decide) (by decide) (by first | exact neg_nat _ | omega) (by with_reducible exact o_i1 (by assumption) (by decide)) fun it s X => ?_
    clear S
    refine comp1 X (fun C => by rfl) rfl (fun i I' acc muts => ∃ bs, acc = bs.map Value.ref ∧ bs.length = i ∧ muts = bcells (fun _ => List.replicate n 0) 0 bs ∧ i ≤ k) ?_ ⟨[], rfl, rfl, rfl, Nat.zero_le _⟩ ?_ ?_
    · rintro i I' acc muts ⟨bs, rfl, hl, rfl, hi⟩
      rw [List.length_map, hl, sizeLine_eq]; (with_reducible exact o_l2 (by assumption) (by assumption) (by decide))
    · rintro i v I' acc muts ex C s E' hi ⟨t, rfl⟩ hsub ⟨bs, rfl, hl, rfl, hik⟩ S
      refine tests0 ?_
      rw [if_pos rfl]
      repeat walk_at "m"
      refine r_newList S ?_ (by simp [sizeLine_eq])
      clear S; intro D0 s S
      refine r_meth0 (x := x) (r := ra) (t := ta) (f := 56) (by with_unfolding_all rfl) (by with_unfolding_all rfl) (by with_unfolding_all rfl) (by decide) (by decide) (by with_unfolding_all rfl) ?_
      refine r_cell S (c := L + 1) (o := oc) (by rfl) (hsub _ _ hIc) hoc ?_
      refine ⟨_, _, _, _, _, _, rfl, S, D.sub hsub, ?_⟩
      refine r_call (state_count_fn (D.sub hsub) (hr.sub hsub) (szl (by with_reducible exact o_e2 (by assumption) (by assumption) (by decide)))) (hA.le (by decide)) S ?_
      clear S; rintro _ I4 s hs4 ⟨tk', rfl⟩ S
      refine r_mul1 S (by with_reducible exact Int.natCast_nonneg _) (by with_reducible exact o_i3 (by assumption) (by assumption) (by decide)) ?_
      clear S; intro D1 s S
      refine ⟨I4, _, hs4, ⟨bs ++ [D1], by simp, by simp [hl], rfl, by (with_reducible exact o_t2 (by assumption))⟩, ?_⟩
      rw [bcells_snoc, ← List.append_assoc]
      refine (S.weak (cList.ints ?_)).toEnd
      rw [hn]
      exact ints_rep n
    · rintro I' acc muts' D' hsub ⟨bs, rfl, hl, rfl, _⟩ s S
      obtain ⟨I4, hs4, hil, S⟩ := S.freezeL
      refine hQQ _ _ ⟨rfl, I4, D', bs, tk, hsub.trans hs4, by rw [hl]; (with_reducible exact o_t0 _), hil, S⟩
  · rintro s ⟨I4, bk, bs, t₁, hs4, hbl, hbk, S⟩
    skip
    replace hIc := hs4 _ _ hIc
    replace D := D.sub hs4
    replace hr := hr.sub hs4
    replace ht := ht.sub hs4
    walk_at "m"
    walk_at "m"
    walk_at "m"
    walk_at "m"
    dsimp only
    refine r_seq (fun s => ∃ I' t₁ t₂, Sub I4 I' ∧
      St (KK w) ⟨s₀.heap, I⟩ I' L [("begin", .int (begM tags n) t₂), ("back", .ref bk), ("count", .int k t₁)] (bcells (backF rows n n) 0 bs) s₀ s) ?_ ?_
    · refine opq fun QQ hQQ => ?_
      refine r_for (K := KK w) (h₀ := ⟨s₀.heap, I⟩) (s₀ := s₀) (by rfl) (by rfl) ?_
      refine r_callt (T := "range") S (by with_unfolding_all rfl) (by with_unfolding_all rfl) (by decide) ?_
      walk_at "m"
      refine r_meth0 (x := x) (r := ra) (t := ta) (f := 56) (by with_unfolding_all rfl) (by with_unfolding_all rfl) (by with_unfolding_all rfl) (by decide) (by decide) (by with_unfolding_all rfl) ?_
      refine r_cell S (c := L + 1) (o := oc) (by rfl) hIc hoc ?_
      refine ⟨_, _, _, _, _, _, rfl, S, D, ?_⟩
      refine r_call (state_count_fn D hr (szl (by with_reducible exact o_e2 (by assumption) (by assumption) (by decide)))) (hA.le (by decide)) S ?_
      clear S; rintro _ I5 s hs5 ⟨tk', rfl⟩ S
      walk_at "m"
      refine r_range1 S ?_
      clear S; intro rg s t₁ t₂ t₃ S hrg
      refine iter_range (fun (i : Nat) (I' : Imm) (vars : List (Str × Value)) (muts : List (Addr × Cell)) => Sub I4 I' ∧ ∃ t₁ t₂, vars = ([("begin", .int (begM tags i) t₂), ("back", .ref bk), ("count", .int k t₁)] : List (Str × Value)) ∧ muts = bcells (backF rows n i) 0 bs ∧ i ≤ n) hA.hh S hrg (by decide) (by decide) (by first | exact neg_nat _ | omega) (by with_reducible exact o_i3 (by assumption) (by assumption) (by decide)) ?_ ?_ ?_
      · refine ⟨hs5, _, _, rfl, ?_, Nat.zero_le _⟩
        exact bcells_congr _ _ fun j _ _ => by simp [backF, backM, List.map_const']
      · rintro i t I6 vars muts s a c E' hi ⟨hs, t₁, t₂, rfl, rfl, hin⟩ S
        rw [Int.zero_add] at S
        have hin' : i < n := by omega
        refine r_seq (fun s => ∃ t₂, St (KK w) ⟨s₀.heap, I⟩ I6 L [("state", .int i t), ("begin", .int (begM tags (i + 1)) t₂), ("back", .ref bk), ("count", .int k t₁)] ((a, c) :: bcells (backF rows n i) 0 bs) s₀ s) ?_ ?_
        · refine opq fun QQ hQQ => ?_
          walk_at "m"
          walk_at "m"
          walk_at "m"
          walk_at "m"
          refine r_cell S (c := L + 1) (o := oc) (by rfl) (hs _ _ hIc) hoc ?_
          refine r_tags S (D.sub hs) ?_
          clear S; intro s S
          walk_at "m"
          obtain ⟨_, vs, e, hl, hR⟩ := ht.sub hs
          injection e with e
          subst e
          obtain ⟨tg, htg⟩ : ∃ tg, tags[i]? = some tg := ⟨tags[i], by simp⟩
          obtain ⟨v, hv, _, us, rfl, hT, hi'⟩ := hR.at htg
          refine r_item (S.lstI hl) (i := i) rfl hv (szl (by with_reducible exact o_s2 (by assumption) (by assumption) (by decide))) ?_
          have htg' : tags.getD i [] = tg := by simp [htg]
          have htl' := htl tg (List.mem_of_getElem? htg)
          refine r_truthyT S hT (by rw [hi'.length, sizeLine_eq]; rcases htl' with e | e <;> subst e <;> simp) ?_
          clear S; intro s S
          rcases htl' with e | e
          · subst e
            cases hi'
            rw [if_neg (by decide)]
            walk_at "m"
            refine hQQ _ _ ⟨rfl, t₂, ?_⟩
            have : begM tags (i + 1) = begM tags i := by rw [begM, htg']; simp
            rw [this]
            exact S.revars ⟨rfl, rfl, rfl, rfl, trivial⟩
          · subst e
            obtain ⟨t', us', rfl, hnil⟩ := IntsAre.cons_inv hi'
            rw [if_pos (by rfl)]
            repeat walk_at "m"
            refine r_shl S (by with_reducible exact Int.natCast_nonneg _) (by with_reducible exact o_i2 (by assumption) (by assumption) (by decide)) (by decide) ?_
            clear S; intro t s S
            repeat walk_at "m"
            have e1 : (1 * 2 ^ (i : Int).toNat : Int) = ((2 ^ i : Nat) : Int) := by simp
            have e2 : begM tags (i + 1) = begM tags i ||| 2 ^ i := by rw [begM, htg']; simp
            rw [e1, bitOr_nat, ← e2] at S
            exact hQQ _ _ ⟨rfl, _, S.revars ⟨rfl, rfl, rfl, rfl, trivial⟩⟩
        · rintro s ⟨t₃, S⟩
          refine wpAny_execs_cons ?_
          refine r_for (K := KK w) (h₀ := ⟨s₀.heap, I⟩) (s₀ := s₀) (by rfl) (by rfl) ?_
          refine r_callt (T := "range") S (by with_unfolding_all rfl) (by with_unfolding_all rfl) (by decide) ?_
          repeat walk_at "m"
          refine r_range1 S ?_
          clear S; intro rg s t₄ t₅ t₆ S hrg
          refine iter_range (fun (j : Nat) (I' : Imm) (vars : List (Str × Value)) (muts : List (Addr × Cell)) => I' = I6 ∧ vars = ([("state", .int i t), ("begin", .int (begM tags (i + 1)) t₃), ("back", .ref bk), ("count", .int k t₁)] : List (Str × Value)) ∧
            muts = (a, c) :: bcells (backG rows n i j) 0 bs ∧ j ≤ k) hA.hh S hrg (by decide) (by decide) (by first | exact neg_nat _ | omega) (by with_reducible exact o_i1 (by assumption) (by decide)) ?_ ?_ ?_
          · refine ⟨rfl, rfl, ?_, Nat.zero_le _⟩
            rw [bcells_congr _ _ fun j _ _ => (backG_zero rows n i j).symm]
          · rintro j u I7 vars muts s a2 c2 E2 hj ⟨rfl, rfl, rfl, hjk⟩ S
            rw [Int.zero_add] at S
            have hjk' : j < k := by (with_reducible exact o_t1 (by assumption))
            walk_at "m"
            walk_at "m"
            walk_at "m"
            walk_at "m"
            walk_at "m"
            refine r_cell S (c := L + 1) (o := oc) (by rfl) (hs _ _ hIc) hoc ?_
            refine r_rows S (D.sub hs) ?_
            clear S; intro s S
            walk_at "m"
            obtain ⟨_, vs, e, hl, hR⟩ := hr.sub hs
            injection e with e
            subst e
            obtain ⟨row, hrow⟩ : ∃ row, rows[i]? = some row := ⟨rows[i], by simp⟩
            obtain ⟨v, hv, _, us, rfl, hl', hi'⟩ := hR.at hrow
            refine r_item (S.lstI hl) (i := i) rfl hv (szl (by with_reducible exact o_s2 (by assumption) (by assumption) (by decide))) ?_
            walk_at "m"
            have hrk : row.length = k := hk row (List.mem_of_getElem? hrow)
            obtain ⟨g, hg⟩ : ∃ g, row[j]? = some g := ⟨row[j], by simp⟩
            obtain ⟨v, hv2, t', rfl⟩ := (IntsAre.to2 hi').at hg
            refine r_item (S.lstI hl') (i := j) rfl hv2 (szl (by with_reducible exact o_s2 (by assumption) (by assumption) (by decide))) ?_
            have hent : entry rows i j = g := by simp [entry, hrow, hg]
            repeat walk_at "m"
            refine r_glob S (v := .int (-1) 209) (by with_unfolding_all rfl) ?_
            walk_at "m"
            walk_at "m"
            rcases he i j hin' hjk' with e | ⟨gn, hgn, e⟩
            · rw [hent] at e
              subst e
              rw [if_neg (by decide)]
              repeat walk_at "m"
              refine ⟨I7, _, _, Sub.refl, ⟨rfl, rfl, rfl, by (with_reducible exact o_t2 (by assumption))⟩, ?_⟩
              rw [bcells_congr _ _ fun m _ _ => (if hm : m = j then by subst hm; exact backG_dead rows n i m hent else backG_other rows n i j m hm)]
              exact S.revars ⟨rfl, rfl, rfl, rfl, trivial⟩
            · have hgg : g = gn := by omega
              subst hgg
              rw [if_pos (by simp)]
              repeat walk_at "m"
              obtain ⟨bj, hbj⟩ : ∃ bj, bs[j]? = some bj := ⟨bs[j], by simp⟩
              have hbv : (bs.map Value.ref)[j]? = some (.ref bj) := by simp [hbj]
              have hbk' := hbk.sub hs
              refine r_item (S.lstI hbk') (i := j) rfl hbv (szl (by with_reducible exact o_s2 (by assumption) (by assumption) (by decide))) ?_
              walk_at "m"
              obtain ⟨us2, hl2, hi2⟩ := S.ints (.tail _ (.tail _ (bcells_mem (backG rows n i j) 0 bs j bj hbj)))
              have hgv : (backG rows n i j (0 + j))[gn]? = some ((backM rows j gn i : Nat) : Int) := by simp [backG, hgn]
              obtain ⟨v, hv3, t'', rfl⟩ := (IntsAre.to2 hi2).at hgv
              refine r_item hl2 (i := gn) rfl hv3 (szl (by with_reducible exact o_s2 (by assumption) (by assumption) (by decide))) ?_
              repeat walk_at "m"
              refine r_shl S (by with_reducible exact Int.natCast_nonneg _) (by with_reducible exact o_i2 (by assumption) (by assumption) (by decide)) (by decide) ?_
              clear S; intro t5 s S
              repeat walk_at "m"
              have hbk' := hbk.sub hs
              refine r_item (S.lstI hbk') (i := j) rfl hbv (szl (by with_reducible exact o_s2 (by assumption) (by assumption) (by decide))) ?_
              walk_at "m"
              have hsp : bs = bs.take j ++ bj :: bs.drop (j + 1) := by
                have h1 : j < bs.length := by (with_reducible exact o_le (by assumption) (by assumption))
                have h2 : bs[j] = bj := by
                  have := List.getElem?_eq_getElem h1
                  rw [this] at hbj; exact Option.some.inj hbj
                rw [← h2, ← List.drop_eq_getElem_cons h1, List.take_append_drop]
              have hlt : (bs.take j).length = j := by simp; omega
              generalize hl1 : bs.take j = l1 at hsp hlt
              generalize hl2' : bs.drop (j + 1) = l2 at hsp
              rw [hsp, bcells_append] at S
              simp only [bcells, hlt, Nat.zero_add] at S
              replace S : St (KK w) ⟨s₀.heap, I⟩ I7 L _ (((a2, c2) :: (a, c) :: bcells (backG rows n i j) 0 l1) ++ (bj, cInts (backG rows n i j j)) :: bcells (backG rows n i j) (j + 1) l2) s₀ s := S
              refine r_setInts S.front (by with_reducible exact Int.natCast_nonneg _) (by with_reducible exact o_i63 (by assumption) (by assumption) (by decide)) (by simp [backG]; omega) ?_
              clear S; intro s S
              repeat walk_at "m"
              have e1 : (1 * 2 ^ (i : Int).toNat : Int) = ((2 ^ i : Nat) : Int) := by simp
              rw [e1, bitOr_nat, Int.toNat_natCast, ← backG_set rows n i j gn hgn hent] at S
              have S := S.back
              refine ⟨I7, _, _, Sub.refl, ⟨rfl, rfl, rfl, by (with_reducible exact o_t2 (by assumption))⟩, ?_⟩
              rw [hsp, bcells_append]
              simp only [bcells, hlt, Nat.zero_add]
              rw [bcells_congr (G := backG rows n i j) 0 l1 fun m _ hm => backG_other rows n i j m (by omega), bcells_congr (G := backG rows n i j) (j + 1) l2 fun m hm _ => backG_other rows n i j m (by omega)]
              exact S.revars ⟨rfl, rfl, rfl, rfl, trivial⟩
          · rintro I7 vars muts s ⟨rfl, rfl, rfl, _⟩ S
            have hkk : ((k : Int) - 0).toNat = k := by (with_reducible exact o_t0 _)
            rw [hkk] at S
            refine wpAny_execs_nil ⟨I7, _, _, Sub.refl, ⟨hs, t₁, t₃, rfl, rfl, by (with_reducible exact Nat.succ_le_of_lt (by assumption))⟩, ?_⟩
            rw [bcells_congr _ _ fun j _ h2 => (backG_end rows n i k j (by omega)).symm]
            exact S.revars ⟨rfl, rfl, rfl, trivial⟩
      · rintro I6 vars muts s ⟨hs, t₁, t₂, rfl, rfl, hin⟩ S
        have : (( n : Int) - 0).toNat = n := by (with_reducible exact o_t0 _)
        rw [hn, this] at S
        exact hQQ _ _ ⟨rfl, I6, t₁, t₂, hs, S⟩
    · rintro s ⟨I5, t₁, t₂, hs5, S⟩
      rw [← List.append_nil (bcells (backF rows n n) 0 bs)] at S
      obtain ⟨I6, hs6, hB, S⟩ := S.freezeB
      replace hbk := (hbk.sub hs5).sub hs6
      clear hr ht D hIc
      repeat walk_at "m"
      refine r_dict1 (knd := PySem.intKind prog w) S ?_
      clear S; intro kn s hknm S
      repeat walk_at "m"
      refine ⟨_, _, _, _, intKind_is _ _ _ _, S, ?_⟩
      clear S; intro s S
      repeat walk_at "m"
      refine r_newList S ?_ (by simp [sizeLine_eq])
      clear S; intro sb s S
      repeat walk_at "m"
      refine r_newList S ?_ (by simp [sizeLine_eq])
      clear S; intro rw s S
      repeat walk_at "m"
      refine r_newList S ?_ (by simp [sizeLine_eq])
      clear S; intro tg s S
      repeat walk_at "m"
      have hp : 2 ^ n ≤ 1048576 := Nat.le_trans (Nat.pow_le_pow_right (by decide) hn2) (by decide)
      refine wpAny_mono (Q := fun f s => f = .next ∧ ∃ I' rvs tvs, Sub I6 I' ∧ All2 (IntsL I') rvs (turnedS rows tags).rows ∧ All2 (IntsT I') tvs (turnedS rows tags).tags ∧
        St (KK w) ⟨s₀.heap, I⟩ I' L [("tags", .ref tg), ("rows", .ref rw)] [(tg, cList tvs), (rw, cList rvs)] s₀ s) ?_ ?_ (fun _ _ e => e)
      · refine r_while (fun (m : Nat) (s : Shared) => ∃ (st : TS) (fuel : Nat) (I' : Imm) (kvs : List (Int × Value)) (svs rvs tvs : List Value), m = 2 ^ n - st.rows.length ∧ runT rows n k fuel st = turnedS rows tags ∧ 2 ^ n ≤ fuel + st.rows.length ∧ st.subsets.Nodup ∧ (∀ x ∈ st.subsets, x < 2 ^ n) ∧
          st.tags.length = st.rows.length ∧ st.rows.length ≤ st.subsets.length ∧ Sub I6 I' ∧ KnOk 0 kvs st.subsets ∧ All2 NatV svs st.subsets ∧ All2 (IntsL I') rvs st.rows ∧ All2 (IntsT I') tvs st.tags ∧
          St (KK w) ⟨s₀.heap, I⟩ I' L [("tags", .ref tg), ("rows", .ref rw), ("subsets", .ref sb), ("known", .ref kn), ("back", .ref bk), ("count", .int k t₁)]
            [(tg, cList tvs), (rw, cList rvs), (sb, cList svs), (kn, cDict (PySem.intKind prog w) kvs)] s₀ s) (2 ^ n) ?_ ?_
        · have hk0 : (rows.getD 0 []).length = k := by simp [hrow0, hlen0]
          refine ⟨⟨[begM tags n], [], []⟩, 2 ^ n, I6, _, _, [], [], rfl, ?_, Nat.le_add_right _ _, by simp, ?_, rfl, Nat.zero_le _, Sub.refl, .cons (.nil _), .cons ⟨t₂, rfl⟩ .nil, .nil, .nil, S.revars ⟨rfl, rfl, rfl, rfl, rfl, rfl, trivial⟩⟩
          · unfold turnedS; rw [hn, hk0]
          · intro x hx; simp at hx; subst hx; exact begM_lt tags n
        · rintro m s E' ⟨st, fuel, I7, kvs, svs, rvs, tvs, rfl, hrun, hfuel, hnd, hlt, htl', hle, hs7, hkn, hsv, hrv, htv, S⟩
          clear hrow0 hlen0 row0
          have hsub : st.subsets.length ≤ 2 ^ n := nodup_lt _ _ hnd hlt
          walk_at "m"
          refine r_callb (id := "len") S (by with_unfolding_all rfl) (by with_unfolding_all rfl) (by decide) ?_
          repeat walk_at "m"
          refine r_len S (S.lstM (.tail _ (.head _))).isList (by rw [hrv.length, sizeLine_eq]; omega) ?_
          clear S; intro t₃ s S
          refine r_callb (id := "len") S (by with_unfolding_all rfl) (by with_unfolding_all rfl) (by decide) ?_
          repeat walk_at "m"
          refine r_len S (S.lstM (.tail _ (.tail _ (.head _)))).isList (by rw [hsv.length, sizeLine_eq]; omega) ?_
          clear S; intro t₄ s S
          repeat walk_at "m"
          rw [hrv.length, hsv.length]
          by_cases hlt2 : st.rows.length < st.subsets.length
          · rw [if_pos (by simp; omega)]
            obtain ⟨mask, hmask⟩ : ∃ mask, st.subsets[st.rows.length]? = some mask := ⟨st.subsets[st.rows.length], by simp⟩
            have hm2 : mask < 2 ^ n := hlt mask (List.mem_of_getElem? hmask)
            obtain ⟨f, rfl⟩ : ∃ f, fuel = f + 1 := ⟨fuel - 1, by omega⟩
            rw [runT, if_pos hlt2] at hrun
            walk_at "m"
            walk_at "m"
            refine r_callg (f := 28) S (by with_unfolding_all rfl) (by with_unfolding_all rfl) ?_
            walk_at "m"
            walk_at "m"
            walk_at "m"
            refine r_callb (id := "len") S (by with_unfolding_all rfl) (by with_unfolding_all rfl) (by decide) ?_
            repeat walk_at "m"
            refine r_len S (S.lstM (.tail _ (.head _))).isList (by rw [hrv.length, sizeLine_eq]; omega) ?_
            clear S; intro t5 s S
            obtain ⟨v, hv, t6, rfl⟩ := hsv.at hmask
            refine r_item (S.lstM (.tail _ (.tail _ (.head _)))).isList (i := st.rows.length) (by rw [hrv.length]) hv (szl (by omega)) ?_
            walk_at "m"
            refine ⟨⟨_, _, _, _, _, _, S⟩, ?_⟩
            refine r_call (bits_fn (m := mask) (by omega)) (hA.le (by decide)) S ?_
            clear S; rintro _ I8 s hs8 ⟨ml, mvs, rfl, hml, hmi⟩ S
            walk_at "m"
            try dsimp only
            walk_at "m"
            walk_at "m"
            walk_at "m"
            walk_at "m"
            refine r_newList S ?_ (by simp [sizeLine_eq])
            clear S; intro ro s S
            walk_at "m"
            try dsimp only
            refine r_seq (fun s => ∃ (kvs' : List (Int × Value)) (svs' rowvs : List Value), KnOk 0 kvs' ((List.range k).foldl (stepNum rows n mask) ([], st.subsets)).2 ∧ All2 NatV svs' ((List.range k).foldl (stepNum rows n mask) ([], st.subsets)).2 ∧
              IntsAre rowvs ((List.range k).foldl (stepNum rows n mask) ([], st.subsets)).1 ∧
              St (KK w) ⟨s₀.heap, I⟩ I8 L [("row", .ref ro), ("tags", .ref tg), ("rows", .ref rw), ("subsets", .ref sb), ("known", .ref kn), ("back", .ref bk), ("count", .int k t₁)]
                [(ro, cList rowvs), (tg, cList tvs), (rw, cList rvs), (sb, cList svs'), (kn, cDict (PySem.intKind prog w) kvs')] s₀ s) ?_ ?_
            · refine opq fun QQ hQQ => ?_
              refine r_for (K := KK w) (h₀ := ⟨s₀.heap, I⟩) (s₀ := s₀) (by rfl) (by rfl) ?_
              refine r_callt (T := "range") S (by with_unfolding_all rfl) (by with_unfolding_all rfl) (by decide) ?_
              repeat walk_at "m"
              refine r_range1 S ?_
              clear S; intro rg s t7 t8 t9 S hrg
              refine iter_range (fun (j : Nat) (I' : Imm) (vars : List (Str × Value)) (muts : List (Addr × Cell)) => I' = I8 ∧ j ≤ k ∧ ∃ (kvs' : List (Int × Value)) (svs' rowvs : List Value),
                vars = ([("row", .ref ro), ("members", .ref ml), ("tags", .ref tg), ("rows", .ref rw), ("subsets", .ref sb), ("known", .ref kn), ("back", .ref bk), ("count", .int k t₁)] : List (Str × Value)) ∧
                muts = [(ro, cList rowvs), (tg, cList tvs), (rw, cList rvs), (sb, cList svs'), (kn, cDict (PySem.intKind prog w) kvs')] ∧
                KnOk 0 kvs' ((List.range j).foldl (stepNum rows n mask) ([], st.subsets)).2 ∧ All2 NatV svs' ((List.range j).foldl (stepNum rows n mask) ([], st.subsets)).2 ∧ IntsAre rowvs ((List.range j).foldl (stepNum rows n mask) ([], st.subsets)).1) hA.hh (S.revars (vars' := [("row", .ref ro), ("members", .ref ml), ("tags", .ref tg), ("rows", .ref rw), ("subsets", .ref sb), ("known", .ref kn), ("back", .ref bk), ("count", .int k t₁)]) ⟨rfl, rfl, rfl, rfl, rfl, rfl, rfl, rfl, trivial⟩) hrg (by decide) (by decide) (by first | exact neg_nat _ | omega) (by with_reducible exact o_i1 (by assumption) (by decide)) ?_ ?_ ?_
              · exact ⟨rfl, Nat.zero_le _, kvs, svs, [], rfl, rfl, hkn, hsv, .nil⟩
              · clear S
                rintro j u I9 vars muts s a c E2 hj ⟨rfl, hjk, kvs', svs', rowvs, rfl, rfl, hkn', hsv', hrow'⟩ S
                rw [Int.zero_add] at S
                have hjk' : j < k := by (with_reducible exact o_t1 (by assumption))
                obtain ⟨hnd', hlt', hrl, more, hmore⟩ := foldStep rows n mask st.subsets hnd hlt j
                have hsucc := fold_succ rows n mask st.subsets j
                have hgl := goalM_lt rows n j mask
                generalize (List.range j).foldl (stepNum rows n mask) ([], st.subsets) = acc at *
                generalize (List.range (j + 1)).foldl (stepNum rows n mask) ([], st.subsets) = acc2 at *
                have hsub' : acc.2.length ≤ 2 ^ n := nodup_lt _ _ hnd' hlt'
                walk_at "m"
                walk_at "m"
                walk_at "m"
                walk_at "m"
                try dsimp only
                refine r_seq (fun s => ∃ t, St (KK w) ⟨s₀.heap, I⟩ I9 L [("goal", .int (goalM rows n j mask) t), ("number", .int j u), ("row", .ref ro), ("members", .ref ml), ("tags", .ref tg), ("rows", .ref rw), ("subsets", .ref sb), ("known", .ref kn), ("back", .ref bk), ("count", .int k t₁)]
                  [(a, c), (ro, cList rowvs), (tg, cList tvs), (rw, cList rvs), (sb, cList svs'), (kn, cDict (PySem.intKind prog w) kvs')] s₀ s) ?_ ?_
                · refine opq fun QQ hQQ => ?_
                  refine r_for (K := KK w) (h₀ := ⟨s₀.heap, I⟩) (s₀ := s₀) (by rfl) (by rfl) ?_
                  walk_at "m"
                  refine iter_list (fun (i : Nat) (I' : Imm) (vars : List (Str × Value)) (muts : List (Addr × Cell)) => I' = I9 ∧ ∃ t,
                    vars = ([("goal", .int (((((bitsFrom 64 mask 0).take i).foldl (fun acc st => acc ||| backM rows j st.toNat n) 0 : Nat)) : Int) t), ("number", .int j u), ("row", .ref ro), ("members", .ref ml), ("tags", .ref tg), ("rows", .ref rw), ("subsets", .ref sb), ("known", .ref kn), ("back", .ref bk), ("count", .int k t₁)] : List (Str × Value)) ∧
                    muts = [(a, c), (ro, cList rowvs), (tg, cList tvs), (rw, cList rvs), (sb, cList svs'), (kn, cDict (PySem.intKind prog w) kvs')]) hA.hh S hml ⟨rfl, _, rfl, rfl⟩ ?_ ?_
                  · clear S
                    rintro i v I10 vars muts s a3 c3 E3 hv ⟨rfl, t, rfl, rfl⟩ _ S
                    refine opq fun QQ hQQ => ?_
                    obtain ⟨d, hd, t', rfl⟩ := (IntsAre.to2 hmi).get hv
                    obtain ⟨sn, hsn, htb⟩ := (mem_bitsFrom 64 mask 0 (by omega) d).mp (List.mem_of_getElem? hd)
                    rw [Nat.zero_add] at hsn
                    subst hsn
                    have hsn' : sn < n := by
                      by_cases h : sn < n
                      · exact h
                      · have := Nat.testBit_lt_two_pow (Nat.lt_of_lt_of_le hm2 (Nat.pow_le_pow_right (by decide) (Nat.le_of_not_lt h)))
                        rw [this] at htb; cases htb
                    repeat walk_at "m"
                    obtain ⟨bj, hbj⟩ : ∃ bj, bs[j]? = some bj := ⟨bs[j], by simp⟩
                    have hbv : (bs.map Value.ref)[j]? = some (.ref bj) := by simp [hbj]
                    refine r_item (S.lstI ((hbk.sub hs7).sub hs8)) (i := j) rfl hbv (szl (by with_reducible exact o_s2 (by assumption) (by assumption) (by decide))) ?_
                    walk_at "m"
                    obtain ⟨_, us, e, hl, hi⟩ := ((hB j bj hbj).sub hs7).sub hs8
                    injection e with e
                    subst e
                    have hgv : (backF rows n n (0 + j))[sn]? = some ((backM rows j sn n : Nat) : Int) := by simp [backF, hsn']
                    obtain ⟨v, hv3, t'', rfl⟩ := (IntsAre.to2 hi).at hgv
                    refine r_item (S.lstI hl) (i := sn) rfl hv3 (szl (by with_reducible exact o_s2 (by assumption) (by assumption) (by decide))) ?_
                    repeat walk_at "m"
                    have e2 : ((bitsFrom 64 mask 0).take (i + 1)).foldl (fun acc st => acc ||| backM rows j st.toNat n) 0 = ((bitsFrom 64 mask 0).take i).foldl (fun acc st => acc ||| backM rows j st.toNat n) 0 ||| backM rows j sn n := by
                      rw [List.take_add_one, hd, List.foldl_append]; simp
                    rw [bitOr_nat, ← e2] at S
                    exact hQQ _ _ ⟨I10, _, _, Sub.refl, ⟨rfl, _, rfl, rfl⟩, S.revars ⟨rfl, rfl, rfl, rfl, rfl, rfl, rfl, rfl, rfl, rfl, trivial⟩⟩
                  · clear S
                    rintro I10 vars muts s ⟨rfl, t, rfl, rfl⟩ S
                    have : (bitsFrom 64 mask 0).take mvs.length = bitsFrom 64 mask 0 := by rw [hmi.length]; exact List.take_length
                    rw [this] at S
                    exact hQQ _ _ ⟨rfl, t, S⟩
                · clear S
                  rintro s ⟨tg0, S⟩
                  have hrl' : rowvs.length = j := by rw [hrow'.length, hrl]
                  generalize hg : goalM rows n j mask = g at *
                  repeat walk_at "m"
                  by_cases hg0 : g = 0
                  · have e1 : (((g : Int) == 0) = true) := by simp [hg0]
                    have hs : acc2 = (acc.1 ++ [-1], acc.2) := by rw [hsucc]; unfold stepNum; simp [hg, hg0]
                    subst hs
                    rw [if_pos e1]
                    repeat walk_at "m"
                    refine r_appendE ?_
                    walk_at "m"
                    refine ⟨ro, _, rfl, S.plainL (.tail _ (.head _)), ?_⟩
                    refine r_glob S (v := .int (-1) 209) (by with_unfolding_all rfl) ?_
                    have S := S.tf 1
                    dsimp only [toFront] at S
                    refine r_append S (szl (by with_reducible exact o_e3 (by assumption) (by assumption) (by assumption) (by decide))) fun s S => ?_
                    have S := S.tp 1
                    dsimp only [toPlace] at S
                    repeat walk_at "m"
                    exact ⟨I9, _, _, Sub.refl, ⟨rfl, by (with_reducible exact o_t2 (by assumption)), kvs', svs', _, rfl, rfl, hkn', hsv', ints_snoc hrow'⟩, S.revars ⟨rfl, rfl, rfl, rfl, rfl, rfl, rfl, rfl, trivial⟩⟩
                  · have e1 : ¬ (((g : Int) == 0) = true) := by simp; omega
                    rw [if_neg e1]
                    refine wpAny_execs_nil ?_
                    dsimp only
                    refine r_seq (fun s => ∃ (kvs2 : List (Int × Value)) (svs2 : List Value), KnOk 0 kvs2 acc2.2 ∧ All2 NatV svs2 acc2.2 ∧ g ∈ acc2.2 ∧ acc2.1 = acc.1 ++ [((acc2.2.findIdx (· == g) : Nat) : Int)] ∧
                      St (KK w) ⟨s₀.heap, I⟩ I9 L [("goal", .int g tg0), ("number", .int j u), ("row", .ref ro), ("members", .ref ml), ("tags", .ref tg), ("rows", .ref rw), ("subsets", .ref sb), ("known", .ref kn), ("back", .ref bk), ("count", .int k t₁)]
                        [(a, c), (ro, cList rowvs), (tg, cList tvs), (rw, cList rvs), (sb, cList svs2), (kn, cDict (PySem.intKind prog w) kvs2)] s₀ s) ?_ ?_
                    · refine opq fun QQ hQQ => ?_
                      repeat walk_at "m"
                      refine r_notinD S (.tail _ (.tail _ (.tail _ (.tail _ (.tail _ (.head _)))))) hknm (intKind_is _ _ _ _) ?_
                      clear S; intro s S
                      repeat walk_at "m"
                      by_cases hin : g ∈ acc.2
                      · obtain ⟨t2, hval⟩ := hkn'.some hin
                        have hs : acc2 = (acc.1 ++ [(place g acc.2 : Int)], acc.2) := by rw [hsucc]; unfold stepNum; simp [hg, hg0, hin]
                        subst hs
                        rw [if_neg (by rw [hval]; simp)]
                        repeat walk_at "m"
                        exact hQQ _ _ ⟨rfl, kvs', svs', hkn', hsv', hin, rfl, S⟩
                      · have hval := hkn'.none hin
                        have hs : acc2 = (acc.1 ++ [(acc.2.length : Int)], acc.2 ++ [g]) := by rw [hsucc]; unfold stepNum; simp [hg, hg0, hin]
                        subst hs
                        rw [if_pos (by rw [hval]; simp)]
                        repeat walk_at "m"
                        refine r_callb (id := "len") S (by with_unfolding_all rfl) (by with_unfolding_all rfl) (by decide) ?_
                        repeat walk_at "m"
                        refine r_len S (S.lstM (.tail _ (.tail _ (.tail _ (.tail _ (.head _)))))).isList (by rw [hsv'.length, sizeLine_eq]; omega) ?_
                        clear S; intro t12 s S
                        repeat walk_at "m"
                        have S := S.tf 5
                        dsimp only [toFront] at S
                        refine r_setD S (intKind_is _ _ _ _) (by rw [hkn'.length, sizeLine_eq]; omega) ?_
                        clear S; intro s S
                        have S := S.tp 5
                        dsimp only [toPlace] at S
                        rw [hkn'.stored hin, hsv'.length] at S
                        repeat walk_at "m"
                        refine r_appendE ?_
                        walk_at "m"
                        refine ⟨sb, _, rfl, S.plainL (.tail _ (.tail _ (.tail _ (.tail _ (.head _))))), ?_⟩
                        repeat walk_at "m"
                        have S := S.tf 4
                        dsimp only [toFront] at S
                        refine r_append S (by rw [hsv'.length, sizeLine_eq]; omega) fun s S => ?_
                        have S := S.tp 4
                        dsimp only [toPlace] at S
                        repeat walk_at "m"
                        have hk2 := hkn'.snoc g t12
                        rw [Nat.zero_add] at hk2
                        refine hQQ _ _ ⟨rfl, _, _, hk2, hsv'.snoc ⟨tg0, rfl⟩, by simp, ?_, S⟩
                        rw [findIdx_snoc hin]
                    · clear S
                      rintro s ⟨kvs2, svs2, hkn2, hsv2, hmem, hacc, S⟩
                      repeat walk_at "m"
                      refine r_appendE ?_
                      walk_at "m"
                      refine ⟨ro, _, rfl, S.plainL (.tail _ (.head _)), ?_⟩
                      repeat walk_at "m"
                      obtain ⟨t2, hval⟩ := hkn2.some hmem
                      rw [Nat.zero_add] at hval
                      refine r_itemD S (.tail _ (.tail _ (.tail _ (.tail _ (.tail _ (.head _)))))) (intKind_is _ _ _ _) hval ?_ (by with_unfolding_all rfl)
                      clear S; intro s S
                      have S := S.tf 1
                      dsimp only [toFront] at S
                      refine r_append S (szl (by with_reducible exact o_e3 (by assumption) (by assumption) (by assumption) (by decide))) fun s S => ?_
                      have S := S.tp 1
                      dsimp only [toPlace] at S
                      repeat walk_at "m"
                      exact ⟨I9, _, _, Sub.refl, ⟨rfl, by (with_reducible exact o_t2 (by assumption)), kvs2, svs2, _, rfl, rfl, hkn2, hsv2, by rw [hacc]; exact ints_snoc hrow'⟩, S.revars ⟨rfl, rfl, rfl, rfl, rfl, rfl, rfl, rfl, trivial⟩⟩
              · rintro I9 vars muts s ⟨rfl, hjk, kvs', svs', rowvs, rfl, rfl, hkn', hsv', hrow'⟩ S
                have hkk : ((k : Int) - 0).toNat = k := by (with_reducible exact o_t0 _)
                rw [hkk] at hkn' hsv' hrow'
                exact hQQ _ _ ⟨rfl, kvs', svs', rowvs, hkn', hsv', hrow', S.revars ⟨rfl, rfl, rfl, rfl, rfl, rfl, rfl, trivial⟩⟩
            · rintro s ⟨kvs', svs', rowvs, hkn', hsv', hrow', S⟩
              obtain ⟨hnd', hlt', hrl, more, hmore⟩ := foldStep rows n mask st.subsets hnd hlt k
              have hstep : stepT rows n k st = ⟨((List.range k).foldl (stepNum rows n mask) ([], st.subsets)).2, st.rows ++ [((List.range k).foldl (stepNum rows n mask) ([], st.subsets)).1], st.tags ++ [if mask % 2 = 1 then [0] else []]⟩ := by
                have : st.subsets.getD st.rows.length 0 = mask := by simp [hmask]
                unfold stepT
                rw [this]
              generalize (List.range k).foldl (stepNum rows n mask) ([], st.subsets) = acc at *
              have hmask' : acc.2[st.rows.length]? = some mask := by rw [hmore, List.getElem?_append_left hlt2]; exact hmask
              have hsub' : acc.2.length ≤ 2 ^ n := nodup_lt _ _ hnd' hlt'
              refine r_seq (fun s => ∃ (I9 : Imm) (tvs' : List Value), Sub I8 I9 ∧ All2 (IntsT I9) tvs' (st.tags ++ [if mask % 2 = 1 then [0] else []]) ∧
                St (KK w) ⟨s₀.heap, I⟩ I9 L [("row", .ref ro), ("tags", .ref tg), ("rows", .ref rw), ("subsets", .ref sb), ("known", .ref kn), ("back", .ref bk), ("count", .int k t₁)]
                  [(ro, cList rowvs), (tg, cList tvs'), (rw, cList rvs), (sb, cList svs'), (kn, cDict (PySem.intKind prog w) kvs')] s₀ s) ?_ ?_
              · refine opq fun QQ hQQ => ?_
                repeat walk_at "m"
                refine r_callb (id := "len") S (by with_unfolding_all rfl) (by with_unfolding_all rfl) (by decide) ?_
                repeat walk_at "m"
                refine r_len S (S.lstM (.tail _ (.tail _ (.head _)))).isList (by rw [hrv.length, sizeLine_eq]; omega) ?_
                clear S; intro t10 s S
                obtain ⟨v, hv, t11, rfl⟩ := hsv'.at hmask'
                refine r_item (S.lstM (.tail _ (.tail _ (.tail _ (.head _))))).isList (i := st.rows.length) (by rw [hrv.length]) hv (szl (by omega)) ?_
                repeat walk_at "m"
                rw [bitAnd_m1]
                by_cases hodd : mask % 2 = 1
                · have e1 : (((mask : Int) % 2 != 0) = true) := by rw [bne_iff_ne]; omega
                  rw [if_pos e1]
                  repeat walk_at "m"
                  refine r_appendE ?_
                  walk_at "m"
                  refine ⟨tg, _, rfl, S.plainL (.tail _ (.head _)), ?_⟩
                  repeat walk_at "m"
                  refine r_newTuple S ?_ (by simp [sizeLine_eq])
                  clear S; intro D1 s I9 hs9 hT S
                  have S := S.tf 1
                  dsimp only [toFront] at S
                  refine r_append S (by rw [htv.length, sizeLine_eq]; omega) fun s S => ?_
                  have S := S.tp 1
                  dsimp only [toPlace] at S
                  repeat walk_at "m"
                  refine hQQ _ _ ?_
                  rw [if_pos hodd]
                  exact ⟨rfl, I9, _, hs9, (htv.mono fun _ _ h => (h.sub hs8).sub hs9).snoc ⟨D1, _, rfl, hT, .cons 0 _ .nil⟩, S⟩
                · have e1 : ¬ (((mask : Int) % 2 != 0) = true) := by rw [bne_iff_ne]; omega
                  rw [if_neg e1]
                  repeat walk_at "m"
                  refine r_appendE ?_
                  walk_at "m"
                  refine ⟨tg, _, rfl, S.plainL (.tail _ (.head _)), ?_⟩
                  repeat walk_at "m"
                  refine r_newTuple S ?_ (by simp [sizeLine_eq])
                  clear S; intro D1 s I9 hs9 hT S
                  have S := S.tf 1
                  dsimp only [toFront] at S
                  refine r_append S (by rw [htv.length, sizeLine_eq]; omega) fun s S => ?_
                  have S := S.tp 1
                  dsimp only [toPlace] at S
                  repeat walk_at "m"
                  refine hQQ _ _ ?_
                  rw [if_neg hodd]
                  exact ⟨rfl, I9, _, hs9, (htv.mono fun _ _ h => (h.sub hs8).sub hs9).snoc ⟨D1, _, rfl, hT, .nil⟩, S⟩
              · clear S
                rintro s ⟨I9, tvs', hs9, htv', S⟩
                obtain ⟨I10, hs10, hro, S⟩ := S.freezeL
                repeat walk_at "m"
                refine r_appendE ?_
                walk_at "m"
                refine ⟨rw, _, rfl, S.plainL (.tail _ (.head _)), ?_⟩
                repeat walk_at "m"
                have S := S.tf 1
                dsimp only [toFront] at S
                refine r_append S (by rw [hrv.length, sizeLine_eq]; omega) fun s S => ?_
                have S := S.tp 1
                dsimp only [toPlace] at S
                repeat walk_at "m"
                refine ⟨2 ^ n - (stepT rows n k st).rows.length, ?_, stepT rows n k st, f, I10, kvs', svs', _, tvs', rfl, hrun, ?_, ?_, ?_, ?_, ?_, ?_, ?_, ?_, ?_, ?_, S.revars ⟨rfl, rfl, rfl, rfl, rfl, rfl, trivial⟩⟩ <;> (try rw [hstep])
                · simp only [List.length_append, List.length_singleton]; omega
                · simp only [List.length_append, List.length_singleton]; omega
                · exact hnd'
                · exact hlt'
                · simp only [List.length_append, List.length_singleton]; omega
                · simp only [List.length_append, List.length_singleton, hmore]; omega
                · exact ((hs7.trans hs8).trans hs9).trans hs10
                · exact hkn'
                · exact hsv'
                · exact (hrv.mono fun _ _ h => ((h.sub hs8).sub hs9).sub hs10).snoc ⟨ro, rowvs, rfl, hro, hrow'⟩
                · exact htv'.mono fun _ _ h => h.sub hs10
          · rw [if_neg (by simp; omega)]
            have : turnedS rows tags = st := by
              rw [← hrun]
              cases fuel with
              | zero => rfl
              | succ f => rw [runT, if_neg hlt2]
            refine ⟨rfl, I7, rvs, tvs, hs7, by rw [this]; exact hrv, by rw [this]; exact htv, ?_⟩
            exact (S.tf 3).drop.tf 2 |>.drop |>.revars ⟨rfl, rfl, trivial⟩
      · rintro _ s ⟨rfl, I7, rvs, tvs, hs7, hrv, htv, S⟩
        dsimp only
        obtain ⟨I8, hs8, hil, S⟩ := S.freezeL
        obtain ⟨I9, hs9, hil2, S⟩ := S.freezeL
        walk_at "m"
        walk_at "m"
        refine r_callg (f := 80) S (by with_unfolding_all rfl) (by with_unfolding_all rfl) ?_
        repeat walk_at "m"
        refine ⟨⟨_, _, _, _, _, _, S⟩, ?_⟩
        refine make_dfa S hA ?_
        clear S; intro x' I10 s hs10 D' S
        refine ⟨_, I10, _, _, rfl, ?_, S, x', rw, tg, rfl, D', ⟨rw, rvs, rfl, hil2.sub hs10, hrv.mono fun _ _ h => ((h.sub hs8).sub hs9).sub hs10⟩, ⟨tg, tvs, rfl, (hil.sub hs9).sub hs10, htv.mono fun _ _ h => ((h.sub hs8).sub hs9).sub hs10⟩⟩
        exact fun a o h => hs10 _ _ (hs9 _ _ (hs8 _ _ (hs7 _ _ (hs6 _ _ (hs5 _ _ (hs4 _ _ (hs3 _ _ (hI2 ▸ Sub.add _ _ h))))))))
end
section
open PySem PyProof.Rows

/-- rows and tags make an automaton of n states over k classes -/
structure AOk (rows tags : List (List Int)) (n k : Nat) : Prop where
  len : rows.length = n
  one : 1 ≤ n
  tlen : tags.length = n
  tag : ∀ tg ∈ tags, tg = [] ∨ tg = [0]
  wid : ∀ row ∈ rows, row.length = k
  ent : ∀ st num, st < n → num < k → entry rows st num = -1 ∨ ∃ g : Nat, g < n ∧ entry rows st num = g

/-- what the classes below j have given -/
def FoldInv (rows : List (List Int)) (n mask : Nat) (subs : List Nat) (j : Nat) (acc : List Int × List Nat) : Prop :=
  acc.1.length = j ∧ acc.2.Nodup ∧ (∀ x ∈ acc.2, x < 2 ^ n) ∧ (∃ more, acc.2 = subs ++ more) ∧
  (∀ j', j' < j → (acc.1[j']? = some (-1) ∧ goalM rows n j' mask = 0) ∨ ∃ i' : Nat, acc.1[j']? = some (i' : Int) ∧ acc.2[i']? = some (goalM rows n j' mask) ∧ goalM rows n j' mask ≠ 0) ∧
  (∀ i, subs.length ≤ i → i < acc.2.length → ∃ j', j' < j ∧ acc.1[j']? = some (i : Int))

theorem get_place {g : Nat} : ∀ {l : List Nat}, g ∈ l → l[place g l]? = some g
  | x :: l, h => by
    unfold place
    rw [List.findIdx_cons]
    by_cases e : x = g
    · subst e; simp
    · have e2 : (x == g) = false := by simpa using e
      rw [e2]
      simp only [cond_false, List.getElem?_cons_succ]
      exact get_place (by rcases List.mem_cons.mp h with h | h; exact absurd h.symm e; exact h)

theorem foldInv (rows : List (List Int)) (n mask : Nat) (subs : List Nat) (h1 : subs.Nodup) (h2 : ∀ x ∈ subs, x < 2 ^ n) : ∀ j, FoldInv rows n mask subs j ((List.range j).foldl (stepNum rows n mask) ([], subs))
  | 0 => ⟨rfl, h1, h2, ⟨[], by simp⟩, fun j' h => by (with_reducible exact (o_z (by assumption)).elim), fun i a b => by simp at b; omega⟩
  | j + 1 => by
    rw [fold_succ]
    have H := foldInv rows n mask subs h1 h2 j
    generalize (List.range j).foldl (stepNum rows n mask) ([], subs) = q at H
    obtain ⟨r, m⟩ := q
    obtain ⟨a, b, c, ⟨more, d⟩, e, f⟩ := H
    dsimp only at a b c d e f
    unfold stepNum
    dsimp only
    have old : ∀ (x : Int) j', j' < j → (r ++ [x])[j']? = r[j']? := fun x j' h => List.getElem?_append_left (by with_reducible exact o_le (by assumption) (by assumption))
    have new : ∀ (x : Int), (r ++ [x])[j]? = some x := fun x => by rw [List.getElem?_append_right (by omega)]; simp [a]
    by_cases g0 : goalM rows n j mask = 0
    · rw [if_pos g0]
      refine ⟨by simp [a], b, c, ⟨more, d⟩, fun j' h => ?_, fun i u v => ?_⟩
      · by_cases hj : j' = j
        · subst hj; exact .inl ⟨new _, g0⟩
        · have := e j' (by omega); dsimp only; rwa [old _ _ (by omega)]
      · obtain ⟨j', x, y⟩ := f i u v
        exact ⟨j', by (with_reducible exact Nat.lt_succ_of_lt (by assumption)), by dsimp only; rw [old _ _ x]; exact y⟩
    · rw [if_neg g0]
      by_cases hm : goalM rows n j mask ∈ m
      · rw [if_pos hm]
        refine ⟨by simp [a], b, c, ⟨more, d⟩, fun j' h => ?_, fun i u v => ?_⟩
        · by_cases hj : j' = j
          · subst hj; exact .inr ⟨_, new _, get_place hm, g0⟩
          · have := e j' (by omega); dsimp only; rwa [old _ _ (by omega)]
        · obtain ⟨j', x, y⟩ := f i u v
          exact ⟨j', by (with_reducible exact Nat.lt_succ_of_lt (by assumption)), by dsimp only; rw [old _ _ x]; exact y⟩
      · rw [if_neg hm]
        have oldm : ∀ i x, m[i]? = some x → (m ++ [goalM rows n j mask])[i]? = some x := fun i x h => by
          rw [List.getElem?_append_left]; exact h
          exact (List.getElem?_eq_some_iff.mp h).1
        have newm : (m ++ [goalM rows n j mask])[m.length]? = some (goalM rows n j mask) := by simp
        refine ⟨by simp [a], ?_, ?_, ⟨more ++ [goalM rows n j mask], by dsimp only; rw [d, List.append_assoc]⟩, fun j' h => ?_, fun i u v => ?_⟩
        · rw [List.nodup_append]
          refine ⟨b, by simp, fun x hx y hy => ?_⟩
          simp only [List.mem_singleton] at hy
          rintro rfl
          exact hm (hy ▸ hx)
        · intro x hx
          rcases List.mem_append.mp hx with h | h
          · exact c x h
          · rw [List.mem_singleton.mp h]; exact goalM_lt rows n j mask
        · by_cases hj : j' = j
          · subst hj; exact .inr ⟨_, new _, newm, g0⟩
          · dsimp only
            rw [old _ _ (by omega)]
            rcases e j' (by omega) with ⟨x, y⟩ | ⟨i', x, y, z⟩
            · exact .inl ⟨x, y⟩
            · exact .inr ⟨i', x, oldm _ _ y, z⟩
        · dsimp only at v ⊢
          simp only [List.length_append, List.length_singleton] at v
          by_cases hi : i = m.length
          · exact ⟨j, by (with_reducible exact Nat.lt_succ_self _), by rw [new, hi]⟩
          · obtain ⟨j', x, y⟩ := f i u (by omega)
            exact ⟨j', by (with_reducible exact Nat.lt_succ_of_lt (by assumption)), by rw [old _ _ x]; exact y⟩

def RowOk (rows : List (List Int)) (n k : Nat) (subs : List Nat) (r tg : List Int) (mask : Nat) : Prop :=
  r.length = k ∧ tg = (if mask % 2 = 1 then [0] else []) ∧ ∀ j, j < k → (r[j]? = some (-1) ∧ goalM rows n j mask = 0) ∨ ∃ i' : Nat, r[j]? = some (i' : Int) ∧ subs[i']? = some (goalM rows n j mask) ∧ goalM rows n j mask ≠ 0

structure RunInv (rows tags : List (List Int)) (n k : Nat) (st : TS) : Prop where
  nd : st.subsets.Nodup
  lt : ∀ x ∈ st.subsets, x < 2 ^ n
  beg : st.subsets[0]? = some (begM tags n)
  tl : st.tags.length = st.rows.length
  le : st.rows.length ≤ st.subsets.length
  row : ∀ i, i < st.rows.length → ∃ r tg mask, st.rows[i]? = some r ∧ st.tags[i]? = some tg ∧ st.subsets[i]? = some mask ∧ RowOk rows n k st.subsets r tg mask
  via : ∀ i, 1 ≤ i → i < st.subsets.length → ∃ i' j r, i' < i ∧ st.rows[i']? = some r ∧ j < k ∧ r[j]? = some (i : Int)

theorem stepInv {rows tags : List (List Int)} {n k : Nat} {st : TS} (H : RunInv rows tags n k st) (h : st.rows.length < st.subsets.length) : RunInv rows tags n k (stepT rows n k st) := by
  obtain ⟨mask, hmask⟩ : ∃ mask, st.subsets[st.rows.length]? = some mask := ⟨_, List.getElem?_eq_getElem h⟩
  have hstep : stepT rows n k st = ⟨((List.range k).foldl (stepNum rows n mask) ([], st.subsets)).2, st.rows ++ [((List.range k).foldl (stepNum rows n mask) ([], st.subsets)).1], st.tags ++ [if mask % 2 = 1 then [0] else []]⟩ := by
    have : st.subsets.getD st.rows.length 0 = mask := by simp [hmask]
    unfold stepT
    rw [this]
  have F := foldInv rows n mask st.subsets H.nd H.lt k
  rw [hstep]
  generalize (List.range k).foldl (stepNum rows n mask) ([], st.subsets) = q at F
  obtain ⟨r, m⟩ := q
  obtain ⟨a, b, c, ⟨more, d⟩, e, f⟩ := F
  dsimp only at a b c d e f
  have oldm : ∀ i x, st.subsets[i]? = some x → m[i]? = some x := fun i x h => by
    rw [d, List.getElem?_append_left]; exact h
    exact (List.getElem?_eq_some_iff.mp h).1
  have hml : st.subsets.length ≤ m.length := by rw [d]; simp
  refine ⟨b, c, oldm _ _ H.beg, by simp [H.tl], by simp; omega, fun i hi => ?_, fun i h1 h2 => ?_⟩
  · simp only [List.length_append, List.length_singleton] at hi
    by_cases hi2 : i = st.rows.length
    · subst hi2
      refine ⟨r, _, mask, by simp, ?_, oldm _ _ hmask, a, rfl, e⟩
      dsimp only
      rw [← H.tl]; simp
    · obtain ⟨r', tg, mk, h1, h2, h3, h4, h5, h6⟩ := H.row i (by omega)
      refine ⟨r', tg, mk, ?_, ?_, oldm _ _ h3, h4, h5, fun j hj => ?_⟩
      · dsimp only; rw [List.getElem?_append_left (by omega)]; exact h1
      · dsimp only; rw [List.getElem?_append_left (by rw [H.tl]; omega)]; exact h2
      · rcases h6 j hj with h | ⟨i', x, y, z⟩
        · exact .inl h
        · exact .inr ⟨i', x, oldm _ _ y, z⟩
  · dsimp only at h2 ⊢
    by_cases hi : i < st.subsets.length
    · obtain ⟨i', j, r', x, y, z⟩ := H.via i h1 hi
      refine ⟨i', j, r', x, ?_, z⟩
      rw [List.getElem?_append_left]; exact y
      exact (List.getElem?_eq_some_iff.mp y).1
    · obtain ⟨j', x, y⟩ := f i (by omega) h2
      exact ⟨st.rows.length, j', r, by omega, by simp, x, y⟩

theorem runInv {rows tags : List (List Int)} {n k : Nat} : ∀ (fuel : Nat) {st : TS}, RunInv rows tags n k st → 2 ^ n ≤ fuel + st.rows.length → RunInv rows tags n k (runT rows n k fuel st) ∧ (runT rows n k fuel st).rows.length = (runT rows n k fuel st).subsets.length
  | 0, st, H, h => by
    refine ⟨H, ?_⟩
    have := nodup_lt _ _ H.nd H.lt
    have := H.le
    show st.rows.length = st.subsets.length
    omega
  | fuel + 1, st, H, h => by
    unfold runT
    by_cases hlt : st.rows.length < st.subsets.length
    · rw [if_pos hlt]
      refine runInv fuel (stepInv H hlt) ?_
      have : (stepT rows n k st).rows.length = st.rows.length + 1 := by unfold stepT; simp
      omega
    · rw [if_neg hlt]
      have := H.le
      exact ⟨H, by omega⟩

/-- all that is so of the turned automaton -/
structure TurnInv (rows tags : List (List Int)) (n k : Nat) (T : TS) : Prop extends RunInv rows tags n k T where
  full : T.rows.length = T.subsets.length
theorem turnInv {rows tags : List (List Int)} {n k : Nat} (H : AOk rows tags n k) : TurnInv rows tags n k (turnedS rows tags) := by
  have h0 : (rows.getD 0 []).length = k := by
    cases rows with
    | nil => have := H.len; have := H.one; simp at *; omega
    | cons r rs => exact H.wid _ (.head _)
  unfold turnedS
  rw [H.len, h0]
  have I0 : RunInv rows tags n k ⟨[begM tags n], [], []⟩ := ⟨by simp, fun x hx => by rw [List.mem_singleton.mp hx]; exact begM_lt tags n, rfl, rfl, by simp, fun i h => by simp at h, fun i h1 h2 => by simp at h2; omega⟩
  obtain ⟨a, b⟩ := runInv (2 ^ n) I0 (by simp)
  exact ⟨a, b⟩

theorem getD_of {α : Type} {l : List α} {i : Nat} {x d : α} (h : l[i]? = some x) : l.getD i d = x := by simp [h]

theorem TurnInv.ent {rows tags : List (List Int)} {n k : Nat} {T : TS} (H : TurnInv rows tags n k T) {i j mask : Nat} (hm : T.subsets[i]? = some mask) (hj : j < k) :
    (entry T.rows i j = -1 ∧ goalM rows n j mask = 0) ∨ ∃ i' : Nat, entry T.rows i j = i' ∧ T.subsets[i']? = some (goalM rows n j mask) ∧ goalM rows n j mask ≠ 0 := by
  obtain ⟨r, tg, mk, h1, h2, h3, h4, h5, h6⟩ := H.row i (by rw [H.full]; exact (List.getElem?_eq_some_iff.mp hm).1)
  rw [hm] at h3; cases h3
  unfold entry
  rw [getD_of h1]
  rcases h6 j hj with ⟨x, y⟩ | ⟨i', x, y, z⟩
  · exact .inl ⟨getD_of x, y⟩
  · exact .inr ⟨i', getD_of x, y, z⟩

theorem TurnInv.ok {rows tags : List (List Int)} {n k : Nat} {T : TS} (H : TurnInv rows tags n k T) : AOk T.rows T.tags T.rows.length k ∧ T.rows.length ≤ 2 ^ n := by
  refine ⟨⟨rfl, ?_, H.tl, fun tg ht => ?_, fun r hr => ?_, fun st num h1 h2 => ?_⟩, ?_⟩
  · rw [H.full]; exact Nat.lt_of_le_of_lt (Nat.zero_le _) (List.getElem?_eq_some_iff.mp H.beg).1
  · obtain ⟨i, hi⟩ := List.getElem?_of_mem ht
    obtain ⟨r, tg', mk, h1, h2, h3, h4, h5, h6⟩ := H.row i (by rw [← H.tl]; exact (List.getElem?_eq_some_iff.mp hi).1)
    rw [hi] at h2; cases h2
    rw [h5]; split
    · exact .inr rfl
    · exact .inl rfl
  · obtain ⟨i, hi⟩ := List.getElem?_of_mem hr
    obtain ⟨r', tg', mk, h1, h2, h3, h4, h5, h6⟩ := H.row i (List.getElem?_eq_some_iff.mp hi).1
    rw [hi] at h1; cases h1; exact h4
  · obtain ⟨mask, hm⟩ : ∃ mask, T.subsets[st]? = some mask := ⟨_, List.getElem?_eq_getElem (by rw [← H.full]; exact h1)⟩
    rcases H.ent hm h2 with ⟨x, _⟩ | ⟨i', x, y, _⟩
    · exact .inl x
    · exact .inr ⟨i', by rw [H.full]; exact (List.getElem?_eq_some_iff.mp y).1, x⟩
  · rw [H.full]; exact nodup_lt _ _ H.nd H.lt
end
section
open PySem PyProof.Rows

def takesFrom (rows tags : List (List Int)) : Nat → List Nat → Bool
  | q, [] => decide (tags.getD q [] ≠ [])
  | q, a :: w => if entry rows q a < 0 then false else takesFrom rows tags (entry rows q a).toNat w
/-- there is a way from q to g by the word -/
def Way (rows : List (List Int)) : Nat → List Nat → Nat → Prop
  | q, [], g => q = g
  | q, a :: w, g => ∃ q' : Nat, entry rows q a = (q' : Int) ∧ Way rows q' w g

theorem Way.snoc {rows : List (List Int)} : ∀ {w : List Nat} {q g a : Nat}, Way rows q (w ++ [a]) g ↔ ∃ m, Way rows q w m ∧ entry rows m a = (g : Int)
  | [], q, g, a => by
    simp only [List.nil_append, Way]
    constructor
    · rintro ⟨q', h, rfl⟩; exact ⟨q, rfl, h⟩
    · rintro ⟨m, rfl, h⟩; exact ⟨g, h, rfl⟩
  | b :: w, q, g, a => by
    simp only [List.cons_append, Way, Way.snoc (w := w)]
    constructor
    · rintro ⟨q', h, m, x, y⟩; exact ⟨m, ⟨q', h, x⟩, y⟩
    · rintro ⟨m, ⟨q', h, x⟩, y⟩; exact ⟨q', h, m, x, y⟩

theorem takes_iff {rows tags : List (List Int)} {n k : Nat} (H : AOk rows tags n k) : ∀ {w : List Nat} {q : Nat}, (∀ a ∈ w, a < k) → q < n → (takesFrom rows tags q w = true ↔ ∃ g, Way rows q w g ∧ g < n ∧ tags.getD g [] ≠ [])
  | [], q, hw, hq => by
    simp only [takesFrom, Way, decide_eq_true_eq]
    constructor
    · intro h; exact ⟨q, rfl, hq, h⟩
    · rintro ⟨g, rfl, _, h⟩; exact h
  | a :: w, q, hw, hq => by
    have ha := hw a (.head _)
    rw [takesFrom]
    rcases H.ent q a hq ha with e | ⟨g, hg, e⟩
    · rw [e, if_pos (by decide)]
      simp only [Way, e]
      constructor
      · intro h; cases h
      · rintro ⟨g, ⟨q', h, _⟩, _⟩; omega
    · rw [e, if_neg (by omega), Int.toNat_natCast, takes_iff H (fun b hb => hw b (.tail _ hb)) hg]
      simp only [Way, e]
      constructor
      · rintro ⟨g', h, r⟩; exact ⟨g', ⟨g, rfl, h⟩, r⟩
      · rintro ⟨g', ⟨q', h, h2⟩, r⟩
        have : g = q' := by omega
        subst this; exact ⟨g', h2, r⟩

theorem testBit_backM (rows : List (List Int)) (num g q : Nat) : ∀ i, (backM rows num g i).testBit q = true ↔ q < i ∧ entry rows q num = (g : Int)
  | 0 => by simp [backM]
  | i + 1 => by
    rw [backM, Nat.testBit_or, Bool.or_eq_true, testBit_backM rows num g q i]
    constructor
    · rintro (⟨h1, h2⟩ | h)
      · exact ⟨by (with_reducible exact Nat.lt_succ_of_lt (by assumption)), h2⟩
      · split at h
        · rename_i he
          rw [Nat.testBit_two_pow] at h
          have := of_decide_eq_true h
          subst this
          exact ⟨by (with_reducible exact Nat.lt_succ_self _), he⟩
        · simp at h
    · rintro ⟨h1, h2⟩
      by_cases hq : q = i
      · subst hq
        right; rw [if_pos h2, Nat.testBit_two_pow]; simp
      · left; exact ⟨by omega, h2⟩
theorem testBit_begM (tags : List (List Int)) (q : Nat) : ∀ i, (begM tags i).testBit q = true ↔ q < i ∧ tags.getD q [] ≠ []
  | 0 => by simp [begM]
  | i + 1 => by
    rw [begM, Nat.testBit_or, Bool.or_eq_true, testBit_begM tags q i]
    constructor
    · rintro (⟨h1, h2⟩ | h)
      · exact ⟨by (with_reducible exact Nat.lt_succ_of_lt (by assumption)), h2⟩
      · split at h
        · simp at h
        · rename_i he
          rw [Nat.testBit_two_pow] at h
          have := of_decide_eq_true h
          subst this
          exact ⟨by (with_reducible exact Nat.lt_succ_self _), he⟩
    · rintro ⟨h1, h2⟩
      by_cases hq : q = i
      · subst hq
        right; rw [if_neg h2, Nat.testBit_two_pow]; simp
      · left; exact ⟨by omega, h2⟩
theorem testBit_fold (f : Int → Nat) (q : Nat) : ∀ (l : List Int) (acc : Nat), (l.foldl (fun acc st => acc ||| f st) acc).testBit q = true ↔ acc.testBit q = true ∨ ∃ x ∈ l, (f x).testBit q = true
  | [], acc => by simp
  | x :: l, acc => by
    rw [List.foldl_cons, testBit_fold f q l, Nat.testBit_or, Bool.or_eq_true]
    simp only [List.mem_cons, exists_eq_or_imp, or_assoc]
theorem testBit_goalM (rows : List (List Int)) (n num mask q : Nat) (hm : mask < 2 ^ 64) : (goalM rows n num mask).testBit q = true ↔ q < n ∧ ∃ g : Nat, mask.testBit g = true ∧ entry rows q num = (g : Int) := by
  unfold goalM
  rw [testBit_fold]
  simp only [Nat.zero_testBit, Bool.false_eq_true, false_or]
  constructor
  · rintro ⟨x, hx, hb⟩
    obtain ⟨j, rfl, hj⟩ := (mem_bitsFrom 64 mask 0 hm x).mp hx
    rw [testBit_backM] at hb
    simp only [Nat.zero_add, Int.toNat_natCast] at hb
    exact ⟨hb.1, j, hj, hb.2⟩
  · rintro ⟨hq, g, hg, he⟩
    refine ⟨(g : Int), (mem_bitsFrom 64 mask 0 hm _).mpr ⟨g, by simp, hg⟩, ?_⟩
    rw [testBit_backM]; simpa using ⟨hq, he⟩

theorem odd_iff (m : Nat) : m % 2 = 1 ↔ m.testBit 0 = true := by rw [Nat.testBit_zero]; simp

/-- the words of the turned automaton, from any of its states -/
theorem turned_takes {rows tags : List (List Int)} {n k : Nat} (H : AOk rows tags n k) (hn : n ≤ 60) {T : TS} (HT : TurnInv rows tags n k T) : ∀ {w : List Nat} {i mask : Nat}, (∀ a ∈ w, a < k) → T.subsets[i]? = some mask →
    (takesFrom T.rows T.tags i w = true ↔ ∃ g, mask.testBit g = true ∧ Way rows 0 w.reverse g)
  | [], i, mask, hw, hi => by
    obtain ⟨r, tg, mk, h1, h2, h3, h4, h5, h6⟩ := HT.row i (by rw [HT.full]; exact (List.getElem?_eq_some_iff.mp hi).1)
    rw [hi] at h3; cases h3
    simp only [takesFrom, decide_eq_true_eq, getD_of h2, h5, List.reverse_nil, Way]
    constructor
    · intro h
      split at h
      · rename_i ho; exact ⟨0, (odd_iff _).mp ho, rfl⟩
      · exact absurd rfl h
    · rintro ⟨g, hg, rfl⟩
      rw [if_pos ((odd_iff _).mpr hg)]; simp
  | a :: w, i, mask, hw, hi => by
    have ha := hw a (.head _)
    have hlt : mask < 2 ^ n := HT.lt _ (List.mem_of_getElem? hi)
    have hlt64 : mask < 2 ^ 64 := Nat.lt_of_lt_of_le hlt (Nat.pow_le_pow_right (by decide) (by with_reducible exact Nat.le_trans (by assumption) (by decide)))
    have hbit : ∀ q, (goalM rows n a mask).testBit q = true ↔ q < n ∧ ∃ g : Nat, mask.testBit g = true ∧ entry rows q a = (g : Int) := fun q => testBit_goalM rows n a mask q hlt64
    have way_lt : ∀ {w : List Nat} {q m : Nat}, q < n → (∀ a ∈ w, a < k) → Way rows q w m → m < n := by
      intro w
      induction w with
      | nil => intro q m hq _ h; have h' : q = m := h; omega
      | cons b w ih =>
        rintro q m hq hw ⟨q', e, h⟩
        refine ih ?_ (fun c hc => hw c (.tail _ hc)) h
        rcases H.ent q b hq (hw b (.head _)) with x | ⟨g, x, y⟩ <;> omega
    have hw' : ∀ b ∈ w.reverse, b < k := fun b hb => hw b (.tail _ (List.mem_reverse.mp hb))
    rw [takesFrom, List.reverse_cons]
    simp only [Way.snoc]
    rcases HT.ent hi ha with ⟨e, g0⟩ | ⟨i', e, hs, g0⟩
    · rw [e, if_pos (by decide)]
      constructor
      · intro h; cases h
      · rintro ⟨g, hg, m, hm, he⟩
        have := (hbit m).mpr ⟨way_lt H.one hw' hm, g, hg, he⟩
        rw [g0] at this; simp at this
    · rw [e, if_neg (by omega), Int.toNat_natCast, turned_takes H hn HT (fun b hb => hw b (.tail _ hb)) hs]
      constructor
      · rintro ⟨g, hg, hway⟩
        obtain ⟨_, g', hg', he⟩ := (hbit g).mp hg
        exact ⟨g', hg', g, hway, he⟩
      · rintro ⟨g, hg, m, hm, he⟩
        exact ⟨m, (hbit m).mpr ⟨way_lt H.one hw' hm, g, hg, he⟩, hm⟩

theorem turned_words {rows tags : List (List Int)} {n k : Nat} (H : AOk rows tags n k) (hn : n ≤ 60) {w : List Nat} (hw : ∀ a ∈ w, a < k) :
    takesFrom (turnedS rows tags).rows (turnedS rows tags).tags 0 w = takesFrom rows tags 0 w.reverse := by
  have HT := turnInv H
  rw [Bool.eq_iff_iff, turned_takes H hn HT hw HT.beg, takes_iff H (fun a ha => hw a (List.mem_reverse.mp ha)) H.one]
  simp only [testBit_begM]
  constructor
  · rintro ⟨g, h1, h2⟩; exact ⟨g, h2, h1⟩
  · rintro ⟨g, h2, h1⟩; exact ⟨g, h1, h2⟩

/-- every state of the turned automaton is in a set that holds the first and is closed -/
theorem turned_all {rows tags : List (List Int)} {n k : Nat} {T : TS} (HT : TurnInv rows tags n k T) (found : List Nat) (h0 : 0 ∈ found)
    (hc : ∀ q ∈ found, ∀ r, T.rows[q]? = some r → ∀ g : Nat, (g : Int) ∈ r → g ∈ found) : ∀ i, i < T.subsets.length → i ∈ found := by
  intro i
  induction i using Nat.strongRecOn with
  | ind i ih =>
    intro hi
    by_cases hz : i = 0
    · subst hz; exact h0
    · obtain ⟨i', j, r, x, y, z, u⟩ := HT.via i (by omega) hi
      exact hc i' (ih i' x (by with_reducible exact Nat.lt_trans (by assumption) (by assumption))) r y i (List.mem_of_getElem? u)

/-- where every state can be reached, two states of the turned automaton differ by a word -/
theorem turned_apart {rows tags : List (List Int)} {n k : Nat} (H : AOk rows tags n k) (hn : n ≤ 60) {T : TS} (HT : TurnInv rows tags n k T) (hall : ∀ q, q < n → ∃ w, (∀ a ∈ w, a < k) ∧ Way rows 0 w q)
    {i i' : Nat} (hi : i < T.subsets.length) (hi' : i' < T.subsets.length) (hne : i ≠ i') : ∃ w, (∀ a ∈ w, a < k) ∧ takesFrom T.rows T.tags i w ≠ takesFrom T.rows T.tags i' w := by
  obtain ⟨m, hm⟩ : ∃ m, T.subsets[i]? = some m := ⟨_, List.getElem?_eq_getElem hi⟩
  obtain ⟨m', hm'⟩ : ∃ m, T.subsets[i']? = some m := ⟨_, List.getElem?_eq_getElem hi'⟩
  have hmm : m ≠ m' := by
    rintro rfl
    have := (List.getElem?_inj hi HT.nd).mp (hm.trans hm'.symm)
    exact hne this
  obtain ⟨q, hq⟩ : ∃ q, m.testBit q ≠ m'.testBit q := by
    refine Classical.byContradiction fun h => hmm (Nat.eq_of_testBit_eq fun q => ?_)
    exact Classical.byContradiction fun h' => h ⟨q, h'⟩
  have hlt : m < 2 ^ n := HT.lt _ (List.mem_of_getElem? hm)
  have hlt' : m' < 2 ^ n := HT.lt _ (List.mem_of_getElem? hm')
  have hqn : q < n := by
    refine Classical.byContradiction fun h => hq ?_
    have e := Nat.pow_le_pow_right (n := 2) (by decide) (Nat.le_of_not_lt h)
    rw [Nat.testBit_lt_two_pow (by omega), Nat.testBit_lt_two_pow (by omega)]
  obtain ⟨u, hu, hway⟩ := hall q hqn
  have uniq : ∀ {w : List Nat} {q m m' : Nat}, Way rows q w m → Way rows q w m' → m = m' := by
    intro w
    induction w with
    | nil => intro q m m' h h'; have a : q = m := h; have b : q = m' := h'; omega
    | cons b w ih =>
      rintro q m m' ⟨x, e, h⟩ ⟨y, e', h'⟩
      have : x = y := by omega
      subst this; exact ih h h'
  have key : ∀ {j mask : Nat}, T.subsets[j]? = some mask → (takesFrom T.rows T.tags j u.reverse = true ↔ mask.testBit q = true) := fun {j mask} hj => by
    rw [turned_takes H hn HT (fun a ha => hu a (List.mem_reverse.mp ha)) hj, List.reverse_reverse]
    constructor
    · rintro ⟨g, hg, hw⟩; rw [← uniq hw hway]; exact hg
    · intro hb; exact ⟨q, hb, hway⟩
  refine ⟨u.reverse, fun a ha => hu a (List.mem_reverse.mp ha), fun he => hq ?_⟩
  rw [Bool.eq_iff_iff, ← key hm, ← key hm', he]
end
section
open PySem PyProof.Rows

def endI (tags : List (List Int)) (q : Int) : Bool := if q < 0 then false else decide (tags.getD q.toNat [] ≠ [])
def goI (rows : List (List Int)) (q : Int) (a : Nat) : Int := if q < 0 then -1 else entry rows q.toNat a
def mx (a b : Int) : Int := if b > a then b else a
def mn (a b : Int) : Int := if b < a then b else a
/-- the pair to which a pair goes by a class -/
def stp (rows : List (List Int)) (p : Nat) (q : Int) (a : Nat) : List Int := [mx (entry rows p a) (goI rows q a), mn (entry rows p a) (goI rows q a)]
def Dom (n p : Nat) (q : Int) : Prop := p < n ∧ -1 ≤ q ∧ q < (p : Int)
def KeyDom (n : Nat) (ks : List Int) : Prop := ∃ (p : Nat) (q : Int), ks = [(p : Int), q] ∧ Dom n p q
/-- a table that nothing can be added to -/
structure Fix (rows tags : List (List Int)) (n k : Nat) (keys : List (List Int)) : Prop where
  ini : ∀ p q, Dom n p q → endI tags p ≠ endI tags q → [(p : Int), q] ∈ keys
  clo : ∀ p q, Dom n p q → [(p : Int), q] ∉ keys → ∀ a, a < k → stp rows p q a ∉ keys

def takesI (rows tags : List (List Int)) (q : Int) (w : List Nat) : Bool := if q < 0 then false else takesFrom rows tags q.toNat w

theorem takesI_cons {rows tags : List (List Int)} (q : Int) (a : Nat) (w : List Nat) : takesI rows tags q (a :: w) = takesI rows tags (goI rows q a) w := by
  unfold takesI goI
  by_cases h : q < 0
  · simp [h]
  · rw [if_neg h, if_neg h, takesFrom]
theorem takesI_nil {rows tags : List (List Int)} (q : Int) : takesI rows tags q [] = endI tags q := by
  unfold takesI endI; rfl

theorem mxmn (g1 g2 : Int) (h : g1 ≠ g2) : (g2 < g1 ∧ mx g1 g2 = g1 ∧ mn g1 g2 = g2) ∨ (g1 < g2 ∧ mx g1 g2 = g2 ∧ mn g1 g2 = g1) := by
  unfold mx mn
  split <;> split <;> omega
theorem Dom.of {n : Nat} {a b : Int} (h1 : a < n) (h2 : -1 ≤ b) (h3 : b < a) : ∃ p : Nat, a = p ∧ Dom n p b := ⟨a.toNat, by omega, by omega, h2, by omega⟩
theorem go_nat {rows : List (List Int)} {p a : Nat} : goI rows (p : Int) a = entry rows p a := by unfold goI; rw [if_neg (by omega), Int.toNat_natCast]
theorem ent_rng {rows tags : List (List Int)} {n k : Nat} (H : AOk rows tags n k) {p a : Nat} (hp : p < n) (ha : a < k) : -1 ≤ entry rows p a ∧ entry rows p a < n := by
  rcases H.ent p a hp ha with h | ⟨g', h1, h2⟩ <;> omega
theorem go_rng {rows tags : List (List Int)} {n k : Nat} (H : AOk rows tags n k) {q : Int} {a : Nat} (hq : q < n) (ha : a < k) : -1 ≤ goI rows q a ∧ goI rows q a < n := by
  unfold goI
  split
  · omega
  · exact ent_rng H (by omega) ha
theorem Fix.same {rows tags : List (List Int)} {n k : Nat} {keys : List (List Int)} (F : Fix rows tags n k keys) (H : AOk rows tags n k) : ∀ (w : List Nat) (p : Nat) (q : Int), (∀ a ∈ w, a < k) → Dom n p q → [(p : Int), q] ∉ keys → takesI rows tags p w = takesI rows tags q w
  | [], p, q, _, hd, hn => by
    rw [takesI_nil, takesI_nil]
    exact Classical.byContradiction fun h => hn (F.ini p q hd h)
  | a :: w, p, q, hw, hd, hn => by
    have ha := hw a (.head _)
    have hw' : ∀ b ∈ w, b < k := fun b hb => hw b (.tail _ hb)
    rw [takesI_cons, takesI_cons, go_nat]
    have hs := F.clo p q hd hn a ha
    have r1 := ent_rng H hd.1 ha
    have r2 := go_rng H (Int.lt_trans hd.2.2 (Int.ofNat_lt.mpr hd.1)) ha
    unfold stp at hs
    by_cases heq : entry rows p a = goI rows q a
    · rw [heq]
    · rcases mxmn _ _ heq with ⟨hlt, m1, m2⟩ | ⟨hlt, m1, m2⟩
      · obtain ⟨p', hp', hD⟩ := Dom.of r1.2 r2.1 hlt
        rw [m1, m2, hp'] at hs
        rw [hp']
        exact F.same H w p' _ hw' hD hs
      · obtain ⟨p', hp', hD⟩ := Dom.of r2.2 r1.1 hlt
        rw [m1, m2, hp'] at hs
        rw [hp']
        exact (F.same H w p' _ hw' hD hs).symm

/-- two states that a word tells apart are in the table -/
theorem Fix.apart {rows tags : List (List Int)} {n k : Nat} {keys : List (List Int)} (F : Fix rows tags n k keys) (H : AOk rows tags n k) {p q : Nat} (hp : p < n) (hq : q < p) {w : List Nat} (hw : ∀ a ∈ w, a < k)
    (h : takesFrom rows tags p w ≠ takesFrom rows tags q w) : [(p : Int), (q : Int)] ∈ keys := by
  refine Classical.byContradiction fun hn => h ?_
  have := F.same H w p q hw ⟨hp, by omega, by (with_reducible exact o_lc (by assumption))⟩ hn
  unfold takesI at this
  rw [if_neg (by omega), if_neg (by omega), Int.toNat_natCast, Int.toNat_natCast] at this
  exact this

/-- a table of such pairs is short -/
theorem keys_short {n : Nat} (hn : n ≤ 16) {keys : List (List Int)} (hnd : keys.Nodup) (hd : ∀ ks ∈ keys, KeyDom n ks) : keys.length ≤ 512 := by
  have : (keys.map (fun ks => (ks.getD 0 0).toNat * 32 + (ks.getD 1 0 + 1).toNat)).length ≤ 512 := by
    refine nodup_lt 512 _ ?_ ?_
    · rw [List.nodup_iff_pairwise_ne] at hnd ⊢
      refine List.pairwise_map.mpr (hnd.imp_of_mem fun {a b} ha hb hne => ?_)
      obtain ⟨p, q, rfl, d1, d2, d3⟩ := hd a ha
      obtain ⟨p', q', rfl, e1, e2, e3⟩ := hd b hb
      simp only [List.getD_cons_zero, List.getD_cons_succ, Int.toNat_natCast]
      intro h
      refine hne ?_
      have h1 : p = p' := by omega
      have h2 : q = q' := by omega
      rw [h1, h2]
    · intro x hx
      obtain ⟨ks, hk, rfl⟩ := List.mem_map.mp hx
      obtain ⟨p, q, rfl, d1, d2, d3⟩ := hd ks hk
      simp only [List.getD_cons_zero, List.getD_cons_succ, Int.toNat_natCast]
      omega
  simpa using this

/-- what the pairs before p, q, and of p, q the classes below j, have shown -/
def Done (rows : List (List Int)) (n k : Nat) (ky : List (List Int)) (p : Nat) (q : Int) : Prop :=
  ∀ p' q', Dom n p' q' → (p' < p ∨ (p' = p ∧ q' < q)) → [(p' : Int), q'] ∉ ky → ∀ a, a < k → stp rows p' q' a ∉ ky

theorem Done.next {rows : List (List Int)} {n k : Nat} {ky : List (List Int)} {p : Nat} {q : Int} (h : Done rows n k ky p q) (h' : [(p : Int), q] ∉ ky → ∀ a, a < k → stp rows p q a ∉ ky) : Done rows n k ky p (q + 1) := by
  intro p' q' hd ho hn a ha
  by_cases e : p' = p ∧ q' = q
  · obtain ⟨rfl, rfl⟩ := e; exact h' hn a ha
  · refine h p' q' hd ?_ hn a ha
    rcases ho with h1 | ⟨h1, h2⟩
    · exact .inl h1
    · refine .inr ⟨h1, ?_⟩
      have : q' ≠ q := fun e2 => e ⟨h1, e2⟩
      omega
theorem Done.row {rows : List (List Int)} {n k : Nat} {ky : List (List Int)} {p : Nat} (h : Done rows n k ky p p) : Done rows n k ky (p + 1) (-1) := by
  intro p' q' hd ho hn a ha
  refine h p' q' hd ?_ hn a ha
  have := hd.2.2
  have := hd.2.1
  rcases ho with h1 | ⟨h1, h2⟩
  · by_cases e : p' = p
    · exact .inr ⟨e, by omega⟩
    · exact .inl (by omega)
  · omega
theorem Done.fix {rows tags : List (List Int)} {n k : Nat} {ky : List (List Int)} (h : Done rows n k ky n (-1)) (hi : ∀ p q, Dom n p q → endI tags p ≠ endI tags q → [(p : Int), q] ∈ ky) : Fix rows tags n k ky :=
  ⟨hi, fun p q hd hn a ha => h p q hd (.inl hd.1) hn a ha⟩
end
section
variable {prog : Program} {w : World} {A : Around} {E : Value → Shared → Prop} {env : Env}
variable {K : Frag} {h₀ : Base} {I I' : Imm} {L : Addr} {vars vars' : List (Str × Value)} {muts muts' : List (Addr × Cell)} {s₀ s s' : Shared}
variable {x : Str} {pos npos : Pos} {v : Value} {a b : Int} {t u : Tok} {Q : Value → Shared → Prop}

abbrev Tk (prog : Program) (w : World) : HeapKind prog w (List Int) := tupleKind (PySem.intKind prog w)
/-- a table with tuples of ints for keys -/
def cTab (prog : Program) (w : World) (xs : List (List Int × Addr × Value)) : Cell := fun o => ∃ es ep, o.ExactDict ∧ o.data = .dict es ep ∧ es.toList = xs.map (entryOfKey (Tk prog w)) ∧ (xs.map (·.1)).Nodup
/-- a finished tuple of ints at an address -/
def TKey (I : Imm) (ks : List Int) (a : Addr) : Prop := ∃ vs, IT I a vs ∧ IntsAre vs ks
theorem TKey.sub {ks : List Int} {a : Addr} (h : TKey I ks a) (s : Sub I I') : TKey I' ks a := let ⟨vs, t, i⟩ := h; ⟨vs, t.sub s, i⟩
theorem itemsAre {vs : List Value} {ks : List Int} (h : IntsAre vs ks) : PySem.ItemsAre (PySem.intKind prog w) ks vs := by
  induction h with
  | nil => exact .nil
  | cons n t _ ih => exact .cons (intKind_is _ _ _ _) ih
theorem TKey.is {ks : List Int} {a : Addr} (h : TKey I ks a) (S : St K h₀ I L vars muts s₀ s) : (Tk prog w).is s.heap ks a := by
  obtain ⟨vs, ⟨o, ho, hc, n, hd⟩, hi⟩ := h
  exact ⟨o, vs.toArray, n, (S.imm _ _ ho).1, hc, hd, by simpa using itemsAre hi⟩
def KeysIn (I : Imm) (xs : List (List Int × Addr × Value)) : Prop := ∀ x ∈ xs, TKey I x.1 x.2.1
theorem KeysIn.sub {xs : List (List Int × Addr × Value)} (h : KeysIn I xs) (s : Sub I I') : KeysIn I' xs := fun x hx => (h x hx).sub s
theorem St.tabOf {d : Addr} {xs : List (List Int × Addr × Value)} (S : St K h₀ I L vars muts s₀ s) (h : (d, cTab prog w xs) ∈ muts) (k : KeysIn I xs) : s.heap.DictOfH (Tk prog w) d xs := by
  obtain ⟨⟨o, e, es, ep, h1, h2, h3, h4⟩, _⟩ := S.cel _ h
  exact ⟨o, es, ep, e, h1, h2, h3, fun x hx => (k x hx).is S, h4⟩

theorem r_inT {d ka : Addr} {ks : List Int} {xs : List (List Int × Addr × Value)} (S : St K h₀ I L vars muts s₀ s) (hA : OkA 1 A) (hm : (d, cTab prog w xs) ∈ muts) (hx : KeysIn I xs) (hd : (d == sysModules) = false) (hk : TKey I ks ka)
    (h : ∀ s', St K h₀ I L vars muts s₀ s' → Q (.bool (atKey xs ks).isSome) s') : wpAny (model prog w) A (compareOp .In (.ref ka) (.ref d)) Q E s :=
  wpAny_in_heap (knd := Tk prog w) hA.cl1 (hk.is S) hd (S.tabOf hm hx) (h _ S.toks)
theorem r_notinT {d ka : Addr} {ks : List Int} {xs : List (List Int × Addr × Value)} (S : St K h₀ I L vars muts s₀ s) (hA : OkA 1 A) (hm : (d, cTab prog w xs) ∈ muts) (hx : KeysIn I xs) (hd : (d == sysModules) = false) (hk : TKey I ks ka)
    (h : ∀ s', St K h₀ I L vars muts s₀ s' → Q (.bool (!(atKey xs ks).isSome)) s') : wpAny (model prog w) A (compareOp .NotIn (.ref ka) (.ref d)) Q E s :=
  wpAny_notIn_heap (knd := Tk prog w) hA.cl1 (hk.is S) hd (S.tabOf hm hx) (h _ S.toks)
theorem r_setT {d ka : Addr} {ks : List Int} {xs : List (List Int × Addr × Value)} {Q : Unit → Shared → Prop} (S : St K h₀ I L vars ((d, cTab prog w xs) :: muts) s₀ s) (hA : OkA 1 A) (hx : KeysIn I xs) (hk : TKey I ks ka) (hsz : xs.length ≤ sizeLine)
    (h : ∀ s', St K h₀ I L vars ((d, cTab prog w (storedH xs ks ka v)) :: muts) s₀ s' → Q () s') : wpAny (model prog w) A (setItem (.ref d) (.ref ka) v) Q E s := by
  refine wpAny_setItem_heap (hsz := hsz) (knd := Tk prog w) hA.cl1 (hk.is S) (S.tabOf (.head _) hx) fun h' hm' hs => h _ ?_
  obtain ⟨o, es, ep, e, h1, h2, h3, _, h4⟩ := hm'
  exact S.upd (fun b o hb e => (hs.2 b hb).trans e) e ⟨es, ep, h1, h2, h3, h4⟩
theorem meetsH_len (d : Addr) (hd : (d == sysModules) = false) : MeetsIn prog w (Builtin.«dict.__len__» ⟨[.ref d], []⟩) (fun _ R s => ∃ xs : List (List Int × Addr × Value), s.heap.DictOfH (Tk prog w) d xs ∧
      R (.ok (.ret (.int xs.length s.toks))) { s with toks := s.toks + 1 }) :=
  .of_wp fun A R s ⟨xs, hm, hR⟩ => by
    obtain ⟨o, es, ep, ho, hc, hdat, he, his, hn⟩ := id hm
    show wpAny _ _ (dictSize d >>= _) _ _ s
    unfold dictSize
    refine wpAny_bind (wpAny_bind (wpAny_dictEntries ho hdat (wpAny_pure ?_)))
    show wpAny _ _ (Builtin.Dict.pendingCount d >>= _) _ _ s
    refine wpAny_bind (wpAny_pendingCount_other hd ?_)
    refine wpAny_ret_mkInt ?_
    have : es.size = xs.length := size_of_entries he
    rw [Nat.add_zero, this]; exact hR
theorem r_lenT {d : Addr} {xs : List (List Int × Addr × Value)} (S : St K h₀ I L vars muts s₀ s) (hm : (d, cTab prog w xs) ∈ muts) (hx : KeysIn I xs) (hd : (d == sysModules) = false) (hfit : xs.length ≤ sizeLine)
    (h : ∀ t s', St K h₀ I L vars muts s₀ s' → Q (.int xs.length t) s') : wpAny (model prog w) A (call (.builtin "len") [.ref d]) Q E s := by
  have hT := S.tabOf (prog := prog) (w := w) hm hx
  have hfit' : (xs.length : Int) < 2 ^ 63 := by rw [sizeLine_eq] at hfit; omega
  refine Calls.call_function_entry kind_len plain_len entry_len (args_len1 _) ?_
  unfold Builtin.«len»
  refine wpAny_bind (m := oneArg "len" _) (wpAny_pure ?_)
  refine wpAny_bind (m := callSpecial? (.ref d) (Str.ofString "__len__")) (wpAny_callSpecial?_slot (name := Str.ofString "__len__") hT.typeIs F.slot_dict_len
    (call_meetsIn F.slot_dict_len hT.typeIs F.entry_dict_len (F.args_dict_len_1 _) (meetsH_len d hd) ⟨xs, hT, ?_⟩))
  show wpAny _ _ _ _ _ { s with toks := s.toks + 1 }
  refine wpAny_bind (wpAny_holding (wpAny_pure ?_))
  refine wpAny_bind (wpAny_letGo ?_)
  show wpAny _ _ (if ((xs.length : Nat) : Int) < 0 then _ else _) _ _ _
  rw [if_neg (by omega)]
  show wpAny _ _ (if ((xs.length : Nat) : Int) ≥ 2 ^ 63 then _ else _) _ _ _
  rw [if_neg (by omega)]
  exact wpAny_bind (wpAny_mkInt (wpAny_pure ⟨_, rfl, h _ _ S.toks⟩))

/-- the pairs that a table is made of -/
def PairsAre (I : Imm) (vs : List Value) (xs : List (List Int × Addr × Value)) : Prop := All2 (fun v (x : List Int × Addr × Value) => ∃ p, v = .ref p ∧ IT I p [.ref x.2.1, x.2.2] ∧ TKey I x.1 x.2.1) vs xs

theorem plain_update_loop : plainId "dict.update.loop" = true := by decide +kernel
theorem entry_update_loop : entryFor table "dict.update.loop" = some Builtin.«dict.update.loop» := entryFor_of_tree (by kernel_rfl)

theorem update_loop {vs : List Value} {xs : List (List Int × Addr × Value)} {d it : Addr} {B : Imm} {c : Nat → Cell} {R : Result → Shared → Prop} (hA : OkA 1 A) (W : ItOk prog w A.in1 K h₀ B it vs.length (fun i v => vs[i]? = some v) c) (hB : Sub B I)
    (hxs : PairsAre I vs xs) (hn : (xs.map (·.1)).Nodup) (hsz : xs.length ≤ sizeLine)
    (h : ∀ s', St K h₀ I L vars ((d, cTab prog w xs) :: muts) s₀ s' → R (.ok (.ret .none)) s') : ∀ (k i : Nat) (tk : Tok) (s : Shared), vs.length - i = k → i ≤ vs.length → St K h₀ I L vars ((it, c i) :: (d, cTab prog w (xs.take i)) :: muts) s₀ s →
    codeAny (model prog w) A (.builtin "dict.update.loop" ⟨[.ref d, .ref it, .int i tk, .none], []⟩) R s := by
  intro k
  induction k with
  | zero =>
    intro i tk s hk hi S
    have hin : i = vs.length := by omega
    subst hin
    refine codeAny_builtin entry_update_loop ?_
    rw [Around.under_plainId plain_update_loop _]
    show wpAny _ A.in1 (pyNext (.ref it) >>= _) _ _ s
    refine wpAny_bind (W.done I L vars _ s₀ s _ _ hB S fun s' S' => ?_)
    refine wpAny_bind (wpAny_pure ?_)
    rw [hxs.length, List.take_length] at S'
    exact wpAny_pure (h s' S')
  | succ k ih =>
    intro i tk s hk hi S
    have hlt : i < vs.length := by omega
    refine codeAny_builtin entry_update_loop ?_
    rw [Around.under_plainId plain_update_loop _]
    show wpAny _ A.in1 (pyNext (.ref it) >>= _) _ _ s
    refine wpAny_bind (W.item i I L vars _ s₀ s _ _ hlt hB S fun v s' hP S' => ?_)
    obtain ⟨⟨ks, ka, y⟩, hx, p, rfl, hp, hk'⟩ := hxs.get hP
    dsimp only at hp hk' ⊢
    have hxi : xs.take (i + 1) = xs.take i ++ [(ks, ka, y)] := by rw [List.take_add_one, hx]; rfl
    have hfresh : atKey (xs.take i) ks = none := by
      refine atKey_none_of_get fun j q hj => ?_
      have hji : j < i := by
        have := (List.getElem?_eq_some_iff.mp hj).1
        rw [List.length_take] at this; omega
      rw [List.getElem?_take_of_lt hji] at hj
      have := idxH_unique hn hj hx
      omega
    have hkeys : KeysIn I (xs.take i) := fun x hx => by
      obtain ⟨j, hj⟩ := List.getElem?_of_mem (List.mem_of_mem_take hx)
      obtain ⟨v, _, _, _, _, h3⟩ := All2.at hxs hj
      exact h3
    have hT : s'.heap.IsTuple p #[.ref ka, y] := S'.tupI hp
    obtain ⟨op, hop, hopc, nn, hopd⟩ := hT
    refine wpAny_bind (wpAny_holding (wpAny_bind (wpAny_tryCatch ?_)))
    unfold Builtin.Dict.pairItems
    refine wpAny_bind (wpAny_typeOf (T := "tuple") ⟨op, hop, hopc⟩ ?_)
    rw [if_pos (by decide)]
    refine wpAny_bind (wpAny_seqItems hop hopd (wpAny_pure ?_))
    refine wpAny_holding ?_
    have S2 := S'.swap
    refine wpAny_dictSet_heap (knd := Tk prog w) (k := ks) (xs := xs.take i) (hsz := by rw [List.length_take]; omega) hA.cl1 (hk'.is S2) (S2.tabOf (.head _) hkeys) fun h' hm' hs => ?_
    obtain ⟨o, es, ep, e, h1, h2, h3, _, h4⟩ := hm'
    rw [storedH_new hfresh, ← hxi] at h3 h4
    have S3 := S2.upd (c' := cTab prog w (xs.take (i + 1))) (tk := s'.toks + (Tk prog w).draws ks) (fun b o hb e => (hs.2 b hb).trans e) e ⟨es, ep, h1, h2, h3, h4⟩
    refine wpAny_pure ⟨plainId_quiet plain_update_loop _, ?_⟩
    exact ih (i + 1) _ _ (by omega) hlt S3.swap

theorem keys_miss : typeLookup (.type "list") "keys" = pure none := am_miss_of_fast (by decide +kernel)
theorem no_keys {l : Addr} {o : Obj} {xs : Array Value} {k : Nat} {Q : Option Value → Shared → Prop} (hx : s.heap.get? l = some o) (hc : o.cls = .type "list") (hdat : o.data = .seq xs k) (hd : o.dict = none) (hA : A.handled = none)
    (h : ∀ h' tk, (∀ b o, s.heap.get? b = some o → h'.get? b = some o) → Q none { s with heap := h', toks := tk }) : wpAny (model prog w) A (getAttr? (.ref l) "keys") Q E s := by
  obtain ⟨c, dct, dat, sl⟩ := o
  simp only at hc hdat hd
  subst hc hdat hd
  obtain ⟨hp, g, d, tk, os⟩ := s
  have hT : ∀ tk', (⟨hp, g, d, tk', os⟩ : Shared).TypeIs (.ref l) "list" := fun _ => ⟨_, hx, rfl⟩
  have f1 := sub_AttributeError
  have f3 := F.slot_list_getattribute.lookup
  have f4 := F.slot_list_getattribute.bind (.ref l)
  have f5 := am_list_getattr_none
  unfold getAttr? getAttrBy? getAttrBy
  repeat (any_goals (first | assumption | exact hT _ | ((with_reducible show wpAny _ _ (call (Value.builtin "list.__getattribute__") _ _) _ _ _); refine call_meets F.slot_list_getattribute (hT _) am_entry_list_getattribute (F.args_list_getattribute_2 _ _) (meets_getattribute_miss_list l xs k sl "keys" _ keys_miss (by decide) (by size_fits)) ⟨hx, hA, fun h' tk' e hx' => ?_⟩) | wp_step))
  obtain ⟨t', u', he⟩ := hx'.there
  show wpAny _ _ (getattributeRaised _ _ _ _ _ _ _) _ _ _
  unfold getattributeRaised
  repeat (any_goals (first | assumption | wp_step))
  exact h _ _ hx'.keeps

/-- «dict(pairs)» -/
theorem r_dictPairs {l : Addr} {vs : List Value} {xs : List (List Int × Addr × Value)} (hA : OkA 4 A) (S : St K h₀ I L vars ((l, cList vs) :: muts) s₀ s) (hxs : PairsAre I vs xs) (hn : (xs.map (·.1)).Nodup) (hsz : xs.length ≤ sizeLine)
    (h : ∀ d I' s', (d == sysModules) = false → Sub I I' → St K h₀ I' L vars ((d, cTab prog w xs) :: muts) s₀ s' → Q (.ref d) s') : wpAny (model prog w) A (call (.type "dict") [.ref l]) Q E s := by
  refine callType_codes (Q₁ := fun obj s₁ => obj = .ref s.heap.objs.size ∧ s₁ = { s with heap := s.heap.push { cls := .type "dict", data := .dict #[] } }) F.kt_called_dict (F.kt_typeCall_dict_1 _) F.entry_dict_init (kt_code_dict_new _ ⟨rfl, rfl⟩) ?_
  rintro obj s₁ ⟨rfl, rfl⟩
  have hd := S.noMods (Nat.le_refl _)
  have S1 : St K h₀ I L vars ((s.heap.objs.size, cTab prog w []) :: (l, cList vs) :: muts) s₀ { s with heap := s.heap.push { cls := .type "dict", data := .dict #[] } } :=
    S.push (tk := s.toks) ⟨#[], 0, ⟨rfl, rfl, rfl⟩, rfl, rfl, List.nodup_nil⟩
  have hnew : (s.heap.push { cls := .type "dict", data := .dict #[] }).DictOfH (Tk prog w) s.heap.objs.size [] := Heap.DictOfH.new s.heap
  generalize s.heap.objs.size = D at *
  generalize s.heap.push { cls := .type "dict", data := .dict #[] } = h1 at *
  refine ⟨hnew.typeIs, F.args_dict_init_2 _ _, ?_⟩
  have S2 := S1.swap
  obtain ⟨o, ⟨n, rfl⟩, ho, S3⟩ := S2.freeze
  have hIL : IL (Add I l (LO vs n)) l vs := ⟨_, Add.here, rfl, n, rfl⟩
  unfold Builtin.«dict.__init__»
  refine wpAny_bind ?_
  unfold Builtin.Dict.selfAndRest
  refine wpAny_bind (wpAny_notOrdered_dict hnew.typeIs ?_)
  show wpAny _ _ (pure (D, [Value.ref l])) _ _ _
  refine wpAny_pure ?_
  show wpAny _ _ (Builtin.Dict.updateFrom "dict.__init__" D (.ref l) [] .none) _ _ _
  unfold Builtin.Dict.updateFrom
  refine wpAny_bind (wpAny_typeOf (T := "list") ⟨_, ho, rfl⟩ ?_)
  rw [if_pos (by decide)]
  refine wpAny_bind (no_keys ho rfl rfl rfl hA.hh fun h2 tk2 hk2 => ?_)
  have S4 := S3.ext (tk := tk2) hk2
  rw [if_pos (by decide)]
  refine wpAny_bind (wpAny_rule ?_)
  have hne : l ≠ h2.objs.size := Nat.ne_of_lt (Heap.lt_size (S4.imm _ _ Add.here).1)
  refine wpAny_bind (wpAny_pyIter_list (S4.lstI hIL) ?_)
  have S5 := S4.push (tk := tk2) (c := cIt "list_iterator" l 0) (o := { cls := .type "list_iterator", data := .fields #[.ref l, .int 0 0] }) ⟨rfl, rfl⟩
  refine wpAny_bind (wpAny_pure (wpAny_pure ⟨plainId_quiet plain_update_loop _, ?_⟩))
  refine update_loop (vs := vs) (xs := xs) (c := cIt "list_iterator" l) (B := One l (LO vs n)) ?_ (ItOk.list ?_ hne ⟨rfl, n, rfl⟩) (One.sub Add.here) (hxs.mono fun v x hx => ?_) hn hsz (fun s' S' => ⟨rfl, h D _ s' hd Sub.add S'⟩) vs.length 0 _ _ (by omega) (Nat.zero_le _) S5
  · exact (hA.le (by decide) : OkA 3 A).in1.le (by decide)
  · exact hA.hh
  · obtain ⟨p, e, h1, h2⟩ := hx
    exact ⟨p, e, h1.sub Sub.add, h2.sub Sub.add⟩
end
section
variable {prog : Program} {w : World} {A : Around} {E : Value → Shared → Prop} {env : Env}
variable {K : Frag} {h₀ : Base} {I I' : Imm} {L : Addr} {vars vars' : List (Str × Value)} {muts muts' : List (Addr × Cell)} {s₀ s s' : Shared}
variable {x : Str} {pos npos : Pos} {v : Value} {a b : Int} {t u : Tok}

/-- a frame of names C is entered, these names in it -/
theorem St.enterNsM {C : Addr} {m₁ : Str → Option Value} (S : St K h₀ I L vars muts s₀ s) {h' : Heap} {tk : Nat} (k : ∀ b o, s.heap.get? b = some o → h'.get? b = some o) (hC : s.heap.get? C = none) (hlt : s.heap.objs.size ≤ C)
    (hn : h'.Ns C m₁) (hq : ∀ x v, vars'.lookup x = some v → m₁ x = some v) : ∃ oL, (∀ h : Heap, h.get? L = some oL → ∃ m, h.Ns L m ∧ ∀ x v, vars.lookup x = some v → m x = some v) ∧ St K h₀ I C vars' ((L, cIs oL) :: muts) s₀ { s with heap := h', toks := tk } := by
  obtain ⟨m, ⟨oL, es, ep, e, hd, hk, hm⟩, q⟩ := S.ns
  refine ⟨oL, fun h e' => ⟨m, ⟨oL, es, ep, e', hd, hk, hm⟩, q⟩, ?_⟩
  refine { wd := S.wd, gens := S.gens, drawn := S.drawn, os := S.os, above := ?_, fresh := S.fresh, keep := fun b o e => k _ _ (S.keep b o e), ns := ⟨_, hn, hq⟩, imm := fun b o e => ⟨k _ _ (S.imm b o e).1, ?_⟩, cel := fun p hp => ?_, nd := ?_ }
  · exact Nat.le_trans S.above (Nat.le_trans (Nat.le_of_lt S.llt) hlt)
  · rintro rfl; have := (S.imm _ o e).1; rw [hC] at this; cases this
  · rcases List.mem_cons.mp hp with rfl | hp
    · refine ⟨⟨oL, k _ _ e, rfl⟩, ?_, S.lnew, fun o hI => (S.imm _ _ hI).2 rfl⟩
      rintro rfl; rw [hC] at e; cases e
    · obtain ⟨⟨o', e', c''⟩, r1, r2, r3⟩ := S.cel p hp
      refine ⟨⟨o', k _ _ e', c''⟩, ?_, r2, r3⟩
      rintro rfl; rw [hC] at e'; cases e'
  · refine List.pairwise_cons.mpr ⟨fun p hp => Ne.symm (S.cel p hp).2.1, S.nd⟩

theorem hvars_mem {binds vars : List (Str × Value)} (hvars : ∀ p ∈ vars, binds.reverse.lookup p.1 = some p.2) (x : Str) (v : Value) (e : vars.lookup x = some v) : binds.reverse.lookup x = some v := by
  have hm : (x, v) ∈ vars := by
    clear hvars
    induction vars with
    | nil => simp at e
    | cons p r ih =>
      obtain ⟨y, u⟩ := p
      rw [List.lookup_cons] at e
      cases hb : x == y with
      | true => rw [hb] at e; simp at e; have := eq_of_beq hb; subst this; subst e; exact .head _
      | false => rw [hb] at e; exact .tail _ (ih e)
  exact hvars _ hm

/-- how a body that may turn the caller's cells ends -/
def FnEndM (K : Frag) (h₀ : Base) (s₀ : Shared) (C L : Addr) (oL : Obj) (vars : List (Str × Value)) (R : Value → Imm → List (Addr × Cell) → Shared → Prop) (fl : Flow) (s' : Shared) : Prop :=
  ∃ v I' vars' muts', fl = .ret v ∧ St K h₀ I' C vars' ((L, cIs oL) :: muts') s₀ s' ∧ ∀ s'', St K h₀ I' L vars muts' s₀ s'' → R v I' muts' s''

/-- a call that may turn the caller's cells -/
theorem fnM_plain {f : Addr} {n : Nat} {args : List Value} {R : Value → Imm → List (Addr × Cell) → Shared → Prop} {name qual : Str} {params : Arguments} {body : List Stmt} {scope : Scope} {dV kV doc pm cdv ct oc : Value} {an od : Option Addr} {osl : Array (Option Value)} {binds : List (Str × Value)} {Q : Value → Shared → Prop}
    (hA : OkA (n + 1) A) (S : St K h₀ I L vars muts s₀ s)
    (ho : K.lookup f = some ⟨oc, od, .func (fnOf name qual params body scope dV kV doc pm an cdv ct), osl⟩) (hcd : codeIn K cdv qual = true)
    (hbind : ∀ s, BindsTo s (fnOf name qual params body scope dV kV doc pm an cdv ct) ⟨args, []⟩ binds) (hloc : ∀ y ∈ binds, scope.names.lookup y.1 = some .local) (hcell : ∀ x ∈ scope.names, x.2 ≠ .cell)
    (hvars : ∀ p ∈ vars', binds.reverse.lookup p.1 = some p.2)
    (h : ∀ A' C oL s₁ E, OkA n A' → St K h₀ I C vars' ((L, cIs oL) :: muts) s₀ s₁ → wpAny (model prog w) A' (execs body (envX qual scope C f cdv [])) (FnEndM K h₀ s₀ C L oL vars R) E s₁)
    (hR : ∀ v I' muts' s', R v I' muts' s' → Q v s')
    (hco : scope.isCoroutine = false := by rfl) (hgen : scope.isGenerator = false := by rfl) (hk : scope.kind = .function := by rfl) : wpAny (model prog w) A (call (.ref f) args []) Q E s := by
  have hW := S.wds
  refine wpAny_call (codeAny_call_def (fd := fnOf name qual params body scope dV kV doc pm an cdv ct) (body := body) (binds := binds) hA.room (hW.1 _ _ ho) rfl hW.nolimit (codeRec_of hW.1 hcd) rfl (hbind s) hcell hloc (fun h₁ hns hk₁ => ?_) hco hgen hk)
  have e : callEnv (fnOf name qual params body scope dV kV doc pm an cdv ct) s.heap.objs.size f = envX qual scope s.heap.objs.size f cdv [] := rfl
  rw [e]
  obtain ⟨oL, hL, S1⟩ := S.enterNsM (vars' := vars') (tk := s.toks + binds.length) hk₁ fresh_size (Nat.le_refl _) hns (fun x v e => hvars_mem hvars x v e)
  refine wpAny_mono (h _ _ oL _ _ hA.deeper S1) (fun fl s' hl => ?_) fun _ _ e => e
  obtain ⟨v, I', vars₂, muts', rfl, S', hR'⟩ := hl
  exact hR _ _ _ _ (hR' _ (S'.leaveNs hL S.above).drop)
end
section
variable {prog : Program} {w : World} {A : Around} {E : Value → Shared → Prop} {env : Env}
variable {K : Frag} {h₀ : Base} {I I' : Imm} {L : Addr} {vars vars' : List (Str × Value)} {muts muts' : List (Addr × Cell)} {s₀ s s' : Shared}
variable {x : Str} {pos npos : Pos} {v : Value} {a b : Int} {t u : Tok} {Q : Value → Shared → Prop}

theorem fmod_pos (a : Int) {b : Int} (h : 0 < b) : Int.fmod a b = a % b := Int.fmod_eq_emod_of_nonneg a (by omega)
theorem r_modp (S : St K h₀ I L vars muts s₀ s) (hb : 0 < b) (h : ∀ t s', 0 ≤ a % b → a % b < b → St K h₀ I L vars muts s₀ s' → Q (.int (a % b) t) s') : wpAny (model prog w) A (binaryOp .Mod (.int a t) (.int b u)) Q E s :=
  r_mod S (by omega) fun t s' S' => by
    rw [fmod_pos a hb]
    exact h t s' (Int.emod_nonneg a (by omega)) (Int.emod_lt_of_pos a hb) S'
theorem r_fdivs (S : St K h₀ I L vars muts s₀ s) (hb : 0 < b) (hb2 : b < 2 ^ 60) (h : ∀ t s', St K h₀ I L vars muts s₀ s' → Q (.int (a / b) t) s') : wpAny (model prog w) A (binaryOp .FloorDiv (.int a t) (.int b u)) Q E s := by
  refine r_fdiv S (by omega) (fun t s' S' => ?_) (.inl ?_)
  · rw [Int.fdiv_eq_ediv_of_nonneg a (by omega)]; exact h t s' S'
  · unfold Builtin.divisionGoesByPylong
    have h0 : ¬ ((b == 0) = true) := by rw [beq_iff_eq]; omega
    have h1 : b.natAbs.log2 < 60 := (Nat.log2_lt (by omega)).mpr (by omega)
    have : ¬ (b.natAbs.log2 / 30 + 1 > 300) := by omega
    simp only [h0, this, if_false, Bool.false_eq_true, decide_false, Bool.false_and]
theorem intBits_small {a : Int} (h : a.natAbs < 2 ^ 64) : Builtin.Int.intBits a ≤ 64 := by
  unfold Builtin.Int.intBits
  split
  · (decide)
  · rename_i h0
    have : a.natAbs.log2 < 64 := (Nat.log2_lt (by simpa using h0)).mpr h
    (with_reducible exact Nat.succ_le_of_lt (by assumption))
theorem r_muls (S : St K h₀ I L vars muts s₀ s) (hm : a.natAbs < 2 ^ 64) (h : ∀ t s', St K h₀ I L vars muts s₀ s' → Q (.int (a * b) t) s') : wpAny (model prog w) A (binaryOp .Mult (.int a t) (.int b u)) Q E s :=
  r_mul S (IntMulOk.of_left (intBits_small hm)) h
theorem r_pow (S : St K h₀ I L vars muts s₀ s) (hn : 0 ≤ b) (hn2 : b ≤ 1000000) (ha : a.natAbs < 2 ^ 64) (h : ∀ t s', St K h₀ I L vars muts s₀ s' → Q (.int (a ^ b.toNat) t) s') : wpAny (model prog w) A (binaryOp .Pow (.int a t) (.int b u)) Q E s :=
  pow_int_small hn hn2 ha (h _ _ S.toks)

theorem r_truthyL {l : Addr} {vs : List Value} {Q : Bool → Shared → Prop} (S : St K h₀ I L vars muts s₀ s) (hl : IL I l vs) (hsz : vs.length ≤ sizeLine) (h : ∀ s', St K h₀ I L vars muts s₀ s' → Q (!vs.isEmpty) s') : wpAny (model prog w) A (truthy (.ref l)) Q E s := by
  refine wpAny_truthy_list (S.lstI hl) (by rw [List.size_toArray]; rw [sizeLine_eq] at hsz; omega) ?_
  simpa using h _ S.toks
/-- a statement that may leave the body -/
theorem r_seqE {st : Stmt} {rest : List Stmt} {Q : Flow → Shared → Prop} (R : Shared → Prop) (h1 : wpAny (model prog w) A (exec st env) (fun f s' => match f with | .next => R s' | f => Q f s') E s) (h2 : ∀ s', R s' → wpAny (model prog w) A (execs rest env) Q E s') :
    wpAny (model prog w) A (execs (st :: rest) env) Q E s :=
  wpAny_execs_cons (wpAny_mono h1 (fun f s' h => by
    cases f with
    | next => exact h2 s' h
    | _ => exact h) fun _ _ e => e)
end
section
variable {prog : Program} {w : World} {A : Around} {E : Value → Shared → Prop} {env : Env}
variable {h₀ : Base} {I I' : Imm} {L : Addr} {vars vars' : List (Str × Value)} {muts muts' : List (Addr × Cell)} {s₀ s s' : Shared}
variable {pos npos : Pos} {v : Value} {a b : Int} {t u : Tok} {Q : Value → Shared → Prop}
/-- a list of three at rest: the drawn numbers, the seat, what is left of a great one -/
abbrev cPen (pa : Addr) (seat : Nat) (great : Int) (t₁ t₂ : Tok) : Cell := IsLO [.ref pa, .int seat t₁, .int great t₂]

set_option maxHeartbeats 8000000 in
theorem draw_fn {p pa : Addr} {vs : List Value} {cells : List Int} {seat many : Nat} {great : Int} {t₁ t₂ tm : Tok} (hA : OkA 1 A) (S : St (KK w) h₀ I L vars ((p, cPen pa seat great t₁ t₂) :: muts) s₀ s) (hpa : IL I pa vs) (hi : IntsAre vs cells)
    (hlen : cells.length ≤ 63) (hseat : seat ≤ 1000) (hm1 : 1 ≤ many) (hm2 : many ≤ 100)
    (h : ∀ (d : Nat) t t₁ t₂ (seat' : Nat) great' s', d < many → seat' ≤ seat + 1 → St (KK w) h₀ I L vars ((p, cPen pa seat' great' t₁ t₂) :: muts) s₀ s' → Q (.int d t) s') :
    wpAny (model prog w) A (call (.ref 103) [.ref p, .int many tm] []) Q E s := by
  refine fnM_plain (n := 0) (vars' := [("pen", .ref p), ("many", .int many tm)]) (binds := [("pen", .ref p), ("many", .int many tm)]) (R := fun v I' muts' s' => ∃ (d : Nat) (t t₁ t₂ : Tok) (seat' : Nat) (great' : Int), v = .int d t ∧ d < many ∧ seat' ≤ seat + 1 ∧ St (KK w) h₀ I L vars ((p, cPen pa seat' great' t₁ t₂) :: muts) s₀ s') hA S (by with_unfolding_all rfl) (by with_unfolding_all rfl) (fun s => BindsTo.of_eq rfl) (locs rfl) (by decide) (by intro p hp; simp at hp; rcases hp with rfl | rfl <;> rfl) ?_ ?_
  · clear S
    intro A C oL s E hA S
    refine opq fun QQ hQQ => ?_
    repeat walk_at "m"
    refine r_item (S.lstW (.tail _ (.head _))) (i := 2) rfl rfl (szl (by decide)) ?_
    repeat walk_at "m"
    by_cases hg : 0 < great
    · rw [if_pos (by simpa using hg)]
      repeat walk_at "m"
      refine r_item (S.lstW (.tail _ (.head _))) (i := 2) rfl rfl (szl (by decide)) ?_
      repeat walk_at "m"
      refine r_modp S (by omega) ?_
      clear S; intro t7 s h1 h2 S
      repeat walk_at "m"
      refine r_item (S.lstW (.tail _ (.head _))) (i := 2) rfl rfl (szl (by decide)) ?_
      repeat walk_at "m"
      refine r_fdivs S (by omega) (by omega) ?_
      clear S; intro t8 s S
      repeat walk_at "m"
      have S := S.tf 1
      dsimp only [toFront] at S
      refine r_setList S (by decide) (by decide) (by simp) ?_
      clear S; intro s S
      have S := S.tp 1
      dsimp only [toPlace] at S
      repeat walk_at "m"
      obtain ⟨d, hd⟩ : ∃ d : Nat, great % (many : Int) = d := ⟨(great % (many : Int)).toNat, by (with_reducible exact o_tn (by assumption))⟩
      exact hQQ _ _ ⟨_, I, _, _, rfl, S, fun s'' S'' => ⟨d, _, _, _, seat, _, by rw [hd], by omega, by (with_reducible exact Nat.le_succ _), S''⟩⟩
    · rw [if_neg (by simpa using hg)]
      repeat walk_at "m"
      refine r_item (S.lstW (.tail _ (.head _))) (i := 1) rfl rfl (szl (by decide)) ?_
      repeat walk_at "m"
      have S := S.tf 1
      dsimp only [toFront] at S
      refine r_setList S (by decide) (by decide) (by simp) ?_
      clear S; intro s S
      have S := S.tp 1
      dsimp only [toPlace] at S
      obtain ⟨tn, S⟩ : ∃ tn, St (KK w) h₀ I C [("seat", .int seat t₁), ("pen", .ref p), ("many", .int many tm)] ((L, cIs oL) :: (p, cPen pa (seat + 1) great tn t₂) :: muts) s₀ s := ⟨_, S⟩
      repeat walk_at "n"
      refine r_seq (fun s => ∃ cell t₃, St (KK w) h₀ I C [("cell", .int cell t₃), ("seat", .int seat t₁), ("pen", .ref p), ("many", .int many tm)] ((L, cIs oL) :: (p, cPen pa (seat + 1) great tn t₂) :: muts) s₀ s) ?_ ?_
      · repeat walk_at "n"
        refine r_item (S.lstW (.tail _ (.head _))) (i := 0) rfl rfl (szl (by decide)) ?_
        refine r_truthyL S hpa (by rw [hi.length, sizeLine_eq]; (with_reducible exact Nat.le_trans (by assumption) (by decide))) ?_
        clear S; intro s S
        by_cases he : vs.isEmpty = true
        · rw [if_neg (by simp [he])]
          repeat walk_at "n"
          exact ⟨rfl, _, _, S⟩
        · rw [if_pos (by simpa using he)]
          have hl0 : 0 < cells.length := by rw [← hi.length]; cases vs with | nil => simp at he | cons _ _ => simp
          repeat walk_at "n"
          refine r_item (S.lstW (.tail _ (.head _))) (i := 0) rfl rfl (szl (by decide)) ?_
          repeat walk_at "n"
          refine r_callb (id := "len") S (by with_unfolding_all rfl) (by with_unfolding_all rfl) (by decide) ?_
          repeat walk_at "n"
          refine r_item (S.lstW (.tail _ (.head _))) (i := 0) rfl rfl (szl (by decide)) ?_
          repeat walk_at "n"
          refine r_len S (S.lstI hpa) (by rw [hi.length, sizeLine_eq]; (with_reducible exact Nat.le_trans (by assumption) (by decide))) ?_
          clear S; intro tl s S
          repeat walk_at "n"
          rw [hi.length]
          refine r_modp S (by omega) ?_
          clear S; intro t7 s h1 h2 S
          obtain ⟨j, hj⟩ : ∃ j : Nat, (seat : Int) % (cells.length : Int) = j := ⟨((seat : Int) % (cells.length : Int)).toNat, by (with_reducible exact o_tn (by assumption))⟩
          obtain ⟨c, hc⟩ : ∃ c, cells[j]? = some c := ⟨_, List.getElem?_eq_getElem (by omega)⟩
          obtain ⟨cv, hcv, t8, rfl⟩ := (IntsAre.to2 hi).at hc
          refine r_item (S.lstI hpa) (i := j) hj hcv (szl (by omega)) ?_
          repeat walk_at "n"
          exact ⟨rfl, _, _, S⟩
      · clear S
        rintro s ⟨cell, t₃, S⟩
        refine r_seqE (fun s => St (KK w) h₀ I C [("cell", .int cell t₃), ("seat", .int seat t₁), ("pen", .ref p), ("many", .int many tm)] ((L, cIs oL) :: (p, cPen pa (seat + 1) great tn t₂) :: muts) s₀ s) ?_ ?_
        · repeat walk_at "n"
          refine r_callb (id := "len") S (by with_unfolding_all rfl) (by with_unfolding_all rfl) (by decide) ?_
          repeat walk_at "n"
          refine r_item (S.lstW (.tail _ (.head _))) (i := 0) rfl rfl (szl (by decide)) ?_
          repeat walk_at "n"
          refine r_len S (S.lstI hpa) (by rw [hi.length, sizeLine_eq]; (with_reducible exact Nat.le_trans (by assumption) (by decide))) ?_
          clear S; intro tl s S
          repeat walk_at "n"
          by_cases hlt : (decide ((seat : Int) < (vs.length : Int))) = true
          · rw [if_pos hlt]
            repeat walk_at "n"
            refine r_callb (id := "abs") S (by with_unfolding_all rfl) (by with_unfolding_all rfl) (by decide) ?_
            repeat walk_at "n"
            refine call_abs_int fun u tk => ?_
            replace S := S.toks (tk := tk)
            generalize { s with toks := tk } = s at S ⊢
            repeat walk_at "n"
            refine r_pow S (by decide) (by decide) (by decide) ?_
            clear S; intro t9 s S
            generalize (10 : Int) ^ (Int.toNat 18) = big at S ⊢
            repeat walk_at "n"
            generalize hc : decide (big ≤ (if cell < 0 then -cell else cell)) = cc
            cases cc with
            | false =>
              rw [if_neg (by simp)]
              rw [if_neg (by simp)]
              repeat walk_at "n"
              exact S
            | true =>
              rw [if_pos rfl]
              repeat walk_at "n"
              rw [if_pos rfl]
              repeat walk_at "m"
              refine r_callb (id := "abs") S (by with_unfolding_all rfl) (by with_unfolding_all rfl) (by decide) ?_
              repeat walk_at "m"
              refine call_abs_int fun u tk => ?_
              replace S := S.toks (tk := tk)
              generalize { s with toks := tk } = s at S ⊢
              repeat walk_at "m"
              refine r_pow S (by decide) (by decide) (by decide) ?_
              clear S; intro t9 s S
              repeat walk_at "m"
              refine r_fdivs S (by omega) (by omega) ?_
              clear S; intro t8 s S
              repeat walk_at "m"
              have S := S.tf 1
              dsimp only [toFront] at S
              refine r_setList S (by decide) (by decide) (by simp) ?_
              clear S; intro s S
              have S := S.tp 1
              dsimp only [toPlace] at S
              repeat walk_at "m"
              refine r_modp S (by omega) ?_
              clear S; intro t7 s h1 h2 S
              generalize ((if cell < 0 then -cell else cell) - 10 ^ Int.toNat 18) % (many : Int) = dd at h1 h2 ⊢
              obtain ⟨d, hd⟩ : ∃ d : Nat, dd = d := ⟨dd.toNat, by (with_reducible exact o_tn (by assumption))⟩
              exact hQQ _ _ ⟨_, I, _, _, rfl, S, fun s'' S'' => ⟨d, _, _, _, seat + 1, _, by rw [hd], by omega, by omega, S''⟩⟩
          · rw [if_neg hlt]
            rw [if_neg (by simp)]
            repeat walk_at "n"
            exact S
        · clear S
          intro s S
          repeat walk_at "m"
          refine r_modp S (by decide) ?_
          clear S; intro t7 s h1 h2 S
          generalize cell % 2147483629 = c1 at h1 h2 ⊢
          repeat walk_at "m"
          refine r_muls S (by decide) ?_
          clear S; intro t8 s S
          repeat walk_at "m"
          refine r_pow S (by decide) (by decide) (by omega) ?_
          clear S; intro t9 s S
          generalize (c1 + 40503 * (seat : Int) + 977) ^ Int.toNat 3 = c2 at *
          repeat walk_at "m"
          refine r_modp S (by decide) ?_
          clear S; intro t7 s h1 h2 S
          generalize c2 % 2147483587 = c3 at *
          repeat walk_at "m"
          refine r_muls S (by decide) ?_
          clear S; intro t8 s S
          repeat walk_at "m"
          refine r_muls S (by omega) ?_
          clear S; intro t8 s S
          repeat walk_at "m"
          refine r_muls S (by omega) ?_
          clear S; intro t8 s S
          repeat walk_at "m"
          have hb1 : 0 ≤ c3 * (2 * (seat : Int) + 5003) := Int.mul_nonneg h1 (by omega)
          have hb2 : c3 * (2 * (seat : Int) + 5003) ≤ 2147483587 * 8000 := Int.mul_le_mul (by omega) (by omega) (by omega) (by decide)
          have hb3 : 0 ≤ (seat : Int) * (seat : Int) := Int.mul_nonneg (by with_reducible exact Int.natCast_nonneg _) (by with_reducible exact Int.natCast_nonneg _)
          have hb4 : (seat : Int) * (seat : Int) ≤ 1000 * 1000 := Int.mul_le_mul (by omega) (by omega) (by with_reducible exact Int.natCast_nonneg _) (by decide)
          refine r_pow S (by decide) (by decide) (by omega) ?_
          clear S; intro t9 s S
          generalize (c3 * (2 * (seat : Int) + 5003) + (seat : Int) * (seat : Int) + 11) ^ Int.toNat 3 = c4 at *
          repeat walk_at "m"
          refine r_modp S (by decide) ?_
          clear S; intro t7 s h1 h2 S
          generalize c4 % 2147483579 = c5 at *
          repeat walk_at "m"
          refine r_fdivs S (by decide) (by decide) ?_
          clear S; intro t8 s S
          repeat walk_at "m"
          refine r_modp S (by omega) ?_
          clear S; intro t7 s h1 h2 S
          generalize c5 / 64 % (many : Int) = dd at *
          obtain ⟨d, hd⟩ : ∃ d : Nat, dd = d := ⟨dd.toNat, by (with_reducible exact o_tn (by assumption))⟩
          exact hQQ _ _ ⟨_, I, _, _, rfl, S, fun s'' S'' => ⟨d, _, _, _, seat + 1, _, by rw [hd], by omega, by omega, S''⟩⟩
  · rintro v I' muts' s' ⟨d, t, t₁, t₂, seat', great', rfl, h1, h2, S'⟩
    exact h d t t₁ t₂ seat' great' s' h1 h2 S'
end
section
variable {prog : Program} {w : World} {A : Around} {E : Value → Shared → Prop} {env : Env}
variable {K : Frag} {h₀ : Base} {I I' : Imm} {L : Addr} {vars vars' : List (Str × Value)} {muts muts' : List (Addr × Cell)} {s₀ s s' : Shared}
variable {x : Str} {pos npos : Pos} {v u : Value} {a b : Int} {Q : Value → Shared → Prop}

def iD (ns : List Int) : List PyData := ns.map .int
def lD (ns : List Int) : PyData := .list (iD ns)
def tD (ns : List Int) : PyData := .tuple (iD ns)
def rsD (rows : List (List Int)) : PyData := .list (rows.map lD)
def tsD (tags : List (List Int)) : PyData := .list (tags.map tD)

theorem eqv_iD : ∀ a b : List Int, PyData.eqvAll (iD a) (iD b) = decide (a = b)
  | [], [] => by simp [iD, PyData.eqvAll]
  | [], _ :: _ => by simp [iD, PyData.eqvAll]
  | _ :: _, [] => by simp [iD, PyData.eqvAll]
  | x :: r, y :: q => by
    have := eqv_iD r q
    unfold iD at this ⊢
    simp only [List.map_cons, PyData.eqvAll, PyData.eqv, this]
    by_cases h : x = y <;> by_cases h2 : r = q <;> simp [h, h2]
theorem eqv_rs : ∀ a b : List (List Int), PyData.eqvAll (a.map lD) (b.map lD) = decide (a = b)
  | [], [] => by simp [PyData.eqvAll]
  | [], _ :: _ => by simp [PyData.eqvAll]
  | _ :: _, [] => by simp [PyData.eqvAll]
  | x :: r, y :: q => by
    have := eqv_rs r q
    simp only [List.map_cons, PyData.eqvAll, this]
    rw [lD, lD, PyData.eqv, eqv_iD]
    by_cases h : x = y <;> by_cases h2 : r = q <;> simp [h, h2]
theorem eqv_ts : ∀ a b : List (List Int), PyData.eqvAll (a.map tD) (b.map tD) = decide (a = b)
  | [], [] => by simp [PyData.eqvAll]
  | [], _ :: _ => by simp [PyData.eqvAll]
  | _ :: _, [] => by simp [PyData.eqvAll]
  | x :: r, y :: q => by
    have := eqv_ts r q
    simp only [List.map_cons, PyData.eqvAll, this]
    rw [tD, tD, PyData.eqv, eqv_iD]
    by_cases h : x = y <;> by_cases h2 : r = q <;> simp [h, h2]
theorem lay_iD : ∀ a : List Int, PyData.canLayAll0 (iD a) = true ∧ PyData.depthAll (iD a) = 0
  | [] => by simp [iD, PyData.canLayAll0, PyData.depthAll]
  | x :: r => by
    have := lay_iD r
    unfold iD at this ⊢
    simp [PyData.canLayAll0, PyData.canLay0, PyData.depthAll, PyData.depth, this]
theorem lay_rs : ∀ a : List (List Int), PyData.canLayAll0 (a.map lD) = true ∧ PyData.depthAll (a.map lD) ≤ 1
  | [] => by simp [PyData.canLayAll0, PyData.depthAll]
  | x :: r => by
    have := lay_rs r
    have h2 := lay_iD x
    simp only [List.map_cons, PyData.canLayAll0, PyData.depthAll, lD, PyData.canLay0, PyData.depth, h2.1, h2.2, this.1]
    refine ⟨rfl, ?_⟩
    have := this.2
    omega
theorem lay_ts : ∀ a : List (List Int), PyData.canLayAll0 (a.map tD) = true ∧ PyData.depthAll (a.map tD) ≤ 1
  | [] => by simp [PyData.canLayAll0, PyData.depthAll]
  | x :: r => by
    have := lay_ts r
    have h2 := lay_iD x
    simp only [List.map_cons, PyData.canLayAll0, PyData.depthAll, tD, PyData.canLay0, PyData.depth, h2.1, h2.2, this.1]
    refine ⟨rfl, ?_⟩
    have := this.2
    omega
theorem shaped_of {d : PyData} (h1 : d.canLay0 = true) (h2 : d.depth ≤ 64) : SeqAt.shaped d = true := by
  unfold SeqAt.shaped; rw [h1, Bool.true_and]; exact decide_eq_true h2
theorem shaped_l (a : List Int) : SeqAt.shaped (lD a) = true := shaped_of (by rw [lD, PyData.canLay0]; exact (lay_iD a).1) (by rw [lD, PyData.depth, (lay_iD a).2]; (decide))
theorem shaped_t (a : List Int) : SeqAt.shaped (tD a) = true := shaped_of (by rw [tD, PyData.canLay0]; exact (lay_iD a).1) (by rw [tD, PyData.depth, (lay_iD a).2]; (decide))
theorem shaped_rs (a : List (List Int)) : SeqAt.shaped (rsD a) = true := shaped_of (by rw [rsD, PyData.canLay0]; exact (lay_rs a).1) (by rw [rsD, PyData.depth]; have := (lay_rs a).2; omega)
theorem shaped_ts (a : List (List Int)) : SeqAt.shaped (tsD a) = true := shaped_of (by rw [tsD, PyData.canLay0]; exact (lay_ts a).1) (by rw [tsD, PyData.depth]; have := (lay_ts a).2; omega)

theorem reads_ints {h : Heap} {vs : List Value} {ns : List Int} (hi : IntsAre vs ns) : ∃ as, ReadsAll h vs (iD ns) as := by
  induction hi with
  | nil => exact ⟨_, .nil⟩
  | cons n t _ ih =>
    obtain ⟨as, r⟩ := ih
    exact ⟨_, .cons (.int n t) r⟩
theorem readsL {h : Heap} (hI : ∀ a o, I a o → h.get? a = some o) {ns : List Int} (hl : IntsL I v ns) : ∃ as, Reads h v (lD ns) as := by
  obtain ⟨a, vs, rfl, ⟨o, ho, hc, n, hd⟩, hi⟩ := hl
  obtain ⟨as, r⟩ := reads_ints (h := h) hi
  exact ⟨_, Reads.list (hI _ _ ho) hc hd (by simpa using r)⟩
theorem readsT {h : Heap} (hI : ∀ a o, I a o → h.get? a = some o) {ns : List Int} (hl : IntsT I v ns) : ∃ as, Reads h v (tD ns) as := by
  obtain ⟨a, vs, rfl, ⟨o, ho, hc, n, hd⟩, hi⟩ := hl
  obtain ⟨as, r⟩ := reads_ints (h := h) hi
  exact ⟨_, Reads.tuple (hI _ _ ho) hc hd (by simpa using r)⟩
theorem reads_all {h : Heap} {R : Value → List Int → Prop} {D : List Int → PyData} (hR : ∀ v d, R v d → ∃ as, Reads h v (D d) as) {vs : List Value} {rows : List (List Int)} (hi : All2 R vs rows) : ∃ as, ReadsAll h vs (rows.map D) as := by
  induction hi with
  | nil => exact ⟨_, .nil⟩
  | cons h1 _ ih =>
    obtain ⟨as, r⟩ := ih
    obtain ⟨bs, q⟩ := hR _ _ h1
    exact ⟨_, .cons q r⟩
theorem readsRs {h : Heap} (hI : ∀ a o, I a o → h.get? a = some o) {rows : List (List Int)} (hl : RowsL I v rows) : ∃ as, Reads h v (rsD rows) as := by
  obtain ⟨a, vs, rfl, ⟨o, ho, hc, n, hd⟩, hi⟩ := hl
  obtain ⟨as, r⟩ := reads_all (h := h) (D := lD) (fun v d hv => readsL hI hv) hi
  exact ⟨_, Reads.list (hI _ _ ho) hc hd (by simpa using r)⟩
theorem readsTs {h : Heap} (hI : ∀ a o, I a o → h.get? a = some o) {rows : List (List Int)} (hl : TagsL I v rows) : ∃ as, Reads h v (tsD rows) as := by
  obtain ⟨a, vs, rfl, ⟨o, ho, hc, n, hd⟩, hi⟩ := hl
  obtain ⟨as, r⟩ := reads_all (h := h) (D := tD) (fun v d hv => readsT hI hv) hi
  exact ⟨_, Reads.list (hI _ _ ho) hc hd (by simpa using r)⟩
theorem St.here (S : St K h₀ I L vars muts s₀ s) : ∀ a o, I a o → s.heap.get? a = some o := fun a o h => (S.imm a o h).1
theorem OkA.c64 {n : Nat} (h : OkA n A) (hn : 7 ≤ n) : A.units + 64 < cLine := by have := h.2.2; rw [cLine_is]; omega

theorem r_neT (S : St K h₀ I L vars muts s₀ s) {ns ms : List Int} (h1 : IntsT I v ns) (h2 : IntsT I u ms) (hu : A.units + 64 < cLine) (h : Q (.bool (!decide (ns = ms))) s) : wpAny (model prog w) A (compareOp .NotEq v u) Q E s := by
  obtain ⟨_, r1⟩ := readsT S.here h1
  obtain ⟨_, r2⟩ := readsT S.here h2
  refine ne_dataH r1 r2 (shaped_t _) (shaped_t _) hu ?_
  rw [tD, tD, PyData.eqv, eqv_iD]; exact h
theorem r_neL (S : St K h₀ I L vars muts s₀ s) {ns ms : List Int} (h1 : IntsL I v ns) (h2 : IntsL I u ms) (hu : A.units + 64 < cLine) (h : Q (.bool (!decide (ns = ms))) s) : wpAny (model prog w) A (compareOp .NotEq v u) Q E s := by
  obtain ⟨_, r1⟩ := readsL S.here h1
  obtain ⟨_, r2⟩ := readsL S.here h2
  refine ne_dataH r1 r2 (shaped_l _) (shaped_l _) hu ?_
  rw [lD, lD, PyData.eqv, eqv_iD]; exact h
theorem r_eqRs (S : St K h₀ I L vars muts s₀ s) {ns ms : List (List Int)} (h1 : RowsL I v ns) (h2 : RowsL I u ms) (hu : A.units + 64 < cLine) (h : Q (.bool (decide (ns = ms))) s) : wpAny (model prog w) A (compareOp .Eq v u) Q E s := by
  obtain ⟨_, r1⟩ := readsRs S.here h1
  obtain ⟨_, r2⟩ := readsRs S.here h2
  refine eq_dataH r1 r2 (shaped_rs _) (shaped_rs _) hu ?_
  rw [rsD, rsD, PyData.eqv, eqv_rs]; exact h
theorem r_eqTs (S : St K h₀ I L vars muts s₀ s) {ns ms : List (List Int)} (h1 : TagsL I v ns) (h2 : TagsL I u ms) (hu : A.units + 64 < cLine) (h : Q (.bool (decide (ns = ms))) s) : wpAny (model prog w) A (compareOp .Eq v u) Q E s := by
  obtain ⟨_, r1⟩ := readsTs S.here h1
  obtain ⟨_, r2⟩ := readsTs S.here h2
  refine eq_dataH r1 r2 (shaped_ts _) (shaped_ts _) hu ?_
  rw [tsD, tsD, PyData.eqv, eqv_ts]; exact h
end
section
variable {prog : Program} {w : World} {A : Around} {E : Value → Shared → Prop} {env : Env}
variable {h₀ : Base} {I I' : Imm} {L : Addr} {vars vars' : List (Str × Value)} {muts muts' : List (Addr × Cell)} {s₀ s s' : Shared}
variable {pos npos : Pos} {v : Value} {a b : Int} {t u : Tok} {Q : Value → Shared → Prop}
theorem tuple_empty (S : St (KK w) h₀ I L vars muts s₀ s) {Q : Value → Shared → Prop} (h : ∀ v I' s', Sub I I' → IntsT I' v [] → St (KK w) h₀ I' L vars muts s₀ s' → Q v s') : wpAny (model prog w) A (newTuple []) Q E s :=
  r_newTuple S (fun D s' I' hs hT S' => h _ I' s' hs ⟨D, _, rfl, hT, .nil⟩ S') (by simp [sizeLine_eq])

/-- the word as a list of ints -/
def wd (l : List Nat) : List Int := l.map (fun n : Nat => (n : Int))

theorem takes_fn {ra ta wa : Addr} {rows tags : List (List Int)} {n k : Nat} {wrd : List Nat} (hr : RowsL I (.ref ra) rows) (ht : TagsL I (.ref ta) tags) (hw : IntsT I (.ref wa) (wd wrd)) (H : AOk rows tags n k) (hn : n ≤ 1000000) (hk : k ≤ 1000000)
    (hwk : ∀ a ∈ wrd, a < k) : Fn prog w (KK w) 120 8 [.ref ra, .ref ta, .ref wa] I (fun _ v => v = .bool (takesFrom rows tags 0 wrd)) := by
  refine fn_plain (vars := [("word", .ref wa), ("tags", .ref ta), ("rows", .ref ra)]) (binds := [("rows", .ref ra), ("tags", .ref ta), ("word", .ref wa)]) (by with_unfolding_all rfl) (by with_unfolding_all rfl) (fun s => BindsTo.of_eq rfl) (locs rfl) (by decide) (by intro p hp; simp at hp; rcases hp with rfl | rfl | rfl <;> rfl) ?_
  intro A s₀ L s E hA S
  walk_at "m"
  repeat walk_at "n"
  refine r_seqE (fun s => ∃ (q : Nat) (t : Tok), q < n ∧ takesFrom rows tags q [] = takesFrom rows tags 0 wrd ∧ St (KK w) ⟨s₀.heap, I⟩ I L [("state", .int q t), ("tags", .ref ta), ("rows", .ref ra)] [] s₀ s) ?_ ?_
  · obtain ⟨_, ws, e, hwt, hwi⟩ := hw
    injection e with e
    subst e
    refine r_for (K := KK w) (h₀ := ⟨s₀.heap, I⟩) (s₀ := s₀) (by rfl) (by rfl) ?_
    repeat walk_at "n"
    refine iter_tuple (fun (i : Nat) (I' : Imm) (vars : List (Str × Value)) (muts : List (Addr × Cell)) => I' = I ∧ muts = [] ∧ ∃ (q : Nat) (t : Tok), vars = ([("state", .int q t), ("tags", .ref ta), ("rows", .ref ra)] : List (Str × Value)) ∧ q < n ∧ takesFrom rows tags q (wrd.drop i) = takesFrom rows tags 0 wrd) hA.hh (S.revars (vars' := [("state", .int (0 : Nat) t), ("tags", .ref ta), ("rows", .ref ra)]) ⟨rfl, rfl, rfl, trivial⟩) hwt ⟨rfl, rfl, 0, _, rfl, H.one, rfl⟩ ?_ ?_
    · clear S
      rintro i v I' vars muts s a c E' hv ⟨rfl, rfl, q, t, rfl, hq, hq2⟩ _ S
      obtain ⟨d, hd, t', rfl⟩ := (IntsAre.to2 hwi).get hv
      obtain ⟨m, hm, rfl⟩ : ∃ m, wrd[i]? = some m ∧ (m : Int) = d := by
        unfold wd at hd
        rw [List.getElem?_map] at hd
        cases e : wrd[i]? with
        | none => rw [e] at hd; simp at hd
        | some m => rw [e] at hd; simp at hd; exact ⟨m, rfl, hd⟩
      have hmk : m < k := hwk m (List.mem_of_getElem? hm)
      have hdrop : wrd.drop i = m :: wrd.drop (i + 1) := by
        rw [List.drop_eq_getElem_cons (List.getElem?_eq_some_iff.mp hm).1]
        rw [(List.getElem?_eq_some_iff.mp hm).2]
      obtain ⟨row, hrow⟩ : ∃ row, rows[q]? = some row := ⟨_, List.getElem?_eq_getElem (by rw [H.len]; exact hq)⟩
      have hrl : row.length = k := H.wid row (List.mem_of_getElem? hrow)
      obtain ⟨g, hg⟩ : ∃ g, row[m]? = some g := ⟨_, List.getElem?_eq_getElem (by rw [hrl]; exact hmk)⟩
      have hent : entry rows q m = g := by unfold entry; rw [getD_of hrow, getD_of hg]
      rw [hdrop, takesFrom, hent] at hq2
      obtain ⟨_, vs, e, hl, hR⟩ := hr
      injection e with e
      subst e
      obtain ⟨rv, hrv, rb, us, rfl, hl', hi'⟩ := hR.at hrow
      obtain ⟨gv, hgv, t'', rfl⟩ := (IntsAre.to2 hi').at hg
      repeat walk_at "m"
      refine r_item (S.lstI hl) (i := q) rfl hrv (szl (by with_reducible exact o_s2 (by assumption) (by assumption) (by decide))) ?_
      repeat walk_at "m"
      refine r_item (S.lstI hl') (i := m) rfl hgv (szl (by with_reducible exact o_s2 (by assumption) (by assumption) (by decide))) ?_
      repeat walk_at "m"
      by_cases hg0 : g < 0
      · rw [if_pos (by simpa using hg0)]
        rw [if_pos hg0] at hq2
        repeat walk_at "m"
        exact ⟨_, I', _, _, rfl, Sub.refl, S, by rw [← hq2]⟩
      · rw [if_neg (by simpa using hg0)]
        rw [if_neg hg0] at hq2
        repeat walk_at "m"
        obtain ⟨q', rfl⟩ : ∃ q' : Nat, g = q' := ⟨g.toNat, by omega⟩
        rw [Int.toNat_natCast] at hq2
        have hq' : q' < n := by
          rcases H.ent q m hq hmk with h | ⟨g, h1, h2⟩ <;> omega
        exact ⟨I', _, _, Sub.refl, ⟨rfl, rfl, q', _, rfl, hq', hq2⟩, S.revars ⟨rfl, rfl, rfl, trivial⟩⟩
    · clear S
      rintro I' vars muts s ⟨rfl, rfl, q, t, rfl, hq, hq2⟩ S
      refine ⟨q, t, hq, ?_, S⟩
      rw [← hq2, List.drop_of_length_le (by rw [hwi.length]; unfold wd; simp)]
  · clear S
    rintro s ⟨q, t, hq, hq2, S⟩
    obtain ⟨tg, htg⟩ : ∃ tg, tags[q]? = some tg := ⟨_, List.getElem?_eq_getElem (by rw [H.tlen]; exact hq)⟩
    obtain ⟨_, vs, e, hl, hR⟩ := ht
    injection e with e
    subst e
    obtain ⟨tv, htv, hT⟩ := hR.at htg
    repeat walk_at "m"
    refine r_item (S.lstI hl) (i := q) rfl htv (szl (by with_reducible exact o_s2 (by assumption) (by assumption) (by decide))) ?_
    repeat walk_at "m"
    refine tuple_empty S ?_
    clear S; intro v I' s hs hv S
    refine r_neT S (hT.sub hs) hv (hA.c64 (by decide)) ?_
    refine ⟨_, I', _, _, rfl, hs, S, ?_⟩
    rw [← hq2, takesFrom, getD_of htg]
    simp
end
section
variable {prog : Program} {w : World} {A : Around} {E : Value → Shared → Prop} {env : Env}
variable {h₀ : Base} {I I' : Imm} {L : Addr} {vars vars' : List (Str × Value)} {muts muts' : List (Addr × Cell)} {s₀ s s' : Shared}
variable {pos npos : Pos} {v : Value} {a b : Int} {t u : Tok} {Q : Value → Shared → Prop}
theorem r_notinL (S : St (KK w) h₀ I L vars muts s₀ s) {l : Addr} {vs : List Value} {ns : List Int} {k : Int} {Q : Value → Shared → Prop} (hl : (l, cList vs) ∈ muts) (hi : IntsAre vs ns) (h : Q (.bool (!decide (k ∈ ns))) s) : wpAny (model prog w) A (compareOp .NotIn (.int k t) (.ref l)) Q E s := by
  refine notin_list_ints (S.lstM hl).isList hi ?_
  have : (ns.any fun x => x == k) = decide (k ∈ ns) := by
    rw [Bool.eq_iff_iff, List.any_eq_true, decide_eq_true_eq]
    constructor
    · rintro ⟨x, hx, e⟩; rw [beq_iff_eq] at e; exact e ▸ hx
    · intro h; exact ⟨k, h, by simp⟩
  rw [this]; exact h

theorem mem_wd {g : Nat} {l : List Nat} : ((g : Int) ∈ wd l) ↔ g ∈ l := by
  unfold wd
  rw [List.mem_map]
  constructor
  · rintro ⟨m, hm, e⟩
    have : m = g := by omega
    exact this ▸ hm
  · intro h; exact ⟨g, h, rfl⟩
theorem wd_get {l : List Nat} {i : Nat} {d : Int} (h : (wd l)[i]? = some d) : ∃ m : Nat, l[i]? = some m ∧ (m : Int) = d := by
  unfold wd at h
  rw [List.getElem?_map] at h
  cases e : l[i]? with
  | none => rw [e] at h; simp at h
  | some m => rw [e] at h; simp at h; exact ⟨m, rfl, h⟩
theorem wd_len (l : List Nat) : (wd l).length = l.length := by simp [wd]
theorem wd_snoc (l : List Nat) (g : Nat) : wd (l ++ [g]) = wd l ++ [(g : Int)] := by simp [wd]

/-- what a search from the first state has found -/
structure ReachB (rows : List (List Int)) (n k : Nat) (found : List Nat) : Prop where
  nd : found.Nodup
  lt : ∀ q ∈ found, q < n
  zero : 0 ∈ found
  sound : ∀ q ∈ found, ∃ w, (∀ a ∈ w, a < k) ∧ Way rows 0 w q
def Closed (rows : List (List Int)) (k : Nat) (found : List Nat) (i : Nat) : Prop := ∀ j q, j < i → found[j]? = some q → ∀ a, a < k → ∀ g : Nat, entry rows q a = g → g ∈ found

theorem ReachB.len {rows : List (List Int)} {n k : Nat} {found : List Nat} (h : ReachB rows n k found) : found.length ≤ n := nodup_lt n found h.nd h.lt

theorem ReachB.snoc {rows : List (List Int)} {n k : Nat} {found : List Nat} (h : ReachB rows n k found) {q a g : Nat} (hq : q ∈ found) (ha : a < k) (he : entry rows q a = g) (hg : g ∉ found) (hlt : g < n) : ReachB rows n k (found ++ [g]) := by
  refine ⟨?_, fun x hx => ?_, List.mem_append_left _ h.zero, fun x hx => ?_⟩
  · rw [List.nodup_append]
    refine ⟨h.nd, by simp, fun x hx y hy => ?_⟩
    simp only [List.mem_singleton] at hy
    rintro rfl
    exact hg (hy ▸ hx)
  · rcases List.mem_append.mp hx with h1 | h1
    · exact h.lt x h1
    · rw [List.mem_singleton.mp h1]; exact hlt
  · rcases List.mem_append.mp hx with h1 | h1
    · exact h.sound x h1
    · rw [List.mem_singleton.mp h1]
      obtain ⟨w, hw, hway⟩ := h.sound q hq
      refine ⟨w ++ [a], fun b hb => ?_, Way.snoc.mpr ⟨q, hway, he⟩⟩
      rcases List.mem_append.mp hb with h2 | h2
      · exact hw b h2
      · rw [List.mem_singleton.mp h2]; exact ha

theorem reached_fn {ra : Addr} {rows tags : List (List Int)} {n k : Nat} (hr : RowsL I (.ref ra) rows) (H : AOk rows tags n k) (hn : n ≤ 1000000) (hk : k ≤ 1000000) :
    Fn prog w (KK w) 127 1 [.ref ra] I (fun I' v => ∃ found, IntsL I' v (wd found) ∧ ReachB rows n k found ∧ Closed rows k found found.length) := by
  refine fn_plain (vars := [("rows", .ref ra)]) (binds := [("rows", .ref ra)]) (by with_unfolding_all rfl) (by with_unfolding_all rfl) (fun s => BindsTo.of_eq rfl) (locs rfl) (by decide) (by intro p hp; simp at hp; subst hp; rfl) ?_
  intro A s₀ L s E hA S
  obtain ⟨_, vs, e, hl, hR⟩ := hr
  injection e with e
  subst e
  repeat walk_at "m"
  refine r_newList S (fun f s S => ?_) (by simp [sizeLine_eq])
  repeat walk_at "m"
  refine r_while (fun m s => ∃ (i : Nat) (t : Tok) (found : List Nat) (fs : List Value), m = n - i ∧ i ≤ found.length ∧ IntsAre fs (wd found) ∧ ReachB rows n k found ∧ Closed rows k found i ∧
    St (KK w) ⟨s₀.heap, I⟩ I L [("at", .int i t), ("found", .ref f), ("rows", .ref ra)] [(f, cList fs)] s₀ s) n ?_ ?_
  · refine ⟨0, _, [0], _, rfl, Nat.zero_le _, .cons 0 _ .nil, ⟨by simp, fun q hq => ?_, by simp, fun q hq => ?_⟩, fun j q h => by (with_reducible exact (o_z (by assumption)).elim), S.revars ⟨rfl, rfl, rfl, trivial⟩⟩
    · rw [List.mem_singleton.mp hq]; exact H.one
    · rw [List.mem_singleton.mp hq]; exact ⟨[], by simp, rfl⟩
  · clear S
    rintro m s E' ⟨i, t, found, fs, rfl, hi, hfs, hB, hC, S⟩
    have hlen := hB.len
    have hfl : fs.length = found.length := by rw [hfs.length, wd_len]
    repeat walk_at "m"
    refine r_callb (id := "len") S (by with_unfolding_all rfl) (by with_unfolding_all rfl) (by decide) ?_
    repeat walk_at "m"
    refine r_len S (S.lstM (.head _)).isList (by rw [hfl, sizeLine_eq]; (with_reducible exact o_l2 (by assumption) (by assumption) (by decide))) ?_
    clear S; intro tl s S
    repeat walk_at "m"
    rw [hfl]
    by_cases hlt : i < found.length
    · rw [if_pos (by simpa using hlt)]
      obtain ⟨q, hq⟩ : ∃ q, found[i]? = some q := ⟨_, List.getElem?_eq_getElem hlt⟩
      have hqm := List.mem_of_getElem? hq
      have hqn := hB.lt q hqm
      have hqw : (wd found)[i]? = some (q : Int) := by unfold wd; rw [List.getElem?_map, hq]; rfl
      obtain ⟨row, hrow⟩ : ∃ row, rows[q]? = some row := ⟨_, List.getElem?_eq_getElem (by rw [H.len]; exact hqn)⟩
      have hrl : row.length = k := H.wid row (List.mem_of_getElem? hrow)
      obtain ⟨rv, hrv, rb, us, rfl, hl', hi'⟩ := hR.at hrow
      obtain ⟨fv, hfv, tf, rfl⟩ := (IntsAre.to2 hfs).at hqw
      repeat walk_at "n"
      refine r_seq (fun s => ∃ (found' : List Nat) (fs : List Value), (∃ more, found' = found ++ more) ∧ IntsAre fs (wd found') ∧ ReachB rows n k found' ∧ (∀ a, a < k → ∀ g : Nat, entry rows q a = g → g ∈ found') ∧
        St (KK w) ⟨s₀.heap, I⟩ I L [("at", .int i t), ("found", .ref f), ("rows", .ref ra)] [(f, cList fs)] s₀ s) ?_ ?_
      · refine opq fun QQ hQQ => ?_
        refine r_for (K := KK w) (h₀ := ⟨s₀.heap, I⟩) (s₀ := s₀) (by rfl) (by rfl) ?_
        repeat walk_at "n"
        refine r_item (S.lstM (.head _)).isList (i := i) rfl hfv (szl (by with_reducible exact o_s3 (by assumption) (by assumption) (by assumption) (by decide))) ?_
        refine r_item (S.lstI hl) (i := q) rfl hrv (szl (by with_reducible exact o_s2 (by assumption) (by assumption) (by decide))) ?_
        refine iter_list (fun (j : Nat) (I' : Imm) (vars : List (Str × Value)) (muts : List (Addr × Cell)) => I' = I ∧ ∃ (found' : List Nat) (fs : List Value), vars = ([("at", .int i t), ("found", .ref f), ("rows", .ref ra)] : List (Str × Value)) ∧ muts = [(f, cList fs)] ∧
          (∃ more, found' = found ++ more) ∧ IntsAre fs (wd found') ∧ ReachB rows n k found' ∧ (∀ a, a < j → ∀ g : Nat, entry rows q a = g → g ∈ found')) hA.hh S hl' ⟨rfl, found, fs, rfl, rfl, ⟨[], by simp⟩, hfs, hB, fun a h => by (with_reducible exact (o_z (by assumption)).elim)⟩ ?_ ?_
        · clear S
          rintro j v I' vars muts s a c E' hv ⟨rfl, found', fs', rfl, rfl, ⟨more, hmore⟩, hfs', hB', hC'⟩ _ S
          refine opq fun QQ hQQ => ?_
          obtain ⟨g, hg, tg, rfl⟩ := (IntsAre.to2 hi').get hv
          have hjk : j < k := by rw [← hrl]; exact (List.getElem?_eq_some_iff.mp hg).1
          have hent : entry rows q j = g := by unfold entry; rw [getD_of hrow, getD_of hg]
          have hlen' := hB'.len
          have hfl' : fs'.length = found'.length := by rw [hfs'.length, wd_len]
          repeat walk_at "m"
          by_cases hg0 : 0 ≤ g
          · rw [if_pos (by simpa using hg0)]
            obtain ⟨gn, rfl⟩ : ∃ gn : Nat, g = gn := ⟨g.toNat, by (with_reducible exact o_tn (by assumption))⟩
            repeat walk_at "m"
            refine r_notinL S (.tail _ (.head _)) hfs' ?_
            repeat walk_at "m"
            by_cases hin : gn ∈ found'
            · rw [if_neg (by simp [mem_wd, hin])]
              rw [if_neg (by simp)]
              repeat walk_at "m"
              refine hQQ _ _ ⟨I', _, _, Sub.refl, ⟨rfl, found', fs', rfl, rfl, ⟨more, hmore⟩, hfs', hB', fun b hb g hg => ?_⟩, S.revars ⟨rfl, rfl, rfl, trivial⟩⟩
              by_cases e : b = j
              · subst e
                have : gn = g := by omega
                exact this ▸ hin
              · exact hC' b (by omega) g hg
            · rw [if_pos (by simp [mem_wd, hin])]
              repeat walk_at "m"
              rw [if_pos rfl]
              repeat walk_at "m"
              have hgn : gn < n := by
                rcases H.ent q j hqn hjk with h | ⟨g', h1, h2⟩ <;> omega
              refine r_appendE ?_
              walk_at "m"
              refine ⟨f, _, rfl, S.plainL (.tail _ (.head _)), ?_⟩
              repeat walk_at "m"
              have S := S.swap
              refine r_append S (by rw [hfl', sizeLine_eq]; (with_reducible exact o_l2 (by assumption) (by assumption) (by decide))) fun s S => ?_
              have S := S.swap
              repeat walk_at "m"
              refine hQQ _ _ ⟨I', _, _, Sub.refl, ⟨rfl, found' ++ [gn], _, rfl, rfl, ⟨more ++ [gn], by rw [hmore, List.append_assoc]⟩, by rw [wd_snoc]; exact ints_snoc hfs', hB'.snoc (by rw [hmore]; exact List.mem_append_left _ hqm) hjk hent hin hgn, fun b hb g hg => ?_⟩, S.revars ⟨rfl, rfl, rfl, trivial⟩⟩
              by_cases e : b = j
              · subst e
                have : gn = g := by omega
                exact List.mem_append_right _ (by simp [this])
              · exact List.mem_append_left _ (hC' b (by omega) g hg)
          · rw [if_neg (by simpa using hg0)]
            rw [if_neg (by simp)]
            repeat walk_at "m"
            refine hQQ _ _ ⟨I', _, _, Sub.refl, ⟨rfl, found', fs', rfl, rfl, ⟨more, hmore⟩, hfs', hB', fun b hb g hg => ?_⟩, S.revars ⟨rfl, rfl, rfl, trivial⟩⟩
            by_cases e : b = j
            · subst e; omega
            · exact hC' b (by omega) g hg
        · clear S
          rintro I' vars muts s ⟨rfl, found', fs', rfl, rfl, hmore, hfs', hB', hC'⟩ S
          rw [hi'.length, hrl] at hC'
          exact hQQ _ _ ⟨rfl, found', fs', hmore, hfs', hB', hC', S⟩
      · clear S
        rintro s ⟨found', fs', ⟨more, hmore⟩, hfs', hB', hC', S⟩
        repeat walk_at "m"
        have hlt' : found.length ≤ found'.length := by rw [hmore]; simp
        refine ⟨n - (i + 1), by omega, i + 1, _, found', fs', rfl, by omega, hfs', hB', fun j q' hj hq' a ha g hg => ?_, S.revars ⟨rfl, rfl, rfl, trivial⟩⟩
        have hq'' : found[j]? = some q' := by rw [hmore, List.getElem?_append_left (by omega)] at hq'; exact hq'
        by_cases e : j = i
        · subst e
          rw [hq] at hq''; cases hq''
          exact hC' a ha g hg
        · rw [hmore]; exact List.mem_append_left _ (hC j q' (by omega) hq'' a ha g hg)
    · rw [if_neg (by simpa using hlt)]
      repeat walk_at "m"
      obtain ⟨I', hs, hil, S⟩ := S.freezeL
      have : i = found.length := by omega
      subst this
      exact ⟨_, I', _, _, rfl, hs, S, found, ⟨f, fs, rfl, hil, hfs⟩, hB, hC⟩
end
section
variable {prog : Program} {w : World} {A : Around} {E : Value → Shared → Prop} {env : Env}
variable {h₀ : Base} {I I' : Imm} {L : Addr} {vars vars' : List (Str × Value)} {muts muts' : List (Addr × Cell)} {s₀ s s' : Shared}
variable {pos npos : Pos} {v : Value} {a b : Int} {t u : Tok} {Q : Value → Shared → Prop}
/-- an automaton stands at x: these rows, these tags -/
def Auto (I : Imm) (x : Addr) (rows tags : List (List Int)) : Prop := ∃ r t, DfaAt I x r t ∧ RowsL I (.ref r) rows ∧ TagsL I (.ref t) tags
theorem Auto.sub {x : Addr} {rows tags : List (List Int)} (h : Auto I x rows tags) (s : Sub I I') : Auto I' x rows tags := let ⟨r, t, a, b, c⟩ := h; ⟨r, t, a.sub s, b.sub s, c.sub s⟩

theorem turned_ok {x : Addr} {rows tags : List (List Int)} {n k : Nat} (D : Auto I x rows tags) (H : AOk rows tags n k) (hn : n ≤ 20) (hk : k ≤ 100) :
    Fn prog w (KK w) 89 4 [.ref x] I (fun I' v => ∃ x', v = .ref x' ∧ Auto I' x' (turnedS rows tags).rows (turnedS rows tags).tags) := by
  obtain ⟨r, t, D, hr, ht⟩ := D
  intro A s hA W hI
  refine codeAny_mono (turned_fn D hr ht H.len H.one hn H.tlen H.tag H.wid hk H.ent A s hA W hI) fun r s' hR => ?_
  obtain ⟨v, h', tk, I', e1, e2, k1, hs, hI', x', r', t', rfl, D', hr', ht'⟩ := hR
  exact ⟨_, h', tk, I', e1, e2, k1, hs, hI', x', rfl, r', t', D', hr', ht'⟩

theorem least_fn {x : Addr} {rows tags : List (List Int)} {n k : Nat} (D : Auto I x rows tags) (H : AOk rows tags n k) (hn : n ≤ 4) (hk : k ≤ 100) :
    Fn prog w (KK w) 96 5 [.ref x] I (fun I' v => ∃ x', v = .ref x' ∧ Auto I' x' (turnedS (turnedS rows tags).rows (turnedS rows tags).tags).rows (turnedS (turnedS rows tags).rows (turnedS rows tags).tags).tags) := by
  refine fn_plain (vars := [("dfa", .ref x)]) (binds := [("dfa", .ref x)]) (by with_unfolding_all rfl) (by with_unfolding_all rfl) (fun s => BindsTo.of_eq rfl) (locs rfl) (by decide) (by intro p hp; simp at hp; subst hp; rfl) ?_
  intro A s₀ L s E hA S
  repeat walk_at "m"
  refine r_callg (f := 89) S (by with_unfolding_all rfl) (by with_unfolding_all rfl) ?_
  repeat walk_at "m"
  refine r_callg (f := 89) S (by with_unfolding_all rfl) (by with_unfolding_all rfl) ?_
  repeat walk_at "m"
  refine ⟨⟨_, _, _, _, _, _, S⟩, ?_⟩
  refine r_call (turned_ok D H (by with_reducible exact Nat.le_trans (by assumption) (by decide)) hk) (hA.le (by decide)) S ?_
  clear S
  rintro _ I1 s hs1 ⟨x1, rfl, D1⟩ S
  repeat walk_at "m"
  refine ⟨⟨_, _, _, _, _, _, S⟩, ?_⟩
  obtain ⟨H1, hle⟩ := (turnInv H).ok
  have h16 : 2 ^ n ≤ 2 ^ 4 := Nat.pow_le_pow_right (by decide) hn
  refine r_call (turned_ok D1 H1 (by with_reducible exact o_l2 (by assumption) (by assumption) (by decide)) hk) (hA.le (by decide)) S ?_
  clear S
  rintro _ I2 s hs2 ⟨x2, rfl, D2⟩ S
  exact ⟨_, I2, _, _, rfl, hs1.trans hs2, S, x2, rfl, D2⟩
end
section
variable {prog : Program} {w : World} {A : Around} {E : Value → Shared → Prop} {env : Env}
variable {K : Frag} {h₀ : Base} {I I' : Imm} {L : Addr} {vars vars' : List (Str × Value)} {muts muts' : List (Addr × Cell)} {s₀ s s' : Shared}
variable {x y : Str} {pos npos : Pos} {v : Value} {a b : Int} {t u : Tok}

/-- what a comprehension of two clauses asks of a turn of its first -/
def Inner (prog : Program) (w : World) (A : Around) (K : Frag) (h₀ : Base) (s₀ : Shared) (cenv : Env) (x y : Str) (v : Value) (elt : Expr) (ifs' : List Expr) (I' : Imm) (acc : List Value) (ex : List (Addr × Cell))
    (Jn : Imm → List Value → List (Addr × Cell) → Prop) (it' : Value) (s₄ : Shared) : Prop :=
  ∃ (n2 : Nat) (P2 : Nat → Value → Prop) (J2 : Nat → Imm → List Value → List (Addr × Cell) → Prop) (I2 : Imm) (muts2 : List (Addr × Cell)),
    Sub I' I2 ∧ ItAt prog w A K h₀ cenv.locals s₀ I2 [(x, v)] (ex ++ muts2) n2 P2 it' s₄ ∧ J2 0 I2 acc muts2 ∧ (∀ j I acc muts, J2 j I acc muts → acc.length ≤ sizeLine) ∧
    (∀ j u I3 acc3 muts3 ex3 s₅ E', j < n2 → P2 j u → Sub I2 I3 → J2 j I3 acc3 muts3 → St K h₀ I3 cenv.locals [(y, u), (x, v)] (ex3 ++ muts3) s₀ s₅ →
      wpAny (model prog w) A (testsT cenv ifs') (fun ok s₆ => if ok = true then wpAny (model prog w) A (eval elt cenv) (fun z s₇ => CEnd K h₀ cenv.locals s₀ I3 (fun I4 m4 => J2 (j + 1) I4 (acc3 ++ [z]) m4) ex3 [(y, u), (x, v)] s₇) E' s₆
        else CEnd K h₀ cenv.locals s₀ I3 (fun I4 m4 => J2 (j + 1) I4 acc3 m4) ex3 [(y, u), (x, v)] s₆) E' s₅) ∧
    ∀ I3 acc3 muts3, Sub I2 I3 → J2 n2 I3 acc3 muts3 → Jn I3 acc3 muts3

/-- a comprehension of two clauses -/
theorem comp2 {elt : Expr} {px py : Pos} {iter iter' : Expr} {ifs ifs' : List Expr} {scope : Scope} {cl : List (Str × Addr)} {n : Nat} {P : Nat → Value → Prop} {it : Value} {Q : Imm → List (Str × Value) → List (Addr × Cell) → Addr → List Value → Prop}
    (X : ItAt prog w A K h₀ env.locals s₀ I vars muts n P it s) (hx : ∀ C, (compEnvC scope cl C env).kindOf x = some .local) (hy : ∀ C, (compEnvC scope cl C env).kindOf y = some .local) (hxy : (x == y) = false) (hk : scope.kind = .function)
    (hs' : ∀ C x, foldedSetIterable iter' (compEnvC scope cl C env) x = pure x)
    (J : Nat → Imm → List Value → List (Addr × Cell) → Prop) (hJ : J 0 I [] muts)
    (turn : ∀ i v I' acc muts' ex C s₁ E', i < n → P i v → Sub I I' → J i I' acc muts' → St K h₀ I' C [(x, v)] (ex ++ muts') s₀ s₁ →
      wpAny (model prog w) A (testsT (compEnvC scope cl C env) ifs) (fun ok s₂ => if ok = true then wpAny (model prog w) A (eval iter' (compEnvC scope cl C env)) (fun xv s₃ => wpAny (model prog w) A (pyIter xv) (fun it' s₄ =>
          Inner prog w A K h₀ s₀ (compEnvC scope cl C env) x y v elt ifs' I' acc ex (J (i + 1)) it' s₄) E' s₃) E' s₂
        else CEnd K h₀ C s₀ I' (fun I'' m' => J (i + 1) I'' acc m') ex [(x, v)] s₂) E' s₁)
    (done : ∀ I' acc muts' D, Sub I I' → J n I' acc muts' → Q I' vars muts' D acc) :
    CompAt prog w A K h₀ env s₀ (fun C => compEnvC scope cl C env) elt [⟨.Name x px, iter, ifs, 0⟩, ⟨.Name y py, iter', ifs', 0⟩] scope pos Q it s := by
  obtain ⟨B, a, c, rfl, W, hB, S⟩ := X
  refine ⟨I, vars, (a, c 0) :: muts, S, fun C D oL s₃ R S₃ hR => ?_⟩
  have S4 := S₃.rot2
  have hne : ∀ v : Value, ∀ p ∈ ([] : List (Str × Value)), List.lookup p.1 ((x, v) :: ([] : List (Str × Value))) = some p.2 := fun v p hp => nomatch hp
  refine cstart (d := 0) rfl W hB S4 (cloop_more (d := 0) (B := fun a o => B a o ∨ I a o) (ex := [(env.locals, cIs oL)]) rfl rfl (hs' C) (hx C) hk (W.mono fun _ _ h => .inl h) J (fun a o h => h.elim (hB a o) id) S4 hJ (hne) ?_ ?_)
  · intro i v I' acc muts' s₁ E' hi hP hJ' hB' S5
    have hS : Sub I I' := fun a o h => hB' a o (.inr h)
    refine wpAny_mono (turn i v I' acc muts' _ C s₁ E' hi hP hS hJ' S5) (fun ok s₂ h₂ => ?_) fun _ _ e => e
    cases ok with
    | false => exact h₂
    | true =>
      refine wpAny_mono h₂ (fun xv s₃ h₃ => wpAny_mono h₃ (fun it' s₄ h₄ => ?_) fun _ _ e => e) fun _ _ e => e
      intro R' hR'
      obtain ⟨n2, P2, J2, I2, muts2, hs2, ⟨B2, a2, c2, rfl, W2, hB2, S6⟩, hJ2, hsz, turn2, done2⟩ := h₄
      change St K h₀ I2 C _ _ s₀ s₄ at S6
      have S7 : St K h₀ I2 C [(x, v)] ((a2, c2 0) :: (((a, c (i + 1)) :: [(env.locals, cIs oL)]) ++ (D, cList acc) :: muts2)) s₀ s₄ := by simpa using S6
      refine cstart (d := 1) rfl W2 hB2 S7 (cloop_last (d := 1) (B := fun a o => B2 a o ∨ I2 a o) (ex := (a, c (i + 1)) :: [(env.locals, cIs oL)]) rfl rfl (hy C) hk (W2.mono fun _ _ h => .inl h) J2 hsz (fun a o h => h.elim (hB2 a o) id) S7 hJ2 ?_ ?_ ?_)
      · intro u p hp
        rw [List.mem_singleton.mp hp, List.lookup_cons, hxy]
        simp
      · intro j u I3 acc3 muts3 s₅ E'' hj hP2 hJ3 hB3 S8
        exact turn2 j u I3 acc3 muts3 _ s₅ E'' hj hP2 (fun a o h => hB3 a o (.inr h)) hJ3 S8
      · intro I3 acc3 muts3 s₅ hJ3 hB3 S8
        have hs3 : Sub I2 I3 := fun a o h => hB3 a o (.inr h)
        exact hR' I3 acc3 muts3 s₅ (hs2.trans hs3) (done2 I3 acc3 muts3 hs3 hJ3) (by simpa using S8)
  · intro I' acc muts' s' hJ' hB' S5
    exact hR I' [] acc muts' s' S5 (done I' acc muts' D (fun a o h => hB' a o (.inr h)) hJ')
end
section
variable {prog : Program} {w : World} {A : Around} {E : Value → Shared → Prop} {env : Env}
variable {K : Frag} {h₀ : Base} {I I' : Imm} {L : Addr} {vars vars' : List (Str × Value)} {muts muts' : List (Addr × Cell)} {s₀ s s' : Shared}
variable {x : Str} {pos npos : Pos} {v u : Value} {a b : Int} {t t' : Tok} {Q : Value → Shared → Prop}

theorem r_addT (S : St K h₀ I L vars muts s₀ s) {ns ms : List Int} (h1 : IntsT I v ns) (h2 : IntsT I u ms) (hne : ms ≠ []) (hsz : ns.length + ms.length ≤ sizeLine) (h : ∀ v' I' s', Sub I I' → IntsT I' v' (ns ++ ms) → St K h₀ I' L vars muts s₀ s' → Q v' s') :
    wpAny (model prog w) A (binaryOp .Add v u) Q E s := by
  obtain ⟨ta, vs, rfl, ht, hi⟩ := id h1
  obtain ⟨tb, us, rfl, hb, hj⟩ := id h2
  obtain ⟨m, F, hm⟩ := S.toFr
  have hus : us ≠ [] := by rintro rfl; cases hj; exact hne rfl
  refine add_tuples_right F S.toNews (S.tupI ht) (S.tupI hb) hi hj hus (fun e => ?_) (fun h' F' N' hij => ?_) (by rw [hi.length, hj.length]; exact hsz)
  · subst e
    exact h _ I s Sub.refl h2 S
  · have S' := S.ofFrNew (tk := s.toks) (c := cIs (TO (vs ++ us))) hm F' N' fresh_size rfl
    exact h _ _ _ Sub.add ⟨_, vs ++ us, rfl, ⟨_, Add.here, rfl, 0, rfl⟩, hij⟩ S'.freezeAt
theorem r_addL (S : St K h₀ I L vars muts s₀ s) {l b : Addr} {vs us : List Value} (hl : s.heap.IsList l vs.toArray) (hb : s.heap.IsList b us.toArray) (hsz : vs.length + us.length ≤ sizeLine) (h : ∀ D s', St K h₀ I L vars ((D, cList (vs ++ us)) :: muts) s₀ s' → Q (.ref D) s') :
    wpAny (model prog w) A (binaryOp .Add (.ref l) (.ref b)) Q E s := by
  obtain ⟨m, F, hm⟩ := S.toFr
  refine add_lists F S.toNews hl hb (fun h' F' N' => ?_) hsz
  exact h _ _ (S.ofFrNew (tk := s.toks) (c := cList (vs ++ us)) hm F' N' fresh_size ⟨0, rfl⟩)
/-- an item counted from the end -/
theorem r_itemN {l : Addr} {vs : List Value} {value slice : Expr} (hl : s.heap.IsList l vs.toArray) (h0 : a < 0) (h1 : -(vs.length : Int) ≤ a) (hfit : -1000000 ≤ a) (hx : vs[(a + vs.length).toNat]? = some v) (h : Q v s)
    (hs : subscripted slice false (.ref l) (.int a t) = operate [.ref l, .int a t] (getItem (.ref l) (.int a t)) := by with_unfolding_all rfl) :
    wpAny (model prog w) A (subscriptTail value slice (.ref l) (.int a t)) Q E s :=
  tail_any hl.typeIs slot_list_getitem.lookup (wpAny_getItem_list_neg hl h0 (by simpa using h1) (by omega) (by simpa using hx) h) hs
theorem r_max (S : St K h₀ I L vars muts s₀ s) (hh : A.handled = none) (h : ∀ t s', St K h₀ I L vars muts s₀ s' → Q (.int (mx a b) t) s') : wpAny (model prog w) A (call (.builtin "max") [.int a t, .int b t']) Q E s := by
  refine max_two_ints hh fun h' tk hk => ?_
  have S' := S.ext (tk := tk) hk
  unfold mx at h
  split
  · rename_i hc; simp only [hc, if_true] at h; exact h _ _ S'
  · rename_i hc; simp only [hc, if_false] at h; exact h _ _ S'
theorem r_min (S : St K h₀ I L vars muts s₀ s) (hh : A.handled = none) (h : ∀ t s', St K h₀ I L vars muts s₀ s' → Q (.int (mn a b) t) s') : wpAny (model prog w) A (call (.builtin "min") [.int a t, .int b t']) Q E s := by
  refine min_two_ints hh fun h' tk hk => ?_
  have S' := S.ext (tk := tk) hk
  unfold mn at h
  split
  · rename_i hc; simp only [hc, if_true] at h; exact h _ _ S'
  · rename_i hc; simp only [hc, if_false] at h; exact h _ _ S'
/-- a finished table -/
def TabI (prog : Program) (w : World) (I : Imm) (d : Addr) (xs : List (List Int × Addr × Value)) : Prop := ∃ o, I d o ∧ cTab prog w xs o
theorem TabI.sub {d : Addr} {xs : List (List Int × Addr × Value)} (h : TabI prog w I d xs) (s : Sub I I') : TabI prog w I' d xs := let ⟨o, e, c⟩ := h; ⟨o, s _ _ e, c⟩
theorem r_notinTI {d ka : Addr} {ks : List Int} {xs : List (List Int × Addr × Value)} (S : St K h₀ I L vars muts s₀ s) (hA : OkA 1 A) (T : TabI prog w I d xs) (hx : KeysIn I xs) (hd : (d == sysModules) = false) (hk : TKey I ks ka)
    (h : ∀ s', St K h₀ I L vars muts s₀ s' → Q (.bool (!(atKey xs ks).isSome)) s') : wpAny (model prog w) A (compareOp .NotIn (.ref ka) (.ref d)) Q E s := by
  obtain ⟨o, hI, es, ep, h1, h2, h3, h4⟩ := T
  exact wpAny_notIn_heap (knd := Tk prog w) hA.cl1 (hk.is S) hd ⟨o, es, ep, (S.imm _ _ hI).1, h1, h2, h3, fun x hx' => (hx x hx').is S, h4⟩ (h _ S.toks)

/-- the keys of a table -/
def ky (xs : List (List Int × Addr × Value)) : List (List Int) := xs.map (·.1)
theorem atKey_iff {xs : List (List Int × Addr × Value)} {ks : List Int} : (atKey xs ks).isSome = true ↔ ks ∈ ky xs := by
  unfold atKey ky
  rw [Option.isSome_map, List.find?_isSome, List.mem_map]
  constructor
  · rintro ⟨x, hx, e⟩; exact ⟨x, hx, of_decide_eq_true e⟩
  · rintro ⟨x, hx, e⟩; exact ⟨x, hx, decide_eq_true e⟩
theorem ky_stored {xs : List (List Int × Addr × Value)} {ks : List Int} {ka : Addr} {v : Value} : (ks ∈ ky xs → ky (storedH xs ks ka v) = ky xs) ∧ (ks ∉ ky xs → ky (storedH xs ks ka v) = ky xs ++ [ks]) := by
  unfold storedH
  constructor
  · intro h
    rw [if_pos (atKey_iff.mpr h)]
    exact keys_map_putAt xs ks v
  · intro h
    rw [if_neg (fun e => h (atKey_iff.mp e))]
    simp [ky]
theorem KeysIn.stored {xs : List (List Int × Addr × Value)} {ks : List Int} {ka : Addr} (h : KeysIn I xs) (hk : TKey I ks ka) : KeysIn I (storedH xs ks ka v) := by
  intro x hx
  rcases mem_storedH hx with ⟨y, hy, e1, e2⟩ | ⟨e1, e2⟩
  · rw [e1, e2]; exact h y hy
  · rw [e1, e2]; exact hk
end
section
variable {prog : Program} {w : World} {A : Around} {E : Value → Shared → Prop} {env : Env}
variable {h₀ : Base} {I I' : Imm} {L : Addr} {vars vars' : List (Str × Value)} {muts muts' : List (Addr × Cell)} {s₀ s s' : Shared}
variable {pos npos : Pos} {v : Value} {a b : Int} {t u : Tok} {Q : Value → Shared → Prop}
/-- a list of words of at most l classes, each below k -/
def WordsOk (k l : Nat) (ws : List (List Nat)) : Prop := ∀ x ∈ ws, x.length ≤ l ∧ ∀ a ∈ x, a < k
abbrev WT (I : Imm) (vs : List Value) (ws : List (List Nat)) : Prop := All2 (fun v x => IntsT I v (wd x)) vs ws
theorem WordsOk.mono {k l l' : Nat} {ws : List (List Nat)} (h : WordsOk k l ws) (hl : l ≤ l') : WordsOk k l' ws := fun x hx => ⟨Nat.le_trans (h x hx).1 hl, (h x hx).2⟩
theorem WordsOk.app {k l : Nat} {ws us : List (List Nat)} (h : WordsOk k l ws) (h' : WordsOk k l us) : WordsOk k l (ws ++ us) := fun x hx => (List.mem_append.mp hx).elim (h x) (h' x)

theorem words_fn {k : Nat} {tk : Tok} (hk : k ≤ 3) : Fn prog w (KK w) 113 4 [.int k tk] I (fun I' v => ∃ l vs ws, v = .ref l ∧ IL I' l vs ∧ WT I' vs ws ∧ WordsOk k 4 ws ∧ ws.length ≤ 1000) := by
  refine fn_cells (vars := []) (binds := [("width", .int k tk)]) (by with_unfolding_all rfl) (by with_unfolding_all rfl) (fun s => BindsTo.of_eq rfl) (by with_unfolding_all rfl) (by decide) (fun L x v h => by simp at h) ?_
  intro A s₀ L s E hA S
  replace S : St (KK w) ⟨s₀.heap, I⟩ I L [] [(L + 1, fun o => o.data = .cell (some (.int k tk)))] s₀ s := S
  obtain ⟨oc, hoc, _, S⟩ := S.freeze
  have hIc : Add I (L + 1) oc (L + 1) oc := Add.here
  have hsI : Sub I (Add I (L + 1) oc) := Sub.add
  generalize Add I (L + 1) oc = I2 at *
  repeat walk_at "m"
  refine tuple_empty S ?_
  clear S; intro v1 I3 s hs3 hv1 S
  repeat walk_at "m"
  refine r_newList S (fun wl s S => ?_) (by simp [sizeLine_eq])
  obtain ⟨I4, hs4, hwl, S⟩ := S.freezeL
  repeat walk_at "m"
  refine tuple_empty S ?_
  clear S; intro v2 I5 s hs5 hv2 S
  repeat walk_at "m"
  refine r_newList S (fun fl s S => ?_) (by simp [sizeLine_eq])
  obtain ⟨I6, hs6, hfl, S⟩ := S.freezeL
  walk_at "m"
  repeat walk_at "n"
  refine r_seq (fun s => ∃ (I' : Imm) (fl : Addr) (fs : List Value) (found : List (List Nat)), Sub I2 I' ∧ IL I' fl fs ∧ WT I' fs found ∧ WordsOk k 4 found ∧ found.length ≤ 1000 ∧ St (KK w) ⟨s₀.heap, I⟩ I' L [("found", .ref fl)] [] s₀ s) ?_ ?_
  · refine opq fun QQ hQQ => ?_
    refine r_for (K := KK w) (h₀ := ⟨s₀.heap, I⟩) (s₀ := s₀) (by rfl) (by rfl) ?_
    refine r_callt (T := "range") S (by with_unfolding_all rfl) (by with_unfolding_all rfl) (by decide) ?_
    walk_at "n"
    refine wpAny_mono (Q := fun v s => ∃ (m : Nat) (tm : Tok), v = .int m tm ∧ m ≤ 4 ∧ St (KK w) ⟨s₀.heap, I⟩ I6 L [("found", .ref fl), ("words", .ref wl)] [] s₀ s) ?_ ?_ fun _ _ e => e
    · repeat walk_at "n"
      refine r_cell S (c := L + 1) (o := oc) (by rfl) (hs6 _ _ (hs5 _ _ (hs4 _ _ (hs3 _ _ hIc)))) hoc ?_
      repeat walk_at "n"
      by_cases hw3 : (k : Int) < 3
      · rw [if_pos (by simpa using hw3)]
        repeat walk_at "n"
        exact ⟨4, _, rfl, by (decide), S.revars ⟨rfl, rfl, trivial⟩⟩
      · rw [if_neg (by simpa using hw3)]
        repeat walk_at "n"
        exact ⟨3, _, rfl, by (decide), S.revars ⟨rfl, rfl, trivial⟩⟩
    · clear S
      rintro _ s ⟨m, tm, rfl, hm, S⟩
      repeat walk_at "n"
      refine r_range1 S ?_
      clear S; intro rg s t₁ t₂ t₃ S hrg
      refine iter_range (fun (i : Nat) (I' : Imm) (vars : List (Str × Value)) (muts : List (Addr × Cell)) => Sub I2 I' ∧ muts = [] ∧ i ≤ m ∧ ∃ (wl fl : Addr) (ws fs : List Value) (words found : List (List Nat)), vars = ([("words", .ref wl), ("found", .ref fl)] : List (Str × Value)) ∧
        IL I' wl ws ∧ WT I' ws words ∧ WordsOk k i words ∧ words.length ≤ 3 ^ i ∧ IL I' fl fs ∧ WT I' fs found ∧ WordsOk k i found ∧ found.length ≤ 1 + 81 * i) hA.hh (S.revars (vars' := [("words", .ref wl), ("found", .ref fl)]) ⟨rfl, rfl, trivial⟩) hrg (by decide) (by decide) (by with_reducible exact neg_nat _) (by with_reducible exact o_i1 (by assumption) (by decide)) ?_ ?_ ?_
      · have hone : WordsOk k 0 [[]] := fun x hx => by rw [List.mem_singleton.mp hx]; exact ⟨Nat.le_refl _, fun a ha => by cases ha⟩
        exact ⟨((hs3.trans hs4).trans hs5).trans hs6, rfl, Nat.zero_le _, wl, fl, _, _, [[]], [[]], rfl, (hwl.sub hs5).sub hs6, .cons (((hv1.sub hs4).sub hs5).sub hs6) .nil, hone, by simp, hfl, .cons (hv2.sub hs6) .nil, hone, by simp⟩
      · clear S
        rintro i ti I' vars muts s a c E' hi ⟨hsI', rfl, him, wl, fl, ws, fs, words, found, rfl, hwl, hws, hwok, hwlen, hfl, hfs, hfok, hflen⟩ S
        refine opq fun QQ hQQ => ?_
        have him' : i < m := by (with_reducible exact o_t1 (by assumption))
        have h3 : 3 ^ i ≤ 3 ^ 3 := Nat.pow_le_pow_right (by decide) (by omega)
        have h3' : 3 ^ (i + 1) = 3 ^ i * 3 := Nat.pow_succ 3 i
        have hwsl := hws.length
        refine r_seq (fun s => ∃ I3 wl ws words, Sub I' I3 ∧ IL I3 wl ws ∧ WT I3 ws words ∧ WordsOk k (i + 1) words ∧ words.length ≤ 3 ^ (i + 1) ∧ IL I3 fl fs ∧ WT I3 fs found ∧ St (KK w) ⟨s₀.heap, I⟩ I3 L [("words", .ref wl), ("found", .ref fl)] [(a, c)] s₀ s) ?_ ?_
        · refine opq fun QQ hQQ => ?_
          refine r_assign_comp (K := KK w) (h₀ := ⟨s₀.heap, I⟩) (s₀ := s₀) (cl := [("width", L + 1)]) (by rfl) (by rfl) (by rfl) (by rfl) (by decide) (by rfl) (by decide) ?_
          repeat walk_at "n"
          refine it_list hA.hh S hwl fun it s X => ?_
          clear S
          have hIc' := hsI' _ _ hIc
          refine comp2 X (fun C => by rfl) (fun C => by rfl) (by decide) rfl (fun C x => by rfl) (fun (j : Nat) (I3 : Imm) (acc : List Value) (muts : List (Addr × Cell)) => muts = [(a, c)] ∧ j ≤ ws.length ∧ ∃ nw, WT I3 acc nw ∧ WordsOk k (i + 1) nw ∧ nw.length ≤ j * 3) ⟨rfl, Nat.zero_le _, [], .nil, (fun x hx => by cases hx), by simp⟩ ?_ ?_
          · rintro j v I3 acc muts ex C s E' hj hv hs3 ⟨rfl, hjl, nw, hnw, hnok, hnl⟩ S
            obtain ⟨wrd, hwrd, hvT⟩ := hws.get hv
            obtain ⟨hwl2, hwk2⟩ := hwok wrd (List.mem_of_getElem? hwrd)
            refine tests0 ?_
            rw [if_pos rfl]
            refine r_callt (T := "range") S (by with_unfolding_all rfl) (by with_unfolding_all rfl) (by decide) ?_
            repeat walk_at "n"
            refine r_cell S (c := L + 1) (o := oc) (by rfl) (hs3 _ _ hIc') hoc ?_
            repeat walk_at "n"
            refine r_range1 S ?_
            clear S; intro rg s t₁ t₂ t₃ S hrg
            refine it_range hA.hh S hrg (by decide) (by decide) (by with_reducible exact neg_nat _) (by with_reducible exact o_i1 (by assumption) (by decide)) fun it s X => ?_
            clear S
            refine ⟨_, _, fun (jj : Nat) (I4 : Imm) (acc : List Value) (muts : List (Addr × Cell)) => muts = [(a, c)] ∧ jj ≤ k ∧ ∃ nw, WT I4 acc nw ∧ WordsOk k (i + 1) nw ∧ nw.length ≤ j * 3 + jj, I3, [(a, c)], Sub.refl, X, ⟨rfl, Nat.zero_le _, nw, hnw, hnok, by omega⟩, ?_, ?_, ?_⟩
            · rintro jj I4 acc muts ⟨_, hjj, nw, hnw, _, hnl⟩
              rw [hnw.length, sizeLine_eq]; omega
            · clear X
              rintro jj u I4 acc4 muts4 ex4 s E'' hjj ⟨tu, rfl⟩ hs4 ⟨rfl, hjk, nw4, hnw4, hnok4, hnl4⟩ S
              refine tests0 ?_
              rw [if_pos rfl]
              repeat walk_at "n"
              refine r_newTuple S ?_ (by simp [sizeLine_eq])
              clear S; intro D s I5 hs5 hT S
              refine r_addT S (ns := wd wrd) (ms := [(0 : Int) + (jj : Int)]) ((hvT.sub (hs3.trans hs4)).sub hs5) ⟨D, _, rfl, hT, .cons _ _ .nil⟩ (by simp) (by rw [wd_len, sizeLine_eq]; simp; omega) ?_
              clear S; intro v' I6 s hs6 hv' S
              refine ⟨I6, [(a, c)], hs5.trans hs6, ⟨rfl, by (with_reducible exact o_t2 (by assumption)), nw4 ++ [wrd ++ [jj]], ?_, ?_, by simp; omega⟩, S⟩
              · refine (hnw4.mono fun _ _ h => (h.sub hs5).sub hs6).snoc ?_
                rw [Int.zero_add] at hv'
                rw [wd_snoc]; exact hv'
              · refine hnok4.app fun x hx => ?_
                rw [List.mem_singleton.mp hx]
                refine ⟨by simp; omega, fun b hb => ?_⟩
                rcases List.mem_append.mp hb with h | h
                · exact hwk2 b h
                · rw [List.mem_singleton.mp h]; (with_reducible exact o_t1 (by assumption))
            · rintro I4 acc4 muts4 hs4 ⟨rfl, hjk, nw4, hnw4, hnok4, hnl4⟩
              exact ⟨rfl, by (with_reducible exact Nat.succ_le_of_lt (by assumption)), nw4, hnw4, hnok4, by omega⟩
          · rintro I3 acc muts D hs3 ⟨rfl, _, nw, hnw, hnok, hnl⟩ s S
            obtain ⟨I4, hs4, hil, S⟩ := S.freezeL
            exact hQQ _ _ ⟨rfl, I4, D, acc, nw, hs3.trans hs4, hil, hnw.mono fun _ _ h => h.sub hs4, hnok, by omega, (hfl.sub hs3).sub hs4, hfs.mono fun _ _ h => (h.sub hs3).sub hs4, S.revars ⟨rfl, rfl, trivial⟩⟩
        · clear S
          rintro s ⟨I3, wl3, ws3, words3, hs3, hwl3, hws3, hwok3, hwlen3, hfl3, hfs3, S⟩
          repeat walk_at "m"
          have := hfs3.length
          have := hws3.length
          refine r_addL S (S.lstI hfl3) (S.lstI hwl3) (szl (by omega)) ?_
          clear S; intro D s S
          obtain ⟨I4, hs4, hil, S⟩ := S.freezeL
          repeat walk_at "m"
          exact hQQ _ _ ⟨I4, _, _, hs3.trans hs4, ⟨(hsI'.trans hs3).trans hs4, rfl, by (with_reducible exact o_t2 (by assumption)), wl3, D, ws3, fs ++ ws3, words3, found ++ words3, rfl, hwl3.sub hs4, hws3.mono fun _ _ h => h.sub hs4, hwok3, hwlen3, hil, (hfs3.append hws3).mono fun _ _ h => h.sub hs4, (hfok.mono (by with_reducible exact Nat.le_succ _)).app hwok3, by simp; omega⟩, S.revars ⟨rfl, rfl, trivial⟩⟩
      · clear S
        rintro I' vars muts s ⟨hsI', rfl, him, wl, fl, ws, fs, words, found, rfl, hwl, hws, hwok, hwlen, hfl, hfs, hfok, hflen⟩ S
        have hmm : ((m : Int) - 0).toNat = m := by (with_reducible exact o_t0 _)
        rw [hmm] at hfok hflen
        exact hQQ _ _ ⟨rfl, I', fl, fs, found, hsI', hfl, hfs, hfok.mono hm, by omega, S.revars ⟨rfl, trivial⟩⟩
  · clear S
    rintro s ⟨I', fl, fs, found, hs, hfl, hfs, hfok, hflen, S⟩
    repeat walk_at "m"
    exact ⟨_, I', _, _, rfl, hsI.trans hs, S, fl, fs, found, rfl, hfl, hfs, hfok, hflen⟩
end
section
variable {prog : Program} {w : World} {A : Around} {E : Value → Shared → Prop} {env : Env}
variable {K : Frag} {h₀ : Base} {I I' : Imm} {L : Addr} {vars vars' : List (Str × Value)} {muts muts' : List (Addr × Cell)} {s₀ s s' : Shared}
variable {x : Str} {pos npos : Pos} {v : Value} {a b : Int} {t u : Tok}

theorem St.addCells {C : Addr} (S0 : St K h₀ I L vars muts s₀ s) (S1 : St K h₀ I C vars' muts' s₀ s') (hm : ∀ p ∈ muts', ∃ o, s.heap.get? p.1 = some o) {cs : List (Addr × Cell)}
    (hc : ∀ p ∈ cs, (∃ o, s'.heap.get? p.1 = some o ∧ p.2 o) ∧ p.1 ≠ C ∧ s.heap.get? p.1 = none) (hp : cs.Pairwise (fun p q => p.1 ≠ q.1)) : St K h₀ I C vars' (cs ++ muts') s₀ s' :=
  { S1 with
    cel := fun p hp => by
      rcases List.mem_append.mp hp with h | h
      · obtain ⟨h1, h2, h3⟩ := hc p h
        refine ⟨h1, h2, ?_, fun o hI => ?_⟩
        · cases e : h₀.h.get? p.1 with
          | none => rfl
          | some o' => have := S0.keep _ _ e; rw [h3] at this; cases this
        · have := (S0.imm _ _ hI).1; rw [h3] at this; cases this
      · exact S1.cel p h
    nd := by
      refine List.pairwise_append.mpr ⟨hp, S1.nd, fun p hp q hq => ?_⟩
      intro e
      obtain ⟨o, ho⟩ := hm q hq
      have := (hc p hp).2.2
      rw [e, ho] at this; cases this }

/-- a call, of a def with captured names, that may turn the caller's cells -/
theorem fnM_cells {f : Addr} {n : Nat} {args : List Value} {R : Value → Imm → List (Addr × Cell) → Shared → Prop} {name qual : Str} {params : Arguments} {body : List Stmt} {scope : Scope} {dV kV doc pm cdv ct oc : Value} {an od : Option Addr} {osl : Array (Option Value)} {binds : List (Str × Value)} {Q : Value → Shared → Prop}
    (hA : OkA (n + 1) A) (S : St K h₀ I L vars muts s₀ s)
    (ho : K.lookup f = some ⟨oc, od, .func (fnOf name qual params body scope dV kV doc pm an cdv ct), osl⟩) (hcd : codeIn K cdv qual = true)
    (hbind : ∀ s, BindsTo s (fnOf name qual params body scope dV kV doc pm an cdv ct) ⟨args, []⟩ binds)
    (hkind : (binds.all fun y => scope.names.lookup y.1 == some .local || scope.names.lookup y.1 == some .cell) = true)
    (hnd : ((cellsFrom 0 scope.names []).map (·.1)).Nodup)
    (hvars : ∀ L x v, vars'.lookup x = some v → bindL (envOfC qual scope L f cdv).kindOf binds (fun _ => none) x = some v)
    (h : ∀ A' C oL s₁ E, OkA n A' → St K h₀ I C vars' (cellsOf C f qual scope cdv binds ++ (L, cIs oL) :: muts) s₀ s₁ → wpAny (model prog w) A' (execs body (envX qual scope C f cdv (cellsFrom (C + 1) scope.names []))) (FnEndM K h₀ s₀ C L oL vars R) E s₁)
    (hR : ∀ v I' muts' s', R v I' muts' s' → Q v s')
    (hco : scope.isCoroutine = false := by rfl) (hgen : scope.isGenerator = false := by rfl) (hk : scope.kind = .function := by rfl) : wpAny (model prog w) A (call (.ref f) args []) Q E s := by
  have W := S.wds
  refine wpAny_call (codeAny_call_function (fd := fnOf name qual params body scope dV kV doc pm an cdv ct) (body := body) hA.room (W.1 _ _ ho) rfl hco hgen rfl (codeRec_of W.1 hcd) (hbind s _ _ _ _ ?_))
  refine wpAny_newFunctionEnv_cells hk (kindsX hkind _) fun env' he s' x => ?_
  subst he
  refine ⟨W.nolimit.keeps x.toInCall.keep, codeAny_func ?_⟩
  have xd := x.done
  obtain ⟨h₁, tk, rfl, _⟩ := xd
  have hk₁ := x.toInCall.keep
  have hlt : ∀ a, s.heap.objs.size ≤ a → s.heap.get? a = none := fun a ha => by
    cases e : s.heap.get? a with
    | none => rfl
    | some o' => exact absurd (Heap.lt_size e) (Nat.not_lt.mpr ha)
  obtain ⟨oL, hL, S1⟩ := S.enterNsM (vars' := vars') (tk := tk) hk₁ fresh_size (Nat.le_refl _) x.toInCall.ns (fun y v e => hvars _ y v e)
  have S2 : St K h₀ I s.heap.objs.size vars' (cellsOf s.heap.objs.size f qual scope cdv binds ++ (L, cIs oL) :: muts) s₀ { s with heap := h₁, toks := tk } := by
    refine S.addCells S1 (fun p hp => ?_) (fun p hp => ?_) ?_
    · rcases List.mem_cons.mp hp with rfl | hp
      · obtain ⟨m, ⟨o', _, _, e, _⟩, _⟩ := S.ns
        exact ⟨o', e⟩
      · obtain ⟨⟨o', e, _⟩, _⟩ := S.cel p hp
        exact ⟨o', e⟩
    · obtain ⟨⟨y, c⟩, hm, rfl⟩ := List.mem_map.mp hp
      have hl := lookup_of_mem_nodup (cellsFrom_names scope.names 0 (s.heap.objs.size + 1) [] [] rfl ▸ hnd) hm
      obtain ⟨o, e, hd⟩ := x.cell y c hl
      have hab' : s.heap.objs.size < c := x.above y c hm
      exact ⟨⟨o, e, hd⟩, Nat.ne_of_gt hab', hlt _ (Nat.le_of_lt hab')⟩
    · exact List.pairwise_map.mpr x.apart
  refine wpAny_mono (h _ _ oL _ _ hA.deeper S2) (fun fl s' hl => ?_) fun _ _ e => e
  obtain ⟨v, I', vars₂, muts', rfl, S', hR'⟩ := hl
  exact hR _ _ _ _ (hR' _ (S'.leaveNs hL S.above).drop)
end
section
variable {prog : Program} {w : World} {A : Around} {E : Value → Shared → Prop} {env : Env}
variable {h₀ : Base} {I I' : Imm} {L : Addr} {vars vars' : List (Str × Value)} {muts muts' : List (Addr × Cell)} {s₀ s s' : Shared}
variable {pos npos : Pos} {v : Value} {a b : Int} {t u : Tok} {Q : Value → Shared → Prop}
abbrev cPen0 (pa : Addr) (seat : Nat) : Cell := fun o => ∃ great t₁ t₂, cPen pa seat great t₁ t₂ o
theorem draw_any {p pa : Addr} {vs : List Value} {cells : List Int} {many : Nat} {tm : Tok} {b : Nat} {ex : List (Addr × Cell)} (hA : OkA 1 A) (S : St (KK w) h₀ I L vars (ex ++ (p, fun o => ∃ seat great t₁ t₂, seat ≤ b ∧ cPen pa seat great t₁ t₂ o) :: muts) s₀ s) (hpa : IL I pa vs) (hi : IntsAre vs cells)
    (hlen : cells.length ≤ 63) (hb : b ≤ 1000) (hm1 : 1 ≤ many) (hm2 : many ≤ 100)
    (h : ∀ (d : Nat) t s', d < many → St (KK w) h₀ I L vars (ex ++ (p, fun o => ∃ seat great t₁ t₂, seat ≤ b + 1 ∧ cPen pa seat great t₁ t₂ o) :: muts) s₀ s' → Q (.int d t) s') :
    wpAny (model prog w) A (call (.ref 103) [.ref p, .int many tm] []) Q E s := by
  have S1 := S.front
  obtain ⟨o, ⟨seat, great, t₁, t₂, hsb, ho⟩, S2⟩ := S1.pin
  have S3 : St (KK w) h₀ I L vars ((p, cPen pa seat great t₁ t₂) :: (ex ++ muts)) s₀ s := S2.weak fun o' e => by cases e; exact ho
  refine draw_fn hA S3 hpa hi hlen (by with_reducible exact o_l2 (by assumption) (by assumption) (by decide)) hm1 hm2 ?_
  intro d t t₁ t₂ seat' great' s' hd hs S4
  exact h d t s' hd (St.back (S4.weak fun o ho => ⟨seat', great', t₁, t₂, by omega, ho⟩))

/-- the pen after at most b draws -/
abbrev cPenB (pa : Addr) (b : Nat) : Cell := fun o => ∃ seat great t₁ t₂, seat ≤ b ∧ cPen pa seat great t₁ t₂ o

theorem automaton_fn {p pa : Addr} {vs : List Value} {cells : List Int} (hA : OkA 3 A) (S : St (KK w) h₀ I L vars ((p, cPenB pa 0) :: muts) s₀ s) (hpa : IL I pa vs) (hcells : IntsAre vs cells) (hlen : cells.length ≤ 63)
    (h : ∀ tu ra ta rows tags n k I' s', Sub I I' → IT I' tu [.ref ra, .ref ta] → RowsL I' (.ref ra) rows → TagsL I' (.ref ta) tags → AOk rows tags n k → n ≤ 4 → 1 ≤ k → k ≤ 3 → St (KK w) h₀ I' L vars ((p, cPenB pa 100) :: muts) s₀ s' → Q (.ref tu) s') :
    wpAny (model prog w) A (call (.ref 108) [.ref p] []) Q E s := by
  refine fnM_cells (n := 2) (vars' := []) (binds := [("pen", .ref p)]) (R := fun v I' muts' s' => ∃ tu ra ta rows tags n k, v = .ref tu ∧ Sub I I' ∧ IT I' tu [.ref ra, .ref ta] ∧ RowsL I' (.ref ra) rows ∧ TagsL I' (.ref ta) tags ∧ AOk rows tags n k ∧ n ≤ 4 ∧ 1 ≤ k ∧ k ≤ 3 ∧ St (KK w) h₀ I' L vars ((p, cPenB pa 100) :: muts) s₀ s') hA S (by with_unfolding_all rfl) (by with_unfolding_all rfl) (fun s => BindsTo.of_eq rfl) (by with_unfolding_all rfl) (by decide) (fun L x v h => by simp at h) ?_ ?_
  · clear S
    intro A C oL s E hA S
    replace S : St (KK w) h₀ I C [] ((C + 3, fun o => o.data = .cell none) :: (C + 2, fun o => o.data = .cell none) :: (C + 1, fun o => o.data = .cell (some (.ref p))) :: (L, cIs oL) :: (p, cPenB pa 0) :: muts) s₀ s := S
    have S := S.tf 2
    dsimp only [toFront] at S
    obtain ⟨oc, hoc, _, S⟩ := S.freeze
    have hIc : Add I (C + 1) oc (C + 1) oc := Add.here
    have hsI : Sub I (Add I (C + 1) oc) := Sub.add
    replace hpa := hpa.sub hsI
    generalize Add I (C + 1) oc = I2 at *
    repeat walk_at "m"
    refine r_callg (f := 103) S (by with_unfolding_all rfl) (by with_unfolding_all rfl) ?_
    repeat walk_at "m"
    refine r_cell S (c := C + 1) (o := oc) (by rfl) hIc hoc ?_
    repeat walk_at "m"
    refine ⟨⟨_, _, _, _, _, _, S⟩, ?_⟩
    refine draw_any (many := 4) (b := 0) (ex := [(C + 3, fun o => o.data = .cell none), (C + 2, fun o => o.data = .cell none), (L, cIs oL)]) (hA.le (by decide)) S hpa hcells hlen (by decide) (by decide) (by decide) ?_
    clear S; intro d1 td1 s hd1 S
    repeat walk_at "m"
    obtain ⟨n, hn, hn1, hn4⟩ : ∃ n : Nat, (1 : Int) + (d1 : Int) = n ∧ 1 ≤ n ∧ n ≤ 4 := ⟨1 + d1, by omega, by omega, by omega⟩
    rw [hn]
    dsimp only [List.cons_append, List.nil_append] at S
    have S := S.tf 1
    dsimp only [toFront] at S
    refine r_storeC S (c := C + 2) (by rfl) ?_
    clear S; intro s S
    obtain ⟨on, hon, _, S⟩ := S.freeze
    have hIn : Add I2 (C + 2) on (C + 2) on := Add.here
    have hs3 : Sub I2 (Add I2 (C + 2) on) := Sub.add
    generalize Add I2 (C + 2) on = I3 at *
    replace hon : on.data = .cell (some (.int (n : Int) t)) := hon
    obtain ⟨tn, hon⟩ : ∃ tn, on.data = .cell (some (.int (n : Int) tn)) := ⟨_, hon⟩
    repeat walk_at "m"
    refine r_callg (f := 103) S (by with_unfolding_all rfl) (by with_unfolding_all rfl) ?_
    repeat walk_at "m"
    refine r_cell S (c := C + 1) (o := oc) (by rfl) (hs3 _ _ hIc) hoc ?_
    repeat walk_at "m"
    refine ⟨⟨_, _, _, _, _, _, S⟩, ?_⟩
    refine draw_any (many := 3) (b := 1) (ex := [(C + 3, fun o => o.data = .cell none), (L, cIs oL)]) (hA.le (by decide)) S (hpa.sub hs3) hcells hlen (by decide) (by decide) (by decide) ?_
    clear S; intro d2 td2 s hd2 S
    repeat walk_at "m"
    obtain ⟨k, hk, hk1, hk3⟩ : ∃ k : Nat, (1 : Int) + (d2 : Int) = k ∧ 1 ≤ k ∧ k ≤ 3 := ⟨1 + d2, by omega, by omega, by omega⟩
    rw [hk]
    dsimp only [List.cons_append, List.nil_append] at S
    refine r_storeC S (c := C + 3) (by rfl) ?_
    clear S; intro s S
    obtain ⟨ok, hok, _, S⟩ := S.freeze
    have hIk : Add I3 (C + 3) ok (C + 3) ok := Add.here
    have hs4 : Sub I3 (Add I3 (C + 3) ok) := Sub.add
    generalize Add I3 (C + 3) ok = I4 at *
    replace hok : ok.data = .cell (some (.int (k : Int) t)) := hok
    obtain ⟨tk, hok⟩ : ∃ tk, ok.data = .cell (some (.int (k : Int) tk)) := ⟨_, hok⟩
    replace hIc := hs4 _ _ (hs3 _ _ hIc)
    replace hIn := hs4 _ _ hIn
    replace hpa := (hpa.sub hs3).sub hs4
    have S := S.swap
    repeat walk_at "n"
    refine r_seq (fun s => ∃ I' ra rows, Sub I4 I' ∧ RowsL I' (.ref ra) rows ∧ rows.length = n ∧ (∀ row ∈ rows, row.length = k ∧ ∀ x ∈ row, -1 ≤ x ∧ x < (n : Int)) ∧ St (KK w) h₀ I' C [("rows", .ref ra)] ((p, cPenB pa 50) :: (L, cIs oL) :: muts) s₀ s) ?_ ?_
    · refine opq fun QQ hQQ => ?_
      refine r_assign_comp (K := KK w) (h₀ := h₀) (s₀ := s₀) (cl := [("width", C + 3), ("pen", C + 1), ("count", C + 2)]) (by rfl) (by rfl) (by rfl) (by rfl) (by decide) (by rfl) (by decide) ?_
      refine r_callt (T := "range") S (by with_unfolding_all rfl) (by with_unfolding_all rfl) (by decide) ?_
      repeat walk_at "n"
      refine r_cell S (c := C + 2) (o := on) (by rfl) hIn hon ?_
      repeat walk_at "n"
      refine r_range1 S ?_
      clear S; intro rg s t₁ t₂ t₃ S hrg
      refine it_range hA.hh S hrg (by decide) (by decide) (by first | exact neg_nat _ | omega) (by with_reducible exact o_i1 (by assumption) (by decide)) fun it s X => ?_
      clear S
      refine comp1 X (fun C => by rfl) rfl (fun (i : Nat) (I' : Imm) (acc : List Value) (mm : List (Addr × Cell)) => i ≤ n ∧ mm = (p, cPenB pa (2 + i * k)) :: (L, cIs oL) :: muts ∧ ∃ rows, All2 (IntsL I') acc rows ∧ rows.length = i ∧ (∀ row ∈ rows, row.length = k ∧ ∀ x ∈ row, -1 ≤ x ∧ x < (n : Int))) ?_ ⟨Nat.zero_le _, by rw [Nat.zero_mul], [], .nil, rfl, (fun row h => by cases h)⟩ ?_ ?_
      · rintro i I' acc mm ⟨hi, _, rows, hrows, hl, _⟩
        rw [hrows.length, hl, sizeLine_eq]; (with_reducible exact o_l2 (by assumption) (by assumption) (by decide))
      · rintro i v I' acc mm ex C1 s E' hi ⟨ti, rfl⟩ hs5 ⟨hin, rfl, rows, hrows, hrl, hrk⟩ S
        have hik : i * k ≤ 4 * 3 := Nat.mul_le_mul (by with_reducible exact o_l2 (by assumption) (by assumption) (by decide)) hk3
        have hsucc : (i + 1) * k = i * k + k := Nat.succ_mul i k
        refine tests0 ?_
        rw [if_pos rfl]
        have S := S.front
        refine r_comp (K := KK w) (h₀ := h₀) (s₀ := s₀) (cl := [("pen", C + 1), ("count", C + 2)]) (by rfl) (by decide) (by rfl) (by decide) ?_
        refine r_callt (T := "range") S (by with_unfolding_all rfl) (by with_unfolding_all rfl) (by decide) ?_
        repeat walk_at "n"
        refine r_cell S (c := C + 3) (o := ok) (by rfl) (hs5 _ _ hIk) hok ?_
        repeat walk_at "n"
        refine r_range1 S ?_
        clear S; intro rg s t₁ t₂ t₃ S hrg
        refine it_range hA.hh S hrg (by decide) (by decide) (by first | exact neg_nat _ | omega) (by with_reducible exact o_i1 (by assumption) (by decide)) fun it s X => ?_
        clear S
        refine comp1 X (fun C => by rfl) rfl (fun (j : Nat) (I' : Imm) (acc : List Value) (mm : List (Addr × Cell)) => j ≤ k ∧ mm = (p, cPenB pa (2 + i * k + j)) :: (ex ++ (L, cIs oL) :: muts) ∧ ∃ row, IntsAre acc row ∧ row.length = j ∧ ∀ x ∈ row, -1 ≤ x ∧ x < (n : Int)) ?_ ⟨Nat.zero_le _, rfl, [], .nil, rfl, (fun x h => by cases h)⟩ ?_ ?_
        · rintro j I' acc mm ⟨hj, _, row, hrow, hl, _⟩
          rw [hrow.length, hl, sizeLine_eq]; (with_reducible exact o_l2 (by assumption) (by assumption) (by decide))
        · clear X
          rintro j u I6 acc2 mm ex2 C2 s E'' hj ⟨tj, rfl⟩ hs6 ⟨hjk, rfl, row, hrow, hrl2, hrx⟩ S
          refine tests0 ?_
          rw [if_pos rfl]
          repeat walk_at "n"
          refine r_callg (f := 103) S (by with_unfolding_all rfl) (by with_unfolding_all rfl) ?_
          repeat walk_at "n"
          refine r_cell S (c := C + 1) (o := oc) (by rfl) (hs6 _ _ (hs5 _ _ hIc)) hoc ?_
          repeat walk_at "n"
          refine r_cell S (c := C + 2) (o := on) (by rfl) (hs6 _ _ (hs5 _ _ hIn)) hon ?_
          repeat walk_at "n"
          have e1 : (n : Int) + 1 = ((n + 1 : Nat) : Int) := by omega
          rw [e1]
          refine ⟨⟨_, _, _, _, _, _, S⟩, ?_⟩
          refine draw_any (many := n + 1) (b := 2 + i * k + j) (ex := ex2) (hA.le (by decide)) S ((hpa.sub hs5).sub hs6) hcells hlen (by omega) (by omega) (by omega) ?_
          clear S; intro d td s hd S
          repeat walk_at "n"
          refine ⟨I6, (p, cPenB pa (2 + i * k + (j + 1))) :: (ex ++ (L, cIs oL) :: muts), Sub.refl, ⟨by (with_reducible exact o_t2 (by assumption)), rfl, row ++ [(d : Int) - 1], ints_snoc hrow, by simp [hrl2], fun x hx => ?_⟩, S⟩
          rcases List.mem_append.mp hx with h | h
          · exact hrx x h
          · rw [List.mem_singleton.mp h]; omega
        · rintro I6 acc2 mm D hs6 ⟨_, rfl, row, hrow, hrl2, hrx⟩ s S
          have hkk : ((k : Int) - 0).toNat = k := by (with_reducible exact o_t0 _)
          rw [hkk] at hrl2 S
          obtain ⟨I7, hs7, hil, S⟩ := S.freezeL
          have S := S.back
          refine ⟨I7, (p, cPenB pa (2 + (i + 1) * k)) :: (L, cIs oL) :: muts, hs6.trans hs7, ⟨by (with_reducible exact o_t2 (by assumption)), rfl, rows ++ [row], (hrows.mono fun _ _ h => (h.sub hs6).sub hs7).snoc ⟨D, acc2, rfl, hil, hrow⟩, by simp [hrl], fun r hr => ?_⟩, ?_⟩
          · rcases List.mem_append.mp hr with h | h
            · exact hrk r h
            · rw [List.mem_singleton.mp h]; exact ⟨hrl2, hrx⟩
          · rw [hsucc, ← Nat.add_assoc]; exact S
      · rintro I' acc mm D hs5 ⟨_, rfl, rows, hrows, hrl, hrk⟩ s S
        have hnn : ((n : Int) - 0).toNat = n := by (with_reducible exact o_t0 _)
        rw [hnn] at hrl S
        have hnk : n * k ≤ 4 * 3 := Nat.mul_le_mul hn4 hk3
        obtain ⟨I7, hs7, hil, S⟩ := S.freezeL
        exact hQQ _ _ ⟨rfl, I7, D, rows, hs5.trans hs7, ⟨D, acc, rfl, hil, hrows.mono fun _ _ h => h.sub hs7⟩, hrl, hrk, (S.revars (vars' := [("rows", .ref D)]) ⟨rfl, trivial⟩).weak fun o ⟨a, b, c, d, e, f⟩ => ⟨a, b, c, d, by omega, f⟩⟩
    · clear S
      rintro s ⟨I5, ra, rows, hs5, hrows, hrl, hrk, S⟩
      replace hIc := hs5 _ _ hIc
      replace hIn := hs5 _ _ hIn
      replace hpa := hpa.sub hs5
      refine r_seq (fun s => ∃ I' ta tags, Sub I5 I' ∧ TagsL I' (.ref ta) tags ∧ tags.length = n ∧ (∀ tg ∈ tags, tg = [] ∨ tg = [0]) ∧ St (KK w) h₀ I' C [("tags", .ref ta), ("rows", .ref ra)] ((p, cPenB pa 100) :: (L, cIs oL) :: muts) s₀ s) ?_ ?_
      · refine opq fun QQ hQQ => ?_
        refine r_assign_comp (K := KK w) (h₀ := h₀) (s₀ := s₀) (cl := [("pen", C + 1)]) (by rfl) (by rfl) (by rfl) (by rfl) (by decide) (by rfl) (by decide) ?_
        refine r_callt (T := "range") S (by with_unfolding_all rfl) (by with_unfolding_all rfl) (by decide) ?_
        repeat walk_at "n"
        refine r_cell S (c := C + 2) (o := on) (by rfl) hIn hon ?_
        repeat walk_at "n"
        refine r_range1 S ?_
        clear S; intro rg s t₁ t₂ t₃ S hrg
        refine it_range hA.hh S hrg (by decide) (by decide) (by first | exact neg_nat _ | omega) (by with_reducible exact o_i1 (by assumption) (by decide)) fun it s X => ?_
        clear S
        refine comp1 X (fun C => by rfl) rfl (fun (i : Nat) (I' : Imm) (acc : List Value) (mm : List (Addr × Cell)) => i ≤ n ∧ mm = (p, cPenB pa (50 + i)) :: (L, cIs oL) :: muts ∧ ∃ tags, All2 (IntsT I') acc tags ∧ tags.length = i ∧ (∀ tg ∈ tags, tg = [] ∨ tg = [0])) ?_ ⟨Nat.zero_le _, rfl, [], .nil, rfl, (fun row h => by cases h)⟩ ?_ ?_
        · rintro i I' acc mm ⟨hi, _, rows, hrows, hl, _⟩
          rw [hrows.length, hl, sizeLine_eq]; (with_reducible exact o_l2 (by assumption) (by assumption) (by decide))
        · rintro i v I' acc mm ex C1 s E' hi ⟨ti, rfl⟩ hs6 ⟨hin, rfl, tags, htags, htl, htg⟩ S
          refine tests0 ?_
          rw [if_pos rfl]
          repeat walk_at "n"
          refine r_callg (f := 103) S (by with_unfolding_all rfl) (by with_unfolding_all rfl) ?_
          repeat walk_at "n"
          refine r_cell S (c := C + 1) (o := oc) (by rfl) (hs6 _ _ hIc) hoc ?_
          repeat walk_at "n"
          refine ⟨⟨_, _, _, _, _, _, S⟩, ?_⟩
          refine draw_any (many := 2) (b := 50 + i) (ex := ex) (hA.le (by decide)) S (hpa.sub hs6) hcells hlen (by omega) (by decide) (by decide) ?_
          clear S; intro d td s hd S
          repeat walk_at "n"
          by_cases hd1 : d = 1
          · rw [if_pos (by subst hd1; rfl)]
            repeat walk_at "n"
            refine r_newTuple S ?_ (by simp [sizeLine_eq])
            clear S; intro D s I7 hs7 hT S
            refine ⟨I7, (p, cPenB pa (50 + (i + 1))) :: (L, cIs oL) :: muts, hs7, ⟨by (with_reducible exact o_t2 (by assumption)), rfl, tags ++ [[0]], (htags.mono fun _ _ h => h.sub hs7).snoc ⟨D, _, rfl, hT, .cons 0 _ .nil⟩, by simp [htl], fun x hx => ?_⟩, S⟩
            rcases List.mem_append.mp hx with h | h
            · exact htg x h
            · exact .inr (List.mem_singleton.mp h)
          · rw [if_neg (by rw [beq_iff_eq]; omega)]
            repeat walk_at "n"
            refine tuple_empty S ?_
            clear S; intro v1 I7 s hs7 hv1 S
            refine ⟨I7, (p, cPenB pa (50 + (i + 1))) :: (L, cIs oL) :: muts, hs7, ⟨by (with_reducible exact o_t2 (by assumption)), rfl, tags ++ [[]], (htags.mono fun _ _ h => h.sub hs7).snoc hv1, by simp [htl], fun x hx => ?_⟩, S⟩
            rcases List.mem_append.mp hx with h | h
            · exact htg x h
            · exact .inl (List.mem_singleton.mp h)
        · rintro I' acc mm D hs6 ⟨_, rfl, tags, htags, htl, htg⟩ s S
          have hnn : ((n : Int) - 0).toNat = n := by (with_reducible exact o_t0 _)
          rw [hnn] at htl S
          obtain ⟨I7, hs7, hil, S⟩ := S.freezeL
          exact hQQ _ _ ⟨rfl, I7, D, tags, hs6.trans hs7, ⟨D, acc, rfl, hil, htags.mono fun _ _ h => h.sub hs7⟩, htl, htg, (S.revars (vars' := [("tags", .ref D), ("rows", .ref ra)]) ⟨rfl, rfl, trivial⟩).weak fun o ⟨a, b, c, d, e, f⟩ => ⟨a, b, c, d, by omega, f⟩⟩
      · clear S
        rintro s ⟨I6, ta, tags, hs6, htags, htl, htg, S⟩
        repeat walk_at "m"
        refine r_newTuple S ?_ (by simp [sizeLine_eq])
        clear S; intro D s I7 hs7 hT S
        refine ⟨_, I7, _, (p, cPenB pa 100) :: muts, rfl, S.swap, fun s'' S'' => ⟨D, ra, ta, rows, tags, n, k, rfl, ?_, hT, (hrows.sub hs6).sub hs7, htags.sub hs7, ⟨hrl, hn1, htl, htg, fun row h => (hrk row h).1, fun st num h1 h2 => ?_⟩, hn4, hk1, hk3, S''⟩⟩
        · exact fun a o h => hs7 _ _ (hs6 _ _ (hs5 _ _ (hs4 _ _ (hs3 _ _ (hsI _ _ h)))))
        · obtain ⟨row, hrow⟩ : ∃ row, rows[st]? = some row := ⟨_, List.getElem?_eq_getElem (by with_reducible exact o_le (by assumption) (by assumption))⟩
          obtain ⟨q1, q2⟩ := hrk row (List.mem_of_getElem? hrow)
          obtain ⟨g, hg⟩ : ∃ g, row[num]? = some g := ⟨_, List.getElem?_eq_getElem (by with_reducible exact o_le (by assumption) (by assumption))⟩
          have := q2 g (List.mem_of_getElem? hg)
          have he : entry rows st num = g := by unfold entry; rw [getD_of hrow, getD_of hg]
          rw [he]
          by_cases hg0 : g = -1
          · exact .inl hg0
          · exact .inr ⟨g.toNat, by omega, by omega⟩
  · rintro v I' muts' s' ⟨tu, ra, ta, rows, tags, n, k, rfl, h1, h2, h3, h4, h5, h6, h7, h8, S'⟩
    exact h tu ra ta rows tags n k I' s' h1 h2 h3 h4 h5 h6 h7 h8 S'
end
section
variable {prog : Program} {w : World} {A : Around} {E : Value → Shared → Prop} {env : Env}
variable {h₀ : Base} {I I' : Imm} {L : Addr} {vars vars' : List (Str × Value)} {muts muts' : List (Addr × Cell)} {s₀ s s' : Shared}
variable {pos npos : Pos} {v : Value} {a b : Int} {t u : Tok} {Q : Value → Shared → Prop}
theorem hv_of {f : Str → Option Value} {vars : List (Str × Value)} (h : ∀ p ∈ vars, f p.1 = some p.2) (x : Str) (v : Value) (e : vars.lookup x = some v) : f x = some v := by
  have hm : (x, v) ∈ vars := by
    clear h
    induction vars with
    | nil => simp at e
    | cons p r ih =>
      obtain ⟨y, u⟩ := p
      rw [List.lookup_cons] at e
      cases hb : x == y with
      | true => rw [hb] at e; simp at e; have := eq_of_beq hb; subst this; subst e; exact .head _
      | false => rw [hb] at e; exact .tail _ (ih e)
  exact h _ hm

/-- which states end a word, and no state -/
def endV (tags : List (List Int)) : List Value := (tags.map fun tg => Value.bool (!decide (tg = []))) ++ [.bool false]
theorem endV_len (tags : List (List Int)) : (endV tags).length = tags.length + 1 := by simp [endV]
theorem endV_get {tags : List (List Int)} {p : Nat} (h : p < tags.length) : (endV tags)[p]? = some (.bool (endI tags p)) := by
  unfold endV endI
  rw [List.getElem?_append_left (by simpa using h), List.getElem?_map, List.getElem?_eq_getElem h, if_neg (by omega), Int.toNat_natCast]
  simp [h]
theorem endV_last {tags : List (List Int)} : (endV tags)[tags.length]? = some (.bool false) := by
  unfold endV
  rw [List.getElem?_append_right (by simp)]; simp
theorem endV_at {tags : List (List Int)} {n : Nat} {el : Addr} {q : Int} {value slice : Expr} (S : St (KK w) h₀ I L vars muts s₀ s) (hl : IL I el (endV tags)) (ht : tags.length = n) (hn : n ≤ 16) (h1 : -1 ≤ q) (h2 : q < n) (h : Q (.bool (endI tags q)) s)
    (hs : subscripted slice false (.ref el) (.int q t) = operate [.ref el, .int q t] (getItem (.ref el) (.int q t)) := by with_unfolding_all rfl) :
    wpAny (model prog w) A (subscriptTail value slice (.ref el) (.int q t)) Q E s := by
  by_cases h0 : q < 0
  · have : q = -1 := by omega
    subst this
    refine r_itemN (S.lstI hl) (v := .bool false) h0 (by rw [endV_len]; omega) (by decide) ?_ (by unfold endI at h; rwa [if_pos h0] at h) hs
    have : ((-1 : Int) + ((endV tags).length : Int)).toNat = tags.length := by rw [endV_len]; omega
    rw [this]; exact endV_last
  · obtain ⟨p, rfl⟩ : ∃ p : Nat, q = p := ⟨q.toNat, by omega⟩
    exact r_item (S.lstI hl) (i := p) rfl (endV_get (by omega)) (szl (by omega)) h hs

/-- the pairs that the ends tell apart -/
def IniKeys (tags : List (List Int)) (n : Nat) (p₀ : Nat) (q₀ : Int) (keys : List (List Int)) : Prop :=
  keys.Nodup ∧ ∀ ks, ks ∈ keys ↔ ∃ (p : Nat) (q : Int), ks = [(p : Int), q] ∧ Dom n p q ∧ (p < p₀ ∨ (p = p₀ ∧ q < q₀)) ∧ endI tags p ≠ endI tags q
theorem IniKeys.short {tags : List (List Int)} {n p₀ : Nat} {q₀ : Int} {keys : List (List Int)} (h : IniKeys tags n p₀ q₀ keys) (hn : n ≤ 16) : keys.length ≤ 512 :=
  keys_short hn h.1 fun ks hk => let ⟨p, q, e, d, _⟩ := (h.2 ks).mp hk; ⟨p, q, e, d⟩
theorem IniKeys.yes {tags : List (List Int)} {n p : Nat} {q : Int} {keys : List (List Int)} (h : IniKeys tags n p q keys) (hd : Dom n p q) (hne : endI tags p ≠ endI tags q) : IniKeys tags n p (q + 1) (keys ++ [[(p : Int), q]]) := by
  refine ⟨?_, fun ks => ?_⟩
  · rw [List.nodup_append]
    refine ⟨h.1, by simp, fun x hx y hy => ?_⟩
    rw [List.mem_singleton.mp hy]
    rintro rfl
    obtain ⟨p', q', e, _, ho, _⟩ := (h.2 _).mp hx
    simp only [List.cons.injEq, and_true] at e
    omega
  · rw [List.mem_append, h.2, List.mem_singleton]
    constructor
    · rintro (⟨p', q', e, d, ho, hn⟩ | rfl)
      · exact ⟨p', q', e, d, by omega, hn⟩
      · exact ⟨p, q, rfl, hd, .inr ⟨rfl, by omega⟩, hne⟩
    · rintro ⟨p', q', e, d, ho, hn⟩
      by_cases hpq : p' = p ∧ q' = q
      · obtain ⟨rfl, rfl⟩ := hpq; exact .inr e
      · exact .inl ⟨p', q', e, d, by
          rcases ho with h | ⟨h1, h2⟩
          · exact .inl h
          · refine .inr ⟨h1, ?_⟩
            have : q' ≠ q := fun e2 => hpq ⟨h1, e2⟩
            omega, hn⟩
theorem IniKeys.no {tags : List (List Int)} {n p : Nat} {q : Int} {keys : List (List Int)} (h : IniKeys tags n p q keys) (he : endI tags p = endI tags q) : IniKeys tags n p (q + 1) keys := by
  refine ⟨h.1, fun ks => ?_⟩
  rw [h.2]
  constructor
  · rintro ⟨p', q', e, d, ho, hn⟩
    exact ⟨p', q', e, d, by omega, hn⟩
  · rintro ⟨p', q', e, d, ho, hn⟩
    refine ⟨p', q', e, d, ?_, hn⟩
    rcases ho with h | ⟨h1, h2⟩
    · exact .inl h
    · refine .inr ⟨h1, ?_⟩
      by_cases e2 : q' = q
      · subst e2; subst h1; exact absurd he hn
      · omega
theorem IniKeys.row {tags : List (List Int)} {n p : Nat} {keys : List (List Int)} (h : IniKeys tags n p p keys) : IniKeys tags n (p + 1) (-1) keys := by
  refine ⟨h.1, fun ks => ?_⟩
  rw [h.2]
  constructor
  · rintro ⟨p', q', e, d, ho, hn⟩
    exact ⟨p', q', e, d, by omega, hn⟩
  · rintro ⟨p', q', e, d, ho, hn⟩
    refine ⟨p', q', e, d, ?_, hn⟩
    have := d.2.1
    have := d.2.2
    by_cases hpp : p' = p
    · exact .inr ⟨hpp, by omega⟩
    · exact .inl (by omega)

/-- what is so of the table of pairs at all times -/
structure TI (I : Imm) (tags : List (List Int)) (n : Nat) (xs : List (List Int × Addr × Value)) : Prop where
  keys : KeysIn I xs
  dom : ∀ ks ∈ ky xs, KeyDom n ks
  nd : (ky xs).Nodup
  ini : ∀ p q, Dom n p q → endI tags p ≠ endI tags q → [(p : Int), q] ∈ ky xs
theorem TI.sub {tags : List (List Int)} {n : Nat} {xs : List (List Int × Addr × Value)} (h : TI I tags n xs) (s : Sub I I') : TI I' tags n xs := ⟨h.keys.sub s, h.dom, h.nd, h.ini⟩
theorem TI.short {tags : List (List Int)} {n : Nat} {xs : List (List Int × Addr × Value)} (h : TI I tags n xs) (hn : n ≤ 16) : xs.length ≤ 512 := by
  have := keys_short hn h.nd h.dom
  unfold ky at this
  rwa [List.length_map] at this
theorem TI.stored {tags : List (List Int)} {n : Nat} {xs : List (List Int × Addr × Value)} {ks : List Int} {ka : Addr} (h : TI I tags n xs) (hk : TKey I ks ka) (hd : KeyDom n ks) : TI I tags n (storedH xs ks ka v) := by
  refine ⟨h.keys.stored hk, ?_, ?_, ?_⟩ <;> by_cases hm : ks ∈ ky xs
  · rw [ky_stored.1 hm]; exact h.dom
  · rw [ky_stored.2 hm]
    intro x hx
    rcases List.mem_append.mp hx with h1 | h1
    · exact h.dom x h1
    · rw [List.mem_singleton.mp h1]; exact hd
  · rw [ky_stored.1 hm]; exact h.nd
  · rw [ky_stored.2 hm, List.nodup_append]
    refine ⟨h.nd, by simp, fun x hx y hy => ?_⟩
    rw [List.mem_singleton.mp hy]
    rintro rfl
    exact hm hx
  · rw [ky_stored.1 hm]; exact h.ini
  · rw [ky_stored.2 hm]
    intro p q hd hne
    exact List.mem_append_left _ (h.ini p q hd hne)
/-- the table has grown, or nothing was to be added -/
def Ext (ky0 ky1 : List (List Int)) (D : Prop) : Prop := ∃ more, ky1 = ky0 ++ more ∧ (more = [] → D)
theorem Ext.mono {ky0 ky1 : List (List Int)} {D D' : Prop} (h : Ext ky0 ky1 D) (k : D → D') : Ext ky0 ky1 D' := let ⟨m, e, f⟩ := h; ⟨m, e, fun x => k (f x)⟩
theorem Ext.start {ky0 : List (List Int)} {D : Prop} (h : D) : Ext ky0 ky0 D := ⟨[], by simp, fun _ => h⟩

theorem apart_fn {ra ta : Addr} {rows tags : List (List Int)} {n k : Nat} (hr : RowsL I (.ref ra) rows) (ht : TagsL I (.ref ta) tags) (H : AOk rows tags n k) (hn : n ≤ 16) (hk : k ≤ 100) :
    Fn prog w (KK w) 132 9 [.ref ra, .ref ta] I (fun I' v => ∃ d xs, v = .ref d ∧ (d == sysModules) = false ∧ TabI prog w I' d xs ∧ KeysIn I' xs ∧ Fix rows tags n k (ky xs)) := by
  refine fn_cells (vars := [("tags", .ref ta), ("rows", .ref ra)]) (binds := [("rows", .ref ra), ("tags", .ref ta)]) (by with_unfolding_all rfl) (by with_unfolding_all rfl) (fun s => BindsTo.of_eq rfl) (by with_unfolding_all rfl) (by decide) (fun L => hv_of (by intro p hp; simp at hp; rcases hp with rfl | rfl <;> rfl)) ?_
  intro A s₀ L s E hA S
  replace S : St (KK w) ⟨s₀.heap, I⟩ I L [("tags", .ref ta), ("rows", .ref ra)] [(L + 1, fun o => o.data = .cell none)] s₀ s := S
  obtain ⟨_, rvs, e, hl, hR⟩ := hr
  injection e with e
  subst e
  obtain ⟨_, tvs, e, htl, hT⟩ := ht
  injection e with e
  subst e
  have hrvl : rvs.length = n := by rw [hR.length, H.len]
  have htvl : tvs.length = n := by rw [hT.length, H.tlen]
  repeat walk_at "m"
  refine r_callb (id := "len") S (by with_unfolding_all rfl) (by with_unfolding_all rfl) (by decide) ?_
  repeat walk_at "m"
  refine r_len S (S.lstI hl) (by rw [hrvl, sizeLine_eq]; (with_reducible exact Nat.le_trans (by assumption) (by decide))) ?_
  clear S; intro tc s S
  rw [hrvl]
  repeat walk_at "m"
  refine r_comp (K := KK w) (h₀ := ⟨s₀.heap, I⟩) (s₀ := s₀) (cl := []) (by rfl) (by decide) (by rfl) (by decide) ?_
  repeat walk_at "n"
  refine it_list hA.hh S htl fun it s X => ?_
  clear S
  refine comp1 X (fun C => by rfl) rfl (fun (i : Nat) (I' : Imm) (acc : List Value) (mm : List (Addr × Cell)) => i ≤ n ∧ mm = [(L + 1, fun o => o.data = .cell none)] ∧ acc = (tags.take i).map fun tg => Value.bool (!decide (tg = []))) ?_ ⟨Nat.zero_le _, rfl, by simp⟩ ?_ ?_
  · rintro i I' acc mm ⟨hi, _, rfl⟩
    rw [List.length_map, List.length_take, sizeLine_eq]; omega
  · rintro i v I' acc mm ex C1 s E' hi hv hs1 ⟨hin, rfl, rfl⟩ S
    obtain ⟨tg, htg, hTg⟩ := hT.get hv
    refine tests0 ?_
    rw [if_pos rfl]
    repeat walk_at "n"
    refine tuple_empty S ?_
    clear S; intro v1 I2 s hs2 hv1 S
    refine r_neT S ((hTg.sub hs1).sub hs2) hv1 (hA.c64 (by decide)) ?_
    refine ⟨I2, _, hs2, ⟨by omega, rfl, ?_⟩, S⟩
    rw [List.take_add_one, htg]; simp
  · rintro I1 acc mm D hs1 ⟨_, rfl, rfl⟩ s S
    rw [htvl, show tags.take n = tags by rw [← H.tlen]; exact List.take_length] at S
    repeat walk_at "n"
    refine r_newList S (fun D2 s S => ?_) (by simp [sizeLine_eq])
    repeat walk_at "n"
    refine r_addL S (S.lstM (.tail _ (.head _))).isList (S.lstM (.head _)).isList (by rw [List.length_map, H.tlen, sizeLine_eq]; simp; (with_reducible exact Nat.le_trans (by assumption) (by decide))) ?_
    clear S; intro el s S
    obtain ⟨I2, hs2, hel, S⟩ := S.freezeL
    replace hel : IL I2 el (endV tags) := hel
    have S := S.drop.drop
    repeat walk_at "n"
    refine r_storeC S (c := L + 1) (by rfl) ?_
    clear S; intro s S
    obtain ⟨oe, hoe, _, S⟩ := S.freeze
    have hIe : Add I2 (L + 1) oe (L + 1) oe := Add.here
    have hs3 : Sub I2 (Add I2 (L + 1) oe) := Sub.add
    replace hel := hel.sub hs3
    generalize Add I2 (L + 1) oe = I3 at *
    replace hoe : oe.data = .cell (some (.ref el)) := hoe
    replace hl := ((hl.sub hs1).sub hs2).sub hs3
    replace hR := hR.mono fun _ _ h => ((IntsL.sub h hs1).sub hs2).sub hs3
    replace S : St (KK w) ⟨s₀.heap, I⟩ I3 L [("count", .int n tc), ("rows", .ref ra)] [] s₀ s := S.revars ⟨rfl, rfl, trivial⟩
    have hsI : Sub I I3 := (hs1.trans hs2).trans hs3
    clear hs1 hs2 hs3
    repeat walk_at "n"
    refine r_seq (fun s => ∃ d I' xs, Sub I3 I' ∧ (d == sysModules) = false ∧ KeysIn I' xs ∧ IniKeys tags n n (-1) (ky xs) ∧ St (KK w) ⟨s₀.heap, I⟩ I' L [("apart_pairs", .ref d), ("count", .int n tc), ("rows", .ref ra)] [(d, cTab prog w xs)] s₀ s) ?_ ?_
    · repeat walk_at "n"
      refine r_callt (T := "dict") S (by with_unfolding_all rfl) (by with_unfolding_all rfl) (by decide) ?_
      repeat walk_at "n"
      refine r_comp (K := KK w) (h₀ := ⟨s₀.heap, I⟩) (s₀ := s₀) (cl := [("ends", L + 1)]) (by rfl) (by decide) (by rfl) (by decide) ?_
      refine r_callt (T := "range") S (by with_unfolding_all rfl) (by with_unfolding_all rfl) (by decide) ?_
      repeat walk_at "n"
      refine r_range1 S ?_
      clear S; intro rg s t₁ t₂ t₃ S hrg
      refine it_range hA.hh S hrg (by decide) (by decide) (by first | exact neg_nat _ | omega) (by with_reducible exact o_i1 (by assumption) (by decide)) fun it s X => ?_
      clear S
      refine comp2 X (fun C => by rfl) (fun C => by rfl) (by decide) rfl (fun C x => by rfl) (fun (i : Nat) (I' : Imm) (acc : List Value) (mm : List (Addr × Cell)) => mm = [] ∧ i ≤ n ∧ ∃ xs, PairsAre I' acc xs ∧ IniKeys tags n i (-1) (ky xs)) ⟨rfl, Nat.zero_le _, [], .nil, by simp [ky], fun ks => ?_⟩ ?_ ?_
      · simp only [ky, List.map_nil, List.not_mem_nil, false_iff]
        rintro ⟨p, q, _, d, ho, _⟩
        have := d.2.1
        omega
      · rintro i v I' acc mm ex C1 s E' hi ⟨ti, rfl⟩ hs1 ⟨rfl, hin, xs, hxs, hky⟩ S
        have hin' : i < n := by (with_reducible exact o_t1 (by assumption))
        rw [Int.zero_add] at S ⊢
        refine tests0 ?_
        rw [if_pos rfl]
        refine r_callt (T := "range") S (by with_unfolding_all rfl) (by with_unfolding_all rfl) (by decide) ?_
        repeat walk_at "n"
        refine r_range2 S ?_
        clear S; intro rg s t₁ t₂ t₃ S hrg
        refine it_range hA.hh S hrg (by decide) (by decide) (by first | exact neg_nat _ | omega) (by with_reducible exact o_i2 (by assumption) (by assumption) (by decide)) fun it s X => ?_
        clear S
        refine ⟨_, _, fun (j : Nat) (I' : Imm) (acc : List Value) (mm : List (Addr × Cell)) => mm = [] ∧ (j : Int) ≤ i + 1 ∧ ∃ xs, PairsAre I' acc xs ∧ IniKeys tags n i (-1 + (j : Int)) (ky xs), I', [], Sub.refl, X, ⟨rfl, by omega, xs, hxs, by simpa using hky⟩, ?_, ?_, ?_⟩
        · rintro j I4 acc mm ⟨_, _, xs, hxs, hky⟩
          have := hky.short hn
          unfold ky at this
          rw [List.length_map] at this
          rw [hxs.length, sizeLine_eq]; (with_reducible exact Nat.le_trans (by assumption) (by decide))
        · clear X
          rintro j u I4 acc4 mm4 ex4 s E'' hj ⟨tu, rfl⟩ hs4 ⟨rfl, hjk, xs4, hxs4, hky4⟩ S
          have hji : (j : Int) < i + 1 := by omega
          have hIe4 := hs4 _ _ (hs1 _ _ hIe)
          have hel4 := (hel.sub hs1).sub hs4
          have hd : Dom n i (-1 + (j : Int)) := ⟨hin', by omega, by omega⟩
          have esucc : (-1 : Int) + ((j + 1 : Nat) : Int) = -1 + (j : Int) + 1 := by omega
          refine tests1 ?_
          repeat walk_at "n"
          refine r_cell S (c := L + 1) (o := oe) (by rfl) hIe4 hoe ?_
          repeat walk_at "n"
          refine endV_at S hel4 H.tlen hn (by omega) (by with_reducible exact o_lc (by assumption)) ?_
          repeat walk_at "n"
          refine r_cell S (c := L + 1) (o := oe) (by rfl) hIe4 hoe ?_
          repeat walk_at "n"
          refine endV_at S hel4 H.tlen hn hd.2.1 (by omega) ?_
          refine ne_bool ?_
          repeat walk_at "n"
          by_cases hne : endI tags (i : Int) = endI tags (-1 + (j : Int))
          · rw [if_neg (by simp [hne])]
            refine ⟨I4, [], Sub.refl, ⟨rfl, by omega, xs4, hxs4, ?_⟩, S⟩
            rw [esucc]; exact hky4.no hne
          · rw [if_pos (by simpa using hne)]
            repeat walk_at "n"
            refine r_newTuple S ?_ (by simp [sizeLine_eq])
            clear S; intro D1 s I5 hs5 hT1 S
            repeat walk_at "n"
            refine r_newTuple S ?_ (by simp [sizeLine_eq])
            clear S; intro D2 s I6 hs6 hT2 S
            refine ⟨I6, [], hs5.trans hs6, ⟨rfl, by omega, xs4 ++ [([(i : Int), -1 + (j : Int)], D1, .bool true)], (hxs4.mono fun v x ⟨p, e1, e2, e3⟩ => ⟨p, e1, (e2.sub hs5).sub hs6, (e3.sub hs5).sub hs6⟩).snoc ⟨D2, rfl, hT2, _, hT1.sub hs6, .cons _ _ (.cons _ _ .nil)⟩, ?_⟩, S⟩
            rw [esucc]
            have := hky4.yes hd hne
            simpa [ky] using this
        · rintro I4 acc4 mm4 hs4 ⟨rfl, hjk, xs4, hxs4, hky4⟩
          refine ⟨rfl, by (with_reducible exact o_t2 (by assumption)), xs4, hxs4, ?_⟩
          have e1 : (-1 : Int) + (((i : Int) - -1).toNat : Int) = (i : Int) := by omega
          rw [e1] at hky4
          exact hky4.row
      · rintro I' acc mm D hs1 ⟨rfl, _, xs, hxs, hky⟩ s S
        have hnn : ((n : Int) - 0).toNat = n := by (with_reducible exact o_t0 _)
        rw [hnn] at hky
        repeat walk_at "n"
        have hsh := hky.short hn
        refine r_dictPairs (hA.le (by decide)) S hxs hky.1 (by unfold ky at hsh; rw [List.length_map] at hsh; rw [sizeLine_eq]; (with_reducible exact Nat.le_trans (by assumption) (by decide))) ?_
        clear S; intro d I4 s hd hs4 S
        repeat walk_at "n"
        refine ⟨rfl, d, I4, xs, hs1.trans hs4, hd, fun x hx => ?_, hky, S⟩
        obtain ⟨j, hj⟩ := List.getElem?_of_mem hx
        obtain ⟨v, _, p, _, _, h3⟩ := All2.at hxs hj
        exact h3.sub hs4
    · clear S
      rintro s ⟨d, I4, xs, hs4, hd, hkx, hky, S⟩
      have hTI : TI I4 tags n xs := ⟨hkx, fun ks hk => let ⟨p, q, e, d, _⟩ := (hky.2 ks).mp hk; ⟨p, q, e, d⟩, hky.1, fun p q hd hne => (hky.2 _).mpr ⟨p, q, rfl, hd, .inl hd.1, hne⟩⟩
      clear hkx hky
      repeat walk_at "m"
      refine r_while (fun m s => ∃ (kn : Int) (tk : Tok) (xs : List (List Int × Addr × Value)) (I' : Imm), Sub I4 I' ∧ TI I' tags n xs ∧ (¬ kn < (xs.length : Int) → Fix rows tags n k (ky xs)) ∧ m = 2 * (600 - xs.length) + (if kn < (xs.length : Int) then 1 else 0) ∧
        St (KK w) ⟨s₀.heap, I⟩ I' L [("known", .int kn tk), ("apart_pairs", .ref d), ("count", .int n tc), ("rows", .ref ra)] [(d, cTab prog w xs)] s₀ s) (2 * (600 - xs.length) + 1) ?_ ?_
      · exact ⟨-1, _, xs, I4, Sub.refl, hTI, fun h => by omega, by rw [if_pos (by omega)], S.revars ⟨rfl, rfl, rfl, rfl, trivial⟩⟩
      · clear S hTI xs
        rintro m s E' ⟨kn, tk, xs, I5, hs5, hTI, hfix, rfl, S⟩
        have hsh := hTI.short hn
        repeat walk_at "m"
        refine r_callb (id := "len") S (by with_unfolding_all rfl) (by with_unfolding_all rfl) (by decide) ?_
        repeat walk_at "m"
        refine r_lenT S (.head _) hTI.keys hd (szl (by with_reducible exact Nat.le_trans (by assumption) (by decide))) ?_
        clear S; intro tl s S
        repeat walk_at "m"
        by_cases hlt : kn < (xs.length : Int)
        · rw [if_pos (by simpa using hlt)]
          rw [if_pos hlt]
          repeat walk_at "m"
          refine r_callb (id := "len") S (by with_unfolding_all rfl) (by with_unfolding_all rfl) (by decide) ?_
          repeat walk_at "m"
          refine r_lenT S (.head _) hTI.keys hd (szl (by with_reducible exact Nat.le_trans (by assumption) (by decide))) ?_
          clear S; intro tl s S
          repeat walk_at "n"
          refine r_seq (fun s => ∃ (xs' : List (List Int × Addr × Value)) (I' : Imm), Sub I5 I' ∧ TI I' tags n xs' ∧ Ext (ky xs) (ky xs') (Done rows n k (ky xs) n (-1)) ∧
            St (KK w) ⟨s₀.heap, I⟩ I' L [("known", .int xs.length tl), ("apart_pairs", .ref d), ("count", .int n tc), ("rows", .ref ra)] [(d, cTab prog w xs')] s₀ s) ?_ ?_
          · refine r_for (K := KK w) (h₀ := ⟨s₀.heap, I⟩) (s₀ := s₀) (by rfl) (by rfl) ?_
            refine r_callt (T := "range") S (by with_unfolding_all rfl) (by with_unfolding_all rfl) (by decide) ?_
            repeat walk_at "n"
            refine r_range1 S ?_
            clear S; intro rg s t₁ t₂ t₃ S hrg
            refine iter_range (fun (p : Nat) (I' : Imm) (vars : List (Str × Value)) (muts : List (Addr × Cell)) => Sub I5 I' ∧ p ≤ n ∧ ∃ xs' : List (List Int × Addr × Value), vars = ([("known", .int xs.length tl), ("apart_pairs", .ref d), ("count", .int n tc), ("rows", .ref ra)] : List (Str × Value)) ∧
              muts = [(d, cTab prog w xs')] ∧ TI I' tags n xs' ∧ Ext (ky xs) (ky xs') (Done rows n k (ky xs) p (-1))) hA.hh (S.revars (vars' := [("known", .int xs.length tl), ("apart_pairs", .ref d), ("count", .int n tc), ("rows", .ref ra)]) ⟨rfl, rfl, rfl, rfl, trivial⟩) hrg (by decide) (by decide) (by first | exact neg_nat _ | omega) (by with_reducible exact o_i1 (by assumption) (by decide)) ?_ ?_ ?_
            · refine ⟨Sub.refl, Nat.zero_le _, xs, rfl, rfl, hTI, Ext.start ?_⟩
              intro p' q' hd' ho
              have := hd'.2.1
              omega
            · clear S
              rintro p tp I6 vars muts s a c E' hp ⟨hs6, hpn, xs6, rfl, rfl, hTI6, hE6⟩ S
              have hpn' : p < n := by (with_reducible exact o_t1 (by assumption))
              rw [Int.zero_add] at S
              refine r_seq (fun s => ∃ (xs' : List (List Int × Addr × Value)) (I' : Imm), Sub I6 I' ∧ TI I' tags n xs' ∧ Ext (ky xs) (ky xs') (Done rows n k (ky xs) p p) ∧
                St (KK w) ⟨s₀.heap, I⟩ I' L [("known", .int xs.length tl), ("apart_pairs", .ref d), ("count", .int n tc), ("rows", .ref ra)] [(a, c), (d, cTab prog w xs')] s₀ s) ?_ ?_
              · refine r_for (K := KK w) (h₀ := ⟨s₀.heap, I⟩) (s₀ := s₀) (by rfl) (by rfl) ?_
                refine r_callt (T := "range") S (by with_unfolding_all rfl) (by with_unfolding_all rfl) (by decide) ?_
                repeat walk_at "n"
                refine r_range2 S ?_
                clear S; intro rg s t₁ t₂ t₃ S hrg
                refine iter_range (fun (j : Nat) (I' : Imm) (vars : List (Str × Value)) (muts : List (Addr × Cell)) => Sub I6 I' ∧ (j : Int) ≤ p + 1 ∧ ∃ xs' : List (List Int × Addr × Value), vars = ([("one", .int p tp), ("known", .int xs.length tl), ("apart_pairs", .ref d), ("count", .int n tc), ("rows", .ref ra)] : List (Str × Value)) ∧
                  muts = [(a, c), (d, cTab prog w xs')] ∧ TI I' tags n xs' ∧ Ext (ky xs) (ky xs') (Done rows n k (ky xs) p (-1 + (j : Int)))) hA.hh S hrg (by decide) (by decide) (by first | exact neg_nat _ | omega) (by with_reducible exact o_i2 (by assumption) (by assumption) (by decide)) ?_ ?_ ?_
                · exact ⟨Sub.refl, by omega, xs6, rfl, rfl, hTI6, hE6.mono fun h => by simpa using h⟩
                · clear S
                  rintro j tq I7 vars muts s a2 c2 E'' hj ⟨hs7, hjn, xs7, rfl, rfl, hTI7, hE7⟩ S
                  have hji : (j : Int) < p + 1 := by omega
                  have hdm : Dom n p (-1 + (j : Int)) := ⟨hpn', by omega, by omega⟩
                  have esucc : (-1 : Int) + ((j + 1 : Nat) : Int) = -1 + (j : Int) + 1 := by omega
                  have hsh7 := hTI7.short hn
                  generalize hq : (-1 : Int) + (j : Int) = q at *
                  rw [esucc]
                  refine opq fun QQ hQQ => ?_
                  repeat walk_at "m"
                  refine r_newTuple S ?_ (by simp [sizeLine_eq])
                  clear S; intro K1 s I8 hs8 hK1 S
                  have hkey : TKey I8 [(p : Int), q] K1 := ⟨_, hK1, .cons _ _ (.cons _ _ .nil)⟩
                  replace hTI7 := hTI7.sub hs8
                  repeat walk_at "m"
                  refine r_notinT S (hA.le (by decide)) (.tail _ (.tail _ (.head _))) hTI7.keys hd hkey ?_
                  clear S; intro s S
                  repeat walk_at "m"
                  by_cases hin : [(p : Int), q] ∈ ky xs7
                  · rw [if_neg (by rw [atKey_iff.mpr hin]; simp)]
                    repeat walk_at "m"
                    refine hQQ _ _ ⟨I8, _, _, hs8, ⟨hs7.trans hs8, by omega, xs7, rfl, rfl, hTI7, ?_⟩, S.revars ⟨rfl, rfl, rfl, rfl, rfl, trivial⟩⟩
                    obtain ⟨more, e1, e2⟩ := hE7
                    refine ⟨more, e1, fun hm => (e2 hm).next fun hnot => ?_⟩
                    rw [e1, hm, List.append_nil] at hin
                    exact absurd hin hnot
                  · have hno : (atKey xs7 [(p : Int), q]).isSome = false := by
                      cases e : (atKey xs7 [(p : Int), q]).isSome with
                      | false => rfl
                      | true => exact absurd (atKey_iff.mp e) hin
                    rw [if_pos (by rw [hno]; rfl)]
                    have hpq0 : [(p : Int), q] ∉ ky xs := fun h => by
                      obtain ⟨more, e1, _⟩ := hE7
                      exact hin (by rw [e1]; exact List.mem_append_left _ h)
                    have hs38 : Sub I3 I8 := ((hs4.trans hs5).trans hs6).trans (hs7.trans hs8)
                    obtain ⟨row0, hrow0⟩ : ∃ row, rows[0]? = some row := ⟨_, List.getElem?_eq_getElem (by rw [H.len]; exact H.one)⟩
                    have hrl0 : row0.length = k := H.wid row0 (List.mem_of_getElem? hrow0)
                    obtain ⟨rv0, hrv0, rb0, us0, rfl, hl0, hi0⟩ := hR.at hrow0
                    obtain ⟨rowp, hrowp⟩ : ∃ row, rows[p]? = some row := ⟨_, List.getElem?_eq_getElem (by rw [H.len]; exact hpn')⟩
                    have hrlp : rowp.length = k := H.wid rowp (List.mem_of_getElem? hrowp)
                    obtain ⟨rvp, hrvp, rbp, usp, rfl, hlp, hip⟩ := hR.at hrowp
                    refine r_seq (fun s => ∃ (xs' : List (List Int × Addr × Value)) (I' : Imm), Sub I8 I' ∧ TI I' tags n xs' ∧ Ext (ky xs) (ky xs') (Done rows n k (ky xs) p q ∧ ∀ b, b < k → stp rows p q b ∉ ky xs) ∧
                      St (KK w) ⟨s₀.heap, I⟩ I' L [("one", .int p tp), ("known", .int xs.length tl), ("apart_pairs", .ref d), ("count", .int n tc), ("rows", .ref ra)] [(a2, c2), (a, c), (d, cTab prog w xs')] s₀ s) ?_ ?_
                    · refine r_for (K := KK w) (h₀ := ⟨s₀.heap, I⟩) (s₀ := s₀) (by rfl) (by rfl) ?_
                      refine r_callt (T := "range") S (by with_unfolding_all rfl) (by with_unfolding_all rfl) (by decide) ?_
                      repeat walk_at "n"
                      refine r_callb (id := "len") S (by with_unfolding_all rfl) (by with_unfolding_all rfl) (by decide) ?_
                      repeat walk_at "n"
                      refine r_item (S.lstI (hl.sub hs38)) (i := 0) rfl hrv0 (szl (by decide)) ?_
                      repeat walk_at "n"
                      refine r_len S (S.lstI (hl0.sub hs38)) (by rw [hi0.length, hrl0, sizeLine_eq]; (with_reducible exact Nat.le_trans (by assumption) (by decide))) ?_
                      clear S; intro tl2 s S
                      rw [hi0.length, hrl0]
                      repeat walk_at "n"
                      refine r_range1 S ?_
                      clear S; intro rg s t₁ t₂ t₃ S hrg
                      refine iter_range (fun (b : Nat) (I' : Imm) (vars : List (Str × Value)) (muts : List (Addr × Cell)) => Sub I8 I' ∧ b ≤ k ∧ ∃ xs' : List (List Int × Addr × Value), vars = ([("other", .int q tq), ("one", .int p tp), ("known", .int xs.length tl), ("apart_pairs", .ref d), ("count", .int n tc), ("rows", .ref ra)] : List (Str × Value)) ∧
                        muts = [(a2, c2), (a, c), (d, cTab prog w xs')] ∧ TI I' tags n xs' ∧ Ext (ky xs) (ky xs') (Done rows n k (ky xs) p q ∧ ∀ b', b' < b → stp rows p q b' ∉ ky xs)) hA.hh S hrg (by decide) (by decide) (by first | exact neg_nat _ | omega) (by with_reducible exact o_i1 (by assumption) (by decide)) ?_ ?_ ?_
                      · exact ⟨Sub.refl, Nat.zero_le _, xs7, rfl, rfl, hTI7, hE7.mono fun h => ⟨h, fun b' h => by (with_reducible exact (o_z (by assumption)).elim)⟩⟩
                      · clear S
                        rintro b tb I9 vars muts s a3 c3 E3 hb ⟨hs9, hbk, xs9, rfl, rfl, hTI9, hE9⟩ S
                        refine opq fun QQ hQQ => ?_
                        have hbk' : b < k := by (with_reducible exact o_t1 (by assumption))
                        rw [Int.zero_add] at S
                        have hs39 : Sub I3 I9 := hs38.trans hs9
                        obtain ⟨gp, hgp⟩ : ∃ g, rowp[b]? = some g := ⟨_, List.getElem?_eq_getElem (by rw [hrlp]; exact hbk')⟩
                        obtain ⟨gv, hgv, tgp, rfl⟩ := (IntsAre.to2 hip).at hgp
                        have hentp : entry rows p b = gp := by unfold entry; rw [getD_of hrowp, getD_of hgp]
                        refine r_seq (fun s => ∃ tg, St (KK w) ⟨s₀.heap, I⟩ I9 L [("goal", .int (goI rows q b) tg), ("number", .int b tb), ("other", .int q tq), ("one", .int p tp), ("known", .int xs.length tl), ("apart_pairs", .ref d), ("count", .int n tc), ("rows", .ref ra)] [(a3, c3), (a2, c2), (a, c), (d, cTab prog w xs9)] s₀ s) ?_ ?_
                        · repeat walk_at "n"
                          by_cases hq0 : 0 ≤ q
                          · rw [if_pos (by simpa using hq0)]
                            obtain ⟨q', hq'⟩ : ∃ q' : Nat, q = q' := ⟨q.toNat, by (with_reducible exact o_tn (by assumption))⟩
                            obtain ⟨rowq, hrowq⟩ : ∃ row, rows[q']? = some row := ⟨_, List.getElem?_eq_getElem (by rw [H.len]; have := hdm.2.2; omega)⟩
                            have hrlq : rowq.length = k := H.wid rowq (List.mem_of_getElem? hrowq)
                            obtain ⟨rvq, hrvq, rbq, usq, rfl, hlq, hiq⟩ := hR.at hrowq
                            obtain ⟨gq, hgq⟩ : ∃ g, rowq[b]? = some g := ⟨_, List.getElem?_eq_getElem (by rw [hrlq]; exact hbk')⟩
                            obtain ⟨gvq, hgvq, tgq, rfl⟩ := (IntsAre.to2 hiq).at hgq
                            have hgo : goI rows q b = gq := by
                              unfold goI entry
                              rw [if_neg (by omega), hq', Int.toNat_natCast, getD_of hrowq, getD_of hgq]
                            repeat walk_at "n"
                            refine r_item (S.lstI (hl.sub hs39)) (i := q') hq' hrvq (by have := hdm.2.2; rw [sizeLine_eq]; omega) ?_
                            repeat walk_at "n"
                            refine r_item (S.lstI (hlq.sub hs39)) (i := b) rfl hgvq (szl (by with_reducible exact o_s2 (by assumption) (by assumption) (by decide))) ?_
                            repeat walk_at "n"
                            rw [hgo]
                            exact ⟨rfl, _, S⟩
                          · rw [if_neg (by simpa using hq0)]
                            have hgo : goI rows q b = -1 := by unfold goI; rw [if_pos (by omega)]
                            repeat walk_at "n"
                            rw [hgo]
                            exact ⟨rfl, _, S⟩
                        · clear S
                          rintro s ⟨tg, S⟩
                          repeat walk_at "m"
                          refine r_callb (id := "max") S (by with_unfolding_all rfl) (by with_unfolding_all rfl) (by decide) ?_
                          repeat walk_at "m"
                          refine r_item (S.lstI (hl.sub hs39)) (i := p) rfl hrvp (szl (by with_reducible exact o_s2 (by assumption) (by assumption) (by decide))) ?_
                          repeat walk_at "m"
                          refine r_item (S.lstI (hlp.sub hs39)) (i := b) rfl hgv (szl (by with_reducible exact o_s2 (by assumption) (by assumption) (by decide))) ?_
                          repeat walk_at "m"
                          refine r_max S hA.hh ?_
                          clear S; intro tm1 s S
                          repeat walk_at "m"
                          refine r_callb (id := "min") S (by with_unfolding_all rfl) (by with_unfolding_all rfl) (by decide) ?_
                          repeat walk_at "m"
                          refine r_item (S.lstI (hl.sub hs39)) (i := p) rfl hrvp (szl (by with_reducible exact o_s2 (by assumption) (by assumption) (by decide))) ?_
                          repeat walk_at "m"
                          refine r_item (S.lstI (hlp.sub hs39)) (i := b) rfl hgv (szl (by with_reducible exact o_s2 (by assumption) (by assumption) (by decide))) ?_
                          repeat walk_at "m"
                          refine r_min S hA.hh ?_
                          clear S; intro tm2 s S
                          repeat walk_at "m"
                          refine r_newTuple S ?_ (by simp [sizeLine_eq])
                          clear S; intro K2 s I10 hs10 hK2 S
                          have hkey2 : TKey I10 (stp rows p q b) K2 := ⟨_, hK2, by unfold stp; rw [hentp]; exact .cons _ _ (.cons _ _ .nil)⟩
                          replace hTI9 := hTI9.sub hs10
                          repeat walk_at "m"
                          refine r_inT S (hA.le (by decide)) (.tail _ (.tail _ (.tail _ (.head _)))) hTI9.keys hd hkey2 ?_
                          clear S; intro s S
                          repeat walk_at "m"
                          by_cases hin2 : stp rows p q b ∈ ky xs9
                          · rw [if_pos (atKey_iff.mpr hin2)]
                            repeat walk_at "m"
                            refine r_newTuple S ?_ (by simp [sizeLine_eq])
                            clear S; intro K3 s I11 hs11 hK3 S
                            have hkey3 : TKey I11 [(p : Int), q] K3 := ⟨_, hK3, .cons _ _ (.cons _ _ .nil)⟩
                            replace hTI9 := hTI9.sub hs11
                            repeat walk_at "m"
                            have S := S.tf 3
                            dsimp only [toFront] at S
                            refine r_setT S (hA.le (by decide)) hTI9.keys hkey3 (by have := hTI9.short hn; rw [sizeLine_eq]; (with_reducible exact Nat.le_trans (by assumption) (by decide))) ?_
                            clear S; intro s S
                            have S := S.tp 3
                            dsimp only [toPlace] at S
                            repeat walk_at "m"
                            refine hQQ _ _ ⟨I11, _, _, hs10.trans hs11, ⟨(hs9.trans hs10).trans hs11, by (with_reducible exact o_t2 (by assumption)), _, rfl, rfl, hTI9.stored hkey3 ⟨p, q, rfl, hdm⟩, ?_⟩, S.revars ⟨rfl, rfl, rfl, rfl, rfl, rfl, trivial⟩⟩
                            obtain ⟨more, e1, e2⟩ := hE9
                            by_cases hold : [(p : Int), q] ∈ ky xs9
                            · refine ⟨more, by rw [ky_stored.1 hold]; exact e1, fun hm => ?_⟩
                              rw [e1, hm, List.append_nil] at hold
                              exact absurd hold hpq0
                            · refine ⟨more ++ [[(p : Int), q]], by rw [ky_stored.2 hold, e1, List.append_assoc], fun hm => ?_⟩
                              simp at hm
                          · have hno2 : (atKey xs9 (stp rows p q b)).isSome = false := by
                              cases e : (atKey xs9 (stp rows p q b)).isSome with
                              | false => rfl
                              | true => exact absurd (atKey_iff.mp e) hin2
                            rw [if_neg (by rw [hno2]; simp)]
                            repeat walk_at "m"
                            refine hQQ _ _ ⟨I10, _, _, hs10, ⟨hs9.trans hs10, by (with_reducible exact o_t2 (by assumption)), xs9, rfl, rfl, hTI9, ?_⟩, S.revars ⟨rfl, rfl, rfl, rfl, rfl, rfl, trivial⟩⟩
                            obtain ⟨more, e1, e2⟩ := hE9
                            refine ⟨more, e1, fun hm => ⟨(e2 hm).1, fun b' hb' => ?_⟩⟩
                            by_cases e : b' = b
                            · subst e
                              rw [e1, hm, List.append_nil] at hin2
                              exact hin2
                            · exact (e2 hm).2 b' (by omega)
                      · clear S
                        rintro I9 vars muts s ⟨hs9, hbk, xs9, rfl, rfl, hTI9, hE9⟩ S
                        have hkk : ((k : Int) - 0).toNat = k := by (with_reducible exact o_t0 _)
                        rw [hkk] at hE9
                        exact ⟨rfl, xs9, I9, hs9, hTI9, hE9, S.revars ⟨rfl, rfl, rfl, rfl, rfl, trivial⟩⟩
                    · clear S
                      rintro s ⟨xs9, I9, hs9, hTI9, hE9, S⟩
                      repeat walk_at "m"
                      exact hQQ _ _ ⟨I9, _, _, hs8.trans hs9, ⟨(hs7.trans hs8).trans hs9, by omega, xs9, rfl, rfl, hTI9, hE9.mono fun h => h.1.next fun _ => h.2⟩, S⟩
                · clear S
                  rintro I7 vars muts s ⟨hs7, hjn, xs7, rfl, rfl, hTI7, hE7⟩ S
                  have e1 : (-1 : Int) + (((p : Int) - -1).toNat : Int) = (p : Int) := by omega
                  rw [e1] at hE7
                  exact ⟨rfl, xs7, I7, hs7, hTI7, hE7, S.revars ⟨rfl, rfl, rfl, rfl, trivial⟩⟩
              · clear S
                rintro s ⟨xs7, I7, hs7, hTI7, hE7, S⟩
                repeat walk_at "m"
                exact ⟨I7, _, _, hs7, ⟨hs6.trans hs7, by (with_reducible exact o_t2 (by assumption)), xs7, rfl, rfl, hTI7, hE7.mono fun h => h.row⟩, S⟩
            · clear S
              rintro I6 vars muts s ⟨hs6, hpn, xs6, rfl, rfl, hTI6, hE6⟩ S
              have hnn : ((n : Int) - 0).toNat = n := by (with_reducible exact o_t0 _)
              rw [hnn] at hE6
              exact ⟨rfl, xs6, I6, hs6, hTI6, hE6, S⟩
          · clear S
            rintro s ⟨xs6, I6, hs6, hTI6, hE6, S⟩
            repeat walk_at "m"
            have hsh6 := hTI6.short hn
            obtain ⟨more, e1, e2⟩ := hE6
            have hlen : xs6.length = xs.length + more.length := by
              have := congrArg List.length e1
              unfold ky at this
              simpa using this
            refine ⟨2 * (600 - xs6.length) + (if (xs.length : Int) < (xs6.length : Int) then 1 else 0), ?_, xs.length, tl, xs6, I6, hs5.trans hs6, hTI6, fun hge => ?_, rfl, S⟩
            · split <;> omega
            · have hm : more = [] := List.length_eq_zero_iff.mp (by omega)
              have : ky xs6 = ky xs := by rw [e1, hm, List.append_nil]
              rw [this]
              exact (e2 hm).fix (fun p q hd hne => hTI.ini p q hd hne)
        · rw [if_neg (by simpa using hlt)]
          repeat walk_at "m"
          obtain ⟨o, hc, _, S⟩ := S.freeze
          exact ⟨_, _, _, _, rfl, ((hsI.trans hs4).trans hs5).trans Sub.add, S, d, xs, rfl, hd, ⟨o, Add.here, hc⟩, hTI.keys.sub Sub.add, hfix hlt⟩
end
section
variable {prog : Program} {w : World} {A : Around} {E : Value → Shared → Prop} {env : Env}
variable {K : Frag} {h₀ : Base} {I I' : Imm} {L : Addr} {vars vars' : List (Str × Value)} {muts muts' : List (Addr × Cell)} {s₀ s s' : Shared}
variable {x : Str} {pos npos p : Pos} {v u : Value} {a b : Int} {t t' : Tok} {Q : Value → Shared → Prop}

/-- «l[:n]» of a list of ints -/
theorem r_upto {value : Expr} {n : Nat} {ip : Pos} {kk : Nat}
    (h : wpAny (model prog w) A (eval value env) (fun o s₁ => ∃ l vs h₀ I L vars muts s₀, o = .ref l ∧ IL I l vs ∧ vs.length ≤ 1000 ∧ St K h₀ I L vars muts s₀ s₁ ∧
      ∀ D s', St K h₀ I L vars ((D, cList (vs.take n)) :: muts) s₀ s' → Q (.ref D) s') E s)
    (ht : ∀ o r, letTemporaryGo value o r = pure () := by intro _ _; rfl) :
    wpAny (model prog w) A (eval (.Subscript value (.Slice none (some (.Constant (.int (n : Int)) kk ip)) none p) pos) env) Q E s := by
  refine wpAny_Subscript_Slice list_getitem_lookup (wpAny_mono h (fun o s₁ h₁ => ?_) fun _ _ e => e) ht
  obtain ⟨l, vs, h₀, I, L, vars, muts, s₀, rfl, hl, hlen, S, hQ⟩ := h₁
  refine wpAny_Slice (evalPart_none_step (evalPart_some_step (r_int S ?_)))
  clear S; intro t s S
  refine evalPart_none_step ?_
  have hl' := (S.lstI hl).push { cls := .type "slice", data := .fields #[.none, .int (n : Int) t, .none] }
  have S1 := S.ext (tk := s.toks) (fun _ _ e => Heap.get?_push_of_some { cls := .type "slice", data := .fields #[.none, .int (n : Int) t, .none] } e)
  refine ⟨Heap.IsList.typeIs (s := { s with heap := s.heap.push { cls := .type "slice", data := .fields #[.none, .int (n : Int) t, .none] } }) hl', ?_⟩
  have hz : vs.toArray.size ≤ sizeLine := by rw [List.size_toArray, sizeLine_eq]; (with_reducible exact Nat.le_trans (by assumption) (by decide))
  refine wpAny_getItem_list_slice (s := { s with heap := s.heap.push { cls := .type "slice", data := .fields #[.none, .int (n : Int) t, .none] } }) hl' (Heap.IsSliceOf.new ..) .none (.int _ _) .none (by simp) ?_ hz
  refine hQ _ _ (S1.push (tk := s.toks) ⟨0, ?_⟩)
  have : slicePick vs.toArray none (some (n : Int)) none = (vs.take n).toArray := by
    have hb : sliceBounds none (some (n : Int)) none vs.toArray.size = (((0 : Nat) : Int), ((min n vs.length : Nat) : Int), 1) := by
      have := kms_bounds none (some (n : Int)) vs.toArray.size
      rw [this]
      simp only [kms_lo, kms_hi]
      try (congr 2)
      all_goals (try simp)
    rw [kmk_pick_nat _ hb]
    simp
  rw [this]

theorem places_rev (n : Nat) : Builtin.Slice.slicePlaces ((n : Int) - 1) (-1) (-1) = n := by
  unfold Builtin.Slice.slicePlaces
  have h1 : ¬ ((-1 : Int) > 0) := by (decide)
  simp only [h1, if_false]
  have e : (- -1 : Int) = 1 := by (decide)
  rw [e, Int.ediv_one]
  split <;> omega
theorem fm_congr {α β : Type} {f g : α → Option β} : ∀ {l : List α}, (∀ x ∈ l, f x = g x) → l.filterMap f = l.filterMap g
  | [], _ => rfl
  | x :: l, h => by
    simp only [List.filterMap_cons, h x (.head _), fm_congr (l := l) fun y hy => h y (.tail _ hy)]
theorem pick_rev (xs : Array Value) : ((List.range xs.size).filterMap fun (k : Nat) => xs[((xs.size : Int) - 1 + (k : Int) * -1).toNat]?).toArray = xs.toList.reverse.toArray := by
  have e : (List.range xs.size).filterMap (fun (k : Nat) => xs[((xs.size : Int) - 1 + (k : Int) * -1).toNat]?) = ((List.range xs.size).map fun k => xs.size - 1 - k).filterMap (xs[·]?) := by
    rw [List.filterMap_map]
    refine fm_congr fun k hk => ?_
    have := List.mem_range.mp hk
    have e2 : ((xs.size : Int) - 1 + (k : Int) * -1).toNat = xs.size - 1 - k := by omega
    simp only [Function.comp, e2]
  rw [e, krv_range, List.filterMap_reverse, krv_all]

theorem getItem_tuple_rev {tt sl : Addr} {items : Array Value} {t : Tok} (ht : IsTup s.heap tt items) (hs : s.heap.IsSliceOf sl .none .none (.int (-1) t))
    (h : Q (.ref s.heap.objs.size) { s with heap := s.heap.push { cls := .type "tuple", data := .seq items.toList.reverse.toArray } }) (hsz : items.size ≤ sizeLine) : wpAny (model prog w) A (getItem (.ref tt) (.ref sl)) Q E s := by
  have hok : sizeOk (.seq items.toList.reverse.toArray) := by
    show items.toList.reverse.toArray.size ≤ sizeLine
    rw [List.size_toArray, List.length_reverse, Array.length_toList]; exact hsz
  obtain ⟨os, hos, hcs, hds⟩ := id hs
  have hTs : s.TypeIs (.ref sl) "slice" := ⟨os, hos, hcs⟩
  unfold getItem
  try with_reducible refine wpAny_holding ?_
  first | refine wpAny_bind (wpAny_pure ?_) | skip
  refine wpAny_bind (wpAny_sequenceKey ht.typeIs (by decide) ?_)
  refine wpAny_bind (wpAny_callSpecial?_slot (name := Str.ofString "__getitem__") ht.typeIs slot_tuple_getitem
    (wpAny_call_entry slot_tuple_getitem ht.typeIs entry_tuple_getitem ?_ (args_tuple_getitem _ _)))
  show wpAny _ _ (Builtin.Tuple.tupleItemsOf (.ref tt) >>= _) _ _ s
  refine wpAny_bind (tupleItemsOf_ ht ?_)
  refine wpAny_bind (wpAny_typeOf hTs ?_)
  rw [if_pos (by decide)]
  have happ : ∀ {A' : Around} {E' : Value → Shared → Prop} {Q' : Int × Int × Nat → Shared → Prop}, Q' ((items.size : Int) - 1, -1, items.size) s → wpAny (model prog w) A' (Builtin.Slice.sliceApplied (.ref sl) (pure (items.size : Int))) Q' E' s := by
    intro A' E' Q' hQ'
    unfold Builtin.Slice.sliceApplied Builtin.Slice.sliceFields
    refine wpAny_bind (wpAny_bind (wpAny_field hos hds (x := .none) rfl (wpAny_bind (wpAny_field hos hds (x := .none) rfl (wpAny_bind (wpAny_field hos hds (x := .int (-1) t) rfl (wpAny_pure ?_)))))))
    refine wpAny_bind (slicePart_int ?_)
    show wpAny _ _ (if ((-1 : Int) == 0) = true then _ else _) _ _ s
    rw [if_neg (by decide)]
    refine wpAny_bind (slicePart_none (wpAny_bind (slicePart_none (wpAny_bind (wpAny_pure ?_)))))
    show wpAny _ _ (pure ((items.size : Int) - 1, (-1 : Int), Builtin.Slice.slicePlaces ((items.size : Int) - 1) (-1) (-1))) _ _ s
    rw [places_rev]
    exact wpAny_pure hQ'
  refine wpAny_bind (happ ?_)
  have hno : ¬ ((((items.size : Int) - 1) == 0 && (-1 : Int) == 1 && items.size == items.size) = true) := by
    have : ((-1 : Int) == 1) = false := by decide
    rw [this]; simp
  show wpAny _ _ (if (((items.size : Int) - 1) == 0 && (-1 : Int) == 1 && items.size == items.size) = true then _ else _) _ _ s
  rw [if_neg hno, pick_rev items]
  first
    | exact wpAny_bind (m := Builtin.Tuple.tupleExact _) (wpAny_newObj_type (wpAny_pure ⟨_, rfl, wpAny_pure h⟩) hok)
    | exact wpAny_bind (m := Builtin.Tuple.tupleExact _) (wpAny_newObj_type (wpAny_bind (wpAny_pure (wpAny_pure ⟨_, rfl, wpAny_pure h⟩))) hok)
    | exact wpAny_bind (wpAny_bind (m := Builtin.Tuple.tupleExact _) (wpAny_newObj_type (wpAny_pure (wpAny_pure ⟨_, rfl, wpAny_pure h⟩)) hok))
    | exact wpAny_bind (wpAny_bind (m := Builtin.Tuple.tupleExact _) (wpAny_newObj_type (wpAny_pure ⟨_, rfl, wpAny_pure h⟩) hok))

/-- «t[::-1]» of a tuple of ints -/
theorem r_rev {value : Expr} {ip up : Pos} {kk : Nat}
    (h : wpAny (model prog w) A (eval value env) (fun o s₁ => ∃ ns h₀ I L vars muts s₀, IntsT I o ns ∧ ns.length ≤ 1000 ∧ St K h₀ I L vars muts s₀ s₁ ∧
      ∀ v' I' s', Sub I I' → IntsT I' v' ns.reverse → St K h₀ I' L vars muts s₀ s' → Q v' s') E s)
    (ht : ∀ o r, letTemporaryGo value o r = pure () := by intro _ _; rfl) :
    wpAny (model prog w) A (eval (.Subscript value (.Slice none none (some (.UnaryOp .USub (.Constant (.int 1) kk ip) up)) p) pos) env) Q E s := by
  refine wpAny_Subscript_Slice_step slot_tuple_getitem.lookup (wpAny_mono h (fun o s₁ h₁ => ?_) fun _ _ e => e) ht
  obtain ⟨ns, h₀, I, L, vars, muts, s₀, ⟨l, vs, rfl, hl, hi⟩, hlen, S, hQ⟩ := h₁
  refine wpAny_Slice (evalPart_none_step (evalPart_none_step (evalPart_some_step (wpAny_UnaryOp (r_int S ?_)))))
  clear S; intro t s S
  refine r_neg S ?_
  clear S; intro t s S
  have ht' : IsTup s.heap l vs.toArray := S.tupI hl
  have ht2 : IsTup (s.heap.push { cls := .type "slice", data := .fields #[.none, .none, .int (-1) t] }) l vs.toArray := ht'.keeps fun _ _ e => Heap.get?_push_of_some _ e
  have S1 := S.ext (tk := s.toks) (fun _ _ e => Heap.get?_push_of_some { cls := .type "slice", data := .fields #[.none, .none, .int (-1) t] } e)
  refine ⟨IsTup.typeIs (s := { s with heap := s.heap.push { cls := .type "slice", data := .fields #[.none, .none, .int (-1) t] } }) ht2, ?_⟩
  have hz : vs.toArray.size ≤ sizeLine := by rw [List.size_toArray, hi.length, sizeLine_eq]; (with_reducible exact Nat.le_trans (by assumption) (by decide))
  refine getItem_tuple_rev (s := { s with heap := s.heap.push { cls := .type "slice", data := .fields #[.none, .none, .int (-1) t] } }) ht2 (Heap.IsSliceOf.new ..) ?_ hz
  have S2 := St.freezeAt (S1.push (tk := s.toks) (c := cIs (TO vs.reverse)) (o := TO vs.reverse) rfl)
  exact hQ _ _ _ Sub.add ⟨_, vs.reverse, rfl, ⟨_, Add.here, rfl, 0, rfl⟩, hi.reverse⟩ S2
end
section
variable {prog : Program} {w : World} {A : Around} {E : Value → Shared → Prop} {env : Env}
variable {K : Frag} {h₀ : Base} {I I' : Imm} {L : Addr} {vars vars' : List (Str × Value)} {muts muts' : List (Addr × Cell)} {s₀ s s' : Shared}
variable {x : Str} {pos npos p : Pos} {v u : Value} {a b : Int} {t t' : Tok} {Q : Value → Shared → Prop}

/-- «list(l)» -/
theorem r_copyL {l : Addr} {vs : List Value} (S : St K h₀ I L vars muts s₀ s) (hl : IL I l vs) (hsz : vs.length ≤ sizeLine) (h : ∀ D s', St K h₀ I L vars ((D, cList vs) :: muts) s₀ s' → Q (.ref D) s') :
    wpAny (model prog w) A (call (.type "list") [.ref l]) Q E s := by
  obtain ⟨o, ho, hc, n, hd⟩ := S.lstI hl
  exact call_list_seq (hsz := by rw [List.size_toArray]; exact hsz) l (.inl rfl) ho hc hd fun h' c' hk hD => h _ _ (S.new (tk := s.toks) hk fresh_size hD ⟨c', rfl⟩)

theorem ints_range : ∀ (n : Nat) (acc : List Value), acc.length = n → (∀ (j : Nat) (v : Value), acc[j]? = some v → ∃ t : Tok, v = Value.int (j : Int) t) → IntsAre acc ((List.range n).map (fun i : Nat => (i : Int)))
  | 0, acc, hl, _ => by
    have := List.length_eq_zero_iff.mp hl
    subst this; exact .nil
  | n + 1, acc, hl, h => by
    have hne : acc ≠ [] := by rintro rfl; simp at hl
    have e := List.dropLast_concat_getLast hne
    rw [← e, List.range_succ, List.map_append]
    refine IntsAre.append (ints_range n acc.dropLast (by simp [hl]) fun j v hj => ?_) ?_
    · have hlt : j < acc.dropLast.length := (List.getElem?_eq_some_iff.mp hj).1
      refine h j v ?_
      rw [← e, List.getElem?_append_left hlt]; exact hj
    · obtain ⟨t, ht⟩ := h n (acc.getLast hne) (by rw [List.getLast_eq_getElem, List.getElem?_eq_getElem (by omega)]; congr 2; omega)
      rw [ht]
      exact .cons _ t .nil
/-- «list(range(n))» -/
theorem r_listRange {r : Addr} {n : Nat} {t₁ t₂ t₃ : Tok} (S : St K h₀ I L vars muts s₀ s) (hh : A.handled = none) (hr : IsRange s.heap r 0 (n : Int) 1 t₁ t₂ t₃) (hn : n ≤ 1000) 
    (h : ∀ v I' s', Sub I I' → IntsL I' v ((List.range n).map (fun i : Nat => (i : Int))) → St K h₀ I' L vars muts s₀ s' → Q v s') : wpAny (model prog w) A (call (.type "list") [.ref r]) Q E s := by
  refine call_list_range hh hr (small_one (by decide) (by decide) (by omega) (by omega)) (n := n) (by rw [rangeSize_one]; split <;> omega) (by with_reducible exact Nat.le_trans (by assumption) (by decide)) fun h' tk acc c hk hD hacc => ?_
  have S' := S.new (tk := tk) hk fresh_size hD (c := cList acc.toList) ⟨c, by simp⟩
  obtain ⟨I', hs, hil, S''⟩ := S'.freezeL
  refine h _ I' _ hs ⟨_, acc.toList, rfl, hil, ints_range n acc.toList (by simpa using hacc.1) fun j v hj => ?_⟩ S''
  obtain ⟨t, ht⟩ := hacc.2 j v (by simpa using hj)
  exact ⟨t, by rw [ht]; congr 1; omega⟩
/-- «sorted(l)» -/
theorem r_sorted {l : Addr} {vs : List Value} {ns : List Int} (S : St K h₀ I L vars muts s₀ s) (hl : IL I l vs) (hi : IntsAre vs ns) (h64 : ns.length < 64)
    (h : ∀ v I' s' ns', Sub I I' → IntsL I' v ns' → ns'.Perm ns → ns'.Pairwise (· ≤ ·) → St K h₀ I' L vars muts s₀ s' → Q v s') : wpAny (model prog w) A (call (.builtin "sorted") [.ref l]) Q E s := by
  refine sorted_ints (S.lstI hl) hi (by rw [hi.length]; exact h64) fun out ns' a1 a2 a3 => ?_
  obtain ⟨e, he⟩ := sortedAll_at s.heap vs out
  have hfr : s.heap.get? (s.heap.objs.size + 1) = none := by
    cases q : s.heap.get? (s.heap.objs.size + 1) with
    | none => rfl
    | some o => exact absurd (Nat.lt_of_succ_lt (Heap.lt_size q)) (Nat.lt_irrefl _)
  have S' := S.new (tk := s.toks) (fun _ _ => sortedAll_old) hfr he (c := cList out.toList) ⟨e, by simp [seqObj]⟩
  obtain ⟨I', hs, hil, S''⟩ := S'.freezeL
  exact h _ I' _ ns' hs ⟨_, out.toList, rfl, hil, a1⟩ a2 a3 S''

/-- a sorted list of n different numbers below n is the range -/
theorem sorted_range {n : Nat} {found : List Nat} {ns : List Int} (hnd : found.Nodup) (hlt : ∀ x ∈ found, x < n) (hall : ∀ x, x < n → x ∈ found) (hp : ns.Perm (found.map (fun i : Nat => (i : Int)))) (hs : ns.Pairwise (· ≤ ·)) :
    ns = (List.range n).map (fun i : Nat => (i : Int)) := by
  have hp2 : found.Perm (List.range n) := by
    refine (List.perm_ext_iff_of_nodup hnd List.nodup_range).mpr fun x => ?_
    rw [List.mem_range]
    exact ⟨hlt x, hall x⟩
  have hp3 : ns.Perm ((List.range n).map (fun i : Nat => (i : Int))) := hp.trans (hp2.map _)
  refine List.Perm.eq_of_pairwise (le := (· ≤ ·)) (fun a b _ _ h1 h2 => by omega) hs ?_ hp3
  refine List.pairwise_map.mpr ((List.pairwise_lt_range (n := n)).imp fun h => by omega)

/-- «x, y = pair» -/
theorem r_unpack2 {y : Str} {xp yp tp : Pos} {kk : Nat} {pr : Addr} {u : Value} {Q : Unit → Shared → Prop} (S : St K h₀ I L vars muts s₀ s) (hh : A.handled = none) (hpr : IT I pr [v, u]) (hL : env.locals = L) (hk : env.scope.kind = .function) (hx : env.kindOf x = some .local) (hy : env.kindOf y = some .local)
    (h : ∀ s', St K h₀ I L ((y, u) :: (x, v) :: vars) muts s₀ s' → Q () s') : wpAny (model prog w) A (assign (.Tuple [.Name x xp, .Name y yp] kk tp) env (.ref pr)) Q E s := by
  refine assign_Tuple_tuple (items := #[v, u]) hh (S.tupI hpr) rfl rfl fun h' he => ?_
  have S1 := S.ext (tk := s.toks) (h' := h') fun b o e => he b o (Nat.ne_of_lt (Heap.lt_size e)) e
  refine assignInOrder_cons (assign_Name (r_store S1 (fun s1 S2 => ?_) hL hx hk))
  refine assignInOrder_cons (assign_Name (r_store S2 (fun s2 S3 => ?_) hL hy hk))
  exact assignInOrder_nil (h s2 S3)

/-- «t not in (t0, t1)» of tuples of ints -/
theorem r_notinTT {pr : Addr} {us : List Value} {ts : List (List Int)} {ns : List Int} (S : St K h₀ I L vars muts s₀ s) (hpr : IT I pr us) (hts : All2 (IntsT I) us ts) (hv : IntsT I v ns) (hu : A.units + 64 < cLine) (h : Q (.bool (!decide (ns ∈ ts))) s) :
    wpAny (model prog w) A (compareOp .NotIn v (.ref pr)) Q E s := by
  obtain ⟨o, ho, hc, n, hd⟩ := hpr
  obtain ⟨as, r1⟩ := reads_all (h := s.heap) (D := tD) (fun v d hv => readsT S.here hv) hts
  obtain ⟨bs, r2⟩ := readsT S.here hv
  have hdep : (tD ns).depth ≤ 1 := by rw [tD, PyData.depth, (lay_iD ns).2]; (decide)
  refine SeqAt.notIn_tuple_reads (Reads.tuple (S.imm _ _ ho).1 hc hd (by simpa using r1)) r2 (lay_ts ts).1 (by rw [tD, PyData.canLay0]; exact (lay_iD ns).1) ?_ ?_
  · have := Nat.min_le_right (PyData.depthAll (ts.map tD)) (tD ns).depth
    omega
  · have : ((ts.map tD).any fun y => PyData.eqv y (tD ns)) = decide (ns ∈ ts) := by
      rw [Bool.eq_iff_iff, List.any_map, List.any_eq_true, decide_eq_true_eq]
      simp only [Function.comp, tD, PyData.eqv, eqv_iD, decide_eq_true_eq]
      constructor
      · rintro ⟨x, hx, rfl⟩; exact hx
      · intro h; exact ⟨ns, h, rfl⟩
    rw [this]; exact h
end
section
variable {prog : Program} {w : World} {A : Around} {E : Value → Shared → Prop} {env : Env}
variable {h₀ : Base} {I I' : Imm} {L : Addr} {vars vars' : List (Str × Value)} {muts muts' : List (Addr × Cell)} {s₀ s s' : Shared}
variable {pos npos : Pos} {v : Value} {a b : Int} {t u : Tok} {Q : Value → Shared → Prop}
/-- how `law` ends -/
def LawEnd (K : Frag) (h₀ : Base) (s₀ : Shared) (L : Addr) (fl : Flow) (s' : Shared) : Prop := fl = .ret (.bool true) ∧ ∃ I' vars muts, St K h₀ I' L vars muts s₀ s'
theorem ok_caller (env : Env) : OkA 12 (callerA.deeper env) := by
  refine ⟨rfl, ?_, ?_⟩
  · show (1 + claimMargin) + 1 + 12 < 1000
    decide +kernel
  · show 4 + 3 + 10 * 12 < 9900
    (decide)
theorem law_enter {α : Type} {prog : Program} {w : World} {env : Env} {t : Sem α} {Q Q' : α → Shared → Prop} {E : Value → Shared → Prop} {s : Shared} (hQ : ∀ a s', Q' a s' → Q a s') (h : ∀ A E', OkA 12 A → wpAny (model prog w) A t Q' E' s) : wpAny (model prog w) (callerA.deeper env) t Q E s :=
  wpAny_mono (h _ _ (ok_caller env)) hQ fun _ _ e => e
theorem law_main : PySem.Challenge.rw_ok0112_01.Holds := hd (by
  k_go0
  rename_i w s00 s₀ mg mb G Y fa o pm doc ho hg KX X V GL T B TE TW wA wO M wa wb hcd ns hs hlay0 hL1 hr hl2 as1 as2 sc vs as3 hL ra w1 r0 hns hr2 hcond1 hcond2 K0 hD h₁ tk₁ F oc hoc N0 X0
  obtain ⟨osc, hosc, hcsc, nsc, hdsc⟩ := hL
  have hlen : ns.length ≤ 63 := by omega
  have hsc : IL (One sc osc) sc vs := ⟨osc, ⟨rfl, rfl⟩, hcsc, nsc, hdsc⟩
  have hN := N0 _ (.head _)
  have S : St (KK w) ⟨s₀.heap, One sc osc⟩ (One sc osc) s₀.heap.objs.size [("script", .ref sc)] [(s₀.heap.objs.size + 1, fun o => o.data = .cell none)] s₀ ⟨h₁, s₀.gens, s₀.drawn, tk₁, s₀.os⟩ :=
    { wd := ⟨KX, _, _, _, _, topRead_of T⟩, gens := rfl, drawn := rfl, os := rfl, keep := F.keep, above := Nat.le_refl _, fresh := fun a o h => .inl h,
      ns := ⟨_, F.ns, hv_of (by intro p hp; simp only [List.mem_singleton] at hp; subst hp; rfl)⟩,
      imm := by rintro a o ⟨rfl, rfl⟩; exact ⟨F.keep _ _ hosc, Nat.ne_of_lt (Heap.lt_size hosc)⟩,
      cel := by
        intro p hp
        simp only [List.mem_singleton] at hp
        subst hp
        exact ⟨⟨oc, hN.1, hoc⟩, hN.2.1, hN.2.2, fun o' h => by
          have e : s₀.heap.objs.size + 1 = sc := h.1
          have h3 := Heap.lt_size hosc
          rw [← e] at h3
          exact absurd h3 (Nat.not_lt.mpr (Nat.le_succ _))⟩,
      nd := by simp }
  refine law_enter (Q' := LawEnd (KK w) ⟨s₀.heap, One sc osc⟩ s₀ s₀.heap.objs.size) ?_ ?_
  · rintro fl s' ⟨rfl, I', vars, muts, S'⟩
    obtain ⟨m, F', _⟩ := S'.toFr
    exact goodW_bool F' (S'.gens.trans hg) (fun cls => rfl) (by first | wrow_post | kc_post) S'.os
  intro A E hA
  have hsI : Sub (One sc osc) (One sc osc) := Sub.refl
  clear X0 N0 hN F hoc hD K0 hcond2 hcond1 hr2 r0 w1 ra hl2 hr hL1 hlay0 hs hcd M TW TE B T GL V X KX hg ho Y G hosc hcsc hdsc
  generalize hh0 : (⟨s₀.heap, One sc osc⟩ : Base) = h₀ at *
  clear hh0
  generalize One sc osc = I at *
  generalize s₀.heap.objs.size = L at *
  generalize ({ heap := h₁, gens := s₀.gens, drawn := s₀.drawn, toks := tk₁, os := s₀.os } : Shared) = s at *
  generalize PySem.Challenge.rw_ok0112_01.row.prog = prog at *
  dsimp only
  repeat walk_at "n"
  refine r_seq (fun s => ∃ p pa ws cells I', Sub I I' ∧ IL I' pa ws ∧ IntsAre ws cells ∧ cells.length ≤ 63 ∧ St (KK w) h₀ I' L [("pen", .ref p)] [(p, cPenB pa 0), (L + 1, fun o => o.data = .cell none)] s₀ s) ?_ ?_
  · refine opq fun QQ hQQ => ?_
    repeat walk_at "n"
    refine r_comp (K := KK w) (h₀ := h₀) (s₀ := s₀) (cl := []) (by rfl) (by decide) (by rfl) (by decide) ?_
    refine r_upto (K := KK w) (n := 40) ?_
    repeat walk_at "n"
    refine ⟨sc, vs, _, _, _, _, _, _, rfl, hsc, by rw [hns.length]; (with_reducible exact Nat.le_trans (by assumption) (by decide)), S, ?_⟩
    clear S; intro D s S
    obtain ⟨I2, hs2, hil, S⟩ := S.freezeL
    refine it_list hA.hh S hil fun it s X => ?_
    clear S
    have hns2 : IntsAre (vs.take 40) (ns.take 40) := IntsAre.take hns 40
    refine comp1 X (fun C => by rfl) rfl (fun (i : Nat) (I' : Imm) (acc : List Value) (mm : List (Addr × Cell)) => mm = [(L + 1, fun o => o.data = .cell none)] ∧ IntsAre acc ((ns.take 40).take i)) ?_ ⟨rfl, by rw [List.take_zero]; exact .nil⟩ ?_ ?_
    · rintro i I' acc mm ⟨_, hacc⟩
      rw [hacc.length, List.length_take, List.length_take, sizeLine_eq]; omega
    · rintro i v I' acc mm ex C1 s E' hi hv hs1 ⟨rfl, hacc⟩ S
      obtain ⟨d, hd, td, rfl⟩ := (IntsAre.to2 hns2).get hv
      refine tests0 ?_
      rw [if_pos rfl]
      refine r_callt (T := "int") S (by with_unfolding_all rfl) (by with_unfolding_all rfl) (by decide) ?_
      repeat walk_at "n"
      refine call_int_int ?_
      refine ⟨I', _, Sub.refl, ⟨rfl, ?_⟩, S⟩
      rw [List.take_add_one, hd]
      exact ints_snoc hacc
    · rintro I1 acc mm D hs1 ⟨rfl, hacc⟩ s S
      rw [hns2.length, List.take_length] at hacc
      obtain ⟨I3, hs3, hpa, S⟩ := S.freezeL
      repeat walk_at "n"
      refine r_newList S (fun p s S => ?_) (by simp [sizeLine_eq])
      repeat walk_at "n"
      refine hQQ _ _ ⟨rfl, p, D, acc, ns.take 40, I3, (hs2.trans hs1).trans hs3, hpa, hacc, by rw [List.length_take]; omega, (S.weak fun o ho => ⟨0, 0, _, _, Nat.le_refl _, ho.is⟩).revars ⟨rfl, trivial⟩⟩
  · clear S
    rintro s ⟨p, pa, ws, cells, I2, hs2, hpa, hcells, hclen, S⟩
    replace hsI := hsI.trans hs2
    refine r_seq (fun s => ∃ ra ta rows tags n k I', Sub I2 I' ∧ RowsL I' (.ref ra) rows ∧ TagsL I' (.ref ta) tags ∧ AOk rows tags n k ∧ n ≤ 4 ∧ 1 ≤ k ∧ k ≤ 3 ∧ St (KK w) h₀ I' L [("tags", .ref ta), ("rows", .ref ra)] [(L + 1, fun o => o.data = .cell none)] s₀ s) ?_ ?_
    · refine opq fun QQ hQQ => ?_
      refine Assign_Tuple ?_
      refine r_callg (f := 108) S (by with_unfolding_all rfl) (by with_unfolding_all rfl) ?_
      repeat walk_at "n"
      refine ⟨⟨_, _, _, _, _, _, S⟩, ?_⟩
      refine automaton_fn (hA.le (by decide)) S hpa hcells hclen ?_
      clear S
      intro tu ra ta rows tags n k I3 s hs3 htu hrows htags H hn hk1 hk3 S
      refine r_unpack2 S hA.hh htu rfl rfl rfl rfl ?_
      clear S; intro s S
      exact hQQ _ _ ⟨rfl, ra, ta, rows, tags, n, k, I3, hs3, hrows, htags, H, hn, hk1, hk3, S.drop.revars ⟨rfl, rfl, trivial⟩⟩
    · clear S hpa hcells hclen
      rintro s ⟨ra, ta, rows, tags, n, k, I3, hs3, hrows, htags, H, hn, hk1, hk3, S⟩
      replace hsI := hsI.trans hs3
      clear hs2 hs3
      refine r_seq (fun s => ∃ dx I', Sub I3 I' ∧ Auto I' dx rows tags ∧ St (KK w) h₀ I' L [("dfa", .ref dx), ("tags", .ref ta), ("rows", .ref ra)] [(L + 1, fun o => o.data = .cell none)] s₀ s) ?_ ?_
      · refine opq fun QQ hQQ => ?_
        repeat walk_at "n"
        refine r_callg (f := 80) S (by with_unfolding_all rfl) (by with_unfolding_all rfl) ?_
        repeat walk_at "n"
        obtain ⟨_, rvs, e, hrl, hR⟩ := hrows
        injection e with e
        subst e
        refine r_comp (K := KK w) (h₀ := h₀) (s₀ := s₀) (cl := []) (by rfl) (by decide) (by rfl) (by decide) ?_
        repeat walk_at "n"
        refine it_list hA.hh S hrl fun it s X => ?_
        clear S
        have hrvl : rvs.length = n := by rw [hR.length, H.len]
        refine comp1 X (fun C => by rfl) rfl (fun (i : Nat) (I' : Imm) (acc : List Value) (mm : List (Addr × Cell)) => i ≤ n ∧ mm = [(L + 1, fun o => o.data = .cell none)] ∧ All2 (IntsL I') acc (rows.take i)) ?_ ⟨Nat.zero_le _, rfl, by rw [List.take_zero]; exact .nil⟩ ?_ ?_
        · rintro i I' acc mm ⟨hi, _, hacc⟩
          rw [hacc.length, List.length_take, sizeLine_eq]; omega
        · rintro i v I' acc mm ex C1 s E' hi hv hs1 ⟨hin, rfl, hacc⟩ S
          obtain ⟨row, hrow, a, us, rfl, hal, hai⟩ := hR.get hv
          refine tests0 ?_
          rw [if_pos rfl]
          refine r_callt (T := "list") S (by with_unfolding_all rfl) (by with_unfolding_all rfl) (by decide) ?_
          repeat walk_at "n"
          refine r_copyL S (hal.sub hs1) (by rw [hai.length, H.wid row (List.mem_of_getElem? hrow), sizeLine_eq]; (with_reducible exact Nat.le_trans (by assumption) (by decide))) ?_
          clear S; intro D s S
          obtain ⟨I4, hs4, hil, S⟩ := S.freezeL
          refine ⟨I4, _, hs4, ⟨by omega, rfl, ?_⟩, S⟩
          rw [List.take_add_one, hrow]
          exact (hacc.mono fun _ _ h => h.sub hs4).snoc ⟨D, us, rfl, hil, hai⟩
        · rintro I1 acc mm D hs1 ⟨_, rfl, hacc⟩ s S
          rw [hrvl, show rows.take n = rows by rw [← H.len]; exact List.take_length] at hacc
          obtain ⟨I4, hs4, hDl, S⟩ := S.freezeL
          obtain ⟨_, tvs, e, htl, hT⟩ := htags
          injection e with e
          subst e
          have htvl : tvs.length = n := by rw [hT.length, H.tlen]
          repeat walk_at "n"
          refine r_callt (T := "list") S (by with_unfolding_all rfl) (by with_unfolding_all rfl) (by decide) ?_
          repeat walk_at "n"
          refine r_copyL S ((htl.sub hs1).sub hs4) (by rw [htvl, sizeLine_eq]; (with_reducible exact Nat.le_trans (by assumption) (by decide))) ?_
          clear S; intro D2 s S
          obtain ⟨I5, hs5, hDl2, S⟩ := S.freezeL
          repeat walk_at "n"
          refine ⟨⟨_, _, _, _, _, _, S⟩, ?_⟩
          refine make_dfa S (hA.le (by decide)) ?_
          clear S; intro dx I6 s hs6 D' S
          repeat walk_at "n"
          have hs16 : Sub I3 I6 := ((hs1.trans hs4).trans hs5).trans hs6
          exact hQQ _ _ ⟨rfl, dx, I6, hs16, ⟨D, D2, D', ⟨D, acc, rfl, (hDl.sub hs5).sub hs6, hacc.mono fun _ _ h => ((h.sub hs4).sub hs5).sub hs6⟩, ⟨D2, tvs, rfl, hDl2.sub hs6, hT.mono fun _ _ h => h.sub hs16⟩⟩, S⟩
      · clear S
        rintro s ⟨dx, I4, hs4, hdfa, S⟩
        replace hrows := hrows.sub hs4
        replace htags := htags.sub hs4
        replace hsI := hsI.trans hs4
        clear hs4
        have hT1 := turnInv H
        have hw1 : ∀ x : List Nat, (∀ a ∈ x, a < k) → takesFrom (turnedS rows tags).rows (turnedS rows tags).tags 0 x = takesFrom rows tags 0 x.reverse := fun x hx => turned_words H (by with_reducible exact Nat.le_trans (by assumption) (by decide)) hx
        have h16 : 2 ^ n ≤ 2 ^ 4 := Nat.pow_le_pow_right (by decide) hn
        have hleast := fun (I : Imm) (x : Addr) (D : Auto I x rows tags) => least_fn (prog := prog) (w := w) D H hn (by with_reducible exact Nat.le_trans (by assumption) (by decide))
        have hturn1 := fun (I : Imm) (x : Addr) (D : Auto I x rows tags) => turned_ok (prog := prog) (w := w) D H (by with_reducible exact Nat.le_trans (by assumption) (by decide)) (by with_reducible exact Nat.le_trans (by assumption) (by decide))
        generalize turnedS rows tags = T1 at *
        obtain ⟨H1, hle⟩ := hT1.ok
        have hle16 : T1.rows.length ≤ 16 := by (with_reducible exact o_l2 (by assumption) (by assumption) (by decide))
        have hT2 := turnInv H1
        have hw2 : ∀ x : List Nat, (∀ a ∈ x, a < k) → takesFrom (turnedS T1.rows T1.tags).rows (turnedS T1.rows T1.tags).tags 0 x = takesFrom T1.rows T1.tags 0 x.reverse := fun x hx => turned_words H1 (by with_reducible exact Nat.le_trans (by assumption) (by decide)) hx
        have hturn2 := fun (I : Imm) (x : Addr) (D : Auto I x T1.rows T1.tags) => turned_ok (prog := prog) (w := w) D H1 (by with_reducible exact Nat.le_trans (by assumption) (by decide)) (by with_reducible exact Nat.le_trans (by assumption) (by decide))
        generalize turnedS T1.rows T1.tags = T2 at *
        obtain ⟨H2, hle2⟩ := hT2.ok
        have hle2' : T2.rows.length ≤ 2 ^ 16 := Nat.le_trans hle2 (Nat.pow_le_pow_right (by decide) hle16)
        refine r_seq (fun s => ∃ bx I', Sub I4 I' ∧ Auto I' bx T1.rows T1.tags ∧
          St (KK w) h₀ I' L [("back", .ref bx), ("dfa", .ref dx), ("tags", .ref ta), ("rows", .ref ra)] [(L + 1, fun o => o.data = .cell none)] s₀ s) ?_ ?_
        · refine opq fun QQ hQQ => ?_
          repeat walk_at "n"
          refine r_callg (f := 89) S (by with_unfolding_all rfl) (by with_unfolding_all rfl) ?_
          repeat walk_at "n"
          refine ⟨⟨_, _, _, _, _, _, S⟩, ?_⟩
          refine r_call (hturn1 _ _ hdfa) (hA.le (by decide)) S ?_
          clear S
          rintro _ I5 s hs5 ⟨bx, rfl, hb⟩ S
          repeat walk_at "n"
          exact hQQ _ _ ⟨rfl, bx, I5, hs5, hb, S⟩
        · clear S
          rintro s ⟨bx, I5, hs5, hback, S⟩
          replace hrows := hrows.sub hs5
          replace htags := htags.sub hs5
          replace hdfa := hdfa.sub hs5
          replace hsI := hsI.trans hs5
          clear hs5 hturn1
          refine r_seq (fun s => ∃ tx I', Sub I5 I' ∧ Auto I' tx T2.rows T2.tags ∧
            St (KK w) h₀ I' L [("twice", .ref tx), ("back", .ref bx), ("dfa", .ref dx), ("tags", .ref ta), ("rows", .ref ra)] [(L + 1, fun o => o.data = .cell none)] s₀ s) ?_ ?_
          · refine opq fun QQ hQQ => ?_
            repeat walk_at "n"
            refine r_callg (f := 89) S (by with_unfolding_all rfl) (by with_unfolding_all rfl) ?_
            repeat walk_at "n"
            refine ⟨⟨_, _, _, _, _, _, S⟩, ?_⟩
            refine r_call (hturn2 _ _ hback) (hA.le (by decide)) S ?_
            clear S
            rintro _ I6 s hs6 ⟨tx, rfl, ht⟩ S
            repeat walk_at "n"
            exact hQQ _ _ ⟨rfl, tx, I6, hs6, ht, S⟩
          · clear S
            rintro s ⟨tx, I6, hs6, htwice, S⟩
            replace hrows := hrows.sub hs6
            replace htags := htags.sub hs6
            replace hdfa := hdfa.sub hs6
            replace hback := hback.sub hs6
            replace hsI := hsI.trans hs6
            clear hs6 hturn2
            refine r_seq (fun s => ∃ I', Sub I6 I' ∧
              St (KK w) h₀ I' L [("twice", .ref tx), ("back", .ref bx), ("dfa", .ref dx), ("tags", .ref ta), ("rows", .ref ra)] [(L + 1, fun o => o.data = .cell none)] s₀ s) ?_ ?_
            · refine opq fun QQ hQQ => ?_
              obtain ⟨_, rvs, e, hrl, hR⟩ := id hrows
              injection e with e
              subst e
              obtain ⟨row0, hrow0⟩ : ∃ row, rows[0]? = some row := ⟨_, List.getElem?_eq_getElem (by rw [H.len]; exact H.one)⟩
              have hrl0 : row0.length = k := H.wid row0 (List.mem_of_getElem? hrow0)
              obtain ⟨rv0, hrv0, rb0, us0, rfl, hl0, hi0⟩ := hR.at hrow0
              refine r_for (K := KK w) (h₀ := h₀) (s₀ := s₀) (by rfl) (by rfl) ?_
              refine r_callg (f := 113) S (by with_unfolding_all rfl) (by with_unfolding_all rfl) ?_
              repeat walk_at "n"
              refine r_callb (id := "len") S (by with_unfolding_all rfl) (by with_unfolding_all rfl) (by decide) ?_
              repeat walk_at "n"
              refine r_item (S.lstI hrl) (i := 0) rfl hrv0 (szl (by decide)) ?_
              repeat walk_at "n"
              refine r_len S (S.lstI hl0) (by rw [hi0.length, hrl0, sizeLine_eq]; (with_reducible exact Nat.le_trans (by assumption) (by decide))) ?_
              clear S; intro tl s S
              rw [hi0.length, hrl0]
              repeat walk_at "n"
              refine ⟨⟨_, _, _, _, _, _, S⟩, ?_⟩
              refine r_call (words_fn hk3) (hA.le (by decide)) S ?_
              clear S
              rintro _ I7 s hs7 ⟨wl, wvs, words, rfl, hwl, hwT, hwok, hwlen⟩ S
              refine iter_list (fun (i : Nat) (I' : Imm) (vars : List (Str × Value)) (muts : List (Addr × Cell)) => Sub I7 I' ∧ vars = ([("twice", .ref tx), ("back", .ref bx), ("dfa", .ref dx), ("tags", .ref ta), ("rows", .ref ra)] : List (Str × Value)) ∧ muts = [(L + 1, fun o => o.data = .cell none)]) hA.hh S hwl ⟨Sub.refl, rfl, rfl⟩ ?_ ?_
              · clear S
                rintro i v I8 vars muts s a c E' hv ⟨hs8, rfl, rfl⟩ _ S
                refine opq fun QQ hQQ => ?_
                obtain ⟨x, hx, hvT⟩ := hwT.get hv
                obtain ⟨hxl, hxk⟩ := hwok x (List.mem_of_getElem? hx)
                have hs68 := hs7.trans hs8
                replace hvT := hvT.sub hs8
                replace hrows := hrows.sub hs68
                replace htags := htags.sub hs68
                replace hback := hback.sub hs68
                replace htwice := htwice.sub hs68
                obtain ⟨wa, wus, rfl, hwa, hwi⟩ := id hvT
                repeat walk_at "m"
                refine r_callg (f := 120) S (by with_unfolding_all rfl) (by with_unfolding_all rfl) ?_
                repeat walk_at "m"
                refine ⟨⟨_, _, _, _, _, _, S⟩, ?_⟩
                refine r_call (takes_fn hrows htags hvT H (by with_reducible exact Nat.le_trans (by assumption) (by decide)) (by with_reducible exact Nat.le_trans (by assumption) (by decide)) hxk) (hA.le (by decide)) S ?_
                clear S
                rintro _ I9 s hs9 rfl S
                repeat walk_at "m"
                replace hvT := hvT.sub hs9
                replace hback := hback.sub hs9
                replace htwice := htwice.sub hs9
                refine r_callg (f := 120) S (by with_unfolding_all rfl) (by with_unfolding_all rfl) ?_
                obtain ⟨rb, tb, Db, hrb, htb⟩ := id hback
                obtain ⟨rt, tt, Dt, hrt, htt⟩ := id htwice
                repeat walk_at "m"
                refine r_rows S Db ?_
                clear S; intro s S
                repeat walk_at "m"
                refine r_tags S Db ?_
                clear S; intro s S
                walk_at "m"
                refine r_rev (K := KK w) ?_
                repeat walk_at "m"
                refine ⟨wd x, _, _, _, _, _, _, hvT, by rw [wd_len]; (with_reducible exact Nat.le_trans (by assumption) (by decide)), S, ?_⟩
                clear S
                intro v' I10 s hs10 hv' S
                have hrevw : (wd x).reverse = wd x.reverse := by unfold wd; rw [List.map_reverse]
                rw [hrevw] at hv'
                obtain ⟨wa2, wus2, rfl, hwa2, hwi2⟩ := id hv'
                have hxk2 : ∀ a ∈ x.reverse, a < k := fun a ha => hxk a (List.mem_reverse.mp ha)
                repeat walk_at "m"
                refine ⟨⟨_, _, _, _, _, _, S⟩, ?_⟩
                refine r_call (takes_fn (hrb.sub hs10) (htb.sub hs10) hv' H1 (by with_reducible exact Nat.le_trans (by assumption) (by decide)) (by with_reducible exact Nat.le_trans (by assumption) (by decide)) hxk2) (hA.le (by decide)) S ?_
                clear S
                rintro _ I11 s hs11 rfl S
                repeat walk_at "m"
                refine ne_bool ?_
                have e1 : (takesFrom T1.rows T1.tags 0 x.reverse != takesFrom rows tags 0 x) = false := by rw [hw1 _ hxk2, List.reverse_reverse]; simp
                rw [e1]
                repeat walk_at "m"
                rw [if_neg (by simp)]
                repeat walk_at "m"
                refine r_callg (f := 120) S (by with_unfolding_all rfl) (by with_unfolding_all rfl) ?_
                have hs911 := hs10.trans hs11
                repeat walk_at "m"
                refine r_rows S (Dt.sub hs911) ?_
                clear S; intro s S
                repeat walk_at "m"
                refine r_tags S (Dt.sub hs911) ?_
                clear S; intro s S
                repeat walk_at "m"
                refine ⟨⟨_, _, _, _, _, _, S⟩, ?_⟩
                refine r_call (takes_fn (hrt.sub hs911) (htt.sub hs911) (hvT.sub hs911) H2 (by with_reducible exact Nat.le_trans (by assumption) (by decide)) (by with_reducible exact Nat.le_trans (by assumption) (by decide)) hxk) (hA.le (by decide)) S ?_
                clear S
                rintro _ I12 s hs12 rfl S
                repeat walk_at "m"
                refine ne_bool ?_
                have e2 : (takesFrom T2.rows T2.tags 0 x != takesFrom rows tags 0 x) = false := by rw [hw2 _ hxk, hw1 _ hxk2, List.reverse_reverse]; simp
                rw [e2]
                repeat walk_at "m"
                rw [if_neg (by simp)]
                repeat walk_at "m"
                rw [if_neg (by simp)]
                repeat walk_at "m"
                exact hQQ _ _ ⟨I12, _, _, (hs9.trans hs911).trans hs12, ⟨(hs8.trans (hs9.trans hs911)).trans hs12, rfl, rfl⟩, S.revars ⟨rfl, rfl, rfl, rfl, rfl, trivial⟩⟩
              · clear S
                rintro I8 vars muts s ⟨hs8, rfl, rfl⟩ S
                exact hQQ _ _ ⟨rfl, I8, hs7.trans hs8, S⟩
            · clear S
              rintro s ⟨I7, hs7, S⟩
              replace hrows := hrows.sub hs7
              replace htags := htags.sub hs7
              replace hdfa := hdfa.sub hs7
              replace hback := hback.sub hs7
              replace htwice := htwice.sub hs7
              replace hsI := hsI.trans hs7
              clear hs7
              refine r_seq (fun s => ∃ I', Sub I7 I' ∧
                St (KK w) h₀ I' L [("twice", .ref tx), ("back", .ref bx), ("dfa", .ref dx), ("tags", .ref ta), ("rows", .ref ra)] [(L + 1, fun o => o.data = .cell none)] s₀ s) ?_ ?_
              · refine opq fun QQ hQQ => ?_
                obtain ⟨rb, tb, Db, hrb, htb⟩ := id hback
                obtain ⟨_, bvs, e, hbl, hbR⟩ := id hrb
                injection e with e
                subst e
                have hbvl : bvs.length = T1.rows.length := hbR.length
                repeat walk_at "n"
                refine r_callb (id := "sorted") S (by with_unfolding_all rfl) (by with_unfolding_all rfl) (by decide) ?_
                repeat walk_at "n"
                refine r_callg (f := 127) S (by with_unfolding_all rfl) (by with_unfolding_all rfl) ?_
                repeat walk_at "n"
                refine r_rows S Db ?_
                clear S; intro s S
                repeat walk_at "n"
                refine ⟨⟨_, _, _, _, _, _, S⟩, ?_⟩
                refine r_call (reached_fn hrb H1 (by with_reducible exact Nat.le_trans (by assumption) (by decide)) (by with_reducible exact Nat.le_trans (by assumption) (by decide))) (hA.le (by decide)) S ?_
                clear S
                rintro _ I8 s hs8 ⟨found, ⟨fl, fvs, rfl, hfl, hfi⟩, hB, hC⟩ S
                have hflen := hB.len
                repeat walk_at "n"
                refine r_sorted S hfl hfi (by rw [wd_len]; omega) ?_
                clear S
                intro sv I9 s ns' hs9 hsv hperm hpair S
                have hsort : ns' = (List.range T1.rows.length).map (fun i : Nat => (i : Int)) := by
                  refine sorted_range hB.nd hB.lt (fun q hq => ?_) hperm hpair
                  refine turned_all hT1 found hB.zero (fun q' hq' r hr g hg => ?_) q (by rw [← hT1.full]; exact hq)
                  obtain ⟨j, hj⟩ := List.getElem?_of_mem hq'
                  obtain ⟨a, ha⟩ := List.getElem?_of_mem hg
                  have hrk : r.length = k := H1.wid r (List.mem_of_getElem? hr)
                  refine hC j q' (List.getElem?_eq_some_iff.mp hj).1 hj a (by rw [← hrk]; exact (List.getElem?_eq_some_iff.mp ha).1) g ?_
                  unfold entry
                  rw [getD_of hr, getD_of ha]
                repeat walk_at "n"
                refine r_callt (T := "list") S (by with_unfolding_all rfl) (by with_unfolding_all rfl) (by decide) ?_
                repeat walk_at "n"
                refine r_callt (T := "range") S (by with_unfolding_all rfl) (by with_unfolding_all rfl) (by decide) ?_
                repeat walk_at "n"
                refine r_callb (id := "len") S (by with_unfolding_all rfl) (by with_unfolding_all rfl) (by decide) ?_
                repeat walk_at "n"
                refine r_rows S (Db.sub (hs8.trans hs9)) ?_
                clear S; intro s S
                repeat walk_at "n"
                refine r_len S (S.lstI (hbl.sub (hs8.trans hs9))) (by rw [hbvl, sizeLine_eq]; (with_reducible exact Nat.le_trans (by assumption) (by decide))) ?_
                clear S; intro tl s S
                rw [hbvl]
                repeat walk_at "n"
                refine r_range1 S ?_
                clear S; intro rg s t₁ t₂ t₃ S hrg
                repeat walk_at "n"
                refine r_listRange S hA.hh hrg (by with_reducible exact Nat.le_trans (by assumption) (by decide)) ?_
                clear S
                intro lv I10 s hs10 hlv S
                repeat walk_at "n"
                refine r_neL S (hsv.sub hs10) hlv (hA.c64 (by decide)) ?_
                rw [hsort]
                rw [show (!decide ((List.range T1.rows.length).map (fun i : Nat => (i : Int)) = (List.range T1.rows.length).map (fun i : Nat => (i : Int)))) = false by simp]
                repeat walk_at "n"
                rw [if_neg (by simp)]
                repeat walk_at "n"
                have hs710 := (hs8.trans hs9).trans hs10
                obtain ⟨_, btvs, e, hbtl, hbT⟩ := id htb
                injection e with e
                subst e
                refine r_comp (K := KK w) (h₀ := h₀) (s₀ := s₀) (cl := []) (by rfl) (by decide) (by rfl) (by decide) ?_
                repeat walk_at "n"
                refine r_tags S (Db.sub hs710) ?_
                clear S; intro s S
                refine it_list hA.hh S (hbtl.sub hs710) fun it s X => ?_
                clear S
                refine comp1 X (fun C => by rfl) rfl (fun (i : Nat) (I' : Imm) (acc : List Value) (mm : List (Addr × Cell)) => mm = [(L + 1, fun o => o.data = .cell none)] ∧ acc = []) ?_ ⟨rfl, rfl⟩ ?_ ?_
                · rintro i I' acc mm ⟨_, rfl⟩
                  exact Nat.zero_le _
                · rintro i v I' acc mm ex C1 s E' hi hv hs11 ⟨rfl, rfl⟩ S
                  obtain ⟨tg, htg, hTg⟩ := hbT.get hv
                  have htg2 := H1.tag tg (List.mem_of_getElem? htg)
                  refine tests1 ?_
                  repeat walk_at "n"
                  refine tuple_empty S ?_
                  clear S; intro v1 I12 s hs12 hv1 S
                  repeat walk_at "n"
                  refine r_newTuple S ?_ (by simp [sizeLine_eq])
                  clear S; intro D1 s I13 hs13 hD1 S
                  repeat walk_at "n"
                  refine r_newTuple S ?_ (by simp [sizeLine_eq])
                  clear S; intro D2 s I14 hs14 hD2 S
                  repeat walk_at "n"
                  refine r_notinTT S (ts := [[], [0]]) hD2 (.cons ((hv1.sub hs13).sub hs14) (.cons ⟨D1, _, rfl, hD1.sub hs14, .cons 0 _ .nil⟩ .nil)) (((((hTg.sub hs710).sub hs11).sub hs12).sub hs13).sub hs14) (hA.c64 (by decide)) ?_
                  rw [show (!decide (tg ∈ ([[], [0]] : List (List Int)))) = false by rcases htg2 with rfl | rfl <;> simp]
                  repeat walk_at "n"
                  rw [if_neg (by simp)]
                  exact ⟨I14, _, (hs12.trans hs13).trans hs14, ⟨rfl, rfl⟩, S⟩
                · rintro I11 acc mm D hs11 ⟨rfl, rfl⟩ s S
                  obtain ⟨I12, hs12, hDl, S⟩ := S.freezeL
                  repeat walk_at "n"
                  refine r_newList S (fun D2 s S => ?_) (by simp [sizeLine_eq])
                  obtain ⟨I13, hs13, hDl2, S⟩ := S.freezeL
                  repeat walk_at "n"
                  refine r_neL S (ns := []) (ms := []) ⟨D, _, rfl, hDl.sub hs13, .nil⟩ ⟨D2, _, rfl, hDl2, .nil⟩ (hA.c64 (by decide)) ?_
                  repeat walk_at "n"
                  rw [if_neg (by simp)]
                  repeat walk_at "n"
                  rw [if_neg (by simp)]
                  repeat walk_at "n"
                  exact hQQ _ _ ⟨rfl, I13, ((hs710.trans hs11).trans hs12).trans hs13, S⟩
              · clear S
                rintro s ⟨I8, hs8, S⟩
                replace hrows := hrows.sub hs8
                replace htags := htags.sub hs8
                replace hdfa := hdfa.sub hs8
                replace hback := hback.sub hs8
                replace htwice := htwice.sub hs8
                replace hsI := hsI.trans hs8
                clear hs8
                refine r_seq (fun s => ∃ I', Sub I8 I' ∧
                  St (KK w) h₀ I' L [("twice", .ref tx), ("back", .ref bx), ("dfa", .ref dx), ("tags", .ref ta), ("rows", .ref ra)] [] s₀ s) ?_ ?_
                · refine opq fun QQ hQQ => ?_
                  obtain ⟨_, rvs, e, hrl, hR⟩ := id hrows
                  injection e with e
                  subst e
                  have hrvl : rvs.length = n := by rw [hR.length, H.len]
                  repeat walk_at "n"
                  refine r_callb (id := "len") S (by with_unfolding_all rfl) (by with_unfolding_all rfl) (by decide) ?_
                  repeat walk_at "n"
                  refine r_callg (f := 127) S (by with_unfolding_all rfl) (by with_unfolding_all rfl) ?_
                  repeat walk_at "n"
                  refine ⟨⟨_, _, _, _, _, _, S⟩, ?_⟩
                  refine r_call (reached_fn hrows H (by with_reducible exact Nat.le_trans (by assumption) (by decide)) (by with_reducible exact Nat.le_trans (by assumption) (by decide))) (hA.le (by decide)) S ?_
                  clear S
                  rintro _ I9 s hs9 ⟨found, ⟨fl, fvs, rfl, hfl, hfi⟩, hB, hC⟩ S
                  have hflen := hB.len
                  have hfvl : fvs.length = found.length := by rw [hfi.length, wd_len]
                  repeat walk_at "n"
                  refine r_len S (S.lstI hfl) (by rw [hfvl, sizeLine_eq]; (with_reducible exact o_l2 (by assumption) (by assumption) (by decide))) ?_
                  clear S; intro tl s S
                  repeat walk_at "n"
                  refine r_callb (id := "len") S (by with_unfolding_all rfl) (by with_unfolding_all rfl) (by decide) ?_
                  repeat walk_at "n"
                  refine r_len S (S.lstI (hrl.sub hs9)) (by rw [hrvl, sizeLine_eq]; (with_reducible exact Nat.le_trans (by assumption) (by decide))) ?_
                  clear S; intro tl2 s S
                  rw [hfvl, hrvl]
                  repeat walk_at "n"
                  by_cases hfull : found.length = n
                  · rw [if_pos (by rw [beq_iff_eq]; (with_reducible exact congrArg (Nat.cast (R := Int)) (by assumption)))]
                    obtain ⟨rb, tb, Db, hrb, htb⟩ := id (hback.sub hs9)
                    obtain ⟨_, bvs, e, hbl, hbR⟩ := id hrb
                    injection e with e
                    subst e
                    have hbvl : bvs.length = T1.rows.length := hbR.length
                    repeat walk_at "m"
                    refine r_callg (f := 132) S (by with_unfolding_all rfl) (by with_unfolding_all rfl) ?_
                    repeat walk_at "m"
                    refine r_rows S Db ?_
                    clear S; intro s S
                    repeat walk_at "m"
                    refine r_tags S Db ?_
                    clear S; intro s S
                    repeat walk_at "m"
                    refine ⟨⟨_, _, _, _, _, _, S⟩, ?_⟩
                    refine r_call (apart_fn hrb htb H1 hle16 (by with_reducible exact Nat.le_trans (by assumption) (by decide))) (hA.le (by decide)) S ?_
                    clear S
                    rintro _ I10 s hs10 ⟨d, xs, rfl, hd, hTab, hKeys, hFix⟩ S
                    repeat walk_at "m"
                    refine r_storeC S (c := L + 1) (by rfl) ?_
                    clear S; intro s S
                    obtain ⟨oa, hoa, _, S⟩ := S.freeze
                    have hIa : Add I10 (L + 1) oa (L + 1) oa := Add.here
                    have hs11 : Sub I10 (Add I10 (L + 1) oa) := Sub.add
                    generalize Add I10 (L + 1) oa = I11 at *
                    replace hoa : oa.data = .cell (some (.ref d)) := hoa
                    replace hTab := hTab.sub hs11
                    replace hKeys := hKeys.sub hs11
                    replace Db := (Db.sub hs10).sub hs11
                    replace hbl := (hbl.sub hs10).sub hs11
                    have hall : ∀ p q : Nat, p < T1.rows.length → q < p → [(p : Int), (q : Int)] ∈ ky xs := by
                      intro p q hp hq
                      have hreach : ∀ q, q < n → ∃ w, (∀ a ∈ w, a < k) ∧ Way rows 0 w q := by
                        intro q hq
                        refine hB.sound q (Classical.byContradiction fun hnot => ?_)
                        have := nodup_lt n (q :: found) (List.nodup_cons.mpr ⟨hnot, hB.nd⟩) (fun x hx => by
                          rcases List.mem_cons.mp hx with rfl | h
                          · exact hq
                          · exact hB.lt x h)
                        simp only [List.length_cons] at this
                        omega
                      obtain ⟨wrd, hwk, hne⟩ := turned_apart H (by with_reducible exact Nat.le_trans (by assumption) (by decide)) hT1 hreach (i := p) (i' := q) (by rw [← hT1.full]; exact hp) (by rw [← hT1.full]; (with_reducible exact Nat.lt_trans (by assumption) (by assumption))) (by omega)
                      exact hFix.apart H1 hp hq hwk hne
                    repeat walk_at "m"
                    refine r_comp (K := KK w) (h₀ := h₀) (s₀ := s₀) (cl := [("apart_pairs", L + 1)]) (by rfl) (by decide) (by rfl) (by decide) ?_
                    refine r_callt (T := "range") S (by with_unfolding_all rfl) (by with_unfolding_all rfl) (by decide) ?_
                    repeat walk_at "n"
                    refine r_callb (id := "len") S (by with_unfolding_all rfl) (by with_unfolding_all rfl) (by decide) ?_
                    repeat walk_at "n"
                    refine r_rows S Db ?_
                    clear S; intro s S
                    repeat walk_at "n"
                    refine r_len S (S.lstI hbl) (by rw [hbvl, sizeLine_eq]; (with_reducible exact Nat.le_trans (by assumption) (by decide))) ?_
                    clear S; intro tl3 s S
                    rw [hbvl]
                    repeat walk_at "n"
                    refine r_range1 S ?_
                    clear S; intro rg s t₁ t₂ t₃ S hrg
                    refine it_range hA.hh S hrg (by decide) (by decide) (by first | exact neg_nat _ | omega) (by with_reducible exact o_i1 (by assumption) (by decide)) fun it s X => ?_
                    clear S
                    refine comp2 X (fun C => by rfl) (fun C => by rfl) (by decide) rfl (fun C x => by rfl) (fun (i : Nat) (I' : Imm) (acc : List Value) (mm : List (Addr × Cell)) => mm = [] ∧ acc = []) ⟨rfl, rfl⟩ ?_ ?_
                    · rintro i v I' acc mm ex C1 s E' hi ⟨ti, rfl⟩ hs12 ⟨rfl, rfl⟩ S
                      rw [Int.zero_add] at S ⊢
                      refine tests0 ?_
                      rw [if_pos rfl]
                      refine r_callt (T := "range") S (by with_unfolding_all rfl) (by with_unfolding_all rfl) (by decide) ?_
                      repeat walk_at "n"
                      refine r_range1 S ?_
                      clear S; intro rg s t₁ t₂ t₃ S hrg
                      refine it_range hA.hh S hrg (by decide) (by decide) (by first | exact neg_nat _ | omega) (by omega) fun it s X => ?_
                      clear S
                      refine ⟨_, _, fun (j : Nat) (I' : Imm) (acc : List Value) (mm : List (Addr × Cell)) => mm = [] ∧ acc = [], I', [], Sub.refl, X, ⟨rfl, rfl⟩, ?_, ?_, ?_⟩
                      · rintro j I4 acc mm ⟨_, rfl⟩
                        exact Nat.zero_le _
                      · clear X
                        rintro j u I12 acc4 mm4 ex4 s E'' hj ⟨tu, rfl⟩ hs13 ⟨rfl, rfl⟩ S
                        rw [Int.zero_add] at S ⊢
                        have hs1113 := hs12.trans hs13
                        refine tests1 ?_
                        repeat walk_at "n"
                        refine r_newTuple S ?_ (by simp [sizeLine_eq])
                        clear S; intro K1 s I13 hs14 hK1 S
                        have hkey : TKey I13 [(i : Int), (j : Int)] K1 := ⟨_, hK1, .cons _ _ (.cons _ _ .nil)⟩
                        have hs1114 := hs1113.trans hs14
                        repeat walk_at "n"
                        refine r_cell S (c := L + 1) (o := oa) (by rfl) (hs1114 _ _ hIa) hoa ?_
                        refine r_notinTI S (hA.le (by decide)) (hTab.sub hs1114) (hKeys.sub hs1114) hd hkey ?_
                        clear S; intro s S
                        rw [atKey_iff.mpr (hall i j (by with_reducible exact o_t1 (by assumption)) (by with_reducible exact o_t1 (by assumption)))]
                        repeat walk_at "n"
                        rw [if_neg (by simp)]
                        exact ⟨I13, [], hs14, ⟨rfl, rfl⟩, S⟩
                      · rintro I4 acc4 mm4 hs4 ⟨rfl, rfl⟩
                        exact ⟨rfl, rfl⟩
                    · rintro I12 acc mm D hs12 ⟨rfl, rfl⟩ s S
                      obtain ⟨I13, hs13, hDl, S⟩ := S.freezeL
                      repeat walk_at "m"
                      refine r_newList S (fun D2 s S => ?_) (by simp [sizeLine_eq])
                      obtain ⟨I14, hs14, hDl2, S⟩ := S.freezeL
                      repeat walk_at "m"
                      refine r_neL S (ns := []) (ms := []) ⟨D, _, rfl, hDl.sub hs14, .nil⟩ ⟨D2, _, rfl, hDl2, .nil⟩ (hA.c64 (by decide)) ?_
                      repeat walk_at "m"
                      rw [if_neg (by simp)]
                      repeat walk_at "m"
                      exact hQQ _ _ ⟨rfl, I14, ((((hs9.trans hs10).trans hs11).trans hs12).trans hs13).trans hs14, S⟩
                  · rw [if_neg (by rw [beq_iff_eq]; omega)]
                    repeat walk_at "n"
                    exact hQQ _ _ ⟨rfl, I9, hs9, S.drop⟩
                · clear S
                  rintro s ⟨I9, hs9, S⟩
                  replace hrows := hrows.sub hs9
                  replace htags := htags.sub hs9
                  replace hdfa := hdfa.sub hs9
                  replace htwice := htwice.sub hs9
                  clear hs9
                  repeat walk_at "m"
                  refine r_callg (f := 96) S (by with_unfolding_all rfl) (by with_unfolding_all rfl) ?_
                  repeat walk_at "m"
                  refine ⟨⟨_, _, _, _, _, _, S⟩, ?_⟩
                  refine r_call (hleast _ _ hdfa) (hA.le (by decide)) S ?_
                  clear S
                  rintro _ I10 s hs10 ⟨ox, rfl, honce⟩ S
                  obtain ⟨rt, tt, Dt, hrt, htt⟩ := htwice.sub hs10
                  obtain ⟨rd, td, Dd, hrd, htd⟩ := hdfa.sub hs10
                  obtain ⟨ro, to, Do, hro, hto⟩ := honce
                  replace hrows := hrows.sub hs10
                  replace htags := htags.sub hs10
                  repeat walk_at "m"
                  refine r_rows S Do ?_
                  clear S; intro s S
                  repeat walk_at "m"
                  refine r_rows S Dt ?_
                  clear S; intro s S
                  refine r_eqRs S hro hrt (hA.c64 (by decide)) ?_
                  rw [decide_eq_true rfl]
                  repeat walk_at "m"
                  rw [if_pos rfl]
                  repeat walk_at "m"
                  refine r_tags S Do ?_
                  clear S; intro s S
                  repeat walk_at "m"
                  refine r_tags S Dt ?_
                  clear S; intro s S
                  refine r_eqTs S hto htt (hA.c64 (by decide)) ?_
                  rw [decide_eq_true rfl]
                  repeat walk_at "m"
                  rw [if_pos rfl]
                  repeat walk_at "m"
                  refine r_rows S Dd ?_
                  clear S; intro s S
                  repeat walk_at "m"
                  refine r_eqRs S hrd hrows (hA.c64 (by decide)) ?_
                  rw [decide_eq_true rfl]
                  repeat walk_at "m"
                  rw [if_pos rfl]
                  repeat walk_at "m"
                  refine r_tags S Dd ?_
                  clear S; intro s S
                  repeat walk_at "m"
                  refine r_eqTs S htd htags (hA.c64 (by decide)) ?_
                  rw [decide_eq_true rfl]
                  exact ⟨rfl, I10, _, _, S⟩)
end
end Mine
theorem PySem.Challenge.cw_ok0112_01_holds : PySem.Challenge.rw_ok0112_01.Holds :=
  Mine.law_main
