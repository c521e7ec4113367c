import PyProof.Rows.All
import Wide.All
import OpenK.AllK
import Wide.FinOn
import PySem.Challenge.RW_pb0316_01
set_option Elab.async false
set_option maxRecDepth 100000
namespace Mine
open PySem PySem.W PyProof.Rows
set_option maxHeartbeats 8000000 in
open_top hd for PySem.Challenge.rw_pb0316_01
theorem fill : (PySem.Challenge.rw_pb0316_01 = PySem.Challenge.rw_pb0316_01) ∧ hd.heap_39 = hd.heap_39 := by
  k_fill
  w_top off
  exact ⟨rfl, rfl⟩
set_option compiler.extract_closed false
section part_M1
abbrev PR := PySem.Challenge.pw_pb0316_01
abbrev tupOf (vs : List Value) (n : Nat) : Obj := { cls := .type "tuple", data := .seq vs.toArray n }
theorem memI {x : Addr × Obj} {l : List (Addr × Obj)} (h : x ∈ l) : List.Mem x l := h
theorem allLt_at {d : Addr} : ∀ {l : List (Addr × Obj)}, AllLt d l → ∀ p ∈ l, p.1 < d := by
  intro l
  induction l with
  | nil => intro _ p hp; cases hp
  | cons q r ih =>
    intro h p hp
    rcases List.mem_cons.mp hp with e | hp
    · subst e; exact h.1
    · exact ih h.2 p hp
theorem dropN {h₀ h : Heap} {L : Addr} {news news' : List (Addr × Obj)} (N : News h₀ L h news') (hs : ∀ p ∈ news, p ∈ news') : News h₀ L h news := fun p hp => N p (hs p hp)
theorem sub_nil {news : List (Addr × Obj)} : ∀ p ∈ ([] : List (Addr × Obj)), p ∈ news := fun _ hp => nomatch hp
theorem sub_cons {x : Addr × Obj} {own news : List (Addr × Obj)} (h : x ∈ news) (k : ∀ p ∈ own, p ∈ news) : ∀ p ∈ x :: own, p ∈ news := fun p hp => (List.mem_cons.mp hp).elim (fun e => e ▸ h) (k p)
theorem sub_tail {x : Addr × Obj} {own news : List (Addr × Obj)} (k : ∀ p ∈ own, p ∈ news) : ∀ p ∈ own, p ∈ x :: news := fun p hp => List.Mem.tail _ (k p hp)
theorem sub_refl {news : List (Addr × Obj)} : ∀ p ∈ news, p ∈ news := fun _ h => h

/-- the kinds of rows that the law draws -/
inductive Tag where
  | const | dup | drop | arith | not_ | jump | unless | when | call | callvar | host | ret | trap
def Tag.name : Tag → Str
  | .const => Str.ofString "const" | .dup => Str.ofString "dup" | .drop => Str.ofString "drop" | .arith => Str.ofString "arith" | .not_ => Str.ofString "not"
  | .jump => Str.ofString "jump" | .unless => Str.ofString "unless" | .when => Str.ofString "when"
  | .call => Str.ofString "call" | .callvar => Str.ofString "callvar" | .host => Str.ofString "host" | .ret => Str.ofString "return" | .trap => Str.ofString "trap"
inductive Row where
  | const (k : Int) | dup | drop | arith | not_ | jump (g : Int) | unless (g : Int) | when (g : Int)
  | call (k : Int) | callvar (k : Int) | host (k : Int) | ret | trap
def Row.tag : Row → Tag
  | .const _ => .const | .dup => .dup | .drop => .drop | .arith => .arith | .not_ => .not_
  | .jump _ => .jump | .unless _ => .unless | .when _ => .when
  | .call _ => .call | .callvar _ => .callvar | .host _ => .host | .ret => .ret | .trap => .trap
def Row.moves : Row → Int × Int
  | .const _ => (0, 1) | .dup => (1, 2) | .drop => (1, 0) | .arith => (2, 1) | .not_ => (1, 1)
  | .jump _ => (0, 0) | .unless _ => (1, 0) | .when _ => (1, 0)
  | .call k => (k, 1) | .callvar k => (k + 1, 1) | .host k => (k, 1) | .ret => (1, 0) | .trap => (0, 0)
def Row.aim : Row → Option Int
  | .jump g => some g | .unless g => some g | .when g => some g | _ => none
def Row.ends : Row → Bool
  | .jump _ => true | .ret => true | .trap => true | _ => false

inductive RowVals : Row → List Value → Prop
  | const {k t u} : RowVals (.const k) [.str (Str.ofString "const") t, .int k u]
  | dup {t} : RowVals .dup [.str (Str.ofString "dup") t]
  | drop {t} : RowVals .drop [.str (Str.ofString "drop") t]
  | arith {t u v} : RowVals .arith [.str (Str.ofString "arith") t, .str (Str.ofString "+") u, .int 1 v]
  | not_ {t} : RowVals .not_ [.str (Str.ofString "not") t]
  | jump {g t u} : RowVals (.jump g) [.str (Str.ofString "jump") t, .int g u]
  | unless {g t u} : RowVals (.unless g) [.str (Str.ofString "unless") t, .int g u]
  | when {g t u} : RowVals (.when g) [.str (Str.ofString "when") t, .int g u]
  | call {k t u v x y} : RowVals (.call k) [.str (Str.ofString "call") t, .str (Str.ofString "M") u, .str (Str.ofString "P") v, .int k x, .int 0 y]
  | callvar {k t u} : RowVals (.callvar k) [.str (Str.ofString "callvar") t, .int k u]
  | host {k t u v x} : RowVals (.host k) [.str (Str.ofString "host") t, .str (Str.ofString "Out") u, .str (Str.ofString "Ln") v, .int k x]
  | ret {t} : RowVals .ret [.str (Str.ofString "return") t]
  | trap {t u v} : RowVals .trap [.str (Str.ofString "trap") t, .int 7 u, .int 1 v]
theorem RowVals.facts {row : Row} {vs : List Value} (h : RowVals row vs) : (∃ t tl, vs = .str row.tag.name t :: tl) ∧
    (row.tag = .call → ∃ k t u v x y, vs = [.str (Str.ofString "call") t, .str (Str.ofString "M") u, .str (Str.ofString "P") v, .int k x, .int 0 y] ∧ row.moves = (k, 1)) ∧
    (row.tag = .host → ∃ k t u v x, vs = [.str (Str.ofString "host") t, .str (Str.ofString "Out") u, .str (Str.ofString "Ln") v, .int k x] ∧ row.moves = (k, 1)) ∧
    (row.tag = .callvar → ∃ k t u, vs = [.str (Str.ofString "callvar") t, .int k u] ∧ row.moves = (k + 1, 1)) ∧
    (row.aim.isSome = true → ∃ g c t u, vs = [.str c t, .int g u] ∧ row.aim = some g) := by
  cases h <;> refine ⟨⟨_, _, rfl⟩, fun e => ?_, fun e => ?_, fun e => ?_, fun e => ?_⟩ <;>
    first | exact Tag.noConfusion e | exact Bool.noConfusion e | exact ⟨_, _, _, _, _, _, rfl, rfl⟩ | exact ⟨_, _, _, _, _, rfl, rfl⟩ | exact ⟨_, _, _, _, rfl, rfl⟩ | exact ⟨_, _, _, rfl, rfl⟩
theorem RowVals.head {row : Row} {vs : List Value} (h : RowVals row vs) : ∃ t tl, vs = .str row.tag.name t :: tl := h.facts.1

theorem item0 {prog : Program} {w : World} {A : Around} {E : Value → Shared → Prop} {s : Shared} {h₀ : Heap} {L r : Addr} {news : List (Addr × Obj)} {value slice : PySem.Expr} {v : Value} {tl : List Value} {n : Nat} {u : Tok} {Q : Value → Shared → Prop}
    (N : News h₀ L s.heap news) (hm : (r, tupOf (v :: tl) n) ∈ news) (h : Q v s)
    (hs : subscripted slice false (.ref r) (.int 0 u) = operate [.ref r, .int 0 u] (getItem (.ref r) (.int 0 u)) := by with_unfolding_all rfl) :
    wpAny (model prog w) A (subscriptTail value slice (.ref r) (.int 0 u)) Q E s :=
  item_tupleT (News.isTup N hm) (by decide) (by decide) (j := 0) (by simp [seqIndex?]) rfl h hs
abbrev inB (l : List Str) (x : Str) : Bool := l.any fun y => y == x

theorem t_const {T : Tag} (h : ([Str.ofString "const", Str.ofString "text", Str.ofString "global", Str.ofString "local", Str.ofString "ref"].any fun y => y == T.name) = true) : T = .const := by
  revert h; cases T <;> first | (intro _; simp; done) | (intro h; exact absurd h (by decide +kernel))
theorem t_jt {T : Tag} (h : ([Str.ofString "jump", Str.ofString "trap"].any fun y => y == T.name) = true) : T = .jump ∨ T = .trap := by
  revert h; cases T <;> first | (intro _; simp; done) | (intro h; exact absurd h (by decide +kernel))
theorem t_dup {T : Tag} (h : (T.name == Str.ofString "dup") = true) : T = .dup := by
  revert h; cases T <;> first | (intro _; simp; done) | (intro h; exact absurd h (by decide +kernel))
theorem t_uw {T : Tag} (h : ([Str.ofString "unless", Str.ofString "when", Str.ofString "drop", Str.ofString "new", Str.ofString "assert", Str.ofString "return"].any fun y => y == T.name) = true) : T = .unless ∨ T = .when ∨ T = .drop ∨ T = .ret := by
  revert h; cases T <;> first | (intro _; simp; done) | (intro h; exact absurd h (by decide +kernel))
theorem t_store {T : Tag} (h : ([Str.ofString "store", Str.ofString "inc", Str.ofString "incl", Str.ofString "copy", Str.ofString "filltext"].any fun y => y == T.name) = true) : False := by
  revert h; cases T <;> first | (intro _; simp; done) | (intro h; exact absurd h (by decide +kernel))
theorem t_index {T : Tag} (h : ([Str.ofString "index", Str.ofString "arith", Str.ofString "setop", Str.ofString "setrel", Str.ofString "in", Str.ofString "rel", Str.ofString "range", Str.ofString "std2"].any fun y => y == T.name) = true) : T = .arith := by
  revert h; cases T <;> first | (intro _; simp; done) | (intro h; exact absurd h (by decide +kernel))
theorem q_const {T : Tag} (h : (T.name == Str.ofString "const") = true) : T = .const := by
  revert h; cases T <;> first | (intro _; simp; done) | (intro h; exact absurd h (by decide +kernel))
theorem q_dup {T : Tag} (h : (T.name == Str.ofString "dup") = true) : T = .dup := by
  revert h; cases T <;> first | (intro _; simp; done) | (intro h; exact absurd h (by decide +kernel))
theorem q_arith {T : Tag} (h : (T.name == Str.ofString "arith") = true) : T = .arith := by
  revert h; cases T <;> first | (intro _; simp; done) | (intro h; exact absurd h (by decide +kernel))
theorem q_not {T : Tag} (h : (T.name == Str.ofString "not") = true) : T = .not_ := by
  revert h; cases T <;> first | (intro _; simp; done) | (intro h; exact absurd h (by decide +kernel))
theorem q_callvar {T : Tag} (h : (T.name == Str.ofString "callvar") = true) : T = .callvar := by
  revert h; cases T <;> first | (intro _; simp; done) | (intro h; exact absurd h (by decide +kernel))
theorem flatT {M : Model} {A : Around} {α : Type} {t : Sem α} {Q : α → Shared → Prop} {E : Value → Shared → Prop} {h : Heap} {g : Array GenState} {d : Drawn} {k : Nat} {o : OsState} (H : ∀ tk, wpAny M A t Q E ⟨h, g, d, tk, o⟩) : wpAny M A t Q E ⟨h, g, d, k + 1 + 1 + 1, o⟩ := H _
theorem lt16 {a b : Nat} (e : a = b) (h : b < 64) : a < 16000000 := e ▸ Nat.lt_trans h (by decide)
theorem lt62 {b : Nat} (h : b < 64) : b + 1 < 2 ^ 62 := Nat.lt_of_le_of_lt (Nat.succ_le_of_lt h) (by decide)
theorem lt64 {b n : Nat} (h : b ≤ n) (l : n < 32) : b < 64 := Nat.lt_of_le_of_lt h (Nat.lt_trans l (by decide))
theorem lt64e {a b n : Nat} (e : a = b) (h : b ≤ n) (l : n < 32) : a < 64 := e ▸ lt64 h l
theorem lt64c {b c n : Nat} (h : b ≤ c) (k : c ≤ n) (l : n < 32) : b < 64 := lt64 (Nat.le_trans h k) l
theorem lt64s {b c n : Nat} (h : b + 1 ≤ c) (k : c ≤ n) (l : n < 32) : b < 64 := lt64c (Nat.le_of_succ_le h) k l
theorem ltB {a b c n : Nat} (h : a + 2 * (b + 1) ≤ 2 * c) (k : c ≤ n) (l : n < 32) : a < 64 ∧ b < 64 := by omega
theorem ltT {a b c n : Nat} (h : a + 2 * b + 2 ≤ 2 * c + 2) (k : c ≤ n) (l : n < 32) : a < 64 ∧ b < 64 := by omega
theorem ltR {n : Nat} (l : n < 32) : n < 1000 ∧ n < 2 ^ 62 := ⟨Nat.lt_trans l (by decide), Nat.lt_trans l (by decide)⟩
theorem ltI {i : Int} {n : Nat} (h : i < n) (l : n < 32) : i < 2 ^ 63 := by omega
end part_M1
section part_M2a
def WStop (P : Prop) : Prop := P
theorem WStop.intro {P : Prop} (h : WStop P) : P := h
theorem WStop.mk {P : Prop} (h : P) : WStop P := h
structure CutHere : Prop where
structure CutCall (f : Addr) : Prop where
theorem WStop.call {prog : Program} {w : World} {A : Around} {E : Value → Shared → Prop} {s : Shared} {f : Addr} {args : List Value} {Q : Value → Shared → Prop} (_ : CutCall f) (h : WStop (wpAny (model prog w) A (call (.ref f) args) Q E s)) : wpAny (model prog w) A (call (.ref f) args) Q E s := h
theorem WStop.cut {P : Prop} (_ : CutHere) (h : WStop P) : P := h
inductive StrEs : List PySem.Expr → List Str → Prop
  | nil : StrEs [] []
  | cons {x : Str} {k : Nat} {p : Pos} {es : List PySem.Expr} {ns : List Str} (h : StrEs es ns) : StrEs (.Constant (.str x) k p :: es) (x :: ns)
theorem strs_len {vs : List Value} {ns : List Str} (h : StrsAre vs ns) : vs.length = ns.length := by
  induction h with
  | nil => rfl
  | cons _ _ _ ih => simp [ih]
theorem args_strs {M : Model} {A : Around} {E : Value → Shared → Prop} {env : Env} {pos : Pos} {es : List PySem.Expr} {ns : List Str} (hE : StrEs es ns) :
    ∀ {s : Shared} {Q : List Value → Shared → Prop}, (∀ vs tk, StrsAre vs ns → Q vs { s with toks := tk }) → wpAny M A (spliced (backTo pos (starEach es env))) Q E s := by
  induction hE with
  | nil => intro s Q h; exact args_nil (h [] s.toks .nil)
  | cons _ ih => intro s Q h; exact args_cons (Calls.Constant_str (ih fun vs tk i => h (_ :: vs) tk (.cons _ _ i)))
section
variable {prog : Program} {w : World} {A : Around} {E : Value → Shared → Prop} {s : Shared} {h₀ : Heap} {L a : Addr} {m : Str → Option Value} {news : List (Addr × Obj)} {cn : Str} {cs : Scope} {ccd : Value} {cl : List (Str × Addr)} {x T : Str} {t : Tok}
theorem t_in {whole : Sem Value} {es : List PySem.Expr} {ns : List Str} {k : Nat} {p0 p1 p2 : Pos} (F : Fr h₀ L s.heap m) (N : News h₀ L s.heap news) (hv : m x = some (.str T t)) (hE : StrEs es ns)
    (hz : Nat.ble ns.length 64 = true := by rfl) (hk : cs.kind = .function := by rfl) (hx : (envX cn cs L a ccd cl).kindOf x = some .local := by rfl) (hd : (x == ("__debug__" : Str)) = false := by decide) (Q : Bool → Shared → Prop)
    (h : ∀ h' tk, Fr h₀ L h' m → News h₀ L h' news → Q (ns.any fun y => y == T) { s with heap := h', toks := tk }) :
    wpAny (model prog w) A (isTrue (.Compare (.Name x p0) [.In] [.Tuple es k p1] p2) (envX cn cs L a ccd cl) whole) Q E s :=
  wpAny_isTrue_Compare1 (nameX_L F hv (Tuple_ (args_strs hE fun vs tk hi => kup_newTuple (s := { s with toks := tk }) F N (fun D h' F' N' _ =>
    in_tuple_strs (News.isTup N' (List.Mem.head _)) (by simpa using hi) (wpAny_truthy_bool (h h' tk F' fun p hp => N' p (List.Mem.tail _ hp))))
    (by rw [strs_len hi, sizeLine_eq]; have := Nat.le_of_ble_eq_true hz; omega))) hk hx hd)
theorem t_eq {whole : Sem Value} {c : Str} {k : Nat} {p0 p1 p2 : Pos} (F : Fr h₀ L s.heap m) (N : News h₀ L s.heap news) (hv : m x = some (.str T t))
    (hk : cs.kind = .function := by rfl) (hx : (envX cn cs L a ccd cl).kindOf x = some .local := by rfl) (hd : (x == ("__debug__" : Str)) = false := by decide) (Q : Bool → Shared → Prop)
    (h : ∀ h' tk, Fr h₀ L h' m → News h₀ L h' news → Q (T == c) { s with heap := h', toks := tk }) :
    wpAny (model prog w) A (isTrue (.Compare (.Name x p0) [.Eq] [.Constant (.str c) k p1] p2) (envX cn cs L a ccd cl) whole) Q E s :=
  wpAny_isTrue_Compare1 (nameX_L F hv (Calls.Constant_str (eq_str (wpAny_truthy_bool (h s.heap _ F N)))) hk hx hd)
inductive NameEqs (x : Str) : List PySem.Expr → List Str → Prop
  | nil : NameEqs x [] []
  | cons {c : Str} {k : Nat} {p0 p1 p2 : Pos} {es : List PySem.Expr} {ns : List Str} (h : NameEqs x es ns) : NameEqs x (.Compare (.Name x p0) [.Eq] [.Constant (.str c) k p1] p2 :: es) (c :: ns)
theorem t_or {es : List PySem.Expr} {ns : List Str} {p : Pos} (F : Fr h₀ L s.heap m) (N : News h₀ L s.heap news) (hE : NameEqs x es ns) (hv : m x = some (.str T t))
    (hk : cs.kind = .function := by rfl) (hx : (envX cn cs L a ccd cl).kindOf x = some .local := by rfl) (hd : (x == ("__debug__" : Str)) = false := by decide) :
    ∀ {whole : Sem Value} (Q : Bool → Shared → Prop), (∀ h' tk, Fr h₀ L h' m → News h₀ L h' news → Q (ns.any fun c => T == c) { s with heap := h', toks := tk }) →
    wpAny (model prog w) A (isTrue (.BoolOp .Or es p) (envX cn cs L a ccd cl) whole) Q E s := by
  induction hE generalizing s with
  | nil => intro _ Q h; exact isTrue_or_nil (h s.heap s.toks F N)
  | @cons c k p0 p1 p2 es ns _ ih =>
    intro _ Q h
    refine isTrue_or (t_eq F N hv hk hx hd _ fun h' tk F' N' => ?_)
    cases hc : (T == c) with
    | true => simpa [hc] using h h' tk F' N'
    | false => exact ih (s := { s with heap := h', toks := tk }) F' N' Q fun h2 tk2 F2 N2 => by simpa [hc] using h h2 tk2 F2 N2
theorem if_test {env : Env} {test : PySem.Expr} {c : Bool} {body orelse : List Stmt} {p : Pos} {Q : Flow → Shared → Prop}
    (ht : ∀ Q' : Bool → Shared → Prop, (∀ h' tk, Fr h₀ L h' m → News h₀ L h' news → Q' c { s with heap := h', toks := tk }) → wpAny (model prog w) A (isTrue test env (eval test env)) Q' E s)
    (h1 : c = true → ∀ h' tk, Fr h₀ L h' m → News h₀ L h' news → wpAny (model prog w) A (execs body env) Q E { s with heap := h', toks := tk })
    (h2 : c = false → ∀ h' tk, Fr h₀ L h' m → News h₀ L h' news → wpAny (model prog w) A (execs orelse env) Q E { s with heap := h', toks := tk }) :
    wpAny (model prog w) A (exec (.If test body orelse p) env) Q E s :=
  wpAny_If (ht _ fun h' tk F' N' => by
    revert h1 h2
    cases c
    · intro _ h2; exact h2 rfl h' tk F' N'
    · intro h1 _; exact h1 rfl h' tk F' N')
theorem if_ret2 {env : Env} {test : PySem.Expr} {c : Bool} {x y : Int} {k1 k2 k3 : Nat} {p1 p2 p3 p4 p5 : Pos} {Q : Flow → Shared → Prop}
    (ht : ∀ Q' : Bool → Shared → Prop, (∀ h' tk, Fr h₀ L h' m → News h₀ L h' news → Q' c { s with heap := h', toks := tk }) → wpAny (model prog w) A (isTrue test env (eval test env)) Q' E s)
    (h1 : c = true → ∀ q t u h' tk, Fr h₀ L h' m → News h₀ L h' ((q, tupOf [.int x t, .int y u] 0) :: news) → (∀ p ∈ news, p.1 < q) → Q (.ret (.ref q)) { s with heap := h', toks := tk })
    (h2 : c = false → ∀ h' tk, Fr h₀ L h' m → News h₀ L h' news → Q .next { s with heap := h', toks := tk }) :
    wpAny (model prog w) A (exec (.If test [.Return (some (.Tuple [.Constant (.int x) k1 p1, .Constant (.int y) k2 p2] k3 p3)) p4] [] p5) env) Q E s :=
  wpAny_If (ht _ fun h' tk F' N' => by
    revert h1 h2
    cases c
    · intro _ h2; exact wpAny_execs_nil (h2 rfl h' tk F' N')
    · intro h1 _; exact wpAny_execs_cons (wpAny_Return_some (Tuple_ (args_cons (wpAny_Constant_int (args_cons (wpAny_Constant_int (args_nil (kup_newTuple (s := { s with heap := h', toks := tk + 1 + 1 }) F' N' (fun D h'' F'' N'' lt => h1 rfl D _ _ h'' _ F'' N'' lt) (by simp [sizeLine_eq]))))))))))
end
end part_M2a
section part_M2
theorem calm_M2 : True := by
  w_top off
  trivial
local macro_rules | `(tactic| k_mem) => `(tactic| (refine memI ?_; ktr_member))
local macro_rules | `(tactic| walk_at "subscriptTail") => `(tactic| (k_here; (with_reducible show wpAny _ _ (subscriptTail _ _ _ (Value.int 0 _)) _ _ _); k_dflt (refine item0 (by k_asm) (by k_mem) ?_; k_whole)))

local macro_rules | `(tactic| walk_at "exec If") => `(tactic| (k_here; refine WStop.cut (by with_reducible assumption) ?_))


theorem mv_const {row : Row} (h : row.tag = .const) : row.moves = (0, 1) := by cases row <;> simp_all [Row.tag, Row.moves]
theorem mv_jt {row : Row} (h : row.tag = .jump ∨ row.tag = .trap) : row.moves = (0, 0) := by cases row <;> simp_all [Row.tag, Row.moves]
theorem mv_dup {row : Row} (h : row.tag = .dup) : row.moves = (1, 2) := by cases row <;> simp_all [Row.tag, Row.moves]
theorem mv_uw {row : Row} (h : row.tag = .unless ∨ row.tag = .when ∨ row.tag = .drop ∨ row.tag = .ret) : row.moves = (1, 0) := by cases row <;> simp_all [Row.tag, Row.moves]
theorem mv_arith {row : Row} (h : row.tag = .arith) : row.moves = (2, 1) := by cases row <;> simp_all [Row.tag, Row.moves]
theorem mv_not {row : Row} (h : row.tag = .not_) : row.moves = (1, 1) := by cases row <;> simp_all [Row.tag, Row.moves]

theorem q_group {T : Tag} (h : ([Str.ofString "drop", Str.ofString "unless", Str.ofString "when", Str.ofString "return"].any fun c => T.name == c) = true) : T = .unless ∨ T = .when ∨ T = .drop ∨ T = .ret := by
  revert h; cases T <;> first | (intro _; simp; done) | (intro h; exact absurd h (by decide +kernel))
theorem q_ch {T : Tag} (h : ([Str.ofString "call", Str.ofString "host"].any fun c => T.name == c) = true) : T = .call ∨ T = .host := by
  revert h; cases T <;> first | (intro _; simp; done) | (intro h; exact absurd h (by decide +kernel))
theorem t_else {T : Tag} : (([Str.ofString "const", Str.ofString "text", Str.ofString "global", Str.ofString "local", Str.ofString "ref"].any fun y => y == T.name) || ([Str.ofString "jump", Str.ofString "trap"].any fun y => y == T.name) || ([Str.ofString "unless", Str.ofString "when", Str.ofString "drop", Str.ofString "new", Str.ofString "assert", Str.ofString "return"].any fun y => y == T.name) || ([Str.ofString "store", Str.ofString "inc", Str.ofString "incl", Str.ofString "copy", Str.ofString "filltext"].any fun y => y == T.name) || ([Str.ofString "index", Str.ofString "arith", Str.ofString "setop", Str.ofString "setrel", Str.ofString "in", Str.ofString "rel", Str.ofString "range", Str.ofString "std2"].any fun y => y == T.name) || (T.name == Str.ofString "dup") || ([Str.ofString "call", Str.ofString "host"].any fun c => T.name == c) || (T.name == Str.ofString "callvar")) = false → T = .not_ := by
  cases T <;> first | (intro _; rfl) | (intro h; exact absurd h (by decide +kernel))
theorem q_else {T : Tag} : ((T.name == Str.ofString "const") || (T.name == Str.ofString "dup") || ([Str.ofString "drop", Str.ofString "unless", Str.ofString "when", Str.ofString "return"].any fun c => T.name == c) || (T.name == Str.ofString "arith") || (T.name == Str.ofString "not") || ([Str.ofString "call", Str.ofString "host"].any fun c => T.name == c) || (T.name == Str.ofString "callvar")) = false → T = .jump ∨ T = .trap := by
  cases T <;> first | (intro _; simp; done) | (intro h; exact absurd h (by decide +kernel))
set_option maxHeartbeats 8000000 in
theorem effect_spec {w : World} {mean : ExcName → Option Value} {mg mb : Str → Option Value} {dp un : Nat} {gd : Option (List Code)} {cn : Str} {cs : Scope} {a : Addr} {ccd : Value} {cl : List (Str × Addr)} {outer : List Env} {A₀ : Around} {base h₀ : Heap} {L : Addr} {m : Str → Option Value} {news : List (Addr × Obj)} {s : Shared} {Q E : Value → Shared → Prop} {r row vs n} (B : Below A₀ base outer h₀) (F : Fr h₀ L s.heap m) (X : (hd.heap_39 w.params).In h₀) (N : News h₀ L s.heap news) (T : Top hd.view_39 (looseW hd.view_39 []) mean mg mb h₀) (hk : cs.kind = .function) (hd : dp + 1 < recursionLimit) (_hu : un + 8 < cLine)
   (hm : (r, tupOf vs n) ∈ news) (hr : RowVals row vs)
   (ret : ∀ q t u h' tk, Fr h₀ L h' m → News h₀ L h' ((q, tupOf [.int row.moves.1 t, .int row.moves.2 u] 0) :: news) → (∀ p ∈ news, p.1 < q) → Q (.ref q) {s with heap := h', toks := tk}) :
   wpAny (model PR w) (ktrTop dp un gd cn cs L a ccd cl outer) (call (.ref 84) [.ref r]) Q E s := by
  obtain ⟨t, tl, hv⟩ := hr.head
  have hm2 : (r, tupOf (.str row.tag.name t :: tl) n) ∈ news := hv ▸ hm
  refine wpAny_call ?_
  k_dflt ktr_enter
  have cut : CutHere := ⟨⟩
  k_steps
  refine WStop.mk ?_
  k_dflt (refine if_ret2 (t_in (by k_asm) (by k_asm) (by rfl) (by repeat constructor)) ?_ ?_)
  · intro hb q9 t9 u9 h9 tk9 F9 N9 l9
    k_steps
    rw [mv_const (t_const hb)] at ret; exact ret _ _ _ _ _ (by k_asm) (by refine dropN (by k_asm) ?_; refine sub_cons (by k_mem) ?_; (repeat (first | with_reducible exact sub_refl | with_reducible refine sub_tail ?_))) (by first | assumption | exact allLt_at (by simp only [*]))
  intro b1 h9 tk9 F9 N9
  k_steps
  refine WStop.mk ?_
  k_dflt (refine if_ret2 (t_in (by k_asm) (by k_asm) (by rfl) (by repeat constructor)) ?_ ?_)
  · intro hb q9 t9 u9 h9 tk9 F9 N9 l9
    k_steps
    rw [mv_jt (t_jt hb)] at ret; exact ret _ _ _ _ _ (by k_asm) (by refine dropN (by k_asm) ?_; refine sub_cons (by k_mem) ?_; (repeat (first | with_reducible exact sub_refl | with_reducible refine sub_tail ?_))) (by first | assumption | exact allLt_at (by simp only [*]))
  intro b2 h9 tk9 F9 N9
  k_steps
  refine WStop.mk ?_
  k_dflt (refine if_ret2 (t_eq (by k_asm) (by k_asm) (by rfl)) ?_ ?_)
  · intro hb q9 t9 u9 h9 tk9 F9 N9 l9
    k_steps
    rw [mv_dup (q_dup hb)] at ret; exact ret _ _ _ _ _ (by k_asm) (by refine dropN (by k_asm) ?_; refine sub_cons (by k_mem) ?_; (repeat (first | with_reducible exact sub_refl | with_reducible refine sub_tail ?_))) (by first | assumption | exact allLt_at (by simp only [*]))
  intro b3 h9 tk9 F9 N9
  k_steps
  refine WStop.mk ?_
  k_dflt (refine if_ret2 (t_in (by k_asm) (by k_asm) (by rfl) (by repeat constructor)) ?_ ?_)
  · intro hb q9 t9 u9 h9 tk9 F9 N9 l9
    k_steps
    rw [mv_uw (t_uw hb)] at ret; exact ret _ _ _ _ _ (by k_asm) (by refine dropN (by k_asm) ?_; refine sub_cons (by k_mem) ?_; (repeat (first | with_reducible exact sub_refl | with_reducible refine sub_tail ?_))) (by first | assumption | exact allLt_at (by simp only [*]))
  intro b4 h9 tk9 F9 N9
  k_steps
  refine WStop.mk ?_
  k_dflt (refine if_ret2 (t_in (by k_asm) (by k_asm) (by rfl) (by repeat constructor)) ?_ ?_)
  · intro hb q9 t9 u9 h9 tk9 F9 N9 l9
    k_steps
    exact absurd hb (fun h => t_store h)
  intro b5 h9 tk9 F9 N9
  k_steps
  refine WStop.mk ?_
  k_dflt (refine if_ret2 (t_in (by k_asm) (by k_asm) (by rfl) (by repeat constructor)) ?_ ?_)
  · intro hb q9 t9 u9 h9 tk9 F9 N9 l9
    k_steps
    rw [mv_arith (t_index hb)] at ret; exact ret _ _ _ _ _ (by k_asm) (by refine dropN (by k_asm) ?_; refine sub_cons (by k_mem) ?_; (repeat (first | with_reducible exact sub_refl | with_reducible refine sub_tail ?_))) (by first | assumption | exact allLt_at (by simp only [*]))
  intro b6 h9 tk9 F9 N9
  k_steps
  refine WStop.mk ?_
  k_dflt (refine if_test (t_or (by k_asm) (by k_asm) (by repeat constructor) (by rfl)) ?_ ?_)
  · intro hb h9 tk9 F9 N9
    clear hm2 hv
    rcases q_ch hb with e | e
    · obtain ⟨k9, a9, b9, c9, d9, e9, rfl, hmv⟩ := hr.facts.2.1 e
      k_steps
      rw [hmv] at ret; exact ret _ _ _ _ _ (by k_asm) (by refine dropN (by k_asm) ?_; refine sub_cons (by k_mem) ?_; (repeat (first | with_reducible exact sub_refl | with_reducible refine sub_tail ?_))) (by first | assumption | exact allLt_at (by simp only [*]))
    · obtain ⟨k9, a9, b9, c9, d9, rfl, hmv⟩ := hr.facts.2.2.1 e
      k_steps
      rw [hmv] at ret; exact ret _ _ _ _ _ (by k_asm) (by refine dropN (by k_asm) ?_; refine sub_cons (by k_mem) ?_; (repeat (first | with_reducible exact sub_refl | with_reducible refine sub_tail ?_))) (by first | assumption | exact allLt_at (by simp only [*]))
  intro b7 h9 tk9 F9 N9
  k_steps
  refine WStop.mk ?_
  k_dflt (refine if_test (t_eq (by k_asm) (by k_asm) (by rfl)) ?_ ?_)
  · intro hb h9 tk9 F9 N9
    clear hm2 hv
    obtain ⟨k9, a9, b9, rfl, hmv⟩ := hr.facts.2.2.2.1 (q_callvar hb)
    k_steps
    rw [hmv] at ret; exact ret _ _ _ _ _ (by k_asm) (by refine dropN (by k_asm) ?_; refine sub_cons (by k_mem) ?_; (repeat (first | with_reducible exact sub_refl | with_reducible refine sub_tail ?_))) (by first | assumption | exact allLt_at (by simp only [*]))
  intro b8 h9 tk9 F9 N9
  k_steps
  rw [mv_not (t_else (by rw [b1, b2, b3, b4, b5, b6, b7, b8]; rfl))] at ret; exact ret _ _ _ _ _ (by k_asm) (by refine dropN (by k_asm) ?_; refine sub_cons (by k_mem) ?_; (repeat (first | with_reducible exact sub_refl | with_reducible refine sub_tail ?_))) (by first | assumption | exact allLt_at (by simp only [*]))

theorem b_jump {row : Row} : ([Str.ofString "jump", Str.ofString "unless", Str.ofString "when"].any fun x => x == row.tag.name) = row.aim.isSome := by
  have key : ∀ T : Tag, ([Str.ofString "jump", Str.ofString "unless", Str.ofString "when"].any fun x => x == T.name) = (match T with | .jump => true | .unless => true | .when => true | _ => false) := by
    intro T; cases T <;> decide +kernel
  rw [key]; cases row <;> rfl
theorem b_ends {row : Row} : ([Str.ofString "jump", Str.ofString "return", Str.ofString "trap"].any fun x => x == row.tag.name) = row.ends := by
  have key : ∀ T : Tag, ([Str.ofString "jump", Str.ofString "return", Str.ofString "trap"].any fun x => x == T.name) = (match T with | .jump => true | .ret => true | .trap => true | _ => false) := by
    intro T; cases T <;> decide +kernel
  rw [key]; cases row <;> rfl
set_option maxHeartbeats 8000000 in
theorem is_jump_spec {w : World} {mean : ExcName → Option Value} {mg mb : Str → Option Value} {dp un : Nat} {gd : Option (List Code)} {cn : Str} {cs : Scope} {a : Addr} {ccd : Value} {cl : List (Str × Addr)} {outer : List Env} {A₀ : Around} {base h₀ : Heap} {L : Addr} {m : Str → Option Value} {news : List (Addr × Obj)} {s : Shared} {Q E : Value → Shared → Prop} {r row vs n} (B : Below A₀ base outer h₀) (F : Fr h₀ L s.heap m) (X : (hd.heap_39 w.params).In h₀) (N : News h₀ L s.heap news) (T : Top hd.view_39 (looseW hd.view_39 []) mean mg mb h₀) (hk : cs.kind = .function) (hd : dp + 1 < recursionLimit) (_hu : un + 8 < cLine)
   (hm : (r, tupOf vs n) ∈ news) (hr : RowVals row vs)
   (ret : ∀ h' tk, Fr h₀ L h' m → News h₀ L h' news → Q (.bool row.aim.isSome) {s with heap := h', toks := tk}) :
   wpAny (model PR w) (ktrTop dp un gd cn cs L a ccd cl outer) (call (.ref 70) [.ref r]) Q E s := by
  obtain ⟨t, tl, hv⟩ := hr.head
  have hm2 : (r, tupOf (.str row.tag.name t :: tl) n) ∈ news := hv ▸ hm
  refine wpAny_call ?_
  k_dflt ktr_enter
  k_steps
  rw [b_jump]
  exact ret _ _ (by k_asm) (by refine dropN (by k_asm) ?_; (repeat (first | with_reducible exact sub_refl | with_reducible refine sub_tail ?_)))
set_option maxHeartbeats 8000000 in
theorem ends_way_spec {w : World} {mean : ExcName → Option Value} {mg mb : Str → Option Value} {dp un : Nat} {gd : Option (List Code)} {cn : Str} {cs : Scope} {a : Addr} {ccd : Value} {cl : List (Str × Addr)} {outer : List Env} {A₀ : Around} {base h₀ : Heap} {L : Addr} {m : Str → Option Value} {news : List (Addr × Obj)} {s : Shared} {Q E : Value → Shared → Prop} {r row vs n} (B : Below A₀ base outer h₀) (F : Fr h₀ L s.heap m) (X : (hd.heap_39 w.params).In h₀) (N : News h₀ L s.heap news) (T : Top hd.view_39 (looseW hd.view_39 []) mean mg mb h₀) (hk : cs.kind = .function) (hd : dp + 1 < recursionLimit) (_hu : un + 8 < cLine)
   (hm : (r, tupOf vs n) ∈ news) (hr : RowVals row vs)
   (ret : ∀ h' tk, Fr h₀ L h' m → News h₀ L h' news → Q (.bool row.ends) {s with heap := h', toks := tk}) :
   wpAny (model PR w) (ktrTop dp un gd cn cs L a ccd cl outer) (call (.ref 77) [.ref r]) Q E s := by
  obtain ⟨t, tl, hv⟩ := hr.head
  have hm2 : (r, tupOf (.str row.tag.name t :: tl) n) ∈ news := hv ▸ hm
  refine wpAny_call ?_
  k_dflt ktr_enter
  k_steps
  rw [b_ends]
  exact ret _ _ (by k_asm) (by refine dropN (by k_asm) ?_; (repeat (first | with_reducible exact sub_refl | with_reducible refine sub_tail ?_)))
set_option maxHeartbeats 8000000 in
theorem moves_spec {w : World} {mean : ExcName → Option Value} {mg mb : Str → Option Value} {dp un : Nat} {gd : Option (List Code)} {cn : Str} {cs : Scope} {a : Addr} {ccd : Value} {cl : List (Str × Addr)} {outer : List Env} {A₀ : Around} {base h₀ : Heap} {L : Addr} {m : Str → Option Value} {news : List (Addr × Obj)} {s : Shared} {Q E : Value → Shared → Prop} {r row vs n} (B : Below A₀ base outer h₀) (F : Fr h₀ L s.heap m) (X : (hd.heap_39 w.params).In h₀) (N : News h₀ L s.heap news) (T : Top hd.view_39 (looseW hd.view_39 []) mean mg mb h₀) (hk : cs.kind = .function) (hd : dp + 1 < recursionLimit) (_hu : un + 8 < cLine)
   (hm : (r, tupOf vs n) ∈ news) (hr : RowVals row vs)
   (ret : ∀ q t u h' tk, Fr h₀ L h' m → News h₀ L h' ((q, tupOf [.int row.moves.1 t, .int row.moves.2 u] 0) :: news) → (∀ p ∈ news, p.1 < q) → Q (.ref q) {s with heap := h', toks := tk}) :
   wpAny (model PR w) (ktrTop dp un gd cn cs L a ccd cl outer) (call (.ref 140) [.ref r]) Q E s := by
  obtain ⟨t, tl, hv⟩ := hr.head
  have hm2 : (r, tupOf (.str row.tag.name t :: tl) n) ∈ news := hv ▸ hm
  refine wpAny_call ?_
  k_dflt ktr_enter
  have cut : CutHere := ⟨⟩
  k_steps
  refine WStop.mk ?_
  k_dflt (refine if_ret2 (t_eq (by k_asm) (by k_asm) (by rfl)) ?_ ?_)
  · intro hb q9 t9 u9 h9 tk9 F9 N9 l9
    k_steps
    rw [mv_const (q_const hb)] at ret; exact ret _ _ _ _ _ (by k_asm) (by refine dropN (by k_asm) ?_; refine sub_cons (by k_mem) ?_; (repeat (first | with_reducible exact sub_refl | with_reducible refine sub_tail ?_))) (by first | assumption | exact allLt_at (by simp only [*]))
  intro b1 h9 tk9 F9 N9
  k_steps
  refine WStop.mk ?_
  k_dflt (refine if_ret2 (t_eq (by k_asm) (by k_asm) (by rfl)) ?_ ?_)
  · intro hb q9 t9 u9 h9 tk9 F9 N9 l9
    k_steps
    rw [mv_dup (q_dup hb)] at ret; exact ret _ _ _ _ _ (by k_asm) (by refine dropN (by k_asm) ?_; refine sub_cons (by k_mem) ?_; (repeat (first | with_reducible exact sub_refl | with_reducible refine sub_tail ?_))) (by first | assumption | exact allLt_at (by simp only [*]))
  intro b2 h9 tk9 F9 N9
  k_steps
  refine WStop.mk ?_
  k_dflt (refine if_ret2 (t_or (by k_asm) (by k_asm) (by repeat constructor) (by rfl)) ?_ ?_)
  · intro hb q9 t9 u9 h9 tk9 F9 N9 l9
    k_steps
    rw [mv_uw (q_group hb)] at ret; exact ret _ _ _ _ _ (by k_asm) (by refine dropN (by k_asm) ?_; refine sub_cons (by k_mem) ?_; (repeat (first | with_reducible exact sub_refl | with_reducible refine sub_tail ?_))) (by first | assumption | exact allLt_at (by simp only [*]))
  intro b3 h9 tk9 F9 N9
  k_steps
  refine WStop.mk ?_
  k_dflt (refine if_ret2 (t_eq (by k_asm) (by k_asm) (by rfl)) ?_ ?_)
  · intro hb q9 t9 u9 h9 tk9 F9 N9 l9
    k_steps
    rw [mv_arith (q_arith hb)] at ret; exact ret _ _ _ _ _ (by k_asm) (by refine dropN (by k_asm) ?_; refine sub_cons (by k_mem) ?_; (repeat (first | with_reducible exact sub_refl | with_reducible refine sub_tail ?_))) (by first | assumption | exact allLt_at (by simp only [*]))
  intro b4 h9 tk9 F9 N9
  k_steps
  refine WStop.mk ?_
  k_dflt (refine if_ret2 (t_eq (by k_asm) (by k_asm) (by rfl)) ?_ ?_)
  · intro hb q9 t9 u9 h9 tk9 F9 N9 l9
    k_steps
    rw [mv_not (q_not hb)] at ret; exact ret _ _ _ _ _ (by k_asm) (by refine dropN (by k_asm) ?_; refine sub_cons (by k_mem) ?_; (repeat (first | with_reducible exact sub_refl | with_reducible refine sub_tail ?_))) (by first | assumption | exact allLt_at (by simp only [*]))
  intro b5 h9 tk9 F9 N9
  k_steps
  refine WStop.mk ?_
  k_dflt (refine if_test (t_or (by k_asm) (by k_asm) (by repeat constructor) (by rfl)) ?_ ?_)
  · intro hb h9 tk9 F9 N9
    clear hm2 hv
    rcases q_ch hb with e | e
    · obtain ⟨k9, a9, b9, c9, d9, e9, rfl, hmv⟩ := hr.facts.2.1 e
      k_steps
      rw [hmv] at ret; exact ret _ _ _ _ _ (by k_asm) (by refine dropN (by k_asm) ?_; refine sub_cons (by k_mem) ?_; (repeat (first | with_reducible exact sub_refl | with_reducible refine sub_tail ?_))) (by first | assumption | exact allLt_at (by simp only [*]))
    · obtain ⟨k9, a9, b9, c9, d9, rfl, hmv⟩ := hr.facts.2.2.1 e
      k_steps
      rw [hmv] at ret; exact ret _ _ _ _ _ (by k_asm) (by refine dropN (by k_asm) ?_; refine sub_cons (by k_mem) ?_; (repeat (first | with_reducible exact sub_refl | with_reducible refine sub_tail ?_))) (by first | assumption | exact allLt_at (by simp only [*]))
  intro b7 h9 tk9 F9 N9
  k_steps
  refine WStop.mk ?_
  k_dflt (refine if_test (t_eq (by k_asm) (by k_asm) (by rfl)) ?_ ?_)
  · intro hb h9 tk9 F9 N9
    clear hm2 hv
    obtain ⟨k9, a9, b9, rfl, hmv⟩ := hr.facts.2.2.2.1 (q_callvar hb)
    k_steps
    rw [hmv] at ret; exact ret _ _ _ _ _ (by k_asm) (by refine dropN (by k_asm) ?_; refine sub_cons (by k_mem) ?_; (repeat (first | with_reducible exact sub_refl | with_reducible refine sub_tail ?_))) (by first | assumption | exact allLt_at (by simp only [*]))
  intro b8 h9 tk9 F9 N9
  k_steps
  rw [mv_jt (q_else (by rw [b1, b2, b3, b4, b5, b7, b8]; rfl))] at ret; exact ret _ _ _ _ _ (by k_asm) (by refine dropN (by k_asm) ?_; refine sub_cons (by k_mem) ?_; (repeat (first | with_reducible exact sub_refl | with_reducible refine sub_tail ?_))) (by first | assumption | exact allLt_at (by simp only [*]))
end part_M2
section part_M3
theorem calm_M3 : True := by
  w_top off
  trivial
local macro_rules | `(tactic| k_mem) => `(tactic| (refine memI ?_; ktr_member))
local macro_rules | `(tactic| walk_at "subscriptTail") => `(tactic| (k_here; (with_reducible show wpAny _ _ (subscriptTail _ _ _ (Value.int 0 _)) _ _ _); k_dflt (refine item0 (by k_asm) (by k_mem) ?_; k_whole)))

inductive RowsAre (news : List (Addr × Obj)) : List Value → List Row → Prop
  | nil : RowsAre news [] []
  | cons {r : Addr} {vs us : List Value} {n : Nat} {row : Row} {rows : List Row} (hr : RowVals row us) (hm : (r, tupOf us n) ∈ news) (h : RowsAre news vs rows) : RowsAre news (.ref r :: vs) (row :: rows)
theorem RowsAre.length {news : List (Addr × Obj)} {vs : List Value} {rows : List Row} (h : RowsAre news vs rows) : vs.length = rows.length := by
  induction h with
  | nil => rfl
  | cons _ _ _ ih => simp [ih]
theorem RowsAre.mono {news news' : List (Addr × Obj)} (hs : ∀ p ∈ news, p ∈ news') {vs : List Value} {rows : List Row} (h : RowsAre news vs rows) : RowsAre news' vs rows := by
  induction h with
  | nil => exact .nil
  | cons hr hm _ ih => exact .cons hr (hs _ hm) ih
theorem RowsAre.get {news : List (Addr × Obj)} {vs : List Value} {rows : List Row} (h : RowsAre news vs rows) : ∀ {i : Nat} {row : Row}, rows[i]? = some row → ∃ r us n, vs[i]? = some (.ref r) ∧ RowVals row us ∧ (r, tupOf us n) ∈ news := by
  induction h with
  | nil => intro i row h; simp at h
  | cons hr hm _ ih =>
    intro i row h
    cases i with
    | zero => simp at h; subst h; exact ⟨_, _, _, rfl, hr, hm⟩
    | succ i => simpa using ih (by simpa using h)
theorem RowsAre.snoc {news : List (Addr × Obj)} {vs us : List Value} {rows : List Row} {r : Addr} {n : Nat} {row : Row} (h : RowsAre news vs rows) (hr : RowVals row us) (hm : (r, tupOf us n) ∈ news) : RowsAre news (vs ++ [.ref r]) (rows ++ [row]) := by
  induction h with
  | nil => exact .cons hr hm .nil
  | cons hr' hm' _ ih => exact .cons hr' hm' ih

theorem itemL {prog : Program} {w : World} {A : Around} {E : Value → Shared → Prop} {s : Shared} {h₀ : Heap} {L l : Addr} {news : List (Addr × Obj)} {value slice : PySem.Expr} {v : Value} {vs : List Value} {n : Nat} {k : Int} {u : Tok} {Q : Value → Shared → Prop}
    (N : News h₀ L s.heap news) (hm : (l, listOf vs.toArray n) ∈ news) (h0 : 0 ≤ k) (h1 : k < 2 ^ 63) (hx : vs[k.toNat]? = some v) (h : Q v s)
    (hs : subscripted slice false (.ref l) (.int k u) = operate [.ref l, .int k u] (getItem (.ref l) (.int k u)) := by with_unfolding_all rfl) :
    wpAny (model prog w) A (subscriptTail value slice (.ref l) (.int k u)) Q E s :=
  have hL := News.isList N hm
  tail_any hL.typeIs slot_list_getitem.lookup (wpAny_getItem_list hL h0 h1 (by simpa using hx) h) hs

def nexts (i : Int) (row : Row) : List Int := (if row.ends then [] else [i + 1]) ++ row.aim.toList

local macro_rules | `(tactic| k_mem) => `(tactic| (refine memI ?_; ktr_member))
local macro_rules | `(tactic| walk_at "pO") => `(tactic| (first | with_reducible assumption | omega))
local macro_rules | `(tactic| walk_at "pB") => `(tactic| ((iterate 5 k_asm); (first | exact rfl | assumption); ktr_room; ktr_units))
local macro_rules | `(tactic| walk_at "pD") => `(tactic| ((try dsimp only); (try k_fold)))
local macro_rules | `(tactic| walk_at "pA") => `(tactic| (with_reducible assumption))
local macro_rules | `(tactic| walk_at "subscriptTail") => `(tactic| (k_here; (with_reducible show wpAny _ _ (subscriptTail _ _ _ (Value.int 0 _)) _ _ _); k_dflt (refine item0 (by k_asm) (by k_mem) ?_; k_whole)))
local macro_rules | `(tactic| walk_at "subscriptTail") => `(tactic| (k_here; k_dflt (refine' itemL (by k_asm) (by k_mem) ?a ?b (by walk_at "pA") ?_; (case a => walk_at "pO"); (case b => walk_at "pO"); k_whole)))
local macro_rules | `(tactic| walk_at "call ref") => `(tactic| (k_here; refine WStop.call (by with_reducible assumption) ?_))

set_option maxHeartbeats 8000000 in
theorem next_rows_spec {w : World} {mean : ExcName → Option Value} {mg mb : Str → Option Value} {dp un : Nat} {gd : Option (List Code)} {cn : Str} {cs : Scope} {a : Addr} {ccd : Value} {cl : List (Str × Addr)} {outer : List Env} {A₀ : Around} {base h₀ : Heap} {L : Addr} {m : Str → Option Value} {news : List (Addr × Obj)} {s : Shared} {Q E : Value → Shared → Prop} {rl rvs rn rows i t row} (B : Below A₀ base outer h₀) (F : Fr h₀ L s.heap m) (X : (hd.heap_39 w.params).In h₀) (N : News h₀ L s.heap news) (T : Top hd.view_39 (looseW hd.view_39 []) mean mg mb h₀) (hk : cs.kind = .function) (hd : dp + 2 < recursionLimit) (_hu : un + 16 < cLine)
   (hl : (rl, listOf rvs.toArray rn) ∈ news) (hR : RowsAre news rvs rows) (h0 : 0 ≤ i) (hlen : rows.length < 1000) (hi : rows[i.toNat]? = some row)
   (ret : ∀ q vs n h' tk, IntsAre vs (nexts i row) → Fr h₀ L h' m → News h₀ L h' ((q, listOf vs.toArray n) :: news) → (∀ p ∈ news, p.1 < q) → Q (.ref q) {s with heap := h', toks := tk}) :
   wpAny (model PR w) (ktrTop dp un gd cn cs L a ccd cl outer) (call (.ref 91) [.ref rl, .int i t]) Q E s := by
  obtain ⟨r, us, n, hget, hr, hm⟩ := hR.get hi
  have hfit : i.toNat < 1000 := by
    have := (List.getElem?_eq_some_iff.mp hi).1
    omega
  refine wpAny_call ?_
  k_dflt ktr_enter
  have c1 : CutCall 77 := ⟨⟩
  have c2 : CutCall 70 := ⟨⟩
  k_steps
  refine WStop.mk ?_
  k_dflt (apply ends_way_spec; (iterate 5 k_asm); (first | exact rfl | assumption); ktr_room; ktr_units; k_mem; (with_reducible assumption); intro h9 tk9 F9 N9; (try dsimp only); (try k_fold))
  k_steps
  all_goals
    refine WStop.mk ?_
    k_dflt (apply is_jump_spec; (iterate 5 k_asm); (first | exact rfl | assumption); ktr_room; ktr_units; k_mem; (with_reducible assumption); intro h9 tk9 F9 N9; (try dsimp only); (try k_fold))
    k_steps
  all_goals (first
    | (have hj : row.aim.isSome = true := (by with_reducible assumption); have he : row.ends = true := (by with_reducible assumption); obtain ⟨g9, c9, t9, u9, rfl, hg9⟩ := hr.facts.2.2.2.2 hj; (have e : nexts i row = [g9] := by simp [nexts, hg9, he]); rw [e] at ret; k_steps; ((rename News _ _ _ _ => nE); (try simp only [List.push_toArray, List.nil_append, List.cons_append] at nE); (refine ret _ _ _ _ _ ?_ (by k_asm) (by refine dropN nE ?_; refine sub_cons (by k_mem) ?_; (repeat (first | with_reducible exact sub_refl | with_reducible refine sub_tail ?_))) (by first | assumption | exact allLt_at (by simp only [*]))); (first | exact .nil | exact .cons _ _ .nil | exact .cons _ _ (.cons _ _ .nil))))
    | (have hj : row.aim.isSome = true := (by with_reducible assumption); have he : row.ends = false := (by with_reducible assumption); obtain ⟨g9, c9, t9, u9, rfl, hg9⟩ := hr.facts.2.2.2.2 hj; (have e : nexts i row = [i + 1, g9] := by simp [nexts, hg9, he]); rw [e] at ret; k_steps; ((rename News _ _ _ _ => nE); (try simp only [List.push_toArray, List.nil_append, List.cons_append] at nE); (refine ret _ _ _ _ _ ?_ (by k_asm) (by refine dropN nE ?_; refine sub_cons (by k_mem) ?_; (repeat (first | with_reducible exact sub_refl | with_reducible refine sub_tail ?_))) (by first | assumption | exact allLt_at (by simp only [*]))); (first | exact .nil | exact .cons _ _ .nil | exact .cons _ _ (.cons _ _ .nil))))
    | (have hj : row.aim.isSome = false := (by with_reducible assumption); have he : row.ends = true := (by with_reducible assumption); (have e : nexts i row = [] := by simp only [Option.isSome_eq_false_iff, Option.isNone_iff_eq_none] at hj; simp [nexts, hj, he]); rw [e] at ret; ((rename News _ _ _ _ => nE); (try simp only [List.push_toArray, List.nil_append, List.cons_append] at nE); (refine ret _ _ _ _ _ ?_ (by k_asm) (by refine dropN nE ?_; refine sub_cons (by k_mem) ?_; (repeat (first | with_reducible exact sub_refl | with_reducible refine sub_tail ?_))) (by first | assumption | exact allLt_at (by simp only [*]))); (first | exact .nil | exact .cons _ _ .nil | exact .cons _ _ (.cons _ _ .nil))))
    | (have hj : row.aim.isSome = false := (by with_reducible assumption); have he : row.ends = false := (by with_reducible assumption); (have e : nexts i row = [i + 1] := by simp only [Option.isSome_eq_false_iff, Option.isNone_iff_eq_none] at hj; simp [nexts, hj, he]); rw [e] at ret; ((rename News _ _ _ _ => nE); (try simp only [List.push_toArray, List.nil_append, List.cons_append] at nE); (refine ret _ _ _ _ _ ?_ (by k_asm) (by refine dropN nE ?_; refine sub_cons (by k_mem) ?_; (repeat (first | with_reducible exact sub_refl | with_reducible refine sub_tail ?_))) (by first | assumption | exact allLt_at (by simp only [*]))); (first | exact .nil | exact .cons _ _ .nil | exact .cons _ _ (.cons _ _ .nil)))))
end part_M3
section part_P1
/- THE PLAIN LAW: tables, steps of the two walks -/
abbrev Tab := List (Int × Int)
def look (f : Tab) (k : Int) : Option Int := (f.find? fun p => p.1 = k).map (·.2)

structure HS where
  found : Tab
  waiting : List Int
  faults : List (Int × Str)

def hTarget (len : Int) (index up : Int) (σ : HS) (t : Int) : HS :=
  if t < 0 ∨ len ≤ t then { σ with faults := σ.faults ++ [(index, Str.ofString "target")] }
  else match look σ.found t with
    | none => { σ with found := σ.found ++ [(t, up)], waiting := σ.waiting ++ [t] }
    | some h => if h = up then σ else { σ with faults := σ.faults ++ [(index, Str.ofString "join")] }

def Row.isRet : Row → Bool
  | .ret => true
  | _ => false

def hMid (row : Row) (i height : Int) (σ : HS) : HS :=
  if row.isRet = true ∧ height ≠ 0 then { σ with faults := σ.faults ++ [(i, Str.ofString "return")] } else σ

def hBody (len : Int) (row : Row) (i height : Int) (σ : HS) : HS :=
  if height < 0 then { σ with faults := σ.faults ++ [(i, Str.ofString "below")] }
  else (nexts i row).foldl (hTarget len i (height + row.moves.2)) (hMid row i height σ)

def rowAt (rows : List Row) (i : Int) : Row := rows.getD i.toNat .dup
def hStep (rows : List Row) (σ : HS) (p : List Int) (i : Int) : HS :=
  hBody rows.length (rowAt rows i) i ((look σ.found i).getD 0 - (rowAt rows i).moves.1) { σ with waiting := p }
def hNext (rows : List Row) (σ : HS) : HS := match σ.waiting.getLast? with
  | none => σ
  | some i => hStep rows σ σ.waiting.dropLast i
def hInit : HS := ⟨[(0, 0)], [0], []⟩

theorem look_none_iff {f : Tab} {k : Int} : look f k = none ↔ k ∉ f.map (·.1) := by
  unfold look
  rw [Option.map_eq_none_iff, List.find?_eq_none]
  simp only [decide_eq_true_eq, List.mem_map, not_exists, not_and]
theorem look_isSome_iff {f : Tab} {k : Int} : (look f k).isSome = true ↔ k ∈ f.map (·.1) := by
  rw [Option.isSome_iff_ne_none, ne_eq, look_none_iff, Decidable.not_not]
theorem look_append_old {f g : Tab} {k h : Int} (e : look f k = some h) : look (f ++ g) k = some h := by
  unfold look at *
  rw [List.find?_append]
  cases q : f.find? fun p => decide (p.1 = k) with
  | none => rw [q] at e; cases e
  | some p => rw [q] at e; simpa using e
theorem look_append_new {f : Tab} {k h : Int} (e : look f k = none) : look (f ++ [(k, h)]) k = some h := by
  unfold look at *
  rw [List.find?_append]
  cases q : f.find? fun p => decide (p.1 = k) with
  | none => simp
  | some p => rw [q] at e; cases e

/-- what holds of a state of heights between two turns -/
structure HOk (len : Nat) (σ : HS) : Prop where
  nd : (σ.found.map (·.1)).Nodup
  rng : ∀ k ∈ σ.found.map (·.1), 0 ≤ k ∧ k < (len : Int)
  sub : ∀ k ∈ σ.waiting, k ∈ σ.found.map (·.1)
  few : σ.faults.length + 2 * σ.waiting.length ≤ 2 * σ.found.length
theorem nodup_range_length : ∀ (n : Nat) (l : List Int), l.Nodup → (∀ k ∈ l, 0 ≤ k ∧ k < (n : Int)) → l.length ≤ n := by
  intro n
  induction n with
  | zero =>
    intro l _ h
    cases l with
    | nil => exact Nat.le_refl _
    | cons x r => have := h x (List.mem_cons_self ..); omega
  | succ n ih =>
    intro l hn h
    have h1 := ih (l.filter fun k => decide (k ≠ (n : Int))) (hn.filter _) (fun k hk => by
      have hk' := List.mem_filter.mp hk
      have := h k hk'.1
      have h2 : k ≠ (n : Int) := of_decide_eq_true hk'.2
      constructor <;> omega)
    have h3 : l.length ≤ (l.filter fun k => decide (k ≠ (n : Int))).length + 1 := by
      clear h1 h ih
      induction l with
      | nil => simp
      | cons x r ih2 =>
        have hr := List.nodup_cons.mp hn
        by_cases hx : x = (n : Int)
        · have e : (r.filter fun k => decide (k ≠ (n : Int))) = r := by
            rw [List.filter_eq_self]
            intro a ha
            exact decide_eq_true fun q => hr.1 (by rw [hx, ← q]; exact ha)
          rw [List.filter_cons, if_neg (by simp [hx]), e]
          exact Nat.le_refl _
        · rw [List.filter_cons, if_pos (by simp [hx])]
          simp only [List.length_cons]
          have := ih2 hr.2
          omega
    omega
theorem HOk.size {len : Nat} {σ : HS} (h : HOk len σ) : σ.found.length ≤ len := by
  have := nodup_range_length len (σ.found.map (·.1)) h.nd h.rng
  simpa using this
def HS.meas (len : Nat) (σ : HS) : Nat := 2 * (len - σ.found.length) + σ.waiting.length

/-- what holds within a turn: j targets done -/
structure HIn (len : Nat) (j : Nat) (σ : HS) : Prop where
  nd : (σ.found.map (·.1)).Nodup
  rng : ∀ k ∈ σ.found.map (·.1), 0 ≤ k ∧ k < (len : Int)
  sub : ∀ k ∈ σ.waiting, k ∈ σ.found.map (·.1)
  few : σ.faults.length + 2 * σ.waiting.length + 2 ≤ 2 * σ.found.length + j
theorem HIn.size {len j : Nat} {σ : HS} (h : HIn len j σ) : σ.found.length ≤ len := by
  have := nodup_range_length len (σ.found.map (·.1)) h.nd h.rng
  simpa using this
theorem HIn.target {len j : Nat} {σ : HS} {index up t : Int} (h : HIn len j σ) : HIn len (j + 1) (hTarget len index up σ t) := by
  obtain ⟨h1, h2, h3, h4⟩ := h
  unfold hTarget
  split
  · exact ⟨h1, h2, h3, by simp only [List.length_append, List.length_singleton]; omega⟩
  · rename_i hb
    split
    · rename_i e
      have hn := look_none_iff.mp e
      refine ⟨?_, ?_, ?_, ?_⟩
      · rw [List.map_append, List.nodup_append]
        refine ⟨h1, by simp, ?_⟩
        intro a ha b hb
        simp only [List.map_cons, List.map_nil, List.mem_singleton] at hb
        exact fun e => hn (hb ▸ e ▸ ha)
      · intro k hk
        rw [List.map_append] at hk
        rcases List.mem_append.mp hk with hk | hk
        · exact h2 k hk
        · simp only [List.map_cons, List.map_nil, List.mem_singleton] at hk
          subst hk; omega
      · intro k hk
        rw [List.map_append]
        rcases List.mem_append.mp hk with hk | hk
        · exact List.mem_append_left _ (h3 k hk)
        · exact List.mem_append_right _ (by simpa using hk)
      · simp only [List.length_append, List.length_singleton]; omega
    · split
      · exact ⟨h1, h2, h3, by omega⟩
      · exact ⟨h1, h2, h3, by simp only [List.length_append, List.length_singleton]; omega⟩
theorem hTarget_meas {len : Nat} {σ : HS} {index up t : Int} {j : Nat} (h : HIn len j σ) : (hTarget len index up σ t).meas len ≤ σ.meas len := by
  have hs := (h.target (index := index) (up := up) (t := t)).size
  unfold hTarget at *
  unfold HS.meas
  split
  · exact Nat.le_refl _
  · rename_i hb
    rw [if_neg hb] at hs
    split
    · rename_i e
      rw [e] at hs
      simp only [List.length_append, List.length_singleton] at hs ⊢
      omega
    · split <;> exact Nat.le_refl _
theorem hFold {len : Nat} {index up : Int} : ∀ (ts : List Int) {σ : HS} {j : Nat}, HIn len j σ → HIn len (j + ts.length) (ts.foldl (hTarget len index up) σ) ∧ (ts.foldl (hTarget len index up) σ).meas len ≤ σ.meas len
  | [], σ, j, h => ⟨by simpa using h, Nat.le_refl _⟩
  | t :: r, σ, j, h => by
    have a := hFold (index := index) (up := up) r (h.target (index := index) (up := up) (t := t))
    rw [List.foldl_cons, List.length_cons]
    refine ⟨?_, Nat.le_trans a.2 (hTarget_meas h)⟩
    have e : j + (r.length + 1) = j + 1 + r.length := by omega
    rw [e]; exact a.1
theorem nexts_length (i : Int) (row : Row) : (nexts i row).length ≤ 2 := by
  cases row <;> simp [nexts, Row.ends, Row.aim]
theorem nexts_ret (i : Int) {row : Row} (h : row.isRet = true) : nexts i row = [] := by
  cases row <;> simp_all [nexts, Row.ends, Row.aim, Row.isRet]
theorem HOk.pop {len : Nat} {f : Tab} {p : List Int} {i : Int} {fs : List (Int × Str)} (h : HOk len ⟨f, p ++ [i], fs⟩) : HIn len 0 ⟨f, p, fs⟩ := by
  obtain ⟨h1, h2, h3, h4⟩ := h
  refine ⟨h1, h2, fun k hk => h3 k (List.mem_append_left _ hk), ?_⟩
  simp only [List.length_append, List.length_singleton] at h4 ⊢
  omega
theorem HIn.ok {len j : Nat} {σ : HS} (h : HIn len j σ) (hj : j ≤ 2) : HOk len σ := ⟨h.nd, h.rng, h.sub, by have := h.few; omega⟩
theorem hBody_ok {len : Nat} {row : Row} {i height : Int} {σ : HS} (h : HIn len 0 σ) : HOk len (hBody len row i height σ) ∧ (hBody len row i height σ).meas len ≤ σ.meas len := by
  unfold hBody
  split
  · refine ⟨⟨h.nd, h.rng, h.sub, ?_⟩, Nat.le_refl _⟩
    have := h.few
    simp only [List.length_append, List.length_singleton]; omega
  · unfold hMid
    split
    · rename_i hr
      rw [nexts_ret i hr.1]
      refine ⟨⟨h.nd, h.rng, h.sub, ?_⟩, Nat.le_refl _⟩
      have := h.few
      simp only [List.foldl_nil, List.length_append, List.length_singleton]; omega
    · have a := hFold (index := i) (up := height + row.moves.2) (nexts i row) h
      have hl := nexts_length i row
      refine ⟨a.1.ok (by omega), a.2⟩
theorem hStep_meas {len : Nat} {row : Row} {i height : Int} {f : Tab} {p : List Int} {fs : List (Int × Str)} (h : HOk len ⟨f, p ++ [i], fs⟩) :
    (hBody len row i height ⟨f, p, fs⟩).meas len < HS.meas len ⟨f, p ++ [i], fs⟩ := by
  have a := (hBody_ok (row := row) (i := i) (height := height) h.pop).2
  unfold HS.meas at *
  simp only [List.length_append, List.length_singleton] at a ⊢
  omega
theorem hNext_snoc {rows : List Row} {f : Tab} {p : List Int} {i : Int} {fs : List (Int × Str)} : hNext rows ⟨f, p ++ [i], fs⟩ = hStep rows ⟨f, p ++ [i], fs⟩ p i := by
  unfold hNext
  simp
theorem hInit_ok {len : Nat} (h : 0 < len) : HOk len hInit := by
  refine ⟨by simp [hInit], ?_, ?_, by simp [hInit]⟩
  · intro k hk; simp [hInit] at hk; subst hk; omega
  · intro k hk; simpa [hInit] using hk
end part_P1
section part_M4
inductive KvI : List (Int × Value) → Tab → Prop
  | nil : KvI [] []
  | cons {k h : Int} {t : Tok} {kvs : List (Int × Value)} {f : Tab} (r : KvI kvs f) : KvI ((k, .int h t) :: kvs) ((k, h) :: f)
theorem KvI.keys {kvs : List (Int × Value)} {f : Tab} (h : KvI kvs f) : kvs.map (·.1) = f.map (·.1) := by
  induction h with
  | nil => rfl
  | cons _ ih => simp [ih]
theorem KvI.length {kvs : List (Int × Value)} {f : Tab} (h : KvI kvs f) : kvs.length = f.length := by
  have := congrArg List.length h.keys
  simpa using this
theorem KvI.snoc {kvs : List (Int × Value)} {f : Tab} {k h : Int} {t : Tok} (r : KvI kvs f) : KvI (kvs ++ [(k, .int h t)]) (f ++ [(k, h)]) := by
  induction r with
  | nil => exact .cons .nil
  | cons _ ih => exact .cons ih
theorem KvI.none {kvs : List (Int × Value)} {f : Tab} (r : KvI kvs f) {k : Int} (e : look f k = none) : valueAt kvs k = none := by
  have := look_none_iff.mp e
  rw [← r.keys] at this
  unfold valueAt
  rw [Option.map_eq_none_iff, List.find?_eq_none]
  intro p hp
  simp only [decide_eq_true_eq]
  exact fun q => this (List.mem_map.mpr ⟨p, hp, q⟩)
theorem KvI.some {kvs : List (Int × Value)} {f : Tab} (r : KvI kvs f) {k h : Int} (e : look f k = some h) : ∃ t, valueAt kvs k = some (.int h t) := by
  induction r with
  | nil => simp [look] at e
  | @cons k' h' t' kvs f r ih =>
    unfold look at e
    unfold valueAt
    rw [List.find?_cons] at e ⊢
    by_cases q : k' = k
    · simp only [q, decide_true, Option.map_some, Option.some.injEq] at e ⊢
      subst e
      exact ⟨t', rfl⟩
    · simp only [q, decide_false] at e ⊢
      exact ih e
theorem stored_new {kvs : List (Int × Value)} {k : Int} {v : Value} (e : valueAt kvs k = none) : stored kvs k v = kvs ++ [(k, v)] := by
  unfold valueAt at e
  rw [Option.map_eq_none_iff, List.find?_eq_none] at e
  unfold stored
  rw [if_neg]
  rw [List.any_eq_true]
  rintro ⟨p, hp, q⟩
  exact e p hp q

inductive FaultsAre (tl : List (Addr × Obj)) : List Value → List (Int × Str) → Prop
  | nil : FaultsAre tl [] []
  | cons {a : Addr} {i : Int} {x : Str} {t u : Tok} {n : Nat} {vs : List Value} {fs : List (Int × Str)} (hm : (a, tupOf [.int i t, .str x u] n) ∈ tl) (h : FaultsAre tl vs fs) : FaultsAre tl (.ref a :: vs) ((i, x) :: fs)
theorem FaultsAre.length {tl : List (Addr × Obj)} {vs : List Value} {fs : List (Int × Str)} (h : FaultsAre tl vs fs) : vs.length = fs.length := by
  induction h with
  | nil => rfl
  | cons _ _ ih => simp [ih]
theorem FaultsAre.mono {tl tl' : List (Addr × Obj)} (hs : ∀ p ∈ tl, p ∈ tl') {vs : List Value} {fs : List (Int × Str)} (h : FaultsAre tl vs fs) : FaultsAre tl' vs fs := by
  induction h with
  | nil => exact .nil
  | cons hm _ ih => exact .cons (hs _ hm) ih
theorem FaultsAre.snoc {tl : List (Addr × Obj)} {vs : List Value} {fs : List (Int × Str)} {a : Addr} {i : Int} {x : Str} {t u : Tok} {n : Nat} (h : FaultsAre tl vs fs) (hm : (a, tupOf [.int i t, .str x u] n) ∈ tl) :
    FaultsAre tl (vs ++ [.ref a]) (fs ++ [(i, x)]) := by
  induction h with
  | nil => exact .cons hm .nil
  | cons hm' _ ih => exact .cons hm' ih
theorem ints_snoc_inv {p : List Int} {i : Int} : ∀ {vs : List Value}, IntsAre vs (p ++ [i]) → ∃ us t, vs = us ++ [.int i t] ∧ IntsAre us p := by
  induction p with
  | nil =>
    intro vs h
    cases h with
    | cons n t r => cases r; exact ⟨[], t, rfl, .nil⟩
  | cons x p ih =>
    intro vs h
    cases h with
    | cons n t r =>
      obtain ⟨us, t', e, h'⟩ := ih r
      exact ⟨.int x t :: us, t', by rw [e]; rfl, .cons x t h'⟩
theorem ints_snoc {p : List Int} {i : Int} {t : Tok} {vs : List Value} (h : IntsAre vs p) : IntsAre (vs ++ [.int i t]) (p ++ [i]) := IntsAre.append h (.cons i t .nil)

section
variable {prog : Program} {w : World} {A : Around} {E : Value → Shared → Prop} {s : Shared} {h₀ : Heap} {L l d : Addr} {m : Str → Option Value} {news news' : List (Addr × Obj)} {vs : List Value} {n : Nat} {Q : Value → Shared → Prop}
theorem lenL {k : Nat} (N : News h₀ L s.heap news) (hm : (l, listOf vs.toArray n) ∈ news) (e : vs.length = k) (hfit : k < 2 ^ 62) (h : Q (.int (k : Int) (s.toks + 1)) { s with toks := s.toks + 1 + 1 }) :
    wpAny (model prog w) A (call (.builtin "len") [.ref l]) Q E s := by
  have e' : vs.toArray.size = k := by rw [List.size_toArray, e]
  exact len_list (News.isList N hm) (by rw [e']; omega) (by rw [e']; exact h)
theorem popV {y : Value} (F : Fr h₀ L s.heap m) (N : News h₀ L s.heap news) (U : Upd l (listOf (vs ++ [y]).toArray n) (listOf vs.toArray (n + 1)) news news') (hz : vs.length < 16000000)
    (h : ∀ h', Fr h₀ L h' m → News h₀ L h' news' → Q y { s with heap := h' }) : wpAny (model prog w) A (call (.builtin "list.pop") [.ref l]) Q E s :=
  kl_pop F N (p := vs) (y := y) (by simpa using kpa_last y vs) U (by rw [sizeLine_eq]; simp; omega) h
theorem appendV {y : Value} (F : Fr h₀ L s.heap m) (N : News h₀ L s.heap news) (U : Upd l (listOf vs.toArray n) (listOf (vs ++ [y]).toArray (n + 1)) news news') (hz : vs.length < 16000000)
    (h : ∀ h', Fr h₀ L h' m → News h₀ L h' news' → Q .none { s with heap := h' }) : wpAny (model prog w) A (call (.builtin "list.append") [.ref l, y]) Q E s := by
  have e : (vs ++ [y]).toArray = vs.toArray.push y := by simp
  rw [e] at U
  exact append_K F N U h (by rw [sizeLine_eq]; simp; omega)
section
variable {o : Obj} {g : Obj → List (Addr × Obj)} {kvs : List (Int × Value)} {k : Int} {t : Tok} {v : Value}
theorem dItem {value slice : PySem.Expr} (N : News h₀ L s.heap news) (hp : (d, o) ∈ news) (hd : o.IsDictOf (PySem.intKind prog w) kvs) (hl : valueAt kvs k = some v) (h : Q v { s with toks := s.toks + 1 })
    (hs : subscripted slice false (.ref d) (.int k t) = operate [.ref d, .int k t] (getItem (.ref d) (.int k t)) := by with_unfolding_all rfl) (hg : ∀ r, letTemporaryGo value (.ref d) r = pure () := by intro _; with_unfolding_all rfl) :
    wpAny (model prog w) A (subscriptTail value slice (.ref d) (.int k t)) Q E s := kda_item N hp hd (intKind_is _ _ _ _) hl h hs hg
theorem dNotIn1 (N : News h₀ L s.heap news) (hp : (d, o) ∈ news) (hd : o.IsDictOf (PySem.intKind prog w) kvs) (lo : (d == sysModules) = false) (hl : valueAt kvs k = none) (h : Q (.bool true) { s with toks := s.toks + 1 }) :
    wpAny (model prog w) A (compareOp .NotIn (.int k t) (.ref d)) Q E s :=
  wpAny_notIn_of (intKind_is _ _ _ _) lo (kda_dict N hp hd).mapOf (by rw [hl]; exact h)
theorem dNotIn0 (N : News h₀ L s.heap news) (hp : (d, o) ∈ news) (hd : o.IsDictOf (PySem.intKind prog w) kvs) (lo : (d == sysModules) = false) (hl : valueAt kvs k = some v) (h : Q (.bool false) { s with toks := s.toks + 1 }) :
    wpAny (model prog w) A (compareOp .NotIn (.int k t) (.ref d)) Q E s :=
  wpAny_notIn_of (intKind_is _ _ _ _) lo (kda_dict N hp hd).mapOf (by rw [hl]; exact h)
theorem dSetNew {Q : Unit → Shared → Prop} (F : Fr h₀ L s.heap m) (N : News h₀ L s.heap news) (U : UpdF d o news g) (hd : o.IsDictOf (PySem.intKind prog w) kvs) (hl : valueAt kvs k = none) (hsz : kvs.length < 16000000)
    (h : ∀ h' o', Fr h₀ L h' m → News h₀ L h' (g o') → o'.IsDictOf (PySem.intKind prog w) (kvs ++ [(k, v)]) → Q () { s with heap := h', toks := s.toks + 1 }) : wpAny (model prog w) A (setItem (.ref d) (.int k t) v) Q E s :=
  kda_set F N U hd (intKind_is _ _ _ _) (by rw [sizeLine_eq]; omega) fun h' o' F' N' d' => h h' o' F' N' (by rw [← stored_new hl]; exact d')
end
end
end part_M4
section part_S1
/- SORTING A LIST OF (int, str): every way through the questions ends, with as many items -/
def KasAll {α : Type} (ok : Nat → Nat → Prop) (R : α → Prop) : KasT α → Prop
  | .ret a => R a
  | .ask i j k => ok i j ∧ ∀ b, KasAll ok R (k b)
theorem KasAll.bind {α β : Type} {ok : Nat → Nat → Prop} {R : α → Prop} {S : β → Prop} {f : α → KasT β} (hf : ∀ a, R a → KasAll ok S (f a)) : ∀ {t : KasT α}, KasAll ok R t → KasAll ok S (t.bind f)
  | .ret a, h => hf a h
  | .ask _ _ _, h => ⟨h.1, fun b => KasAll.bind hf (h.2 b)⟩
theorem KasAll.wp {α : Type} {ok : Nat → Nat → Prop} {R : α → Prop} {cmp : Nat → Nat → (Bool → Shared → Prop) → Shared → Prop} {Q : α → Shared → Prop} {s : Shared} (hc : ∀ i j C, ok i j → (∀ b, C b s) → cmp i j C s) (hQ : ∀ a, R a → Q a s) :
    ∀ {t : KasT α}, KasAll ok R t → t.kasWp cmp Q s
  | .ret a, h => hQ a h
  | .ask i j _, h => hc i j _ h.1 fun b => KasAll.wp hc hQ (h.2 b)
section
variable {n : Nat}
abbrev kOk (n : Nat) (i j : Nat) : Prop := i < n ∧ j < n
def KArr (n : Nat) (p : Array Nat) : Prop := p.size = n ∧ ∀ x ∈ p, x < n
theorem KArr.getD {p : Array Nat} (h : KArr n p) (hn : 0 < n) (k : Nat) : p.getD k 0 < n := by
  unfold Array.getD
  split
  · exact h.2 _ (Array.getElem_mem _)
  · exact hn
theorem KArr.mirror {p : Array Nat} (h : KArr n p) (i j d : Nat) : KArr n (mirror p i j d) :=
  ⟨(mirror_size p i j d).trans h.1, fun x hx => h.2 x ((mirror_perm p i j d).mem_iff.mp hx)⟩
theorem KArr.bubble {p : Array Nat} (h : KArr n p) (a b : Nat) : KArr n (bubble p a b) :=
  ⟨(bubble_size p a b).trans h.1, fun x hx => h.2 x ((bubble_perm p a b).mem_iff.mp hx)⟩
theorem KArr.range : KArr n (List.toArray (List.range n)) := ⟨by simp, fun x hx => by simpa using hx⟩
theorem kas_asc_all (hn : 0 < n) {p : Array Nat} (h : KArr n p) : ∀ (f m : Nat), KasAll (kOk n) (fun _ => True) (kas_asc p f m)
  | 0, _ => trivial
  | f + 1, m => ⟨⟨h.getD hn _, h.getD hn _⟩, fun b => by
    dsimp only
    split
    · exact trivial
    · exact kas_asc_all hn h f (m + 1)⟩
theorem kas_desc_all (hn : 0 < n) : ∀ (f : Nat) {p : Array Nat} (m q : Nat), KArr n p → KasAll (kOk n) (fun r => KArr n r.1) (kas_desc f p m q)
  | 0, _, _, _, h => h
  | f + 1, p, m, q, h => ⟨⟨h.getD hn _, h.getD hn _⟩, fun b => by
    dsimp only
    split
    · split
      · exact kas_desc_all hn f _ _ (h.mirror _ _ _)
      · exact kas_desc_all hn f _ _ h
    · refine ⟨⟨h.getD hn _, h.getD hn _⟩, fun c => ?_⟩
      dsimp only
      split
      · exact h
      · exact kas_desc_all hn f _ _ h⟩
theorem kas_tail3_all (hn : 0 < n) {p : Array Nat} (a b : Nat) (h : KArr n p) : KasAll (kOk n) (fun r => KArr n r.2) (kas_tail3 a b p) := by
  unfold kas_tail3
  refine KasAll.bind (R := fun _ => True) (fun r _ => ?_) (kas_asc_all hn (h.mirror _ _ _) _ _)
  exact h.mirror _ _ _
theorem kas_descPart_all (hn : 0 < n) {p : Array Nat} (a b : Nat) (h : KArr n p) : KasAll (kOk n) (fun r => KArr n r.2) (kas_descPart a b p) := by
  unfold kas_descPart
  refine KasAll.bind (fun r hr => ?_) (kas_desc_all hn _ _ _ h)
  split
  · exact kas_tail3_all hn _ _ (hr.mirror _ _ _)
  · exact kas_tail3_all hn _ _ hr
theorem kas_count_all (hn : 0 < n) {p : Array Nat} (a : Nat) (h : KArr n p) : KasAll (kOk n) (fun r => KArr n r.2) (kas_count a p) := by
  unfold kas_count
  refine KasAll.bind (fun r _ => ?_) (kas_asc_all hn h _ _)
  split
  · exact h
  · split
    · refine ⟨⟨h.getD hn _, h.getD hn _⟩, fun c => ?_⟩
      dsimp only
      split
      · exact h
      · exact kas_descPart_all hn _ _ (h.mirror _ _ _)
    · exact kas_descPart_all hn _ _ h
theorem kas_place_all (hn : 0 < n) {p : Array Nat} (k : Nat) (h : KArr n p) : ∀ (f l r : Nat), KasAll (kOk n) (fun _ => True) (kas_place p k f l r)
  | 0, _, _ => trivial
  | f + 1, l, r => by
    unfold kas_place
    split
    · exact trivial
    · refine ⟨⟨h.getD hn _, h.getD hn _⟩, fun c => ?_⟩
      dsimp only
      split
      · exact kas_place_all hn k h f _ _
      · exact kas_place_all hn k h f _ _
theorem kas_bin_all (hn : 0 < n) : ∀ (f : Nat) {p : Array Nat} (k : Nat), KArr n p → KasAll (kOk n) (KArr n) (kas_bin f p k)
  | 0, _, _, h => h
  | f + 1, p, k, h => KasAll.bind (R := fun _ => True) (fun _ _ => kas_bin_all hn f _ (h.bubble _ _)) (kas_place_all hn k h _ _ _)
theorem kas_sort_all (hn : 0 < n) : KasAll (kOk n) (KArr n) (kas_sort n) := by
  unfold kas_sort
  refine KasAll.bind (fun r hr => ?_) (kas_count_all hn _ KArr.range)
  split
  · exact kas_bin_all hn _ _ hr
  · exact hr
end

section
variable {prog : Program} {w : World} {A : Around} {E : Value → Shared → Prop} {s : Shared} {h₀ : Heap} {L l : Addr} {m : Str → Option Value} {news : List (Addr × Obj)} {vs : List Value}
theorem FaultsAre.katTups {h : Heap} {fs : List (Int × Str)} (N : News h₀ L h news) (f : FaultsAre news vs fs) : ∃ firsts, KatTups h vs firsts ∧ firsts.length = vs.length ∧ ∀ v ∈ firsts, ∃ i t, v = .int i t := by
  induction f with
  | nil => exact ⟨[], trivial, rfl, fun _ h => nomatch h⟩
  | @cons a i x t u n vs fs hm _ ih =>
    obtain ⟨r, h1, h2, h3⟩ := ih
    refine ⟨.int i t :: r, KatTups.cons (News.get N hm) rfl rfl rfl h1, by simp [h2], ?_⟩
    intro v hv
    rcases List.mem_cons.mp hv with e | hv
    · exact ⟨i, t, e⟩
    · exact h3 v hv
theorem FaultsAre.at {fs : List (Int × Str)} (f : FaultsAre news vs fs) {i : Nat} (hi : i < vs.length) : ∃ a k t x u n, vs.getD i Value.none = .ref a ∧ (a, tupOf [.int k t, .str x u] n) ∈ news := by
  induction f generalizing i with
  | nil => exact absurd hi (Nat.not_lt_zero _)
  | cons hm _ ih =>
    cases i with
    | zero => exact ⟨_, _, _, _, _, _, rfl, hm⟩
    | succ i => simpa using ih (Nat.lt_of_succ_lt_succ hi)
theorem faults_lt {a b : Addr} {i k : Int} {x y : Str} {t u t' u' : Tok} {n n' : Nat} {C : Bool → Shared → Prop} (N : News h₀ L s.heap news) (ha : (a, tupOf [.int i t, .str x u] n) ∈ news) (hb : (b, tupOf [.int k t', .str y u'] n') ∈ news)
    (hC : ∀ c, C c s) : wpAny (model prog w) A (keyLt' (tuples' (Value.type "int" != Value.type "tuple")) (.ref a) (.ref b)) C E s := by
  refine kat_lt (News.get N ha) rfl (News.get N hb) rfl ?_
  refine kat_cons (wpAny_eqBool_int ?_)
  have hT : (Value.type "int" != Value.type "tuple") = true := by decide
  cases hq : (i == k) with
  | false =>
    refine kat_no ?_
    rw [hT]
    exact oneLt_int (hC _)
  | true =>
    refine kat_yes (kat_cons (wpAny_eqBool_str ?_))
    cases hq2 : decide (x = y) with
    | false =>
      refine kat_no ?_
      have e : (Value.type "int" != Value.type "tuple" && (0 + 1 == 0)) = false := by simp
      rw [e]
      exact kat_one _ _ (PyProof.Rows.lt_str (hC _))
    | true => exact kat_yes (kat_nil (hC _))

theorem list_sort_small {a : Addr} {n : Nat} {P : PySem.Fin → Shared → Prop} (ho : s.heap.get? a = some (seqObj "list" vs.toArray n)) (h2 : vs.length < 2)
    (h : P (.done (.ret .none)) { s with heap := sortedHeap s.heap a vs vs.toArray }) : wpAny (model prog w) A (Builtin.«list.sort» ⟨[.ref a], []⟩) P E s := by
  rw [list_sort_plain]
  have ha : a < s.heap.objs.size := Heap.lt_size ho
  refine wpAny_bind (listItems_at ho rfl ?_)
  refine wpAny_bind (listUpdate_at ho rfl ?_ (by rw [List.size_toArray, sizeLine_eq]; omega) (Nat.zero_le _))
  obtain ⟨e1, ho1⟩ : ∃ e1, (s.heap.update a (Obj.mapSeq fun _ => #[])).get? a = some (seqObj "list" #[] e1) := ⟨_, get?_update_seq ho (fun _ => #[])⟩
  refine wpAny_bind (seqEpoch_at ho1 rfl ?_)
  refine wpAny_bind (wpAny_newTuple ?_ (by show vs.length ≤ _; rw [sizeLine_eq]; omega))
  refine wpAny_bind (wpAny_newList ?_ (Nat.zero_le _))
  refine wpAny_holding ?_
  have ho6 : (((s.heap.update a (Obj.mapSeq fun _ => #[])).push (seqObj "tuple" vs.toArray 0)).push (seqObj "list" #[] 0)).get? a = some (seqObj "list" #[] e1) := by
    rw [Heap.get?_push_ne _ _ _ (by rw [size_push', Heap.size_update]; exact Nat.ne_of_lt (Nat.lt_succ_of_lt ha)), Heap.get?_push_ne _ _ _ (by rw [Heap.size_update]; exact Nat.ne_of_lt ha)]
    exact ho1
  show wpAny (model prog w) A _ P E { s with heap := ((s.heap.update a (Obj.mapSeq fun _ => #[])).push (seqObj "tuple" vs.toArray 0)).push (seqObj "list" #[] 0) }
  dsimp only
  have hs2 : vs.toArray.size < 2 := by rw [List.size_toArray]; exact h2
  rw [if_pos hs2, if_pos hs2]
  refine wpAny_bind (wpAny_pure ?_)
  rw [StateT.run_pure]
  refine wpAny_bind (wpAny_pure ?_)
  dsimp only
  have hout : (arrOf (SortSt.mk' general' (vs.toArray.zip vs.toArray) #[] 7 none)).map (·.2) = vs.toArray := by
    show (vs.toArray.zip vs.toArray).map (·.2) = vs.toArray
    exact Array.map_snd_zip (Nat.le_refl _)
  refine wpAny_bind (seqEpoch_at ho6 rfl ?_)
  rw [hout]
  refine wpAny_bind (listUpdate_at ho6 rfl ?_ (Nat.zero_le _) (by rw [List.size_toArray, sizeLine_eq]; omega))
  simp only [bne_self_eq_false, Bool.false_eq_true, if_false]
  exact wpAny_pure h

theorem sorted_small {Q : Value → Shared → Prop} (F : Fr h₀ L s.heap m) (N : News h₀ L s.heap news) (hl : s.heap.IsList l vs.toArray) (h2 : vs.length < 2)
    (h : ∀ D c h', Fr h₀ L h' m → News h₀ L h' ((D, listOf vs.toArray c) :: news) → (∀ q ∈ news, q.1 < D) → Q (.ref D) { s with heap := h' }) :
    wpAny (model prog w) A (call (.builtin "sorted") [.ref l]) Q E s := by
  refine Calls.call_function_entry kind_sorted plain_sorted entry_sorted (args_sorted1 _) ?_
  unfold Builtin.«sorted»
  refine wpAny_bind (m := checkCount "sorted" 1 1 _) (wpAny_pure ?_)
  refine wpAny_bind (collect_list hl ?_ (by rw [sizeLine_eq]; omega))
  refine wpAny_bind (wpAny_newList ?_ (by rw [sizeLine_eq]; omega))
  have hsz : ((s.heap.push (seqObj "list" #[] 0)).update s.heap.objs.size (Obj.mapSeq (· ++ vs.toArray))).objs.size = s.heap.objs.size + 1 := by
    rw [Heap.size_update, size_push']
  have hoL : (((s.heap.push (seqObj "list" #[] 0)).update s.heap.objs.size (Obj.mapSeq (· ++ vs.toArray))).push (seqObj "list" vs.toArray 0)).get? (s.heap.objs.size + 1) = some (seqObj "list" vs.toArray 0) := by
    rw [← hsz]; exact Heap.get?_push_size _ rfl
  show wpAny _ _ _ _ _ { s with heap := ((s.heap.push (seqObj "list" #[] 0)).update s.heap.objs.size (Obj.mapSeq (· ++ vs.toArray))).push (seqObj "list" vs.toArray 0) }
  rw [hsz]
  obtain ⟨c, hc⟩ := sortedAll_at s.heap vs vs.toArray
  refine wpAny_bind (wpAny_holding (wpAny_call_entry slot_list_sort ⟨_, hoL, rfl⟩ entry_list_sort (list_sort_small hoL h2 ⟨_, rfl, ?_⟩) (args_list_sort _)))
  exact wpAny_pure ⟨_, rfl, h _ c _ (F.kept fun _ _ => sortedAll_old) (N.kept_cons F (fun _ _ => sortedAll_old) (Nat.le_succ _) hc) (fun p hp => Nat.lt_succ_of_lt (Heap.lt_size (N p hp).1))⟩

theorem sorted_faults {fs : List (Int × Str)} {Q : Value → Shared → Prop} (F : Fr h₀ L s.heap m) (N : News h₀ L s.heap news) (hl : s.heap.IsList l vs.toArray) (f : FaultsAre news vs fs) (h64 : vs.length < 64)
    (h : ∀ D (vs' : List Value) c h', Fr h₀ L h' m → News h₀ L h' ((D, listOf vs'.toArray c) :: news) → (∀ q ∈ news, q.1 < D) → vs'.length = vs.length → Q (.ref D) { s with heap := h' }) :
    wpAny (model prog w) A (call (.builtin "sorted") [.ref l]) Q E s := by
  by_cases h2 : vs.length < 2
  · exact sorted_small F N hl h2 fun D c h' F' N' l1 => h D vs c h' F' N' l1 rfl
  · refine kat_sorted F N hl (by omega) h64 fun D e1 h' F' N' l1 => ?_
    have N0 : News h₀ L h' news := dropN N' fun p hp => List.Mem.tail _ hp
    obtain ⟨firsts, k1, k2, k3⟩ := FaultsAre.katTups N0 f
    refine kat_kind (T := Value.type "int") k1 (by omega) (fun v hv => ?_) rfl ?_
    · obtain ⟨i, t, rfl⟩ := k3 v hv
      exact Looks.of_pure rfl
    · refine KasAll.wp (ok := kOk vs.length) (R := KArr vs.length) (fun i j C hij hC => ?_) (fun p hp => ?_) (kas_sort_all (by omega))
      · obtain ⟨a, k, t, x, u, n, e, hm⟩ := f.at hij.1
        obtain ⟨a', k', t', x', u', n', e', hm'⟩ := f.at hij.2
        unfold kas_ask
        rw [e, e']
        exact faults_lt N0 hm hm' hC
      · exact KasFin.intro F' N' (UpdF.head fun q hq => Nat.ne_of_lt (l1 q hq)) fun h2 c2 F2 N2 => h D _ c2 h2 F2 N2 l1 (by simp [hp.1])
end
theorem sub_news {a b : List (Addr × Obj)} (h : ∀ p ∈ a, p ∈ b) : ∀ p ∈ a, p ∈ b := h
end part_S1
section part_M5
theorem calm_M5 : True := by
  w_top off
  trivial
local macro_rules | `(tactic| k_mem) => `(tactic| (refine memI ?_; ktr_member))
local macro_rules | `(tactic| walk_at "pO") => `(tactic| (first | with_reducible assumption | omega))
local macro_rules | `(tactic| walk_at "pB") => `(tactic| ((iterate 5 k_asm); (first | exact rfl | assumption); ktr_room; ktr_units))
local macro_rules | `(tactic| walk_at "pD") => `(tactic| ((try dsimp only); (try k_fold)))
local macro_rules | `(tactic| walk_at "pA") => `(tactic| (with_reducible assumption))
local macro_rules | `(tactic| walk_at "subscriptTail") => `(tactic| (k_here; (with_reducible show wpAny _ _ (subscriptTail _ _ _ (Value.int 0 _)) _ _ _); k_dflt (refine item0 (by k_asm) (by k_mem) ?_; k_whole)))
local macro_rules | `(tactic| walk_at "subscriptTail") => `(tactic| (k_here; k_dflt (refine' itemL (by k_asm) (by k_mem) ?a ?b (by walk_at "pA") ?_; (case a => walk_at "pO"); (case b => walk_at "pO"); k_whole)))
local macro_rules | `(tactic| walk_at "call ref") => `(tactic| (k_here; refine WStop.call (by with_reducible assumption) ?_))

local macro_rules | `(tactic| k_steps) => `(tactic| repeat' (first | (k_unfold; (try dsimp only)) | (k_end; kc_close) | (with_reducible refine flatT ?_; intro _; dsimp only) | walk1 | (dsimp only; walk1) | (leave1; walk_say "STEP leave1"; (try dsimp only)) | fail "no step"))

theorem all_off {tl : List (Addr × Obj)} {D : Addr} (h : ∀ p ∈ tl, p.1 < D) : ∀ p ∈ tl, p.1 ≠ D := fun p hp => Nat.ne_of_lt (h p hp)
local macro_rules | `(tactic| walk_at "pW") => `(tactic| (k_here; refine WStop.intro ?_))
local macro_rules | `(tactic| walk_at "exec While Compare cons nil") => `(tactic| (walk_at "pW"))
local macro_rules | `(tactic| walk_at "exec While BoolOp cons nil") => `(tactic| (walk_at "pW"))
local macro_rules | `(tactic| walk_at "pyIter ref") => `(tactic| (walk_at "pW"))
local macro_rules | `(tactic| walk_at "call ref") => `(tactic| (k_here; (with_reducible show wpAny _ _ (call (Value.ref 84) _) _ _ _); k_dflt (apply effect_spec; walk_at "pB"; k_mem; walk_at "pA"; intro q9 t9 u9 h9 tk9 F9 N9 l9; (try k_lt l9); walk_at "pD")))
local macro_rules | `(tactic| walk_at "call ref") => `(tactic| (k_here; (with_reducible show wpAny _ _ (call (Value.ref 140) _) _ _ _); k_dflt (apply moves_spec; walk_at "pB"; k_mem; walk_at "pA"; intro q9 t9 u9 h9 tk9 F9 N9 l9; (try k_lt l9); walk_at "pD")))
local macro_rules | `(tactic| walk_at "call builtin:len") => `(tactic| (k_here; k_dflt (apply lenL; k_asm; k_mem; walk_at "pA"; walk_at "pO"; k_whole)))
local macro_rules | `(tactic| walk_at "call builtin:list.pop") => `(tactic| (k_here; k_dflt (apply popV; k_asm; k_asm; k_upd; walk_at "pO"; k_whole); intro h9 F9 N9; (try k_sweep)))
local macro_rules | `(tactic| walk_at "call builtin:list.append") => `(tactic| (k_here; k_dflt (apply appendV; k_asm; k_asm; k_upd; walk_at "pO"; k_whole); intro h9 F9 N9; (try k_sweep)))
local macro_rules | `(tactic| walk_at "subscriptTail") => `(tactic| (k_here; k_dflt (refine' dItem (by k_asm) ?p ?d (by walk_at "pA") ?_; (case d => walk_at "pA"); (case p => k_mem); k_whole)))
local macro_rules | `(tactic| walk_at "pI") => `(tactic| (k_asm; (rotate_left 3); walk_at "pA"; (rotate_right 3); k_mem; (iterate 2 walk_at "pA"); k_whole))
local macro_rules | `(tactic| walk_at "compareOp NotIn") => `(tactic| (k_here; k_dflt (first | (apply dNotIn1; walk_at "pI") | (apply dNotIn0; walk_at "pI"))))
local macro_rules | `(tactic| walk_at "setItem ref int") => `(tactic| (k_here; k_dflt (apply dSetNew; k_asm; k_asm; k_updF; walk_at "pA"; walk_at "pA"; walk_at "pO"; k_whole); intro h9 o9 F9 N9 d9; (try dsimp only at N9); (try k_sweep)))
local macro_rules | `(tactic| walk_at "newTuple") => `(tactic| (k_here; k_dflt (refine' kup_newTuple (by k_asm) (by k_asm) ?_ ?z; (case z => kmk_size)); intro D9 h9 F9 N9 l9; (try k_lt l9); (try k_sweep)))

local macro_rules | `(tactic| walk_at "call builtin:sorted") => `(tactic| (walk_at "pW"))

def addN (m : Str → Option Value) : List (Str × Value) → Str → Option Value
  | [] => m
  | p :: r => fun z => if z = p.1 then some p.2 else addN m r z
theorem fr_names {h₀ h : Heap} {L : Addr} {m : Str → Option Value} (ps : List (Str × Value)) (e : ∀ p ∈ ps, m p.1 = some p.2) (F : Fr h₀ L h m) : Fr h₀ L h (addN m ps) := by
  have q : addN m ps = m := by
    induction ps with
    | nil => rfl
    | cons p r ih =>
      funext z
      show (if z = p.1 then some p.2 else addN m r z) = m z
      rw [ih fun p hp => e p (List.mem_cons_of_mem _ hp)]
      by_cases hz : z = p.1
      · rw [if_pos hz, hz, e p (List.mem_cons_self ..)]
      · rw [if_neg hz]
  rw [q]; exact F
theorem fr_names1 {h₀ h : Heap} {L : Addr} {m : Str → Option Value} {x : Str} {u : Option Value} (ps : List (Str × Value)) (e : ∀ p ∈ ps, m p.1 = some p.2) (F : Fr h₀ L h (fun y => if y = x then u else m y)) : Fr h₀ L h (fun y => if y = x then u else addN m ps y) := by
  have q : addN m ps = m := by
    induction ps with
    | nil => rfl
    | cons p r ih =>
      funext z
      show (if z = p.1 then some p.2 else addN m r z) = m z
      rw [ih fun p hp => e p (List.mem_cons_of_mem _ hp)]
      by_cases hz : z = p.1
      · rw [if_pos hz, hz, e p (List.mem_cons_self ..)]
      · rw [if_neg hz]
  rw [q]; exact F
theorem all0 {m : Str → Option Value} : ∀ p ∈ ([] : List (Str × Value)), m p.1 = some p.2 := fun _ h => nomatch h
theorem allC {m : Str → Option Value} {x : Str} {v : Value} {r : List (Str × Value)} (e : m x = some v) (h : ∀ p ∈ r, m p.1 = some p.2) : ∀ p ∈ (x, v) :: r, m p.1 = some p.2 := fun p hp => by
  rcases List.mem_cons.mp hp with q | q
  · subst q; exact e
  · exact h p q
structure HRep (w : World) (news : List (Addr × Obj)) (wl fl d : Addr) (σ : HS) (wvs fvs : List Value) (od : Obj) (kvs : List (Int × Value)) (tl : List (Addr × Obj)) : Prop where
  sub : ∀ p ∈ news, p ∈ tl
  off : OwnOff tl [wl, fl, d]
  wi : IntsAre wvs σ.waiting
  fa : FaultsAre tl fvs σ.faults
  dd : od.IsDictOf (PySem.intKind PR w) kvs
  kv : KvI kvs σ.found
abbrev HLed (wl fl d : Addr) (wvs : List Value) (wn : Nat) (fvs : List Value) (fn : Nat) (od : Obj) (tl : List (Addr × Obj)) : List (Addr × Obj) :=
  (wl, listOf wvs.toArray wn) :: (fl, listOf fvs.toArray fn) :: (d, od) :: tl
def HInv (w : World) (rows : List Row) (news : List (Addr × Obj)) (rl wl fl d : Addr) (n : Nat) (m : Str → Option Value) (nx : List (Addr × Obj)) : Prop :=
  ∃ σ wvs wn fvs fn od kvs tl, nx = HLed wl fl d wvs wn fvs fn od tl ∧ HRep w news wl fl d σ wvs fvs od kvs tl ∧ HOk rows.length σ ∧ (∃ k, σ = Nat.repeat (hNext rows) k hInit) ∧ n = σ.meas rows.length ∧
    m (Str.ofString "rows") = some (.ref rl) ∧ m (Str.ofString "found") = some (.ref d) ∧ m (Str.ofString "faults") = some (.ref fl) ∧ m (Str.ofString "waiting") = some (.ref wl)
theorem HInv.of {w : World} {rows : List Row} {news : List (Addr × Obj)} {rl wl fl d : Addr} {m : Str → Option Value} {σ : HS} {wvs : List Value} {wn : Nat} {fvs : List Value} {fn : Nat} {od : Obj} {kvs : List (Int × Value)} {tl : List (Addr × Obj)}
    (r : HRep w news wl fl d σ wvs fvs od kvs tl) (o : HOk rows.length σ) (k : ∃ k, σ = Nat.repeat (hNext rows) k hInit)
    (e1 : m (Str.ofString "rows") = some (.ref rl)) (e2 : m (Str.ofString "found") = some (.ref d)) (e3 : m (Str.ofString "faults") = some (.ref fl)) (e4 : m (Str.ofString "waiting") = some (.ref wl)) :
    HInv w rows news rl wl fl d (σ.meas rows.length) m (HLed wl fl d wvs wn fvs fn od tl) := ⟨σ, wvs, wn, fvs, fn, od, kvs, tl, rfl, r, o, k, rfl, e1, e2, e3, e4⟩
theorem off3 {tl : List (Addr × Obj)} {a b c : Addr} (h : ∀ p ∈ tl, p.1 < c) (h1 : @LT.lt Nat _ c b) (h2 : @LT.lt Nat _ b a) : OwnOff tl [a, b, c] := by
  intro p hp x hx
  have hc : @LT.lt Nat _ p.1 c := h p hp
  simp only [List.mem_cons, List.not_mem_nil, or_false] at hx
  rcases hx with rfl | rfl | rfl
  · exact Nat.ne_of_lt (Nat.lt_trans (Nat.lt_trans hc h1) h2)
  · exact Nat.ne_of_lt (Nat.lt_trans hc h1)
  · exact Nat.ne_of_lt hc
theorem snoc_cases {α : Type} (l : List α) : l = [] ∨ ∃ p x, l = p ++ [x] := by
  rcases List.eq_nil_or_concat l with h | ⟨p, x, h⟩
  · exact .inl h
  · exact .inr ⟨p, x, by rw [h, List.concat_eq_append]⟩
theorem rowAt_get {rows : List Row} {i : Int} (h0 : 0 ≤ i) (h1 : i < (rows.length : Int)) : rows[i.toNat]? = some (rowAt rows i) := by
  have h : i.toNat < rows.length := by omega
  simp [rowAt, h]
def HInv2 (w : World) (rows : List Row) (news : List (Addr × Obj)) (rl wl fl d q : Addr) (row : Row) (i hgt : Int) (σ0 : HS) (tvs : List Value) (tn : Nat) (j : Nat) (m : Str → Option Value) (nx : List (Addr × Obj)) : Prop :=
  ∃ σ wvs wn fvs fn od kvs tl, nx = (q, listOf tvs.toArray tn) :: HLed wl fl d wvs wn fvs fn od tl ∧ HRep w news wl fl d σ wvs fvs od kvs tl ∧ σ = ((nexts i row).take j).foldl (hTarget rows.length i (hgt + row.moves.2)) σ0 ∧
    m (Str.ofString "rows") = some (.ref rl) ∧ m (Str.ofString "found") = some (.ref d) ∧ m (Str.ofString "faults") = some (.ref fl) ∧ m (Str.ofString "waiting") = some (.ref wl) ∧
    (∃ t, m (Str.ofString "index") = some (.int i t)) ∧ (∃ t, m (Str.ofString "height") = some (.int hgt t)) ∧ (∃ t, m (Str.ofString "given") = some (.int row.moves.2 t))
theorem HInv2.of {w : World} {rows : List Row} {news : List (Addr × Obj)} {rl wl fl d q : Addr} {row : Row} {i hgt : Int} {σ0 : HS} {tvs : List Value} {tn j : Nat} {m : Str → Option Value} {σ : HS} {wvs : List Value} {wn : Nat} {fvs : List Value} {fn : Nat} {od : Obj} {kvs : List (Int × Value)} {tl : List (Addr × Obj)} {t1 t2 t3 : Tok}
    (r : HRep w news wl fl d σ wvs fvs od kvs tl) (e : σ = ((nexts i row).take j).foldl (hTarget rows.length i (hgt + row.moves.2)) σ0)
    (e1 : m (Str.ofString "rows") = some (.ref rl)) (e2 : m (Str.ofString "found") = some (.ref d)) (e3 : m (Str.ofString "faults") = some (.ref fl)) (e4 : m (Str.ofString "waiting") = some (.ref wl))
    (e5 : m (Str.ofString "index") = some (.int i t1)) (e6 : m (Str.ofString "height") = some (.int hgt t2)) (e7 : m (Str.ofString "given") = some (.int row.moves.2 t3)) :
    HInv2 w rows news rl wl fl d q row i hgt σ0 tvs tn j m ((q, listOf tvs.toArray tn) :: HLed wl fl d wvs wn fvs fn od tl) := ⟨σ, wvs, wn, fvs, fn, od, kvs, tl, rfl, r, e, e1, e2, e3, e4, ⟨_, e5⟩, ⟨_, e6⟩, ⟨_, e7⟩⟩
theorem HInv2.step {w : World} {rows : List Row} {news own news' : List (Addr × Obj)} {h₀ h' : Heap} {L : Addr} {s₁ : Shared} {tk : Nat} {rl wl fl d q : Addr} {row : Row} {i hgt : Int} {σ0 : HS} {tvs : List Value} {tn j : Nat} {m : Str → Option Value} {σ : HS} {wvs : List Value} {wn : Nat} {fvs : List Value} {fn : Nat} {od : Obj} {kvs : List (Int × Value)} {tl : List (Addr × Obj)} {t1 t2 t3 : Tok}
    (F : Fr h₀ L h' m) (N : News h₀ L h' news') (ho : ∀ p ∈ own, p ∈ news') (hs : ∀ p ∈ (q, listOf tvs.toArray tn) :: HLed wl fl d wvs wn fvs fn od tl, p ∈ news') (ha : OwnOff own (q :: wl :: fl :: d :: tl.map (·.1)))
    (r : HRep w news wl fl d σ wvs fvs od kvs tl) (e : σ = ((nexts i row).take (j + 1)).foldl (hTarget rows.length i (hgt + row.moves.2)) σ0)
    (e1 : m (Str.ofString "rows") = some (.ref rl)) (e2 : m (Str.ofString "found") = some (.ref d)) (e3 : m (Str.ofString "faults") = some (.ref fl)) (e4 : m (Str.ofString "waiting") = some (.ref wl))
    (e5 : m (Str.ofString "index") = some (.int i t1)) (e6 : m (Str.ofString "height") = some (.int hgt t2)) (e7 : m (Str.ofString "given") = some (.int row.moves.2 t3)) :
    InvEndG h₀ L (fun m' nx => (q, listOf tvs.toArray tn) ∈ nx ∧ HInv2 w rows news rl wl fl d q row i hgt σ0 tvs tn (j + 1) m' nx) own s₁ { s₁ with heap := h', toks := tk } :=
  InvEndG.intro F N ⟨List.Mem.head _, HInv2.of r e e1 e2 e3 e4 e5 e6 e7⟩ ha hs ho
theorem sub_app_l {a b : List (Addr × Obj)} : ∀ p ∈ a, p ∈ a ++ b := fun _ h => List.mem_append_left _ h
theorem sub_app_r {a b : List (Addr × Obj)} : ∀ p ∈ b, p ∈ a ++ b := fun _ h => List.mem_append_right _ h
theorem HInv.step {w : World} {rows : List Row} {news news' : List (Addr × Obj)} {h₀ h' : Heap} {L : Addr} {s : Shared} {tk : Nat} {rl wl fl d : Addr} {i : Int} {m : Str → Option Value} {σ : HS} {wvs : List Value} {wn : Nat} {fvs : List Value} {fn : Nat} {od : Obj} {kvs : List (Int × Value)} {tl : List (Addr × Obj)}
    {f : Tab} {p : List Int} {fs : List (Int × Str)} {k : Nat} {Q : Flow → Shared → Prop}
    (F : Fr h₀ L h' m) (N : News h₀ L h' news') (hs : ∀ p ∈ HLed wl fl d wvs wn fvs fn od tl, p ∈ news') (r : HRep w news wl fl d σ wvs fvs od kvs tl) (ok : HOk rows.length ⟨f, p ++ [i], fs⟩) (hk : ⟨f, p ++ [i], fs⟩ = Nat.repeat (hNext rows) k hInit) (e : σ = hStep rows ⟨f, p ++ [i], fs⟩ p i)
    (e1 : m (Str.ofString "rows") = some (.ref rl)) (e2 : m (Str.ofString "found") = some (.ref d)) (e3 : m (Str.ofString "faults") = some (.ref fl)) (e4 : m (Str.ofString "waiting") = some (.ref wl)) :
    WhileStep2 h₀ L s (HInv w rows news rl wl fl d) Q (HS.meas rows.length ⟨f, p ++ [i], fs⟩) .next { s with heap := h', toks := tk } :=
  ⟨h', tk, m, _, _, rfl, F, dropN N hs, by rw [e]; exact hStep_meas ok, HInv.of r (by rw [e]; exact (hBody_ok ok.pop).1) ⟨k + 1, by rw [e]; show _ = hNext rows (Nat.repeat (hNext rows) k hInit); rw [← hk, hNext_snoc]⟩ e1 e2 e3 e4⟩
theorem HInv.stepC {w : World} {rows : List Row} {news news' : List (Addr × Obj)} {h₀ h' : Heap} {L : Addr} {s : Shared} {tk : Nat} {rl wl fl d : Addr} {i : Int} {m : Str → Option Value} {σ : HS} {wvs : List Value} {wn : Nat} {fvs : List Value} {fn : Nat} {od : Obj} {kvs : List (Int × Value)} {tl : List (Addr × Obj)}
    {f : Tab} {p : List Int} {fs : List (Int × Str)} {k : Nat} {Q : Flow → Shared → Prop}
    (F : Fr h₀ L h' m) (N : News h₀ L h' news') (hs : ∀ p ∈ HLed wl fl d wvs wn fvs fn od tl, p ∈ news') (r : HRep w news wl fl d σ wvs fvs od kvs tl) (ok : HOk rows.length ⟨f, p ++ [i], fs⟩) (hk : ⟨f, p ++ [i], fs⟩ = Nat.repeat (hNext rows) k hInit) (e : σ = hStep rows ⟨f, p ++ [i], fs⟩ p i)
    (e1 : m (Str.ofString "rows") = some (.ref rl)) (e2 : m (Str.ofString "found") = some (.ref d)) (e3 : m (Str.ofString "faults") = some (.ref fl)) (e4 : m (Str.ofString "waiting") = some (.ref wl)) :
    WhileStep2 h₀ L s (HInv w rows news rl wl fl d) Q (HS.meas rows.length ⟨f, p ++ [i], fs⟩) .cont { s with heap := h', toks := tk } :=
  HInv.step (Q := Q) F N hs r ok hk e e1 e2 e3 e4
theorem hStep_at {rows : List Row} {f : Tab} {p : List Int} {i hh : Int} {fs : List (Int × Str)} (e : look f i = some hh) :
    hStep rows ⟨f, p ++ [i], fs⟩ p i = hBody rows.length (rowAt rows i) i (hh - (rowAt rows i).moves.1) ⟨f, p, fs⟩ := by
  unfold hStep; simp only [e, Option.getD_some]
theorem ret_name {row : Row} : (row.tag.name == Str.ofString "return") = row.isRet := by
  have key : ∀ T : Tag, (T.name == Str.ofString "return") = (match T with | .ret => true | _ => false) := by
    intro T; cases T <;> decide +kernel
  rw [key]; cases row <;> rfl
theorem fold_take {α β : Type} {g : β → α → β} {a : β} {ts : List α} {j : Nat} {t : α} (h : ts[j]? = some t) : (ts.take (j + 1)).foldl g a = g ((ts.take j).foldl g a) t := by
  rw [List.take_add_one, h]; simp
theorem HIn.fold {len : Nat} {index up : Int} {ts : List Int} {σ : HS} (h : HIn len 0 σ) (j : Nat) (hj : ts.length ≤ 2) : HIn len 2 ((ts.take j).foldl (hTarget len index up) σ) := by
  have a := (hFold (index := index) (up := up) (ts.take j) h).1
  have hl : (ts.take j).length ≤ 2 := Nat.le_trans (List.length_take_le' _ _) hj
  exact ⟨a.nd, a.rng, a.sub, by have := a.few; omega⟩
theorem OwnOff.left {a b : List (Addr × Obj)} {l : List Addr} (h : OwnOff (a ++ b) l) : OwnOff a l := fun p hp => h p (List.mem_append_left _ hp)
theorem off_cons {p : Addr × Obj} {tl : List (Addr × Obj)} {l : List Addr} (h : ∀ b ∈ l, p.1 ≠ b) (k : OwnOff tl l) : OwnOff (p :: tl) l := fun x hx => by
  rcases List.mem_cons.mp hx with e | e
  · subst e; exact h
  · exact k x e
theorem in3 {a b c x : Addr} (h1 : @LT.lt Nat _ a x) (h2 : @LT.lt Nat _ b x) (h3 : @LT.lt Nat _ c x) : ∀ y ∈ [a, b, c], x ≠ y := by
  intro y hy
  simp only [List.mem_cons, List.not_mem_nil, or_false] at hy
  rcases hy with rfl | rfl | rfl
  · exact Nat.ne_of_gt h1
  · exact Nat.ne_of_gt h2
  · exact Nat.ne_of_gt h3
theorem off_sub {own : List (Addr × Obj)} {l l' : List Addr} (h : OwnOff own l) (k : ∀ b ∈ l', b ∈ l) : OwnOff own l' := fun p hp b hb => h p hp b (k b hb)
theorem off_new {own : List (Addr × Obj)} {l l2 : List Addr} {D : Addr} (h : OwnOff own (l ++ l2)) (k : ∀ p ∈ own, p.1 < D) : OwnOff own (l ++ D :: l2) := fun p hp b hb => by
  rcases List.mem_append.mp hb with q | q
  · exact h p hp b (List.mem_append_left _ q)
  · rcases List.mem_cons.mp q with e | q
    · subst e; exact Nat.ne_of_lt (k p hp)
    · exact h p hp b (List.mem_append_right _ q)
set_option maxHeartbeats 8000000 in
theorem heights_spec {w : World} {mean : ExcName → Option Value} {mg mb : Str → Option Value} {dp un : Nat} {gd : Option (List Code)} {cn : Str} {cs : Scope} {a : Addr} {ccd : Value} {cl : List (Str × Addr)} {outer : List Env} {A₀ : Around} {base h₀ : Heap} {L : Addr} {m : Str → Option Value} {news : List (Addr × Obj)} {s : Shared} {Q E : Value → Shared → Prop} {rl rvs rn rows} (B : Below A₀ base outer h₀) (F : Fr h₀ L s.heap m) (X : (hd.heap_39 w.params).In h₀) (N : News h₀ L s.heap news) (T : Top hd.view_39 (looseW hd.view_39 []) mean mg mb h₀) (hk : cs.kind = .function) (hd : dp + 3 < recursionLimit) (_hu : un + 24 < cLine)
   (hl : (rl, listOf rvs.toArray rn) ∈ news) (hR : RowsAre news rvs rows) (hlen : rows.length < 32) (hne : 0 < rows.length)
   (ret : ∀ (q sl d : Addr) (svs : List Value) (c : Nat) (od : Obj) (kvs : List (Int × Value)) (σ : HS) (h' : Heap) (tk : Nat), σ.waiting = [] → (∃ k, σ = Nat.repeat (hNext rows) k hInit) → HOk rows.length σ → od.IsDictOf (PySem.intKind PR w) kvs → KvI kvs σ.found → (d == sysModules) = false → svs.length = σ.faults.length →
     Fr h₀ L h' m → News h₀ L h' ((q, tupOf [.ref d, .ref sl] 0) :: (sl, listOf svs.toArray c) :: (d, od) :: news) → (∀ p ∈ news, p.1 < d) → @LT.lt Nat _ d sl → @LT.lt Nat _ sl q → Q (.ref q) {s with heap := h', toks := tk}) :
   wpAny (model PR w) (ktrTop dp un gd cn cs L a ccd cl outer) (call (.ref 98) [.ref rl]) Q E s := by
  have hrl : rvs.length = rows.length := hR.length
  refine wpAny_call ?_
  k_dflt ktr_enter
  k_steps
  · exfalso; omega
  refine WStop.mk ?_
  rename News _ _ _ _ => N1
  rename Fr _ _ _ _ => F1
  rename Obj.IsDictOf _ _ _ => hd1
  rename (_ == sysModules) = false => lo1
  k_dflt (refine While_inv2 (n₀ := hInit.meas rows.length) (HInv w rows news rl _ _ _) F1 N1 (HInv.of (fvs := []) ⟨fun _ h => h, off3 ?o0 ?o1 ?o2, .cons _ _ .nil, .nil, hd1, .cons .nil⟩ (hInit_ok hne) ⟨0, rfl⟩ rfl rfl rfl rfl) ?_ ?hE)
  case hE => first | passes_own | with_unfolding_all passes_own
  case o0 => assumption
  case o1 => omega
  case o2 => omega
  rename PyProof.V.FlatPairs _ _ _ => hfp1
  clear hfp1 hd1
  intro n m1 nx h tk F2 N2 hI
  obtain ⟨σ, wvs, wn, fvs, fn, od, kvs, tl, rfl, R, ok, ⟨k, hk⟩, rfl, e1, e2, e3, e4⟩ := hI
  replace F2 := fr_names _ (allC e1 (allC e2 (allC e3 (allC e4 all0)))) F2
  dsimp only [addN] at F2
  obtain ⟨f, wt, fs⟩ := σ
  obtain ⟨sub, off, wi, fa, dd, kv⟩ := R
  dsimp only [HLed] at N2 wi fa kv
  rcases snoc_cases wt with rfl | ⟨p, i, rfl⟩
  · cases wi
    have hwl : ([] : List Value).length = 0 := rfl
    have hfl : fvs.length = fs.length := fa.length
    have hsz := ok.size
    have hfew := ok.few
    simp only [List.length_nil] at hfew hsz
    k_steps
    refine WStop.mk ?_
    k_dflt (refine' sorted_faults ?qqF ?qqN ?qql ?qqf ?qqz ?_; (case qqF => k_asm); (case qqN => k_asm); (case qql => exact News.isList (by k_asm) (by k_mem)); (case qqf => (refine FaultsAre.mono ?_ (by assumption); (repeat (first | with_reducible exact sub_refl | with_reducible refine sub_tail ?_)))); (case qqz => omega))
    intro D9 v9 c9 h9 F9 N9 l9 e9
    (try k_lt l9)
    (try k_sweep)
    k_steps
    (rename News _ _ _ _ => N5)
    refine ret _ _ _ _ _ od kvs ⟨f, [], fs⟩ _ _ rfl ⟨k, hk⟩ ok dd kv lo1 ?e5 (by k_asm) (dropN N5 (sub_cons (by k_mem) (sub_cons (by k_mem) (sub_cons (by k_mem) (sub_tail (sub_tail (sub_tail (sub_tail (sub_tail sub))))))))) (by assumption) ?l5 ?l6
    case e5 => simp only; omega
    case l5 => omega
    case l6 => omega
  · obtain ⟨us, ti, rfl, wi'⟩ := ints_snoc_inv wi
    have hwl : (us ++ [Value.int i ti]).length = p.length + 1 := by simp [wi'.length]
    have hul : us.length = p.length := wi'.length
    have hkl : kvs.length = f.length := kv.length
    have hfl : fvs.length = fs.length := fa.length
    have hsz := ok.size
    have hfew := ok.few
    have hik := ok.sub i (by simp)
    obtain ⟨h0, h1⟩ := ok.rng i hik
    have hi := rowAt_get h0 h1
    have hRt : RowsAre tl rvs rows := hR.mono sub
    obtain ⟨r, ru, rk, hget, hr, hm⟩ := hRt.get hi
    obtain ⟨rt, rtl, hv⟩ := hr.head
    have hm2 : (r, tupOf (.str (rowAt rows i).tag.name rt :: rtl) rk) ∈ tl := hv ▸ hm
    obtain ⟨hh, hlk⟩ : ∃ hh, look f i = some hh := Option.isSome_iff_exists.mp (look_isSome_iff.mpr hik)
    obtain ⟨ht, hva⟩ := kv.some hlk
    have hl2 := sub _ hl
    simp only [List.length_append, List.length_singleton] at hfew hsz
    have z1 := lt16 hfl (ltB hfew hsz hlen).1
    have z2 := lt16 hul (ltB hfew hsz hlen).2
    have z3 := lt62 (ltB hfew hsz hlen).2
    have z4 := (ltR hlen).1
    have z6 := ltI h1 hlen
    have hfold := fun σ (h : HIn rows.length 0 σ) => HIn.fold (index := i) (up := hh - (rowAt rows i).moves.1 + (rowAt rows i).moves.2) (ts := nexts i (rowAt rows i)) h
    have hin := ok.pop
    have hnl := nexts_length i (rowAt rows i)
    have c1 : CutCall 91 := ⟨⟩
    k_steps
    · (rename News _ _ _ _ => N5; rename Fr _ _ _ _ => F5; rename _ ∧ _ => l5)
      dsimp only
      refine HInv.stepC (σ := ⟨f, p, fs ++ [(i, _)]⟩) (fvs := fvs ++ [.ref _]) (tl := (_, tupOf [.int i _, .str _ _] 0) :: tl) F5 N5 (sub_cons (by k_mem) (sub_cons (by k_mem) (sub_cons (by k_mem) (sub_cons (by k_mem) (sub_tail (sub_tail (sub_tail (sub_tail (sub_tail sub_refl))))))))) ⟨fun p hp => List.Mem.tail _ (sub p hp), off_cons (in3 ?a1 ?a2 ?a3) off, wi', (fa.mono fun p hp => List.Mem.tail _ hp).snoc (List.Mem.head _), dd, kv⟩ ok hk ?eq rfl rfl rfl rfl
      case a1 => omega
      case a2 => omega
      case a3 => omega
      case eq =>
        rw [hStep_at hlk]
        simp only [hBody]
        rw [if_pos (by assumption)]
    · refine WStop.mk ?_
      k_dflt (apply next_rows_spec; (iterate 5 k_asm); (first | exact rfl | assumption); ktr_room; ktr_units; k_mem; (refine RowsAre.mono ?_ (by assumption); (repeat (first | with_reducible exact sub_refl | with_reducible refine sub_tail ?_))); with_reducible assumption; with_reducible assumption; (with_reducible assumption); intro q9 vs9 n9 h9 tk9 i9 F9 N9 l9; (try k_lt l9); (try dsimp only); (try k_fold))
      k_steps
      refine WStop.mk ?_
      rename News _ _ _ _ => N3
      rename Fr _ _ _ _ => F3
      rename IntsAre _ (nexts _ _) => iv
      have hret : (rowAt rows i).isRet = true := by rw [← ret_name]; assumption
      have hnil : nexts i (rowAt rows i) = [] := nexts_ret i hret
      k_dflt (refine kdl_iter (HInv2 w rows news rl _ _ _ _ (rowAt rows i) i (hh - (rowAt rows i).moves.1) ⟨f, p, fs ++ [(i, Str.ofString "return")]⟩ _ _) (by rfl) (List.Mem.head _) F3 (dropN (news := (_, listOf _ _) :: HLed _ _ _ us (wn + 1) (fvs ++ [.ref _]) _ od ((_, tupOf [.int i _, .str _ _] 0) :: tl)) N3 (sub_cons (by k_mem) (sub_cons (by k_mem) (sub_cons (by k_mem) (sub_cons (by k_mem) (sub_cons (by k_mem) ?tls7)))))) (HInv2.of ⟨fun p hp => List.Mem.tail _ (sub p hp), off_cons (in3 ?a17 ?a27 ?a37) off, wi', (fa.mono fun p hp => List.Mem.tail _ hp).snoc (List.Mem.head _), dd, kv⟩ rfl rfl rfl rfl rfl rfl rfl rfl) ?turn7 ?done7)
      case tls7 => (repeat (first | with_reducible exact sub_refl | with_reducible refine sub_tail ?_))
      case a17 => omega
      case a27 => omega
      case a37 => omega
      case turn7 =>
        intro j v m2 nx h2 tk2 own hv hoff hmem hI F4 N4
        exfalso
        rw [hnil] at iv
        cases iv
        simp at hv
      case done7 =>
        intro m2 nx h2 tk2 hI F4 N4
        obtain ⟨σ, wvs, wn, fvs, fn, od, kvs, tl, rfl, R, eσ, e1, e2, e3, e4, ⟨t1, e5⟩, ⟨t2, e6⟩, ⟨t3, e7⟩⟩ := hI
        refine wpAny_execs_nil ?_
        dsimp only [envOf] at F4
        dsimp only
        refine HInv.step F4 N4 (fun _ hp => List.Mem.tail _ hp) R ok hk ?eq7 e1 e2 e3 e4
        rw [hStep_at hlk, eσ, iv.length, List.take_length]
        simp only [hBody, hMid, hret]
        rw [if_neg (by assumption), if_pos ⟨trivial, by assumption⟩]
    · refine WStop.mk ?_
      k_dflt (apply next_rows_spec; (iterate 5 k_asm); (first | exact rfl | assumption); ktr_room; ktr_units; k_mem; (refine RowsAre.mono ?_ (by assumption); (repeat (first | with_reducible exact sub_refl | with_reducible refine sub_tail ?_))); with_reducible assumption; with_reducible assumption; (with_reducible assumption); intro q9 vs9 n9 h9 tk9 i9 F9 N9 l9; (try k_lt l9); (try dsimp only); (try k_fold))
      k_steps
      refine WStop.mk ?_
      rename News _ _ _ _ => N3
      rename Fr _ _ _ _ => F3
      rename IntsAre _ (nexts _ _) => iv
      have hret : (rowAt rows i).isRet = true := by rw [← ret_name]; assumption
      have hnil : nexts i (rowAt rows i) = [] := nexts_ret i hret
      k_dflt (refine kdl_iter (HInv2 w rows news rl _ _ _ _ (rowAt rows i) i (hh - (rowAt rows i).moves.1) ⟨f, p, fs⟩ _ _) (by rfl) (List.Mem.head _) F3 (dropN (news := (_, listOf _ _) :: HLed _ _ _ us (wn + 1) fvs fn od tl) N3 (sub_cons (by k_mem) (sub_cons (by k_mem) (sub_cons (by k_mem) (sub_cons (by k_mem) ?tls8))))) (HInv2.of ⟨sub, off, wi', fa, dd, kv⟩ rfl rfl rfl rfl rfl rfl rfl rfl) ?turn8 ?done8)
      case tls8 => (repeat (first | with_reducible exact sub_refl | with_reducible refine sub_tail ?_))
      case turn8 =>
        intro j v m2 nx h2 tk2 own hv hoff hmem hI F4 N4
        exfalso
        rw [hnil] at iv
        cases iv
        simp at hv
      case done8 =>
        intro m2 nx h2 tk2 hI F4 N4
        obtain ⟨σ, wvs, wn, fvs, fn, od, kvs, tl, rfl, R, eσ, e1, e2, e3, e4, ⟨t1, e5⟩, ⟨t2, e6⟩, ⟨t3, e7⟩⟩ := hI
        refine wpAny_execs_nil ?_
        dsimp only [envOf] at F4
        dsimp only
        refine HInv.step F4 N4 (fun _ hp => List.Mem.tail _ hp) R ok hk ?eq8 e1 e2 e3 e4
        rw [hStep_at hlk, eσ, iv.length, List.take_length]
        simp only [hBody, hMid, hret]
        rw [if_neg (by assumption), if_neg (fun q => q.2 (by assumption))]
    · refine WStop.mk ?_
      k_dflt (apply next_rows_spec; (iterate 5 k_asm); (first | exact rfl | assumption); ktr_room; ktr_units; k_mem; (refine RowsAre.mono ?_ (by assumption); (repeat (first | with_reducible exact sub_refl | with_reducible refine sub_tail ?_))); with_reducible assumption; with_reducible assumption; (with_reducible assumption); intro q9 vs9 n9 h9 tk9 i9 F9 N9 l9; (try k_lt l9); (try dsimp only); (try k_fold))
      k_steps
      refine WStop.mk ?_
      rename News _ _ _ _ => N3
      rename Fr _ _ _ _ => F3
      rename IntsAre _ (nexts _ _) => iv
      k_dflt (refine kdl_iter (HInv2 w rows news rl _ _ _ _ (rowAt rows i) i (hh - (rowAt rows i).moves.1) ⟨f, p, fs⟩ _ _) (by rfl) (List.Mem.head _) F3 (dropN (news := (_, listOf _ _) :: HLed _ _ _ us (wn + 1) fvs fn od tl) N3 (sub_cons (by k_mem) (sub_cons (by k_mem) (sub_cons (by k_mem) (sub_cons (by k_mem) ?tls))))) (HInv2.of ⟨sub, off, wi', fa, dd, kv⟩ rfl rfl rfl rfl rfl rfl rfl rfl) ?turn ?done)
      case tls => (repeat (first | with_reducible exact sub_refl | with_reducible refine sub_tail ?_))
      case turn =>
        intro j v m2 nx h2 tk2 own hv hoff hmem hI F4 N4
        obtain ⟨σ, wvs, wn, fvs, fn, od, kvs, tl, rfl, R, eσ, e1, e2, e3, e4, ⟨t1, e5⟩, ⟨t2, e6⟩, ⟨t3, e7⟩⟩ := hI
        have hjl : j < (nexts i (rowAt rows i)).length := by rw [← iv.length]; exact (List.getElem?_eq_some_iff.mp hv).1
        obtain ⟨tt, hx⟩ := iv.get j _ (List.getElem?_eq_getElem hjl)
        rw [hx] at hv
        cases hv
        obtain ⟨tgt, htg⟩ : ∃ tgt, (nexts i (rowAt rows i))[j] = tgt := ⟨_, rfl⟩
        have hget2 : (nexts i (rowAt rows i))[j]? = some tgt := by rw [List.getElem?_eq_getElem hjl, htg]
        rw [htg] at F4 hx
        have hin2 : HIn rows.length 2 σ := by rw [eσ]; exact hfold _ hin j hnl
        replace F4 := fr_names1 _ (allC e1 (allC e2 (allC e3 (allC e4 (allC e5 (allC e6 (allC e7 all0))))))) F4
        dsimp only [addN, envOf] at F4
        clear off wi' fa dd kv hva hlk hwl sub hR hRt hkl hfl hul hsz hfew hv
        obtain ⟨f2, w2, fs2⟩ := σ
        obtain ⟨sub, off, wi, fa, dd, kv⟩ := R
        simp only [HLed, List.map_cons, List.cons_append, envOf] at N4 wi fa kv hoff
        have hoffo : OwnOff own [_, _, _] := off_sub (l' := [_, _, _]) hoff (by
          intro b hb
          exact List.Mem.tail _ (by
            simp only [List.mem_cons, List.not_mem_nil, or_false] at hb
            rcases hb with h | h | h
            · subst h; exact List.Mem.head _
            · subst h; exact List.Mem.tail _ (List.Mem.head _)
            · subst h; exact List.Mem.tail _ (List.Mem.tail _ (List.Mem.head _))))
        have hoff4 := kd_off hoffo off
        have hkl : kvs.length = f2.length := kv.length
        have hfl : fvs.length = fs2.length := fa.length
        have hwl : wvs.length = w2.length := wi.length
        have hsz := hin2.size
        have hfew := hin2.few
        simp only at hsz hfew
        have z1 := lt16 hfl (ltT hfew hsz hlen).1
        have z2 := lt16 hwl (ltT hfew hsz hlen).2
        have z3 := lt16 hkl (lt64 hsz hlen)
        have z4 := (ltR hlen).2
        have hlm : (rl, listOf rvs.toArray rn) ∈ tl ++ own := List.mem_append_left _ (sub _ hl)
        by_cases hb : tgt < 0 ∨ (rows.length : Int) ≤ tgt
        · k_steps
          all_goals
           (rename News _ _ _ _ => N5; rename Fr _ _ _ _ => F5; rename _ ∧ _ => l5; refine HInv2.step (σ := ⟨f2, w2, fs2 ++ [(i, _)]⟩) (fvs := fvs ++ [.ref _]) (tl := (_, tupOf [.int i _, .str _ _] 0) :: tl) F5 N5 ?ho (sub_cons (by k_mem) (sub_cons (by k_mem) (sub_cons (by k_mem) (sub_cons (by k_mem) (sub_cons (by k_mem) (sub_tail (sub_tail (sub_tail (sub_tail (sub_tail sub_app_l)))))))))) ?ha ⟨fun p hp => List.Mem.tail _ (sub p hp), off_cons (in3 ?a1 ?a2 ?a3) off, wi, (fa.mono fun p hp => List.Mem.tail _ hp).snoc (List.Mem.head _), dd, kv⟩ ?eq rfl rfl rfl rfl rfl rfl rfl; (case ho => exact sub_tail (sub_tail (sub_tail (sub_tail (sub_tail sub_app_r))))); (case ha => exact off_new (l := [_, _, _, _]) hoff fun p hp => allLt_at l5.2.2.2.2 p (List.mem_append_right _ hp)); (case a1 => omega); (case a2 => omega); (case a3 => omega); (case eq => (rw [fold_take hget2, ← eσ]; simp only [hTarget, if_pos hb])))
        · cases hlt : look f2 tgt with
          | none =>
            have hva := kv.none hlt
            k_steps
            (rename News _ _ _ _ => N5; rename Fr _ _ _ _ => F5; rename Obj.IsDictOf _ _ _ => d5; refine HInv2.step (σ := ⟨f2 ++ [(tgt, _)], w2 ++ [tgt], fs2⟩) F5 N5 ?ho (sub_cons (by k_mem) (sub_cons (by k_mem) (sub_cons (by k_mem) (sub_cons (by k_mem) (sub_tail (sub_tail (sub_tail (sub_tail sub_app_l)))))))) hoff ⟨sub, off, ints_snoc wi, fa, d5, kv.snoc⟩ ?eq rfl rfl rfl rfl rfl rfl rfl; (case ho => exact sub_tail (sub_tail (sub_tail (sub_tail sub_app_r)))); (case eq => (rw [fold_take hget2, ← eσ]; simp only [hTarget, if_neg hb, hlt])))
          | some h3 =>
            obtain ⟨t4, hva⟩ := kv.some hlt
            k_steps
            · (rename News _ _ _ _ => N5; rename Fr _ _ _ _ => F5; rename _ ∧ _ => l5; refine HInv2.step (σ := ⟨f2, w2, fs2 ++ [(i, _)]⟩) (fvs := fvs ++ [.ref _]) (tl := (_, tupOf [.int i _, .str _ _] 0) :: tl) F5 N5 ?ho (sub_cons (by k_mem) (sub_cons (by k_mem) (sub_cons (by k_mem) (sub_cons (by k_mem) (sub_cons (by k_mem) (sub_tail (sub_tail (sub_tail (sub_tail (sub_tail sub_app_l)))))))))) ?ha ⟨fun p hp => List.Mem.tail _ (sub p hp), off_cons (in3 ?a1 ?a2 ?a3) off, wi, (fa.mono fun p hp => List.Mem.tail _ hp).snoc (List.Mem.head _), dd, kv⟩ ?eq rfl rfl rfl rfl rfl rfl rfl; (case ho => exact sub_tail (sub_tail (sub_tail (sub_tail (sub_tail sub_app_r))))); (case ha => exact off_new (l := [_, _, _, _]) hoff fun p hp => allLt_at l5.2.2.2.2 p (List.mem_append_right _ hp)); (case a1 => omega); (case a2 => omega); (case a3 => omega); (case eq => (rw [fold_take hget2, ← eσ]; simp only [hTarget, if_neg hb, hlt]; rw [if_neg (by assumption)])))
            · (rename News _ _ _ _ => N5; rename Fr _ _ _ _ => F5; refine HInv2.step (σ := ⟨f2, w2, fs2⟩) F5 N5 ?ho (sub_cons (by k_mem) (sub_cons (by k_mem) (sub_cons (by k_mem) (sub_cons (by k_mem) (sub_tail (sub_tail (sub_tail (sub_tail sub_app_l)))))))) hoff ⟨sub, off, wi, fa, dd, kv⟩ ?eq rfl rfl rfl rfl rfl rfl rfl; (case ho => exact sub_tail (sub_tail (sub_tail (sub_tail sub_app_r)))); (case eq => (rw [fold_take hget2, ← eσ]; simp only [hTarget, if_neg hb, hlt]; rw [if_pos (by assumption)])))
      case done =>
        intro m2 nx h2 tk2 hI F4 N4
        obtain ⟨σ, wvs, wn, fvs, fn, od, kvs, tl, rfl, R, eσ, e1, e2, e3, e4, ⟨t1, e5⟩, ⟨t2, e6⟩, ⟨t3, e7⟩⟩ := hI
        refine wpAny_execs_nil ?_
        dsimp only [envOf] at F4
        dsimp only
        refine HInv.step F4 N4 (fun _ hp => List.Mem.tail _ hp) R ok hk ?eq e1 e2 e3 e4
        have hret : (rowAt rows i).isRet = false := by rw [← ret_name]; assumption
        rw [hStep_at hlk, eσ, iv.length, List.take_length]
        simp only [hBody, hMid, hret, Bool.false_eq_true, false_and, if_false]
        rw [if_neg (by assumption)]
end part_M5
section part_P2
/- the second walk: _law_ways -/
structure WS where
  meets : Tab
  fresh : List (Int × Int)
  good : Bool
def wEnd (len up : Int) (σ : WS) (t : Int) : Option WS :=
  if t < 0 ∨ len ≤ t then none
  else match look σ.meets t with
    | none => some { σ with meets := σ.meets ++ [(t, up)], fresh := σ.fresh ++ [(t, up)] }
    | some h => some (if h = up then σ else { σ with good := false })
def wBody (len : Int) (row : Row) (spot high : Int) (σ : WS) : Option WS :=
  if high < row.moves.1 ∨ (row.isRet = true ∧ high ≠ 1) then none
  else (nexts spot row).foldlM (wEnd len (high - row.moves.1 + row.moves.2)) σ
def wNext (rows : List Row) (σ : WS) : Option WS := match σ.fresh.getLast? with
  | none => some σ
  | some p => wBody rows.length (rowAt rows p.1) p.1 p.2 { σ with fresh := σ.fresh.dropLast }
def wInit : WS := ⟨[(0, 0)], [(0, 0)], true⟩
def wRun (rows : List Row) : Nat → Option WS
  | 0 => some wInit
  | k + 1 => (wRun rows k).bind fun σ => if σ.good = true then wNext rows σ else some σ
theorem wNext_snoc {rows : List Row} {f : Tab} {p : List (Int × Int)} {x : Int × Int} {g : Bool} : wNext rows ⟨f, p ++ [x], g⟩ = wBody rows.length (rowAt rows x.1) x.1 x.2 ⟨f, p, g⟩ := by
  unfold wNext
  simp

structure WOk (len : Nat) (σ : WS) : Prop where
  nd : (σ.meets.map (·.1)).Nodup
  rng : ∀ k ∈ σ.meets.map (·.1), 0 ≤ k ∧ k < (len : Int)
  sub : ∀ p ∈ σ.fresh, p.1 ∈ σ.meets.map (·.1)
  few : σ.fresh.length ≤ σ.meets.length
theorem WOk.size {len : Nat} {σ : WS} (h : WOk len σ) : σ.meets.length ≤ len := by
  have := nodup_range_length len (σ.meets.map (·.1)) h.nd h.rng
  simpa using this
def WS.meas (len : Nat) (σ : WS) : Nat := 2 * (len - σ.meets.length) + σ.fresh.length
theorem WOk.endd {len : Nat} {σ τ : WS} {up t : Int} (h : WOk len σ) (e : wEnd len up σ t = some τ) : WOk len τ ∧ τ.meas len ≤ σ.meas len := by
  obtain ⟨h1, h2, h3, h4⟩ := h
  have hs := WOk.size ⟨h1, h2, h3, h4⟩
  unfold wEnd at e
  split at e
  · cases e
  · rename_i hb
    split at e
    · rename_i el
      have hn := look_none_iff.mp el
      cases e
      have ok : WOk len { σ with meets := σ.meets ++ [(t, up)], fresh := σ.fresh ++ [(t, up)] } := by
        refine ⟨?_, ?_, ?_, by simpa using h4⟩
        · rw [List.map_append, List.nodup_append]
          refine ⟨h1, by simp, ?_⟩
          intro a ha b hb
          simp only [List.map_cons, List.map_nil, List.mem_singleton] at hb
          exact fun e => hn (hb ▸ e ▸ ha)
        · intro k hk
          rw [List.map_append] at hk
          rcases List.mem_append.mp hk with hk | hk
          · exact h2 k hk
          · simp only [List.map_cons, List.map_nil, List.mem_singleton] at hk
            subst hk; omega
        · intro k hk
          rw [List.map_append]
          rcases List.mem_append.mp hk with hk | hk
          · exact List.mem_append_left _ (h3 k hk)
          · exact List.mem_append_right _ (by simp at hk; simp [hk])
      refine ⟨ok, ?_⟩
      have hs2 := ok.size
      unfold WS.meas
      simp only [List.length_append, List.length_singleton] at hs2 ⊢
      omega
    · cases e
      split
      · exact ⟨⟨h1, h2, h3, h4⟩, Nat.le_refl _⟩
      · exact ⟨⟨h1, h2, h3, h4⟩, Nat.le_refl _⟩
theorem wFold {len : Nat} {up : Int} : ∀ (ts : List Int) {σ τ : WS}, WOk len σ → ts.foldlM (wEnd len up) σ = some τ → WOk len τ ∧ τ.meas len ≤ σ.meas len
  | [], σ, τ, h, e => by cases e; exact ⟨h, Nat.le_refl _⟩
  | t :: r, σ, τ, h, e => by
    rw [List.foldlM_cons] at e
    cases q : wEnd len up σ t with
    | none => rw [q] at e; cases e
    | some ρ =>
      rw [q] at e
      have a := h.endd q
      have b := wFold r a.1 e
      exact ⟨b.1, Nat.le_trans b.2 a.2⟩
theorem wFold_take {len up : Int} {σ : WS} : ∀ {ts : List Int} {j : Nat} {t : Int} {τ : WS}, ts[j]? = some t → (ts.take j).foldlM (wEnd len up) σ = some τ → (ts.take (j + 1)).foldlM (wEnd len up) σ = wEnd len up τ t := by
  intro ts j t τ h e
  rw [List.take_add_one, h, List.foldlM_append, e]
  show (wEnd len up τ t >>= fun x => pure x) = _
  simp
theorem wFold_none {len up : Int} {σ : WS} {ts : List Int} {j : Nat} (e : (ts.take j).foldlM (wEnd len up) σ = none) : ts.foldlM (wEnd len up) σ = none := by
  have h := List.take_append_drop j ts
  rw [← h, List.foldlM_append, e]
  rfl
theorem WOk.pop {len : Nat} {f : Tab} {p : List (Int × Int)} {x : Int × Int} {g : Bool} (h : WOk len ⟨f, p ++ [x], g⟩) : WOk len ⟨f, p, g⟩ :=
  ⟨h.nd, h.rng, fun k hk => h.sub k (List.mem_append_left _ hk), by have := h.few; simp only [List.length_append, List.length_singleton] at this ⊢; omega⟩
theorem wInit_ok {len : Nat} (h : 0 < len) : WOk len wInit := by
  refine ⟨by simp [wInit], ?_, ?_, by simp [wInit]⟩
  · intro k hk; simp [wInit] at hk; subst hk; omega
  · intro k hk; simp [wInit] at hk; simp [wInit, hk]
/-- one of the ways is unsound -/
def WBad (rows : List Row) : Prop := ∃ k τ, wRun rows k = some τ ∧ (τ.good = false ∨ (τ.good = true ∧ wNext rows τ = none))
/-- every way is sound: the walk ends with these heights -/
def WGood (rows : List Row) (meets : Tab) : Prop := ∃ k, wRun rows k = some ⟨meets, [], true⟩

/- THE TWO WALKS GO IN STEP -/
theorem hTarget_faults {len i up : Int} {σ : HS} {t : Int} (h : σ.faults ≠ []) : (hTarget len i up σ t).faults ≠ [] := by
  unfold hTarget
  split
  · simp
  · split
    · exact h
    · split
      · exact h
      · simp
theorem hFold_faults {len i up : Int} : ∀ (ts : List Int) {σ : HS}, σ.faults ≠ [] → (ts.foldl (hTarget len i up) σ).faults ≠ []
  | [], _, h => h
  | _ :: r, _, h => hFold_faults r (hTarget_faults h)
theorem hNext_faults {rows : List Row} {σ : HS} (h : σ.faults ≠ []) : (hNext rows σ).faults ≠ [] := by
  unfold hNext
  split
  · exact h
  · unfold hStep hBody
    split
    · simp
    · refine hFold_faults _ ?_
      unfold hMid
      split
      · simp
      · exact h
theorem hRun_faults {rows : List Row} {k : Nat} (h : (Nat.repeat (hNext rows) k hInit).faults ≠ []) : ∀ j, (Nat.repeat (hNext rows) (k + j) hInit).faults ≠ []
  | 0 => h
  | j + 1 => hNext_faults (hRun_faults h j)
theorem hNext_nil {rows : List Row} {σ : HS} (h : σ.waiting = []) : hNext rows σ = σ := by
  unfold hNext; rw [h]; rfl
theorem hRun_stuck {rows : List Row} {k : Nat} (h : (Nat.repeat (hNext rows) k hInit).waiting = []) : ∀ j, Nat.repeat (hNext rows) (k + j) hInit = Nat.repeat (hNext rows) k hInit
  | 0 => rfl
  | j + 1 => by
    show hNext rows (Nat.repeat (hNext rows) (k + j) hInit) = _
    rw [hRun_stuck h j]
    exact hNext_nil h
theorem hRun_end {rows : List Row} {k j : Nat} (hk : (Nat.repeat (hNext rows) k hInit).waiting = []) (hj : (Nat.repeat (hNext rows) j hInit).faults ≠ []) : (Nat.repeat (hNext rows) k hInit).faults ≠ [] := by
  rcases Nat.le_total k j with h | h
  · obtain ⟨d, rfl⟩ := Nat.exists_eq_add_of_le h
    rw [hRun_stuck hk d] at hj; exact hj
  · obtain ⟨d, rfl⟩ := Nat.exists_eq_add_of_le h
    exact hRun_faults hj d

/-- in step: no fault yet, the same table, the same places waiting, their heights told by the table -/
def Sim (τ : WS) (σ : HS) : Prop := σ = ⟨τ.meets, τ.fresh.map (·.1), []⟩ ∧ ∀ p ∈ τ.fresh, look τ.meets p.1 = some p.2
theorem sim_end {len i up : Int} {τ : WS} {σ : HS} {t : Int} (S : Sim τ σ) (g : τ.good = true) :
    match wEnd len up τ t with
    | none => (hTarget len i up σ t).faults ≠ []
    | some τ' => (τ'.good = true ∧ Sim τ' (hTarget len i up σ t)) ∨ (τ'.good = false ∧ (hTarget len i up σ t).faults ≠ []) := by
  obtain ⟨rfl, hc⟩ := S
  unfold wEnd hTarget
  by_cases hb : t < 0 ∨ len ≤ t
  · rw [if_pos hb, if_pos hb]; simp
  · rw [if_neg hb, if_neg hb]
    simp only
    cases hl : look τ.meets t with
    | none =>
      refine .inl ⟨g, ?_, ?_⟩
      · simp
      · intro p hp
        rcases List.mem_append.mp hp with hp | hp
        · exact look_append_old (hc p hp)
        · simp at hp; subst hp; exact look_append_new hl
    | some h =>
      by_cases hu : h = up
      · simp only [if_pos hu]; exact .inl ⟨g, rfl, hc⟩
      · simp only [if_neg hu]; exact .inr ⟨trivial, by simp⟩
theorem wEnd_bad {len up : Int} {τ τ' : WS} {t : Int} (g : τ.good = false) (e : wEnd len up τ t = some τ') : τ'.good = false := by
  unfold wEnd at e
  split at e
  · cases e
  · split at e
    · cases e; exact g
    · cases e; split
      · exact g
      · rfl
theorem wFold_bad {len up : Int} : ∀ (ts : List Int) {τ τ' : WS}, τ.good = false → ts.foldlM (wEnd len up) τ = some τ' → τ'.good = false
  | [], _, _, g, e => by cases e; exact g
  | t :: r, τ, τ', g, e => by
    rw [List.foldlM_cons] at e
    cases q : wEnd len up τ t with
    | none => rw [q] at e; cases e
    | some ρ => rw [q] at e; exact wFold_bad r (wEnd_bad g q) e
theorem sim_fold {len i up : Int} : ∀ (ts : List Int) {τ : WS} {σ : HS}, Sim τ σ → τ.good = true →
    match ts.foldlM (wEnd len up) τ with
    | none => (ts.foldl (hTarget len i up) σ).faults ≠ []
    | some τ' => (τ'.good = true ∧ Sim τ' (ts.foldl (hTarget len i up) σ)) ∨ (τ'.good = false ∧ (ts.foldl (hTarget len i up) σ).faults ≠ [])
  | [], τ, σ, S, g => .inl ⟨g, S⟩
  | t :: r, τ, σ, S, g => by
    have a := sim_end (len := len) (i := i) (up := up) (t := t) S g
    rw [List.foldlM_cons, List.foldl_cons]
    cases q : wEnd len up τ t with
    | none => rw [q] at a; exact hFold_faults r a
    | some ρ =>
      rw [q] at a
      rcases a with ⟨g', S'⟩ | ⟨g', f'⟩
      · exact sim_fold r S' g'
      · show match r.foldlM (wEnd len up) ρ with
          | none => _
          | some τ' => _
        cases q2 : r.foldlM (wEnd len up) ρ with
        | none => exact hFold_faults r f'
        | some τ' => exact .inr ⟨wFold_bad r g' q2, hFold_faults r f'⟩
theorem sim_next {rows : List Row} {τ : WS} {σ : HS} (S : Sim τ σ) (g : τ.good = true) :
    match wNext rows τ with
    | none => (hNext rows σ).faults ≠ []
    | some τ' => (τ'.good = true ∧ Sim τ' (hNext rows σ)) ∨ (τ'.good = false ∧ (hNext rows σ).faults ≠ []) := by
  obtain ⟨f, fr, gd⟩ := τ
  rcases List.eq_nil_or_concat fr with h | ⟨p, x, h⟩
  · subst h
    obtain ⟨rfl, hc⟩ := S
    exact .inl ⟨g, rfl, hc⟩
  · rw [List.concat_eq_append] at h
    subst h
    obtain ⟨rfl, hc⟩ := S
    have hx : look f x.1 = some x.2 := hc x (by simp)
    rw [wNext_snoc]
    have e : (hNext rows ⟨f, (p ++ [x]).map (·.1), []⟩) = hBody rows.length (rowAt rows x.1) x.1 (x.2 - (rowAt rows x.1).moves.1) ⟨f, p.map (·.1), []⟩ := by
      have q : (p ++ [x]).map (·.1) = p.map (·.1) ++ [x.1] := by simp
      rw [q, hNext_snoc]
      unfold hStep
      simp only [hx, Option.getD_some]
    simp only at e ⊢
    rw [e]
    unfold wBody hBody
    by_cases h1 : x.2 < (rowAt rows x.1).moves.1
    · rw [if_pos (.inl h1), if_pos (by omega)]; simp
    · rw [if_neg (show ¬ x.2 - (rowAt rows x.1).moves.1 < 0 by omega)]
      by_cases h2 : (rowAt rows x.1).isRet = true ∧ x.2 ≠ 1
      · rw [if_pos (.inr h2)]
        refine hFold_faults _ ?_
        unfold hMid
        have hm : (rowAt rows x.1).moves.1 = 1 := by
          have := h2.1
          revert this
          cases rowAt rows x.1 <;> simp [Row.isRet, Row.moves]
        rw [if_pos ⟨h2.1, by rw [hm]; omega⟩]
        simp
      · rw [if_neg (fun q => q.elim h1 h2)]
        have hm : hMid (rowAt rows x.1) x.1 (x.2 - (rowAt rows x.1).moves.1) ⟨f, p.map (·.1), []⟩ = ⟨f, p.map (·.1), []⟩ := by
          unfold hMid
          rw [if_neg]
          rintro ⟨r1, r2⟩
          have hm : (rowAt rows x.1).moves.1 = 1 := by
            revert r1
            cases rowAt rows x.1 <;> simp [Row.isRet, Row.moves]
          rw [hm] at r2
          exact h2 ⟨r1, by omega⟩
        rw [hm]
        exact sim_fold _ ⟨rfl, fun q hq => hc q (List.mem_append_left _ hq)⟩ g
theorem sim_init : Sim wInit hInit := ⟨rfl, by intro p hp; simp [wInit] at hp; subst hp; simp [wInit, look]⟩
theorem sim_run {rows : List Row} : ∀ (k : Nat) {τ : WS}, wRun rows k = some τ → (τ.good = true ∧ Sim τ (Nat.repeat (hNext rows) k hInit)) ∨ (τ.good = false ∧ (Nat.repeat (hNext rows) k hInit).faults ≠ [])
  | 0, τ, e => by cases e; exact .inl ⟨rfl, sim_init⟩
  | k + 1, τ, e => by
    unfold wRun at e
    cases q : wRun rows k with
    | none => rw [q] at e; cases e
    | some ρ =>
      rw [q] at e
      simp only [Option.bind_some] at e
      rcases sim_run k q with ⟨g, S⟩ | ⟨g, f⟩
      · rw [if_pos g] at e
        have a := sim_next (rows := rows) S g
        rw [e] at a
        exact a
      · rw [if_neg (by rw [g]; simp)] at e
        cases e
        exact .inr ⟨g, hNext_faults f⟩
/-- the plain law -/
theorem law_bad {rows : List Row} {k : Nat} (hb : WBad rows) (hk : (Nat.repeat (hNext rows) k hInit).waiting = []) : (Nat.repeat (hNext rows) k hInit).faults ≠ [] := by
  obtain ⟨j, τ, e, hb⟩ := hb
  rcases sim_run j e with ⟨g, S⟩ | ⟨g, f⟩
  · rcases hb with hb | ⟨_, hb⟩
    · rw [g] at hb; cases hb
    · have a := sim_next (rows := rows) S g
      rw [hb] at a
      exact hRun_end (j := j + 1) hk a
  · exact hRun_end hk f
theorem law_good {rows : List Row} {k : Nat} {meets : Tab} (hg : WGood rows meets) (hk : (Nat.repeat (hNext rows) k hInit).waiting = []) :
    (Nat.repeat (hNext rows) k hInit).faults = [] ∧ (Nat.repeat (hNext rows) k hInit).found = meets := by
  obtain ⟨j, e⟩ := hg
  have S : Sim ⟨meets, [], true⟩ (Nat.repeat (hNext rows) j hInit) := by
    rcases sim_run j e with ⟨_, S⟩ | ⟨g, _⟩
    · exact S
    · cases g
  have hj : (Nat.repeat (hNext rows) j hInit).waiting = [] := by rw [S.1]; rfl
  have eq : Nat.repeat (hNext rows) k hInit = Nat.repeat (hNext rows) j hInit := by
    rcases Nat.le_total k j with h | h
    · obtain ⟨d, rfl⟩ := Nat.exists_eq_add_of_le h
      exact (hRun_stuck hk d).symm
    · obtain ⟨d, rfl⟩ := Nat.exists_eq_add_of_le h
      exact hRun_stuck hj d
  rw [eq, S.1]
  exact ⟨rfl, rfl⟩
end part_P2
section part_M6a
inductive KvL (tl : List (Addr × Obj)) : List (Int × Value) → Tab → Prop
  | nil : KvL tl [] []
  | cons {k h : Int} {a : Addr} {t : Tok} {n : Nat} {kvs : List (Int × Value)} {f : Tab} (hm : (a, listOf [Value.int h t].toArray n) ∈ tl) (r : KvL tl kvs f) : KvL tl ((k, .ref a) :: kvs) ((k, h) :: f)
section
variable {tl tl' : List (Addr × Obj)} {kvs : List (Int × Value)} {f : Tab}
theorem KvL.keys (h : KvL tl kvs f) : kvs.map (·.1) = f.map (·.1) := by
  induction h with
  | nil => rfl
  | cons _ _ ih => simp [ih]
theorem KvL.length (h : KvL tl kvs f) : kvs.length = f.length := by
  have := congrArg List.length h.keys
  simpa using this
theorem KvL.mono (hs : ∀ p ∈ tl, p ∈ tl') (h : KvL tl kvs f) : KvL tl' kvs f := by
  induction h with
  | nil => exact .nil
  | cons hm _ ih => exact .cons (hs _ hm) ih
theorem KvL.snoc {k h : Int} {a : Addr} {t : Tok} {n : Nat} (r : KvL tl kvs f) (hm : (a, listOf [Value.int h t].toArray n) ∈ tl) : KvL tl (kvs ++ [(k, .ref a)]) (f ++ [(k, h)]) := by
  induction r with
  | nil => exact .cons hm .nil
  | cons hm' _ ih => exact .cons hm' ih
theorem KvL.none (r : KvL tl kvs f) {k : Int} (e : look f k = none) : valueAt kvs k = none := by
  have := look_none_iff.mp e
  rw [← r.keys] at this
  unfold valueAt
  rw [Option.map_eq_none_iff, List.find?_eq_none]
  intro p hp
  simp only [decide_eq_true_eq]
  exact fun q => this (List.mem_map.mpr ⟨p, hp, q⟩)
theorem KvL.some (r : KvL tl kvs f) {k h : Int} (e : look f k = some h) : ∃ a t n, valueAt kvs k = some (.ref a) ∧ (a, listOf [Value.int h t].toArray n) ∈ tl := by
  induction r with
  | nil => simp [look] at e
  | @cons k' h' a' t' n' kvs f hm r ih =>
    unfold look at e
    unfold valueAt
    rw [List.find?_cons] at e ⊢
    by_cases q : k' = k
    · simp only [q, decide_true, Option.map_some, Option.some.injEq] at e ⊢
      subst e
      exact ⟨a', t', n', rfl, hm⟩
    · simp only [q, decide_false] at e ⊢
      exact ih e
end
inductive FreshAre (tl : List (Addr × Obj)) : List Value → List (Int × Int) → Prop
  | nil : FreshAre tl [] []
  | cons {a : Addr} {i h : Int} {t u : Tok} {n : Nat} {vs : List Value} {fs : List (Int × Int)} (hm : (a, tupOf [.int i t, .int h u] n) ∈ tl) (r : FreshAre tl vs fs) : FreshAre tl (.ref a :: vs) ((i, h) :: fs)
section
variable {tl tl' : List (Addr × Obj)} {vs : List Value} {fs : List (Int × Int)}
theorem FreshAre.length (h : FreshAre tl vs fs) : vs.length = fs.length := by
  induction h with
  | nil => rfl
  | cons _ _ ih => simp [ih]
theorem FreshAre.mono (hs : ∀ p ∈ tl, p ∈ tl') (h : FreshAre tl vs fs) : FreshAre tl' vs fs := by
  induction h with
  | nil => exact .nil
  | cons hm _ ih => exact .cons (hs _ hm) ih
theorem FreshAre.snoc {a : Addr} {i h : Int} {t u : Tok} {n : Nat} (r : FreshAre tl vs fs) (hm : (a, tupOf [.int i t, .int h u] n) ∈ tl) : FreshAre tl (vs ++ [.ref a]) (fs ++ [(i, h)]) := by
  induction r with
  | nil => exact .cons hm .nil
  | cons hm' _ ih => exact .cons hm' ih
theorem FreshAre.snoc_inv {p : List (Int × Int)} {i h : Int} : ∀ {vs : List Value}, FreshAre tl vs (p ++ [(i, h)]) → ∃ us a t u n, vs = us ++ [.ref a] ∧ FreshAre tl us p ∧ (a, tupOf [.int i t, .int h u] n) ∈ tl := by
  induction p with
  | nil =>
    intro vs r
    cases r with
    | cons hm r => cases r; exact ⟨[], _, _, _, _, rfl, .nil, hm⟩
  | cons x p ih =>
    intro vs r
    cases r with
    | cons hm r =>
      obtain ⟨us, a, t, u, n, e, r', hm'⟩ := ih r
      exact ⟨_ :: us, a, t, u, n, by rw [e]; rfl, .cons hm r', hm'⟩
end
section
variable {prog : Program} {w : World} {A : Around} {E : Value → Shared → Prop} {s : Shared} {h₀ : Heap} {L a b : Addr} {m : Str → Option Value} {news : List (Addr × Obj)} {vs : List Value} {n k : Nat} {Q : Value → Shared → Prop}
open PySem.SeqAt in
theorem neNilT {y : Value} (N : News h₀ L s.heap news) (ha : (a, listOf (vs ++ [y]).toArray n) ∈ news) (hb : (b, listOf ([] : List Value).toArray k) ∈ news) (hu : A.units < cLine) (h : Q (.bool true) s) :
    wpAny (model prog w) A (compareOp .NotEq (.ref a) (.ref b)) Q E s :=
  RcNeAt.lists_lengths (News.isList N ha) (News.isList N hb) (by simp) hu prog w E Q h
open PySem.SeqAt in
theorem neNil0 (N : News h₀ L s.heap news) (ha : (a, listOf ([] : List Value).toArray n) ∈ news) (hb : (b, listOf ([] : List Value).toArray k) ∈ news) (hu : A.units < cLine) (h : Q (.bool false) s) :
    wpAny (model prog w) A (compareOp .NotEq (.ref a) (.ref b)) Q E s :=
  RcNeAt.lists (e := fun _ => true) (News.isList N ha) (News.isList N hb) rfl hu (fun j h1 _ => absurd h1 (by simp)) prog w E Q h
theorem neOne {x y : Int} {t u : Tok} (N : News h₀ L s.heap news) (ha : (a, listOf [Value.int x t].toArray n) ∈ news) (hb : (b, listOf [Value.int y u].toArray k) ∈ news) (hu : A.units + 64 < cLine) (h : Q (.bool (!decide (x = y))) s) :
    wpAny (model prog w) A (compareOp .NotEq (.ref a) (.ref b)) Q E s :=
  ke_ne_ints (News.isList N ha) (News.isList N hb) (.cons x t .nil) (.cons y u .nil) hu (by simpa using h)
end
structure WRep (w : World) (news : List (Addr × Obj)) (fl d : Addr) (σ : WS) (fvs : List Value) (od : Obj) (kvs : List (Int × Value)) (ext : List (Addr × Obj)) : Prop where
  hab : ∀ p ∈ ext, ∀ q ∈ news, q.1 < p.1
  off : OwnOff (ext ++ news) [fl, d]
  fa : FreshAre ext fvs σ.fresh
  dd : od.IsDictOf (PySem.intKind PR w) kvs
  kv : KvL ext kvs σ.meets
abbrev WLed (fl d : Addr) (fvs : List Value) (fn : Nat) (od : Obj) (tl : List (Addr × Obj)) : List (Addr × Obj) :=
  (fl, listOf fvs.toArray fn) :: (d, od) :: tl
def WInv (w : World) (rows : List Row) (news : List (Addr × Obj)) (rl fl d : Addr) (n : Nat) (m : Str → Option Value) (nx : List (Addr × Obj)) : Prop :=
  ∃ σ fvs fn od kvs ext, nx = WLed fl d fvs fn od (ext ++ news) ∧ WRep w news fl d σ fvs od kvs ext ∧ WOk rows.length σ ∧ (∃ k, wRun rows k = some σ) ∧ n = σ.meas rows.length ∧
    m (Str.ofString "rows") = some (.ref rl) ∧ m (Str.ofString "meets") = some (.ref d) ∧ m (Str.ofString "fresh") = some (.ref fl) ∧ m (Str.ofString "good") = some (.bool σ.good)
theorem WInv.of {w : World} {rows : List Row} {news : List (Addr × Obj)} {rl fl d : Addr} {m : Str → Option Value} {σ : WS} {fvs : List Value} {fn : Nat} {od : Obj} {kvs : List (Int × Value)} {ext : List (Addr × Obj)}
    (r : WRep w news fl d σ fvs od kvs ext) (o : WOk rows.length σ) (k : ∃ k, wRun rows k = some σ)
    (e1 : m (Str.ofString "rows") = some (.ref rl)) (e2 : m (Str.ofString "meets") = some (.ref d)) (e3 : m (Str.ofString "fresh") = some (.ref fl)) (e4 : m (Str.ofString "good") = some (.bool σ.good)) :
    WInv w rows news rl fl d (σ.meas rows.length) m (WLed fl d fvs fn od (ext ++ news)) := ⟨σ, fvs, fn, od, kvs, ext, rfl, r, o, k, rfl, e1, e2, e3, e4⟩
theorem WInv.step {w : World} {rows : List Row} {news news' : List (Addr × Obj)} {h₀ h' : Heap} {L : Addr} {s : Shared} {tk : Nat} {rl fl d : Addr} {x : Int × Int} {m : Str → Option Value} {σ : WS} {fvs : List Value} {fn : Nat} {od : Obj} {kvs : List (Int × Value)} {ext : List (Addr × Obj)}
    {f : Tab} {p : List (Int × Int)} {k : Nat} {Q : Flow → Shared → Prop}
    (F : Fr h₀ L h' m) (N : News h₀ L h' news') (hs : ∀ p ∈ WLed fl d fvs fn od (ext ++ news), p ∈ news') (r : WRep w news fl d σ fvs od kvs ext) (ok : WOk rows.length ⟨f, p ++ [x], true⟩) (hk : wRun rows k = some ⟨f, p ++ [x], true⟩)
    (hb : ¬ (x.2 < (rowAt rows x.1).moves.1 ∨ ((rowAt rows x.1).isRet = true ∧ x.2 ≠ 1)))
    (e : (nexts x.1 (rowAt rows x.1)).foldlM (wEnd rows.length (x.2 - (rowAt rows x.1).moves.1 + (rowAt rows x.1).moves.2)) ⟨f, p, true⟩ = some σ)
    (e1 : m (Str.ofString "rows") = some (.ref rl)) (e2 : m (Str.ofString "meets") = some (.ref d)) (e3 : m (Str.ofString "fresh") = some (.ref fl)) (e4 : m (Str.ofString "good") = some (.bool σ.good)) :
    WhileStep2 h₀ L s (WInv w rows news rl fl d) Q (WS.meas rows.length ⟨f, p ++ [x], true⟩) .next { s with heap := h', toks := tk } := by
  have a := wFold _ ok.pop e
  refine ⟨h', tk, m, _, _, rfl, F, dropN N hs, ?_, WInv.of r a.1 ⟨k + 1, ?_⟩ e1 e2 e3 e4⟩
  · have := a.2
    unfold WS.meas at *
    simp only [List.length_append, List.length_singleton] at this ⊢
    omega
  · unfold wRun
    rw [hk]
    simp only [Option.bind_some, if_true]
    rw [wNext_snoc]
    unfold wBody
    rw [if_neg hb]
    exact e
def WInv2 (w : World) (rows : List Row) (news : List (Addr × Obj)) (rl fl d q : Addr) (row : Row) (i hg : Int) (σ0 : WS) (tvs : List Value) (tn : Nat) (j : Nat) (m : Str → Option Value) (nx : List (Addr × Obj)) : Prop :=
  ∃ σ fvs fn od kvs ext, nx = (q, listOf tvs.toArray tn) :: WLed fl d fvs fn od (ext ++ news) ∧ WRep w news fl d σ fvs od kvs ext ∧ ((nexts i row).take j).foldlM (wEnd rows.length (hg - row.moves.1 + row.moves.2)) σ0 = some σ ∧
    m (Str.ofString "rows") = some (.ref rl) ∧ m (Str.ofString "meets") = some (.ref d) ∧ m (Str.ofString "fresh") = some (.ref fl) ∧ m (Str.ofString "good") = some (.bool σ.good) ∧
    (∃ t, m (Str.ofString "high") = some (.int hg t)) ∧ (∃ t, m (Str.ofString "less") = some (.int row.moves.1 t)) ∧ (∃ t, m (Str.ofString "more") = some (.int row.moves.2 t))
theorem WInv2.of {w : World} {rows : List Row} {news : List (Addr × Obj)} {rl fl d q : Addr} {row : Row} {i hg : Int} {σ0 : WS} {tvs : List Value} {tn j : Nat} {m : Str → Option Value} {σ : WS} {fvs : List Value} {fn : Nat} {od : Obj} {kvs : List (Int × Value)} {ext : List (Addr × Obj)} {t1 t2 t3 : Tok}
    (r : WRep w news fl d σ fvs od kvs ext) (e : ((nexts i row).take j).foldlM (wEnd rows.length (hg - row.moves.1 + row.moves.2)) σ0 = some σ)
    (e1 : m (Str.ofString "rows") = some (.ref rl)) (e2 : m (Str.ofString "meets") = some (.ref d)) (e3 : m (Str.ofString "fresh") = some (.ref fl)) (e4 : m (Str.ofString "good") = some (.bool σ.good))
    (e5 : m (Str.ofString "high") = some (.int hg t1)) (e6 : m (Str.ofString "less") = some (.int row.moves.1 t2)) (e7 : m (Str.ofString "more") = some (.int row.moves.2 t3)) :
    WInv2 w rows news rl fl d q row i hg σ0 tvs tn j m ((q, listOf tvs.toArray tn) :: WLed fl d fvs fn od (ext ++ news)) := ⟨σ, fvs, fn, od, kvs, ext, rfl, r, e, e1, e2, e3, e4, ⟨_, e5⟩, ⟨_, e6⟩, ⟨_, e7⟩⟩
theorem WInv2.step {w : World} {rows : List Row} {news own news' : List (Addr × Obj)} {h₀ h' : Heap} {L : Addr} {s₁ : Shared} {tk : Nat} {rl fl d q : Addr} {row : Row} {i hg : Int} {σ0 : WS} {tvs : List Value} {tn j : Nat} {m : Str → Option Value} {σ : WS} {fvs : List Value} {fn : Nat} {od : Obj} {kvs : List (Int × Value)} {ext : List (Addr × Obj)} {t1 t2 t3 : Tok}
    (F : Fr h₀ L h' m) (N : News h₀ L h' news') (ho : ∀ p ∈ own, p ∈ news') (hs : ∀ p ∈ (q, listOf tvs.toArray tn) :: WLed fl d fvs fn od (ext ++ news), p ∈ news') (ha : OwnOff own (q :: fl :: d :: (ext ++ news).map (·.1)))
    (r : WRep w news fl d σ fvs od kvs ext) (e : ((nexts i row).take (j + 1)).foldlM (wEnd rows.length (hg - row.moves.1 + row.moves.2)) σ0 = some σ)
    (e1 : m (Str.ofString "rows") = some (.ref rl)) (e2 : m (Str.ofString "meets") = some (.ref d)) (e3 : m (Str.ofString "fresh") = some (.ref fl)) (e4 : m (Str.ofString "good") = some (.bool σ.good))
    (e5 : m (Str.ofString "high") = some (.int hg t1)) (e6 : m (Str.ofString "less") = some (.int row.moves.1 t2)) (e7 : m (Str.ofString "more") = some (.int row.moves.2 t3)) :
    InvEndG h₀ L (fun m' nx => (q, listOf tvs.toArray tn) ∈ nx ∧ WInv2 w rows news rl fl d q row i hg σ0 tvs tn (j + 1) m' nx) own s₁ { s₁ with heap := h', toks := tk } :=
  InvEndG.intro F N ⟨List.Mem.head _, WInv2.of r e e1 e2 e3 e4 e5 e6 e7⟩ ha hs ho
theorem off2 {tl : List (Addr × Obj)} {a b : Addr} (h : ∀ p ∈ tl, p.1 ≠ a) (h1 : ∀ p ∈ tl, p.1 ≠ b) : OwnOff tl [a, b] := by
  intro p hp x hx
  simp only [List.mem_cons, List.not_mem_nil, or_false] at hx
  rcases hx with rfl | rfl
  · exact h p hp
  · exact h1 p hp
theorem in2 {a b x : Addr} (h1 : @LT.lt Nat _ a x) (h2 : @LT.lt Nat _ b x) : ∀ y ∈ [a, b], x ≠ y := by
  intro y hy
  simp only [List.mem_cons, List.not_mem_nil, or_false] at hy
  rcases hy with rfl | rfl
  · exact Nat.ne_of_gt h1
  · exact Nat.ne_of_gt h2
/-- the joint of two ways of an if that only appends to a list of ints -/
def CutAt (h₀ : Heap) (L : Addr) (m : Str → Option Value) (el : Addr) (rest : List (Addr × Obj)) (X : List Int) (s s' : Shared) : Prop :=
  ∃ h tk evs n, s' = { s with heap := h, toks := tk } ∧ Fr h₀ L h m ∧ News h₀ L h ((el, listOf (List.toArray evs) n) :: rest) ∧ IntsAre evs X
theorem cutIf {prog : Program} {w : World} {A : Around} {E : Value → Shared → Prop} {s : Shared} {h₀ : Heap} {L el : Addr} {m : Str → Option Value} {rest : List (Addr × Obj)} {o : Obj} {t : Sem Flow} {Q : Flow → Shared → Prop} (X : List Int)
    (_F : Fr h₀ L s.heap m) (_N : News h₀ L s.heap ((el, o) :: rest)) (h1 : wpAny (model prog w) A t (fun f s' => f = .next ∧ CutAt h₀ L m el rest X s s') E s)
    (h2 : ∀ h tk evs n, Fr h₀ L h m → News h₀ L h ((el, listOf (List.toArray evs) n) :: rest) → IntsAre evs X → evs.length = X.length → Q .next { s with heap := h, toks := tk }) : wpAny (model prog w) A t Q E s := by
  refine wpAny_mono h1 (fun f s' h => ?_) fun _ _ e => e
  obtain ⟨rfl, h, tk, evs, n, rfl, F, N, I⟩ := h
  exact h2 h tk evs n F N I I.length
theorem lt_two {a b : Addr} {x y : Obj} {news : List (Addr × Obj)} (h1 : ∀ q ∈ news, q.1 < a) (h2 : ∀ q ∈ news, q.1 < b) : ∀ p ∈ [(a, x), (b, y)], ∀ q ∈ news, q.1 < p.1 := by
  intro p hp
  simp only [List.mem_cons, List.not_mem_nil, or_false] at hp
  rcases hp with rfl | rfl
  · exact h1
  · exact h2
theorem ne_two {a b c : Addr} {x y : Obj} {news : List (Addr × Obj)} (h1 : @Ne Nat a c) (h2 : @Ne Nat b c) (h3 : ∀ q ∈ news, q.1 < c) : ∀ p ∈ [(a, x), (b, y)] ++ news, p.1 ≠ c := by
  intro p hp
  rcases List.mem_append.mp hp with hp | hp
  · simp only [List.mem_cons, List.not_mem_nil, or_false] at hp
    rcases hp with rfl | rfl
    · exact h1
    · exact h2
  · exact Nat.ne_of_lt (h3 p hp)
theorem sub_swap {a b : List (Addr × Obj)} : ∀ p ∈ a ++ b, p ∈ b ++ a := fun _ h => (List.mem_append.mp h).elim (fun q => List.mem_append_right _ q) fun q => List.mem_append_left _ q
theorem sub_swap2 {a b c : List (Addr × Obj)} : ∀ p ∈ a ++ b, p ∈ b ++ a ++ c := fun _ h => List.mem_append_left _ (sub_swap _ h)
theorem hab_two {a b : Addr} {x y : Obj} {ext news : List (Addr × Obj)} (h1 : ∀ q ∈ news, q.1 < a) (h2 : ∀ q ∈ news, q.1 < b) (h : ∀ p ∈ ext, ∀ q ∈ news, q.1 < p.1) : ∀ p ∈ (a, x) :: (b, y) :: ext, ∀ q ∈ news, q.1 < p.1 := by
  intro p hp
  rcases List.mem_cons.mp hp with rfl | hp
  · exact h1
  · rcases List.mem_cons.mp hp with rfl | hp
    · exact h2
    · exact h p hp
theorem sub_cc {a b : Addr × Obj} {l : List (Addr × Obj)} : ∀ p ∈ l, p ∈ a :: b :: l := fun _ h => List.Mem.tail _ (List.Mem.tail _ h)
theorem mid_lt {ext news own : List (Addr × Obj)} {D : Addr} (h : AllLt D (ext ++ news ++ own)) : ∀ q ∈ news, q.1 < D := fun q hq => allLt_at h q (List.mem_append_left _ (List.mem_append_right _ hq))
theorem own_lt {ext news own : List (Addr × Obj)} {D : Addr} (h : AllLt D (ext ++ news ++ own)) : ∀ q ∈ own, q.1 < D := fun q hq => allLt_at h q (List.mem_append_right _ hq)
theorem wRun_good0 {rows : List Row} {k : Nat} {f : Tab} {p : List (Int × Int)} (h : wRun rows k = some ⟨f, p, false⟩) : WBad rows := ⟨k, _, h, .inl rfl⟩
theorem wRun_none {rows : List Row} {k : Nat} {f : Tab} {p : List (Int × Int)} {x : Int × Int} (h : wRun rows k = some ⟨f, p ++ [x], true⟩) (e : wBody rows.length (rowAt rows x.1) x.1 x.2 ⟨f, p, true⟩ = none) : WBad rows :=
  ⟨k, _, h, .inr ⟨rfl, by rw [wNext_snoc]; exact e⟩⟩
end part_M6a
section part_M6
theorem calm_M6 : True := by
  w_top off
  trivial
local macro_rules | `(tactic| k_mem) => `(tactic| (refine memI ?_; ktr_member))
local macro_rules | `(tactic| walk_at "pO") => `(tactic| (first | with_reducible assumption | omega))
local macro_rules | `(tactic| walk_at "pB") => `(tactic| ((iterate 5 k_asm); (first | exact rfl | assumption); ktr_room; ktr_units))
local macro_rules | `(tactic| walk_at "pD") => `(tactic| ((try dsimp only); (try k_fold)))
local macro_rules | `(tactic| walk_at "pA") => `(tactic| (with_reducible assumption))
local macro_rules | `(tactic| walk_at "subscriptTail") => `(tactic| (k_here; (with_reducible show wpAny _ _ (subscriptTail _ _ _ (Value.int 0 _)) _ _ _); k_dflt (refine item0 (by k_asm) (by k_mem) ?_; k_whole)))
local macro_rules | `(tactic| walk_at "subscriptTail") => `(tactic| (k_here; k_dflt (refine' itemL (by k_asm) (by k_mem) ?a ?b (by walk_at "pA") ?_; (case a => walk_at "pO"); (case b => walk_at "pO"); k_whole)))
local macro_rules | `(tactic| walk_at "call ref") => `(tactic| (k_here; refine WStop.call (by with_reducible assumption) ?_))

local macro_rules | `(tactic| k_steps) => `(tactic| repeat' (first | (k_unfold; (try dsimp only)) | (k_end; kc_close) | (with_reducible refine flatT ?_; intro _; dsimp only) | walk1 | (dsimp only; walk1) | (leave1; walk_say "STEP leave1"; (try dsimp only)) | fail "no step"))

local macro_rules | `(tactic| walk_at "pW") => `(tactic| (k_here; refine WStop.intro ?_))
local macro_rules | `(tactic| walk_at "exec While Compare cons nil") => `(tactic| (walk_at "pW"))
local macro_rules | `(tactic| walk_at "exec While BoolOp cons nil") => `(tactic| (walk_at "pW"))
local macro_rules | `(tactic| walk_at "pyIter ref") => `(tactic| (walk_at "pW"))
local macro_rules | `(tactic| walk_at "call ref") => `(tactic| (k_here; (with_reducible show wpAny _ _ (call (Value.ref 84) _) _ _ _); k_dflt (apply effect_spec; walk_at "pB"; k_mem; walk_at "pA"; intro q9 t9 u9 h9 tk9 F9 N9 l9; (try k_lt l9); walk_at "pD")))
local macro_rules | `(tactic| walk_at "call ref") => `(tactic| (k_here; (with_reducible show wpAny _ _ (call (Value.ref 140) _) _ _ _); k_dflt (apply moves_spec; walk_at "pB"; k_mem; walk_at "pA"; intro q9 t9 u9 h9 tk9 F9 N9 l9; (try k_lt l9); walk_at "pD")))
local macro_rules | `(tactic| walk_at "call builtin:len") => `(tactic| (k_here; k_dflt (apply lenL; k_asm; k_mem; walk_at "pA"; walk_at "pO"; k_whole)))
local macro_rules | `(tactic| walk_at "call builtin:list.pop") => `(tactic| (k_here; k_dflt (apply popV; k_asm; k_asm; k_upd; walk_at "pO"; k_whole); intro h9 F9 N9; (try k_sweep)))
local macro_rules | `(tactic| walk_at "call builtin:list.append") => `(tactic| (k_here; k_dflt (apply appendV; k_asm; k_asm; k_upd; walk_at "pO"; k_whole); intro h9 F9 N9; (try k_sweep)))
local macro_rules | `(tactic| walk_at "subscriptTail") => `(tactic| (k_here; k_dflt (refine' dItem (by k_asm) ?p ?d (by walk_at "pA") ?_; (case d => walk_at "pA"); (case p => k_mem); k_whole)))
local macro_rules | `(tactic| walk_at "pI") => `(tactic| (k_asm; (rotate_left 3); walk_at "pA"; (rotate_right 3); k_mem; (iterate 2 walk_at "pA"); k_whole))
local macro_rules | `(tactic| walk_at "compareOp NotIn") => `(tactic| (k_here; k_dflt (first | (apply dNotIn1; walk_at "pI") | (apply dNotIn0; walk_at "pI"))))
local macro_rules | `(tactic| walk_at "setItem ref int") => `(tactic| (k_here; k_dflt (apply dSetNew; k_asm; k_asm; k_updF; walk_at "pA"; walk_at "pA"; walk_at "pO"; k_whole); intro h9 o9 F9 N9 d9; (try dsimp only at N9); (try k_sweep)))
local macro_rules | `(tactic| walk_at "newTuple") => `(tactic| (k_here; k_dflt (refine' kup_newTuple (by k_asm) (by k_asm) ?_ ?z; (case z => kmk_size)); intro D9 h9 F9 N9 l9; (try k_lt l9); (try k_sweep)))

local macro_rules | `(tactic| walk_at "call builtin:sorted") => `(tactic| (walk_at "pW"))

local macro_rules | `(tactic| walk_at "pN") => `(tactic| (k_asm; k_mem; k_mem; ktr_units; k_whole))
local macro_rules | `(tactic| walk_at "compareOp NotEq ref ref") => `(tactic| (k_here; k_dflt (first | (apply neNilT; walk_at "pN") | (apply neNil0; walk_at "pN") | (apply neOne; walk_at "pN"))))
local macro_rules | `(tactic| walk_at "exec If") => `(tactic| (k_here; refine WStop.cut (by with_reducible assumption) ?_))

theorem units64 {u v : Nat} (h : u + 128 < v) : u + 128 < v := h
set_option maxHeartbeats 8000000 in
theorem ways_spec {w : World} {mean : ExcName → Option Value} {mg mb : Str → Option Value} {dp un : Nat} {gd : Option (List Code)} {cn : Str} {cs : Scope} {a : Addr} {ccd : Value} {cl : List (Str × Addr)} {outer : List Env} {A₀ : Around} {base h₀ : Heap} {L : Addr} {m : Str → Option Value} {news : List (Addr × Obj)} {s : Shared} {Q E : Value → Shared → Prop} {rl rvs rn rows} (B : Below A₀ base outer h₀) (F : Fr h₀ L s.heap m) (X : (hd.heap_39 w.params).In h₀) (N : News h₀ L s.heap news) (T : Top hd.view_39 (looseW hd.view_39 []) mean mg mb h₀) (hk : cs.kind = .function) (hd : dp + 3 < recursionLimit) (hu : un + 128 < cLine)
   (hl : (rl, listOf rvs.toArray rn) ∈ news) (hR : RowsAre news rvs rows) (hlen : rows.length < 32) (hne : 0 < rows.length)
   (ret : ∀ (q d : Addr) (g : Bool) (ext : List (Addr × Obj)) (od : Obj) (kvs : List (Int × Value)) (h' : Heap) (tk : Nat), (g = true → ∃ meets, WGood rows meets ∧ meets.length ≤ rows.length ∧ KvL ext kvs meets) → od.IsDictOf (PySem.intKind PR w) kvs → (d == sysModules) = false → (g = false → WBad rows) →
     Fr h₀ L h' m → News h₀ L h' ((q, tupOf [.bool g, .ref d] 0) :: (d, od) :: (news ++ ext)) → (∀ p ∈ ext, ∀ q ∈ news, q.1 < p.1) → (∀ p ∈ news, p.1 < d) → @LT.lt Nat _ d q → Q (.ref q) {s with heap := h', toks := tk}) :
   wpAny (model PR w) (ktrTop dp un gd cn cs L a ccd cl outer) (call (.ref 147) [.ref rl]) Q E s := by
  have hrl : rvs.length = rows.length := hR.length
  refine wpAny_call ?_
  k_dflt ktr_enter
  k_steps
  refine WStop.mk ?_
  rename News _ _ _ _ => N1
  rename Fr _ _ _ _ => F1
  rename Obj.IsDictOf _ _ (intKeyPairs _) => hd1
  rename (_ == sysModules) = false => lo1
  k_dflt (refine While_inv2 (n₀ := wInit.meas rows.length) (WInv w rows news rl _ _) F1 (dropN (news := WLed _ _ [_] _ _ ([(_, tupOf [.int 0 _, .int 0 _] 0), (_, listOf [Value.int 0 _].toArray _)] ++ news)) N1 (sub_cons (by k_mem) (sub_cons (by k_mem) (sub_cons (by k_mem) (sub_cons (by k_mem) (sub_tail (sub_tail (sub_tail (sub_tail sub_refl))))))))) (WInv.of (ext := [(_, tupOf [.int 0 _, .int 0 _] 0), (_, listOf [Value.int 0 _].toArray _)]) ⟨?o0, off2 ?o1 ?o2, .cons (List.Mem.head _) .nil, hd1, .cons (List.Mem.tail _ (List.Mem.head _)) .nil⟩ (wInit_ok hne) ⟨0, rfl⟩ rfl rfl rfl rfl) ?_ ?hE)
  case hE => first | passes_own | with_unfolding_all passes_own
  case o0 => exact lt_two (allLt_at (by simp only [*])) (allLt_at (by simp only [*]))
  case o1 => exact ne_two (by omega) (by omega) (allLt_at (by simp only [*]))
  case o2 => exact ne_two (by omega) (by omega) (by assumption)
  clear hd1
  intro n m1 nx h tk F2 N2 hI
  obtain ⟨σ, fvs, fn, od, kvs, ext, rfl, R, ok, ⟨k, hk⟩, rfl, e1, e2, e3, e4⟩ := hI
  obtain ⟨mt, fr, gd⟩ := σ
  obtain ⟨hab, off, fa, dd, kv⟩ := R
  dsimp only [WLed] at N2 fa kv e4
  replace F2 := fr_names _ (allC e1 (allC e2 (allC e3 (allC e4 all0)))) F2
  dsimp only [addN] at F2
  rcases snoc_cases fr with rfl | ⟨p, ⟨i, hg⟩, rfl⟩
  · cases fa
    k_steps
    (rename News _ _ _ _ => N5)
    refine ret _ _ gd ext od kvs _ _ (fun hg => ⟨mt, ⟨k, by rw [hk, hg]⟩, ok.size, kv⟩) dd lo1 (fun hg => wRun_good0 (hg ▸ hk)) (by k_asm) (by refine dropN N5 ?_; refine sub_cons (by k_mem) (sub_cons (by k_mem) ?_); (repeat (first | with_reducible exact sub_swap | with_reducible refine sub_tail ?_))) hab (by assumption) ?lq1
    case lq1 => omega
  · obtain ⟨us, ra, rt1, rt2, rn1, rfl, fa', hmr⟩ := fa.snoc_inv
    cases gd
    · k_steps
      (rename News _ _ _ _ => N5)
      refine ret _ _ false ext od kvs _ _ (fun hg => nomatch hg) dd lo1 (fun _ => wRun_good0 hk) (by k_asm) (by refine dropN N5 ?_; refine sub_cons (by k_mem) (sub_cons (by k_mem) ?_); (repeat (first | with_reducible exact sub_swap | with_reducible refine sub_tail ?_))) hab (by assumption) ?lq2
      case lq2 => omega
    · have hul : us.length = p.length := fa'.length
      have hkl : kvs.length = mt.length := kv.length
      have hsz := ok.size
      have hfew := ok.few
      simp only [List.length_append, List.length_singleton] at hsz hfew
      have z1 := lt16 hul (lt64s hfew hsz hlen)
      have hik := ok.sub (i, hg) (by simp)
      obtain ⟨h0, h1⟩ := ok.rng i hik
      have z2 := ltI h1 hlen
      have hi := rowAt_get h0 h1
      have hRt : RowsAre (ext ++ news) rvs rows := hR.mono sub_app_r
      obtain ⟨r, ru, rk, hget, hr, hm⟩ := hRt.get hi
      obtain ⟨rt, rtl, hv⟩ := hr.head
      have hm2 : (r, tupOf (.str (rowAt rows i).tag.name rt :: rtl) rk) ∈ ext ++ news := hv ▸ hm
      have hl2 : (rl, listOf rvs.toArray rn) ∈ ext ++ news := sub_app_r _ hl
      have hmr2 := sub_app_l (b := news) _ hmr
      generalize hrow : rowAt rows i = row at hi hr hm2 hv
      have cut : CutHere := ⟨⟩
      k_steps
      refine WStop.mk (wpAny_If ?_)
      by_cases hbad : hg < row.moves.1 ∨ (row.isRet = true ∧ hg ≠ 1)
      · have hbb : wBody rows.length (rowAt rows i) i hg ⟨mt, p, true⟩ = none := by rw [hrow]; unfold wBody; rw [if_pos hbad]
        rcases hbad with hb1 | ⟨hb1, hb2⟩
        · k_steps
          all_goals (dsimp only [WhileStep2]; k_steps; (rename News _ _ _ _ => N5); refine ret _ _ false ext od kvs _ _ (fun hg => nomatch hg) dd lo1 (fun _ => wRun_none hk hbb) (by k_asm) (by refine dropN N5 ?_; refine sub_cons (by k_mem) (sub_cons (by k_mem) ?_); (repeat (first | with_reducible exact sub_swap | with_reducible refine sub_tail ?_))) hab (by assumption) ?_; omega)
        · have hnm : (row.tag.name == Str.ofString "return") = true := by rw [ret_name]; exact hb1
          k_steps
          all_goals (first | (exfalso; omega) | (dsimp only [WhileStep2]; k_steps; (rename News _ _ _ _ => N5); refine ret _ _ false ext od kvs _ _ (fun hg => nomatch hg) dd lo1 (fun _ => wRun_none hk hbb) (by k_asm) (by refine dropN N5 ?_; refine sub_cons (by k_mem) (sub_cons (by k_mem) ?_); (repeat (first | with_reducible exact sub_swap | with_reducible refine sub_tail ?_))) hab (by assumption) ?_; omega))
      · have hg1 : ¬ hg < row.moves.1 := fun q => hbad (.inl q)
        cases hret : row.isRet with
        | true =>
          have hnm : (row.tag.name == Str.ofString "return") = true := by rw [ret_name]; exact hret
          clear cut
          have hone : hg = 1 := Decidable.byContradiction fun q => hbad (.inr ⟨hret, q⟩)
          have hnil : nexts i row = [] := nexts_ret i hret
          have hE : ([Str.ofString "jump", Str.ofString "return", Str.ofString "trap"].any fun x => x == row.tag.name) = true := by rw [b_ends]; revert hret; cases row <;> simp [Row.isRet, Row.ends]
          have hJ : ([Str.ofString "jump", Str.ofString "unless", Str.ofString "when"].any fun x => x == row.tag.name) = false := by rw [b_jump]; revert hret; cases row <;> simp [Row.isRet, Row.aim]
          k_steps
          · exfalso; omega
          rename Fr _ _ _ _ => F5
          with_unfolding_all refine For_invVF F5 ?kk1 ?kk2 ?_
          case kk1 => exact rfl
          case kk2 => exact rfl
          k_steps
          refine WStop.mk ?_
          rename News _ _ _ _ => N5
          rename Fr _ _ _ _ => F5
          k_dflt (refine kdl_iter (vs := []) (WInv2 w rows news rl _ _ _ row i hg ⟨mt, p, true⟩ _ _) (by rfl) (List.Mem.head _) F5 (dropN (news := (_, listOf (List.toArray []) _) :: WLed _ _ us (fn + 1) od (ext ++ news)) N5 (sub_cons (by k_mem) (sub_cons (by k_mem) (sub_cons (by k_mem) ?tls0)))) (WInv2.of ⟨hab, off, fa', dd, kv⟩ rfl rfl rfl rfl rfl rfl rfl rfl) ?turn0 ?done0)
          case tls0 => (repeat (first | with_reducible exact sub_refl | with_reducible refine sub_tail ?_))
          case turn0 =>
            intro j v m2 nx h2 tk2 own hv hoff hmem hI F6 N6
            exfalso
            simp at hv
          case done0 =>
            intro m2 nx h2 tk2 hI F6 N6
            obtain ⟨σ, fvs, fn, od, kvs, ext, rfl, R, eσ, e1, e2, e3, e4, ⟨t1, e5⟩, ⟨t2, e6⟩, ⟨t3, e7⟩⟩ := hI
            refine wpAny_execs_nil ?_
            dsimp only [envOf] at F6
            dsimp only
            rw [hnil] at eσ
            refine WInv.step F6 N6 (fun _ hp => List.Mem.tail _ hp) R ok hk ?hbx0 ?exx0 e1 e2 e3 e4
            case hbx0 => rw [hrow]; exact hbad
            case exx0 => rw [hrow, hnil]; exact eσ
        | false =>
          have hnm : (row.tag.name == Str.ofString "return") = false := by rw [ret_name]; exact hret
          k_steps
          refine WStop.mk ?_
          rename News _ _ _ _ => N3
          rename Fr _ _ _ _ => F3
          k_dflt (refine cutIf (if row.ends = true then [] else [i + 1]) F3 N3 ?_ ?_)
          · refine wpAny_If ?_
            k_steps
            all_goals (rename News _ _ _ _ => N5; (try simp only [List.push_toArray, List.nil_append, List.cons_append] at N5); refine ⟨_, _, _, _, rfl, by k_asm, dropN N5 (by refine sub_cons (by k_mem) ?_; (repeat (first | with_reducible exact sub_refl | with_reducible refine sub_tail ?_))), ?_⟩)
            · rw [if_pos (b_ends.symm.trans (by with_reducible assumption))]; exact .nil
            · rw [if_neg (by rw [b_ends.symm.trans (by with_reducible assumption)]; exact Bool.false_ne_true)]; exact .cons _ _ .nil
          · intro h4 tk4 evs n4 F4 N4 I4 L4
            k_steps
            refine WStop.mk ?_
            clear N3 F3
            have hev : evs.length ≤ 1 := by rw [L4]; split <;> simp
            k_dflt (refine cutIf (nexts i row) F4 N4 ?_ ?_)
            · refine wpAny_If ?_
              k_steps
              · have hj : row.aim.isSome = true := b_jump.symm.trans (by with_reducible assumption)
                clear hm2 hv
                obtain ⟨g9, c9, t9, u9, rfl, hg9⟩ := hr.facts.2.2.2.2 hj
                have e9 : nexts i row = (if row.ends = true then [] else [i + 1]) ++ [g9] := congrArg (fun o => (if row.ends = true then [] else [i + 1]) ++ Option.toList o) hg9
                k_steps
                (rename News _ _ _ _ => N5; (try simp only [List.push_toArray, List.nil_append, List.cons_append] at N5); refine ⟨_, _, _, _, rfl, by k_asm, dropN N5 (by refine sub_cons (by k_mem) ?_; (repeat (first | with_reducible exact sub_refl | with_reducible refine sub_tail ?_))), ?_⟩)
                rw [e9]
                exact IntsAre.append I4 (.cons _ _ .nil)
              · have hj : row.aim.isSome = false := b_jump.symm.trans (by with_reducible assumption)
                (rename News _ _ _ _ => N5; (try simp only [List.push_toArray, List.nil_append, List.cons_append] at N5); refine ⟨_, _, _, _, rfl, by k_asm, dropN N5 (by refine sub_cons (by k_mem) ?_; (repeat (first | with_reducible exact sub_refl | with_reducible refine sub_tail ?_))), ?_⟩)
                have ha : row.aim = none := by simpa using hj
                unfold nexts
                rw [ha]
                simpa using I4
            · intro h5 tk5 evs n5 F5 N5 I5 L5
              clear I4 L4 N4 F4 hev
              k_steps
              refine WStop.mk ?_
              clear cut
              rename News _ _ _ _ => N5
              rename Fr _ _ _ _ => F5
              rename IntsAre _ (nexts _ _) => I5
              have hfold := fun j => @wFold rows.length (hg - row.moves.1 + row.moves.2) ((nexts i row).take j) ⟨mt, p, true⟩
              have hin := ok.pop
              k_dflt (refine kdl_iter (WInv2 w rows news rl _ _ _ row i hg ⟨mt, p, true⟩ _ _) (by rfl) (List.Mem.head _) F5 (dropN (news := (_, listOf _ _) :: WLed _ _ us (fn + 1) od (ext ++ news)) N5 (sub_cons (by k_mem) (sub_cons (by k_mem) (sub_cons (by k_mem) ?tls)))) (WInv2.of ⟨hab, off, fa', dd, kv⟩ rfl rfl rfl rfl rfl rfl rfl rfl) ?turn ?done)
              case tls => (repeat (first | with_reducible exact sub_refl | with_reducible refine sub_tail ?_))
              case turn =>
                intro j v m2 nx h2 tk2 own hv hoff hmem hI F6 N6
                obtain ⟨σ, fvs, fn, od, kvs, ext, rfl, R, eσ, e1, e2, e3, e4, ⟨t1, e5⟩, ⟨t2, e6⟩, ⟨t3, e7⟩⟩ := hI
                have hjl : j < (nexts i row).length := by rw [← I5.length]; exact (List.getElem?_eq_some_iff.mp hv).1
                obtain ⟨tt, hx⟩ := I5.get j _ (List.getElem?_eq_getElem hjl)
                rw [hx] at hv
                cases hv
                obtain ⟨tgt, htg⟩ : ∃ tgt, (nexts i row)[j] = tgt := ⟨_, rfl⟩
                have hget2 : (nexts i row)[j]? = some tgt := by rw [List.getElem?_eq_getElem hjl, htg]
                rw [htg] at F6 hx
                have hin2 := (hfold j hin eσ).1
                replace F6 := fr_names1 _ (allC e1 (allC e2 (allC e3 (allC e4 (allC e5 (allC e6 (allC e7 all0))))))) F6
                dsimp only [addN, envOf] at F6
                obtain ⟨f2, w2, g2⟩ := σ
                clear hm hm2 hr hget hRt hl2 hmr2 hul hkl hsz hfew off fa' dd kv hab hmr ok
                obtain ⟨hab, off, fa, dd, kv⟩ := R
                simp only [WLed, List.map_cons, List.cons_append, envOf] at N6 fa kv hoff e4
                have hoffo : OwnOff own [_, _] := off_sub (l' := [_, _]) hoff (by
                  intro b hb
                  exact List.Mem.tail _ (by
                    simp only [List.mem_cons, List.not_mem_nil, or_false] at hb
                    rcases hb with h | h
                    · subst h; exact List.Mem.head _
                    · subst h; exact List.Mem.tail _ (List.Mem.head _)))
                have hoff4 := kd_off hoffo off
                have hkl : kvs.length = f2.length := kv.length
                have hfl : fvs.length = w2.length := fa.length
                have hsz := hin2.size
                have hfew := hin2.few
                simp only at hsz hfew
                have z1 := lt16 hfl (lt64c hfew hsz hlen)
                have z2 := lt16 hkl (lt64 hsz hlen)
                have z3 := (ltR hlen).2
                have hlm : (rl, listOf rvs.toArray rn) ∈ ext ++ news ++ own := List.mem_append_left _ (List.mem_append_right _ hl)
                by_cases hb : tgt < 0 ∨ (rows.length : Int) ≤ tgt
                · have hbb : wBody rows.length (rowAt rows i) i hg ⟨mt, p, true⟩ = none := by
                    unfold wBody
                    rw [hrow, if_neg hbad]
                    refine wFold_none (j := j + 1) ?_
                    rw [wFold_take hget2 eσ]
                    unfold wEnd
                    rw [if_pos hb]
                  k_steps
                  all_goals (dsimp only [WhileStep2]; k_steps; (rename News _ _ _ _ => N7); refine ret _ _ false ext od kvs _ _ (fun hg => nomatch hg) dd lo1 (fun _ => wRun_none hk hbb) (by k_asm) (by refine dropN N7 ?_; refine sub_cons (by k_mem) (sub_cons (by k_mem) ?_); (repeat (first | with_reducible exact sub_swap2 | with_reducible refine sub_tail ?_))) hab (by assumption) ?_; omega)
                · cases hlt : look f2 tgt with
                  | none =>
                    have hva := kv.none hlt
                    k_steps
                    (rename News _ _ _ _ => N7; rename Fr _ _ _ _ => F7; rename Obj.IsDictOf _ _ _ => d7)
                    refine WInv2.step (σ := ⟨f2 ++ [(tgt, _)], w2 ++ [(tgt, _)], g2⟩) (fvs := fvs ++ [.ref _]) (ext := (_, tupOf [.int tgt _, .int _ _] 0) :: (_, listOf [Value.int _ _].toArray _) :: ext) F7 N7 ?ho9 (sub_cons (by k_mem) (sub_cons (by k_mem) (sub_cons (by k_mem) (sub_cons (by k_mem) (sub_cons (by k_mem) (sub_tail (sub_tail (sub_tail (sub_tail (sub_tail sub_app_l)))))))))) ?ha9 ⟨?hab9, off_cons (in2 ?b1 ?b2) (off_cons (in2 ?b3 ?b4) off), (fa.mono sub_cc).snoc (List.Mem.head _), d7, (kv.mono sub_cc).snoc (List.Mem.tail _ (List.Mem.head _))⟩ ?eq9 rfl rfl rfl rfl rfl rfl rfl
                    case ho9 => exact sub_tail (sub_tail (sub_tail (sub_tail (sub_tail sub_app_r))))
                    case ha9 => exact off_new (l := [_, _, _]) (off_new (l := [_, _, _]) hoff (own_lt (ext := ext) (news := news) (by simp only [*]))) (own_lt (ext := ext) (news := news) (by simp only [*]))
                    case hab9 => exact hab_two (mid_lt (ext := ext) (own := own) (by simp only [*])) (mid_lt (ext := ext) (own := own) (by simp only [*])) hab
                    case b1 => omega
                    case b2 => omega
                    case b3 => omega
                    case b4 => omega
                    case eq9 => (rw [wFold_take hget2 eσ]; unfold wEnd; rw [if_neg hb]; simp only [hlt])
                  | some h3 =>
                    obtain ⟨la, lt, ln, hva, hla⟩ := kv.some hlt
                    have hla2 : (la, listOf [Value.int h3 lt].toArray ln) ∈ ext ++ news ++ own := List.mem_append_left _ (List.mem_append_left _ hla)
                    k_steps
                    · (rename News _ _ _ _ => N7; rename Fr _ _ _ _ => F7)
                      refine WInv2.step (σ := ⟨f2, w2, g2⟩) F7 N7 ?ho8 (sub_cons (by k_mem) (sub_cons (by k_mem) (sub_cons (by k_mem) (sub_tail (sub_tail (sub_tail (sub_tail sub_app_l))))))) hoff ⟨hab, off, fa, dd, kv⟩ ?eq8 rfl rfl rfl rfl rfl rfl rfl
                      case ho8 => exact sub_tail (sub_tail (sub_tail (sub_tail sub_app_r)))
                      case eq8 => (rw [wFold_take hget2 eσ]; unfold wEnd; rw [if_neg hb]; simp only [hlt]; rw [if_pos (by assumption)])
                    · (rename News _ _ _ _ => N7; rename Fr _ _ _ _ => F7)
                      refine WInv2.step (σ := ⟨f2, w2, false⟩) F7 N7 ?ho7 (sub_cons (by k_mem) (sub_cons (by k_mem) (sub_cons (by k_mem) (sub_tail (sub_tail (sub_tail (sub_tail sub_app_l))))))) hoff ⟨hab, off, fa, dd, kv⟩ ?eq7 rfl rfl rfl rfl rfl rfl rfl
                      case ho7 => exact sub_tail (sub_tail (sub_tail (sub_tail sub_app_r)))
                      case eq7 => (rw [wFold_take hget2 eσ]; unfold wEnd; rw [if_neg hb]; simp only [hlt]; rw [if_neg (by assumption)])
              case done =>
                intro m2 nx h2 tk2 hI F6 N6
                obtain ⟨σ, fvs, fn, od, kvs, ext, rfl, R, eσ, e1, e2, e3, e4, ⟨t1, e5⟩, ⟨t2, e6⟩, ⟨t3, e7⟩⟩ := hI
                refine wpAny_execs_nil ?_
                dsimp only [envOf] at F6
                dsimp only
                rw [I5.length, List.take_length] at eσ
                refine WInv.step F6 N6 (fun _ hp => List.Mem.tail _ hp) R ok hk ?hbx ?exx e1 e2 e3 e4
                case hbx => rw [hrow]; exact hbad
                case exx => rw [hrow]; exact eσ
end part_M6
section part_M7a
section
variable {prog : Program} {w : World} {A : Around} {E : Value → Shared → Prop} {s : Shared} {env : Env} {h₀ : Heap} {x : Str} {body : List Stmt} {Q : Flow → Shared → Prop}
theorem rg_iter {r : Addr} {a₀ b₀ : Int} {t₀ u₀ v₀ : Tok} {n : Nat} {m₀ : Str → Option Value} {news : List (Addr × Obj)} (J : Nat → (Str → Option Value) → List (Addr × Obj) → Prop)
    (hh : A.handled = none) (hr : IsRange s.heap r a₀ b₀ 1 t₀ u₀ v₀) (hsmall : Builtin.Range.small a₀ b₀ 1 = true) (hsz : Builtin.Range.rangeSize a₀ b₀ 1 = (n : Int)) (F : Fr h₀ env.locals s.heap m₀) (N : News h₀ env.locals s.heap news) (hj : J 0 m₀ news)
    (turn : ∀ (i : Nat) t m₁ nx h tk own, i < n → OwnOff own (nx.map (·.1)) → J i m₁ nx → Fr h₀ env.locals h (fun y => if y = x then some (.int (a₀ + (i : Int)) t) else m₁ y) → News h₀ env.locals h (nx ++ own) →
      wpAny (model prog w) A (execs body env) (InvPostG h₀ env.locals (J (i + 1)) own { s with heap := h, toks := tk } Q) E { s with heap := h, toks := tk })
    (done : ∀ m₁ nx h tk, J n m₁ nx → Fr h₀ env.locals h m₁ → News h₀ env.locals h nx → Q .next { s with heap := h, toks := tk }) :
    wpAny (model prog w) A (pyIter (.ref r)) (fun it s₂ => LoopAtV prog w A h₀ env x body Q E it s₂) E s := by
  refine wpAny_pyIter_range hr hsmall ?_
  have W : Walks prog w A s.heap.objs.size [s.heap.objs.size] [s.heap.objs.size] n (fun i v => i < n ∧ ∃ t, v = .int (a₀ + i * 1) t)
      (fun i h => IsRangeIter h s.heap.objs.size (a₀ + (i : Nat) * 1) ((n : Int) - (i : Nat)) 1) := (Walks.range hh _ a₀ 1 n).bound
  refine kdr_loop J W (fun _ h => h) (fun _ h => h) ?_ ?_ ?_ ?_ (by show IsRangeIter _ _ _ _ _; rw [hsz]; simpa using Heap.get?_push_size _ rfl) (F.push _) (fun p hp => ⟨Heap.get?_push_of_some _ (N p hp).1, (N p hp).2⟩) hj ?_ ?_
  · intro i h hi b hb
    rw [List.mem_singleton.mp hb]
    exact ⟨_, hi⟩
  · intro hm
    exact absurd F.ns.lt ((List.mem_singleton.mp hm) ▸ Nat.lt_irrefl _)
  · intro b hb
    rw [List.mem_singleton.mp hb]
    exact next_is_new F
  · intro p hp hI
    exact absurd (Heap.lt_size (N p hp).1) ((List.mem_singleton.mp hI) ▸ Nat.lt_irrefl _)
  · rintro i v m₁ nx h tk own hi ⟨_, t, rfl⟩ hoff hJ F₁ N₁
    have e1 : a₀ + (i : Int) * 1 = a₀ + (i : Int) := by omega
    rw [e1] at F₁
    exact turn i t m₁ nx h tk own hi hoff hJ F₁ N₁
  · intro m₁ nx h tk hJ F₁ N₁
    exact done m₁ nx h tk hJ F₁ N₁
end
/-- the drawn row: a list of ints, no longer than b -/
def RInv (news : List (Addr × Obj)) (rl : Addr) (q : Option (Addr × Obj)) (b : Nat → Nat) (extra : (Str → Option Value) → Prop) (j : Nat) (m : Str → Option Value) (nx : List (Addr × Obj)) : Prop :=
  ∃ vs n ns, nx = q.toList ++ (rl, listOf (List.toArray vs) n) :: news ∧ IntsAre vs ns ∧ ns.length ≤ b j ∧ m (Str.ofString "row") = some (.ref rl) ∧ extra m
end part_M7a
section part_M7
theorem calm_M7 : True := by
  w_top off
  trivial
local macro_rules | `(tactic| walk_at "no such key") => `(tactic| fail)
local macro_rules | `(tactic| k_mem) => `(tactic| (refine memI ?_; ktr_member))
local macro_rules | `(tactic| walk_at "pO") => `(tactic| (first | with_reducible assumption | omega))
local macro_rules | `(tactic| walk_at "pB") => `(tactic| ((iterate 5 k_asm); (first | exact rfl | assumption); ktr_room; ktr_units))
local macro_rules | `(tactic| walk_at "pD") => `(tactic| ((try dsimp only); (try k_fold)))
local macro_rules | `(tactic| walk_at "pA") => `(tactic| (with_reducible assumption))
local macro_rules | `(tactic| walk_at "subscriptTail") => `(tactic| (k_here; (with_reducible show wpAny _ _ (subscriptTail _ _ _ (Value.int 0 _)) _ _ _); k_dflt (refine item0 (by k_asm) (by k_mem) ?_; k_whole)))
local macro_rules | `(tactic| walk_at "subscriptTail") => `(tactic| (k_here; k_dflt (refine' itemL (by k_asm) (by k_mem) ?a ?b (by walk_at "pA") ?_; (case a => walk_at "pO"); (case b => walk_at "pO"); k_whole)))
local macro_rules | `(tactic| walk_at "call ref") => `(tactic| (k_here; refine WStop.call (by with_reducible assumption) ?_))

local macro_rules | `(tactic| k_steps) => `(tactic| repeat' (first | (k_unfold; (try dsimp only)) | (k_end; kc_close) | (with_reducible refine flatT ?_; intro _; dsimp only) | walk1 | (dsimp only; walk1) | (leave1; walk_say "STEP leave1"; (try dsimp only)) | fail "no step"))

local macro_rules | `(tactic| walk_at "pW") => `(tactic| (k_here; refine WStop.intro ?_))
local macro_rules | `(tactic| walk_at "exec While Compare cons nil") => `(tactic| (walk_at "pW"))
local macro_rules | `(tactic| walk_at "exec While BoolOp cons nil") => `(tactic| (walk_at "pW"))
local macro_rules | `(tactic| walk_at "pyIter ref") => `(tactic| (walk_at "pW"))
local macro_rules | `(tactic| walk_at "call ref") => `(tactic| (k_here; (with_reducible show wpAny _ _ (call (Value.ref 84) _) _ _ _); k_dflt (apply effect_spec; walk_at "pB"; k_mem; walk_at "pA"; intro q9 t9 u9 h9 tk9 F9 N9 l9; (try k_lt l9); walk_at "pD")))
local macro_rules | `(tactic| walk_at "call ref") => `(tactic| (k_here; (with_reducible show wpAny _ _ (call (Value.ref 140) _) _ _ _); k_dflt (apply moves_spec; walk_at "pB"; k_mem; walk_at "pA"; intro q9 t9 u9 h9 tk9 F9 N9 l9; (try k_lt l9); walk_at "pD")))
local macro_rules | `(tactic| walk_at "call builtin:len") => `(tactic| (k_here; k_dflt (apply lenL; k_asm; k_mem; walk_at "pA"; walk_at "pO"; k_whole)))
local macro_rules | `(tactic| walk_at "call builtin:list.pop") => `(tactic| (k_here; k_dflt (apply popV; k_asm; k_asm; k_upd; walk_at "pO"; k_whole); intro h9 F9 N9; (try k_sweep)))
local macro_rules | `(tactic| walk_at "call builtin:list.append") => `(tactic| (k_here; k_dflt (apply appendV; k_asm; k_asm; k_upd; walk_at "pO"; k_whole); intro h9 F9 N9; (try k_sweep)))
local macro_rules | `(tactic| walk_at "subscriptTail") => `(tactic| (k_here; k_dflt (refine' dItem (by k_asm) ?p ?d (by walk_at "pA") ?_; (case d => walk_at "pA"); (case p => k_mem); k_whole)))
local macro_rules | `(tactic| walk_at "pI") => `(tactic| (k_asm; (rotate_left 3); walk_at "pA"; (rotate_right 3); k_mem; (iterate 2 walk_at "pA"); k_whole))
local macro_rules | `(tactic| walk_at "compareOp NotIn") => `(tactic| (k_here; k_dflt (first | (apply dNotIn1; walk_at "pI") | (apply dNotIn0; walk_at "pI"))))
local macro_rules | `(tactic| walk_at "setItem ref int") => `(tactic| (k_here; k_dflt (apply dSetNew; k_asm; k_asm; k_updF; walk_at "pA"; walk_at "pA"; walk_at "pO"; k_whole); intro h9 o9 F9 N9 d9; (try dsimp only at N9); (try k_sweep)))
local macro_rules | `(tactic| walk_at "newTuple") => `(tactic| (k_here; k_dflt (refine' kup_newTuple (by k_asm) (by k_asm) ?_ ?z; (case z => kmk_size)); intro D9 h9 F9 N9 l9; (try k_lt l9); (try k_sweep)))

local macro_rules | `(tactic| walk_at "pF") => `(tactic| (k_here; (rename Fr _ _ _ _ => lF'); (with_unfolding_all refine' For_invVF lF' (by exact rfl) (by exact rfl) ?_; k_whole)))
local macro_rules | `(tactic| walk_at "exec For Name Subscript cons nil") => `(tactic| (walk_at "pF"))
local macro_rules | `(tactic| walk_at "exec For Name Call cons nil") => `(tactic| (walk_at "pF"))
local macro_rules | `(tactic| walk_at "call builtin:list.reverse") => `(tactic| (walk_at "pW"))

theorem off_of_lt {l : List (Addr × Obj)} {D : Addr} (h : ∀ p ∈ l, p.1 < D) : ∀ p ∈ l, p.1 ≠ D := fun p hp => Nat.ne_of_lt (h p hp)
set_option maxHeartbeats 8000000 in
theorem row_spec {w : World} {mean : ExcName → Option Value} {mg mb : Str → Option Value} {dp un : Nat} {gd : Option (List Code)} {cn : Str} {cs : Scope} {a : Addr} {ccd : Value} {cl : List (Str × Addr)} {outer : List Env} {A₀ : Around} {base h₀ : Heap} {L : Addr} {m : Str → Option Value} {news : List (Addr × Obj)} {s : Shared} {Q E : Value → Shared → Prop} {l vs ns} (B : Below A₀ base outer h₀) (F : Fr h₀ L s.heap m) (X : (hd.heap_39 w.params).In h₀) (N : News h₀ L s.heap news) (T : Top hd.view_39 (looseW hd.view_39 []) mean mg mb h₀) (hk : cs.kind = .function) (hd : dp + 2 < recursionLimit) (hu : un + 128 < cLine)
   (hl : base.IsList l vs.toArray) (hI : IntsAre vs ns) (hlen : ns.length ≤ 63)
   (ret : ∀ q rs n (ms : List Int) h' tk, IntsAre rs ms → ms.length ≤ 140 → Fr h₀ L h' m → News h₀ L h' ((q, listOf (List.toArray rs) n) :: news) → (∀ p ∈ news, p.1 < q) → Q (.ref q) {s with heap := h', toks := tk}) :
   wpAny (model PR w) (ktrTop dp un gd cn cs L a ccd cl outer) (call (.ref 119) [.ref l]) Q E s := by
  refine wpAny_call ?_
  k_dflt ktr_enter
  rename Below _ _ _ _ => B'
  have hl' := stays_list (Below.stays B') hl
  k_steps
  refine WStop.mk ?_
  rename News _ _ _ _ => N3
  rename Fr _ _ _ _ => F3
  rename IntsAre _ (List.take 40 _) => iv
  k_dflt (refine kdl_iter (RInv news _ (some (_, listOf _ 0)) (fun j => 31 * j) (fun _ => True)) (by rfl) (List.Mem.head _) F3 N3 ⟨[], 0, [], rfl, .nil, Nat.zero_le _, rfl, trivial⟩ ?turn ?done)
  case turn =>
    intro j v m2 nx h2 tk2 own hv hoff hmem hJ F4 N4
    obtain ⟨rvs, rn, rns, rfl, ri, rb, e1, _⟩ := hJ
    have hjl : j < (List.take 40 ns).length := by rw [← iv.length]; exact (List.getElem?_eq_some_iff.mp hv).1
    obtain ⟨tt, hx⟩ := iv.get j _ (List.getElem?_eq_getElem hjl)
    rw [hx] at hv
    cases hv
    generalize (List.take 40 ns)[j] = cell at F4
    have hj40 : j < 40 := by simp at hjl; omega
    replace F4 := fr_names1 _ (allC e1 all0) F4
    dsimp only [addN, envOf] at F4
    simp only [Option.toList, List.map_cons, List.cons_append, List.nil_append, envOf] at N4 hoff
    have hrl : rvs.length = rns.length := ri.length
    simp only at rb
    rename ∀ (p : Addr × Obj), p ∈ news → p.1 < _ => hnl
    have hoff4 : OwnOff (news ++ own) [_] := kd_off (off_sub hoff (fun b hb => by rw [List.mem_singleton.mp hb]; exact List.Mem.tail _ (List.Mem.head _))) (fun p hp x hx => by cases List.mem_singleton.mp hx; exact Nat.ne_of_lt (hnl p hp))
    k_steps
    all_goals
      refine WStop.mk ?_
      rename News _ _ _ _ => N5
      rename Fr _ _ _ _ => F5
      rename IsRange _ _ _ _ _ _ _ _ => rg5
      k_dflt (refine rg_iter (n := 30) (RInv (news ++ own) _ (some (_, listOf _ 0)) (fun i => 31 * j + 1 + i) (fun m => ∃ fg t, m (Str.ofString "figure") = some (.int fg t))) (by rfl) rg5 (by rfl) (by rfl) F5 (dropN (news := (_, listOf _ _) :: (_, listOf _ _) :: (news ++ own)) N5 (sub_cons (by k_mem) (sub_cons (by k_mem) ?tl7))) ⟨_, _, _, rfl, IntsAre.append ri (.cons _ _ .nil), ?len7, rfl, _, _, rfl⟩ ?turn7 ?done7)
      case tl7 => (repeat (first | with_reducible exact sub_refl | with_reducible refine sub_tail ?_))
      case len7 => simp; omega
      case turn7 =>
        clear ri rb hrl
        intro i ti m3 nx h3 tk3 own3 hi hoff3 hJ F6 N6
        obtain ⟨rvs, rn, rns, rfl, ri, rb, e1, fg, tf, e2⟩ := hJ
        simp only at rb
        have hrl : rvs.length = rns.length := ri.length
        replace F6 := fr_names1 _ (allC e1 (allC e2 all0)) F6
        dsimp only [addN, envOf] at F6
        simp only [Option.toList, List.map_cons, List.cons_append, List.nil_append, envOf] at N6 hoff3
        have hoff5 : OwnOff (news ++ own ++ own3) [_] := kd_off (off_sub hoff3 (fun b hb => by rw [List.mem_singleton.mp hb]; exact List.Mem.tail _ (List.Mem.head _))) hoff4
        k_steps
        · (rename News _ _ _ _ => N7; rename Fr _ _ _ _ => F7)
          exact InvEndG.intro F7 N7 ⟨_, _, _, rfl, IntsAre.append ri (.cons _ _ .nil), by simp; omega, rfl, _, _, rfl⟩ hoff3 (sub_cons (List.Mem.head _) (sub_cons (List.Mem.tail _ (List.Mem.head _)) (sub_tail (sub_tail sub_app_l)))) (sub_tail (sub_tail sub_app_r))
        · exact InvEndG.intro F6 N6 ⟨_, _, _, rfl, ri, by simp only; omega, rfl, _, _, rfl⟩ hoff3 (sub_cons (List.Mem.head _) (sub_cons (List.Mem.tail _ (List.Mem.head _)) (sub_tail (sub_tail sub_app_l)))) (sub_tail (sub_tail sub_app_r))
      case done7 =>
        clear ri rb hrl
        intro m3 nx h3 tk3 hJ F6 N6
        obtain ⟨rvs, rn, rns, rfl, ri, rb, e1, fg, tf, e2⟩ := hJ
        simp only at rb
        k_steps
        simp only [Option.toList, List.cons_append, List.nil_append, envOf] at N6
        dsimp only [envOf] at F6
        exact InvEndG.intro F6 N6 ⟨List.Mem.head _, _, _, _, rfl, ri, by simp only; omega, e1, trivial⟩ hoff (sub_cons (List.Mem.head _) (sub_cons (List.Mem.tail _ (List.Mem.head _)) (sub_tail (sub_tail sub_app_l)))) (sub_tail (sub_tail sub_app_r))
  case done =>
    intro m2 nx h2 tk2 hJ F4 N4
    obtain ⟨rvs, rn, rns, rfl, ri, rb, e1, _⟩ := hJ
    replace F4 := fr_names _ (allC e1 all0) F4
    dsimp only [addN, envOf] at F4
    simp only [Option.toList, List.cons_append, List.nil_append, envOf] at N4
    have hrl : rvs.length = rns.length := ri.length
    have hw := iv.length
    have rb40 : rns.length ≤ 1240 := by
      simp only at rb
      have : (List.take 40 ns).length ≤ 40 := List.length_take_le _ _
      omega
    clear rb
    k_steps
    refine WStop.mk ?_
    rename Fr _ _ _ _ => F9
    rename News _ _ _ _ => N9
    k_dflt (refine kl_reverse (l := List.reverse _) F9 N9 (by rfl) (.head (off_of_lt ?u9)) ?z9 ?_)
    case u9 =>
      rename And _ _ => l9
      intro p hp
      rcases List.mem_cons.mp hp with rfl | hp
      · exact l9.1
      · exact allLt_at (l := (_, listOf _ _) :: news) l9.2 _ hp
    case z9 => rename IntsAre _ (List.take 140 _) => I9; have := I9.length; rw [sizeLine_eq]; simp only [List.toList_toArray]; rw [this]; simp; omega
    intro h9 F9 N9
    (try k_sweep)
    k_steps
    rename IntsAre _ (List.take 140 _) => I9
    exact ret _ _ 0 _ _ _ I9.reverse (by simp; omega) (by k_asm) (by rename News h₀ _ _ _ => N9; exact dropN N9 (sub_cons (List.Mem.head _) (sub_tail (sub_tail (sub_tail sub_refl))))) (by first | assumption | exact allLt_at (by simp only [*]))
end part_M7
section part_M8
theorem calm_M8 : True := by
  w_top off
  trivial
local macro_rules | `(tactic| k_mem) => `(tactic| (refine memI ?_; ktr_member))
local macro_rules | `(tactic| walk_at "pO") => `(tactic| (first | with_reducible assumption | omega))
local macro_rules | `(tactic| walk_at "pB") => `(tactic| ((iterate 5 k_asm); (first | exact rfl | assumption); ktr_room; ktr_units))
local macro_rules | `(tactic| walk_at "pD") => `(tactic| ((try dsimp only); (try k_fold)))
local macro_rules | `(tactic| walk_at "pA") => `(tactic| (with_reducible assumption))
local macro_rules | `(tactic| walk_at "subscriptTail") => `(tactic| (k_here; (with_reducible show wpAny _ _ (subscriptTail _ _ _ (Value.int 0 _)) _ _ _); k_dflt (refine item0 (by k_asm) (by k_mem) ?_; k_whole)))
local macro_rules | `(tactic| walk_at "subscriptTail") => `(tactic| (k_here; k_dflt (refine' itemL (by k_asm) (by k_mem) ?a ?b (by walk_at "pA") ?_; (case a => walk_at "pO"); (case b => walk_at "pO"); k_whole)))
local macro_rules | `(tactic| walk_at "call ref") => `(tactic| (k_here; refine WStop.call (by with_reducible assumption) ?_))

local macro_rules | `(tactic| k_steps) => `(tactic| repeat' (first | (k_unfold; (try dsimp only)) | (k_end; kc_close) | (with_reducible refine flatT ?_; intro _; dsimp only) | walk1 | (dsimp only; walk1) | (leave1; walk_say "STEP leave1"; (try dsimp only)) | fail "no step"))

local macro_rules | `(tactic| walk_at "pW") => `(tactic| (k_here; refine WStop.intro ?_))
local macro_rules | `(tactic| walk_at "exec While Compare cons nil") => `(tactic| (walk_at "pW"))
local macro_rules | `(tactic| walk_at "exec While BoolOp cons nil") => `(tactic| (walk_at "pW"))
local macro_rules | `(tactic| walk_at "pyIter ref") => `(tactic| (walk_at "pW"))
local macro_rules | `(tactic| walk_at "call ref") => `(tactic| (k_here; (with_reducible show wpAny _ _ (call (Value.ref 84) _) _ _ _); k_dflt (apply effect_spec; walk_at "pB"; k_mem; walk_at "pA"; intro q9 t9 u9 h9 tk9 F9 N9 l9; (try k_lt l9); walk_at "pD")))
local macro_rules | `(tactic| walk_at "call ref") => `(tactic| (k_here; (with_reducible show wpAny _ _ (call (Value.ref 140) _) _ _ _); k_dflt (apply moves_spec; walk_at "pB"; k_mem; walk_at "pA"; intro q9 t9 u9 h9 tk9 F9 N9 l9; (try k_lt l9); walk_at "pD")))
local macro_rules | `(tactic| walk_at "call builtin:len") => `(tactic| (k_here; k_dflt (apply lenL; k_asm; k_mem; walk_at "pA"; walk_at "pO"; k_whole)))
local macro_rules | `(tactic| walk_at "call builtin:list.pop") => `(tactic| (k_here; k_dflt (apply popV; k_asm; k_asm; k_upd; walk_at "pO"; k_whole); intro h9 F9 N9; (try k_sweep)))
local macro_rules | `(tactic| walk_at "call builtin:list.append") => `(tactic| (k_here; k_dflt (apply appendV; k_asm; k_asm; k_upd; walk_at "pO"; k_whole); intro h9 F9 N9; (try k_sweep)))
local macro_rules | `(tactic| walk_at "subscriptTail") => `(tactic| (k_here; k_dflt (refine' dItem (by k_asm) ?p ?d (by walk_at "pA") ?_; (case d => walk_at "pA"); (case p => k_mem); k_whole)))
local macro_rules | `(tactic| walk_at "pI") => `(tactic| (k_asm; (rotate_left 3); walk_at "pA"; (rotate_right 3); k_mem; (iterate 2 walk_at "pA"); k_whole))
local macro_rules | `(tactic| walk_at "compareOp NotIn") => `(tactic| (k_here; k_dflt (first | (apply dNotIn1; walk_at "pI") | (apply dNotIn0; walk_at "pI"))))
local macro_rules | `(tactic| walk_at "setItem ref int") => `(tactic| (k_here; k_dflt (apply dSetNew; k_asm; k_asm; k_updF; walk_at "pA"; walk_at "pA"; walk_at "pO"; k_whole); intro h9 o9 F9 N9 d9; (try dsimp only at N9); (try k_sweep)))
local macro_rules | `(tactic| walk_at "newTuple") => `(tactic| (k_here; k_dflt (refine' kup_newTuple (by k_asm) (by k_asm) ?_ ?z; (case z => kmk_size)); intro D9 h9 F9 N9 l9; (try k_lt l9); (try k_sweep)))

local macro_rules | `(tactic| walk_at "pN") => `(tactic| (k_asm; k_mem; k_mem; ktr_units; k_whole))
local macro_rules | `(tactic| walk_at "compareOp NotEq ref ref") => `(tactic| (k_here; k_dflt (first | (apply neNilT; walk_at "pN") | (apply neNil0; walk_at "pN") | (apply neOne; walk_at "pN"))))
local macro_rules | `(tactic| walk_at "exec If") => `(tactic| (k_here; refine WStop.cut (by with_reducible assumption) ?_))

theorem ints_nil_or {vs : List Value} {ks : List Int} (h : IntsAre vs ks) : vs = [] ∨ ∃ us y t p, vs = us ++ [.int y t] ∧ IntsAre us p ∧ ks = p ++ [y] := by
  rcases snoc_cases ks with rfl | ⟨p, y, rfl⟩
  · cases h; exact .inl rfl
  · obtain ⟨us, t, e, h'⟩ := ints_snoc_inv h
    exact .inr ⟨us, y, t, p, e, h', rfl⟩
set_option maxHeartbeats 8000000 in
theorem next_spec0 {w : World} {mean : ExcName → Option Value} {mg mb : Str → Option Value} {dp un : Nat} {gd : Option (List Code)} {cn : Str} {cs : Scope} {a : Addr} {ccd : Value} {cl : List (Str × Addr)} {outer : List Env} {A₀ : Around} {base h₀ : Heap} {L : Addr} {m : Str → Option Value} {news : List (Addr × Obj)} {s : Shared} {Q E : Value → Shared → Prop} {l vs ks n rest} (B : Below A₀ base outer h₀) (F : Fr h₀ L s.heap m) (X : (hd.heap_39 w.params).In h₀) (N : News h₀ L s.heap news) (T : Top hd.view_39 (looseW hd.view_39 []) mean mg mb h₀) (hk : cs.kind = .function) (hd : dp + 1 < recursionLimit) (hu : un + 80 < cLine)
   (hn : news = (l, listOf (List.toArray vs) n) :: rest) (hoff : OwnOff rest [l]) (hI : IntsAre vs ks) (hlen : ks.length ≤ 140)
   (ret : ∀ ws j (ps : List Int) y t h' tk, IntsAre ws ps → ps.length ≤ 140 → Fr h₀ L h' m → News h₀ L h' ((l, listOf (List.toArray ws) j) :: rest) → Q (.int y t) {s with heap := h', toks := tk}) :
   wpAny (model PR w) (ktrTop dp un gd cn cs L a ccd cl outer) (call (.ref 126) [.ref l]) Q E s := by
  subst hn
  have hvl : vs.length = ks.length := hI.length
  refine wpAny_call ?_
  k_dflt ktr_enter
  rcases ints_nil_or hI with rfl | ⟨us, y, t, p, rfl, hI2, rfl⟩
  · k_steps
    exact ret _ _ _ _ _ _ _ .nil (by simp) (by k_asm) (by refine dropN (by k_asm) ?_; refine sub_cons (by k_mem) ?_; (repeat (first | with_reducible exact sub_refl | with_reducible refine sub_tail ?_)))
  · have hul : us.length = p.length := hI2.length
    simp only [List.length_append, List.length_singleton] at hlen hvl
    k_steps
    exact ret _ _ _ _ _ _ _ hI2 (by omega) (by k_asm) (by refine dropN (by k_asm) ?_; refine sub_cons (by k_mem) ?_; (repeat (first | with_reducible exact sub_refl | with_reducible refine sub_tail ?_)))
theorem next_spec {w : World} {mean : ExcName → Option Value} {mg mb : Str → Option Value} {dp un : Nat} {gd : Option (List Code)} {cn : Str} {cs : Scope} {a : Addr} {ccd : Value} {cl : List (Str × Addr)} {outer : List Env} {A₀ : Around} {base h₀ : Heap} {L : Addr} {m : Str → Option Value} {news : List (Addr × Obj)} {s : Shared} {Q E : Value → Shared → Prop} {l vs ks n o g} (B : Below A₀ base outer h₀) (F : Fr h₀ L s.heap m) (X : (hd.heap_39 w.params).In h₀) (N : News h₀ L s.heap news) (T : Top hd.view_39 (looseW hd.view_39 []) mean mg mb h₀) (hk : cs.kind = .function) (hd : dp + 1 < recursionLimit) (hu : un + 80 < cLine)
   (U : UpdF l o news g) (ho : o = listOf (List.toArray vs) n) (hI : IntsAre vs ks) (hlen : ks.length ≤ 140)
   (ret : ∀ ws j (ps : List Int) y t h' tk, IntsAre ws ps → ps.length ≤ 140 → Fr h₀ L h' m → News h₀ L h' (g (listOf (List.toArray ws) j)) → Q (.int y t) {s with heap := h', toks := tk}) :
   wpAny (model PR w) (ktrTop dp un gd cn cs L a ccd cl outer) (call (.ref 126) [.ref l]) Q E s := by
  subst ho
  obtain ⟨pre, post, rfl, hg, h1, h2⟩ := U.split
  refine next_spec0 (news := (l, listOf (List.toArray vs) n) :: (pre ++ post)) (rest := pre ++ post) B F X (dropN N ?_) T hk hd hu rfl ?_ hI hlen ?_
  · intro p hp
    rcases List.mem_cons.mp hp with rfl | hp
    · exact List.mem_append_right _ (List.Mem.head _)
    · rcases List.mem_append.mp hp with hp | hp
      · exact List.mem_append_left _ hp
      · exact List.mem_append_right _ (List.Mem.tail _ hp)
  · intro p hp x hx
    cases List.mem_singleton.mp hx
    rcases List.mem_append.mp hp with hp | hp
    · exact h1 p hp
    · exact h2 p hp
  · intro ws j ps y t h' tk I5 l5 F5 N5
    refine ret ws j ps y t h' tk I5 l5 F5 (dropN N5 ?_)
    rw [hg]
    intro p hp
    rcases List.mem_append.mp hp with hp | hp
    · exact List.Mem.tail _ (List.mem_append_left _ hp)
    · rcases List.mem_cons.mp hp with rfl | hp
      · exact List.Mem.head _
      · exact List.Mem.tail _ (List.mem_append_right _ hp)
local macro_rules | `(tactic| walk_at "call ref") => `(tactic| (k_here; (with_reducible show wpAny _ _ (call (Value.ref 126) _) _ _ _); k_dflt (apply next_spec; walk_at "pB"; k_updF; exact rfl; (iterate 2 walk_at "pA"); intro v9 n9 i9 y9 t9 h9 tk9 I9 l9 F9 N9; (try dsimp only at N9); walk_at "pD")))

theorem pick14 {z : Int} (d : z < 16) (a : ¬ z < 12) (b : z ≠ 12) (c : z ≠ 13) : z - 14 = 0 ∨ z - 14 = 1 := by omega
theorem pick9 {z : Int} (a : ¬ z < 8) (b : z ≠ 8) (c : z < 12) : z - 9 = 0 ∨ z - 9 = 1 ∨ z - 9 = 2 := by omega
theorem fm16 {y : Int} : y.fmod 16 < 16 := Int.fmod_lt_of_pos y (by decide)
theorem pick2 {y : Int} : y.fmod 2 = 0 ∨ y.fmod 2 = 1 := by
  rw [Int.fmod_eq_emod_of_nonneg _ (by decide)]
  omega
section
variable {prog : Program} {w : World} {A : Around} {E : Value → Shared → Prop} {s : Shared} {h₀ : Heap} {L l : Addr} {news : List (Addr × Obj)} {value slice : PySem.Expr} {x y z : Value} {n : Nat} {k : Int} {u : Tok} {Q : Value → Shared → Prop}
theorem item2 (N : News h₀ L s.heap news) (hm : (l, listOf [x, y].toArray n) ∈ news) (hk : k = 0 ∨ k = 1) (h1 : Q x s) (h2 : Q y s)
    (hs : subscripted slice false (.ref l) (.int k u) = operate [.ref l, .int k u] (getItem (.ref l) (.int k u)) := by with_unfolding_all rfl) :
    wpAny (model prog w) A (subscriptTail value slice (.ref l) (.int k u)) Q E s := by
  rcases hk with rfl | rfl
  · exact itemL N hm (by decide) (by decide) rfl h1 hs
  · exact itemL N hm (by decide) (by decide) rfl h2 hs
theorem item3 {c1 c2 c3 : Str} {t1 t2 t3 : Tok} (N : News h₀ L s.heap news) (hm : (l, listOf [Value.str c1 t1, .str c2 t2, .str c3 t3].toArray n) ∈ news) (hk : k = 0 ∨ k = 1 ∨ k = 2) (h : ∀ c t, (c = c1 ∨ c = c2 ∨ c = c3) → Q (.str c t) s)
    (hs : subscripted slice false (.ref l) (.int k u) = operate [.ref l, .int k u] (getItem (.ref l) (.int k u)) := by with_unfolding_all rfl) :
    wpAny (model prog w) A (subscriptTail value slice (.ref l) (.int k u)) Q E s := by
  rcases hk with rfl | rfl | rfl
  · exact itemL N hm (by decide) (by decide) rfl (h _ _ (.inl rfl)) hs
  · exact itemL N hm (by decide) (by decide) rfl (h _ _ (.inr (.inl rfl))) hs
  · exact itemL N hm (by decide) (by decide) rfl (h _ _ (.inr (.inr rfl))) hs
end
def IsRow (us : List Value) : Prop := ∃ row, RowVals row us
theorem row_jump {c : Str} {t u : Tok} {g : Int} (h : c = Str.ofString "jump" ∨ c = Str.ofString "unless" ∨ c = Str.ofString "when") : IsRow [.str c t, .int g u] := by
  rcases h with rfl | rfl | rfl
  · exact ⟨_, .jump⟩
  · exact ⟨_, .unless⟩
  · exact ⟨_, .when⟩
def CutVAt (h₀ : Heap) (L : Addr) (m : Str → Option Value) (l : Addr) (rest : List (Addr × Obj)) (s : Shared) (v : Value) (s' : Shared) : Prop :=
  ∃ z u h tk ws j ps, v = .int z u ∧ s' = { s with heap := h, toks := tk } ∧ IntsAre ws ps ∧ ps.length ≤ 140 ∧ Fr h₀ L h m ∧ News h₀ L h ((l, listOf (List.toArray ws) j) :: rest)
theorem cutV {prog : Program} {w : World} {A : Around} {E : Value → Shared → Prop} {s : Shared} {h₀ : Heap} {L l : Addr} {m : Str → Option Value} {rest : List (Addr × Obj)} {o : Obj} {t : Sem Value} {Q : Value → Shared → Prop}
    (_F : Fr h₀ L s.heap m) (_N : News h₀ L s.heap ((l, o) :: rest)) (h1 : wpAny (model prog w) A t (fun v s' => CutVAt h₀ L m l rest s v s') E s)
    (h2 : ∀ z u h tk ws j (ps : List Int), IntsAre ws ps → ps.length ≤ 140 → Fr h₀ L h m → News h₀ L h ((l, listOf (List.toArray ws) j) :: rest) → Q (.int z u) { s with heap := h, toks := tk }) : wpAny (model prog w) A t Q E s := by
  refine wpAny_mono h1 (fun v s' h => ?_) fun _ _ e => e
  obtain ⟨z, u, h, tk, ws, j, ps, rfl, rfl, I, l, F, N⟩ := h
  exact h2 z u h tk ws j ps I l F N
local macro_rules | `(tactic| walk_at "eval IfExp") => `(tactic| (k_here; refine WStop.cut (by with_reducible assumption) ?_))
theorem lt_hd {l : List (Addr × Obj)} {a q : Addr} {o : Obj} (h : @LT.lt Nat _ a q) (k : ∀ p ∈ l, p.1 < q) : ∀ p ∈ (a, o) :: l, p.1 < q := fun p hp => by
  rcases List.mem_cons.mp hp with rfl | hp
  · exact h
  · exact k p hp
set_option maxHeartbeats 8000000 in
theorem drawn_spec0 {w : World} {mean : ExcName → Option Value} {mg mb : Str → Option Value} {dp un : Nat} {gd : Option (List Code)} {cn : Str} {cs : Scope} {a : Addr} {ccd : Value} {cl : List (Str × Addr)} {outer : List Env} {A₀ : Around} {base h₀ : Heap} {L : Addr} {m : Str → Option Value} {news : List (Addr × Obj)} {s : Shared} {Q E : Value → Shared → Prop} {l vs ks n rest} {many : Int} {tm : Tok} (B : Below A₀ base outer h₀) (F : Fr h₀ L s.heap m) (X : (hd.heap_39 w.params).In h₀) (N : News h₀ L s.heap news) (T : Top hd.view_39 (looseW hd.view_39 []) mean mg mb h₀) (hk : cs.kind = .function) (hd : dp + 2 < recursionLimit) (hu : un + 100 < cLine)
   (hn : news = (l, listOf (List.toArray vs) n) :: rest) (hoff : OwnOff rest [l]) (hI : IntsAre vs ks) (hlen : ks.length ≤ 140) (hm0 : 0 < many) (hm1 : many ≤ 12)
   (ret : ∀ q us k ws j (ps : List Int) h' tk, IsRow us → IntsAre ws ps → ps.length ≤ 140 → Fr h₀ L h' m → News h₀ L h' ((q, tupOf us k) :: (l, listOf (List.toArray ws) j) :: rest) → (∀ p ∈ news, p.1 < q) → Q (.ref q) {s with heap := h', toks := tk}) :
   wpAny (model PR w) (ktrTop dp un gd cn cs L a ccd cl outer) (call (.ref 133) [.ref l, .int many tm]) Q E s := by
  subst hn
  refine wpAny_call ?_
  k_dflt ktr_enter
  have cut : CutHere := ⟨⟩
  k_steps
  refine WStop.mk ?_
  clear cut
  rename Fr _ _ _ _ => Fc
  rename News _ _ _ _ => Nc
  k_dflt (refine cutV Fc Nc ?_ ?_)
  · k_steps
    all_goals (rename Fr _ _ _ _ => Fd; rename News _ _ _ _ => Nd; rename IntsAre _ _ => Id; exact ⟨_, _, _, _, _, _, _, rfl, rfl, Id, by with_reducible assumption, Fd, Nd⟩)
  intro z9 u9 h9 tk9 v9 n9 i9 I9 l9 F9 N9
  clear Fc Nc
  k_steps
  all_goals (first
    | (with_reducible show Q _ _; rename News h₀ _ _ _ => N9)
    | (rename News _ _ _ _ => N9; k_dflt (refine item3 N9 (by k_mem) (by first | exact pick9 (by with_reducible assumption) (by with_reducible assumption) (by with_reducible assumption) | omega) ?_); intro c9 t9 hc9; k_steps; (rename News h₀ _ _ _ => N9))
    | (rename News _ _ _ _ => N9; k_dflt (refine item2 N9 (by k_mem) (by first | exact pick2 | exact pick14 fm16 (by with_reducible assumption) (by with_reducible assumption) (by with_reducible assumption) | exact pick14 fm16 (by omega) (by omega) (by omega)) ?_ ?_); all_goals (k_steps; (rename News h₀ _ _ _ => N9))))
  all_goals
    refine ret _ _ _ _ _ _ _ _ ?_ (by with_reducible assumption) (by with_reducible assumption) (by k_asm) (dropN N9 (sub_cons (x := (_, tupOf _ _)) (by k_mem) (sub_cons (by k_mem) (by (repeat (first | with_reducible exact sub_refl | with_reducible refine sub_tail ?_)))))) ?_
    · first | exact row_jump (by with_reducible assumption) | exact ⟨_, .const⟩ | exact ⟨_, .dup⟩ | exact ⟨_, .drop⟩ | exact ⟨_, .arith⟩ | exact ⟨_, .not_⟩ | exact ⟨_, .jump⟩ | exact ⟨_, .unless⟩ | exact ⟨_, .when⟩ | exact ⟨_, .call⟩ | exact ⟨_, .callvar⟩ | exact ⟨_, .host⟩ | exact ⟨_, .ret⟩ | exact ⟨_, .trap⟩
    · refine lt_hd (l := rest) ?_ ?_
      · omega
      · exact allLt_at (by simp only [*])
theorem drawn_spec {w : World} {mean : ExcName → Option Value} {mg mb : Str → Option Value} {dp un : Nat} {gd : Option (List Code)} {cn : Str} {cs : Scope} {a : Addr} {ccd : Value} {cl : List (Str × Addr)} {outer : List Env} {A₀ : Around} {base h₀ : Heap} {L : Addr} {m : Str → Option Value} {news : List (Addr × Obj)} {s : Shared} {Q E : Value → Shared → Prop} {l vs ks n o g} {many : Int} {tm : Tok} (B : Below A₀ base outer h₀) (F : Fr h₀ L s.heap m) (X : (hd.heap_39 w.params).In h₀) (N : News h₀ L s.heap news) (T : Top hd.view_39 (looseW hd.view_39 []) mean mg mb h₀) (hk : cs.kind = .function) (hd : dp + 2 < recursionLimit) (hu : un + 100 < cLine)
   (U : UpdF l o news g) (ho : o = listOf (List.toArray vs) n) (hI : IntsAre vs ks) (hlen : ks.length ≤ 140) (hm0 : 0 < many) (hm1 : many ≤ 12)
   (ret : ∀ q us k ws j (ps : List Int) h' tk, IsRow us → IntsAre ws ps → ps.length ≤ 140 → Fr h₀ L h' m → News h₀ L h' ((q, tupOf us k) :: g (listOf (List.toArray ws) j)) → (∀ p ∈ news, p.1 < q) → Q (.ref q) {s with heap := h', toks := tk}) :
   wpAny (model PR w) (ktrTop dp un gd cn cs L a ccd cl outer) (call (.ref 133) [.ref l, .int many tm]) Q E s := by
  subst ho
  obtain ⟨pre, post, rfl, hg, h1, h2⟩ := U.split
  refine drawn_spec0 (news := (l, listOf (List.toArray vs) n) :: (pre ++ post)) (rest := pre ++ post) B F X (dropN N ?_) T hk hd hu rfl ?_ hI hlen hm0 hm1 ?_
  · intro p hp
    rcases List.mem_cons.mp hp with rfl | hp
    · exact List.mem_append_right _ (List.Mem.head _)
    · rcases List.mem_append.mp hp with hp | hp
      · exact List.mem_append_left _ hp
      · exact List.mem_append_right _ (List.Mem.tail _ hp)
  · intro p hp x hx
    cases List.mem_singleton.mp hx
    rcases List.mem_append.mp hp with hp | hp
    · exact h1 p hp
    · exact h2 p hp
  · intro q us k ws j ps h' tk r5 I5 l5 F5 N5 l6
    refine ret q us k ws j ps h' tk r5 I5 l5 F5 (dropN N5 ?_) ?_
    · rw [hg]
      intro p hp
      rcases List.mem_cons.mp hp with rfl | hp
      · exact List.Mem.head _
      · rcases List.mem_append.mp hp with hp | hp
        · exact List.Mem.tail _ (List.Mem.tail _ (List.mem_append_left _ hp))
        · rcases List.mem_cons.mp hp with rfl | hp
          · exact List.Mem.tail _ (List.Mem.head _)
          · exact List.Mem.tail _ (List.Mem.tail _ (List.mem_append_right _ hp))
    · intro p hp
      rcases List.mem_append.mp hp with hp | hp
      · exact l6 p (List.Mem.tail _ (List.mem_append_left _ hp))
      · rcases List.mem_cons.mp hp with rfl | hp
        · exact l6 _ (List.Mem.head _)
        · exact l6 p (List.Mem.tail _ (List.mem_append_right _ hp))
end part_M8
section part_M9a
section
variable {prog : Program} {w : World} {A : Around} {E : Value → Shared → Prop} {s : Shared} {env : Env} {h₀ : Heap} {x : Str} {body : List Stmt} {Q : Flow → Shared → Prop}
/-- a loop over the int keys of a dict of the ledger, with an invariant of any kind -/
theorem dk_iter {d : Addr} {od : Obj} {kvs : List (Int × Value)} {m₀ : Str → Option Value} {news : List (Addr × Obj)} (J : Nat → (Str → Option Value) → List (Addr × Obj) → Prop)
    (hh : A.handled = none) (lo : (d == sysModules) = false) (hl : (d, od) ∈ news) (hD : od.IsDictOf (PySem.intKind prog w) kvs) (F : Fr h₀ env.locals s.heap m₀) (N : News h₀ env.locals s.heap news) (hj : J 0 m₀ news)
    (turn : ∀ (i : Nat) (k : Int) (v : Value) t m₁ nx h tk own, kvs[i]? = some (k, v) → OwnOff own (nx.map (·.1)) → (d, od) ∈ nx → J i m₁ nx → Fr h₀ env.locals h (fun y => if y = x then some (.int k t) else m₁ y) → News h₀ env.locals h (nx ++ own) →
      wpAny (model prog w) A (execs body env) (InvPostG h₀ env.locals (fun m' nx => (d, od) ∈ nx ∧ J (i + 1) m' nx) own { s with heap := h, toks := tk } Q) E { s with heap := h, toks := tk })
    (done : ∀ m₁ nx h tk, J kvs.length m₁ nx → Fr h₀ env.locals h m₁ → News h₀ env.locals h nx → Q .next { s with heap := h, toks := tk }) :
    wpAny (model prog w) A (pyIter (.ref d)) (fun it s₂ => LoopAtV prog w A h₀ env x body Q E it s₂) E s := by
  obtain ⟨ep, ha⟩ := KdkAt.of hD
  have hod : s.heap.get? d = some od := (N _ hl).1
  have hat := ha.dictAt hod
  have hne : d ≠ s.heap.objs.size := Nat.ne_of_lt (Heap.lt_size hod)
  refine wpAny_pyIter_dict lo hat ?_
  have W := Walks.dictKeys (prog := prog) (w := w) (knd := PySem.intKind prog w) hh s.heap.objs.size d hne kvs ep
  refine ⟨_, _, _, kvs.length, _, _, m₀, news, (fun i m nx => (d, od) ∈ nx ∧ J i m nx), rfl, W, ?_, ?_, ?_, ⟨⟨_, Heap.get?_push_size _ rfl, rfl, rfl⟩, hat.push _⟩, F.push _, (fun p hp => ⟨Heap.get?_push_of_some _ (N p hp).1, (N p hp).2⟩), ⟨hl, hj⟩, ?_, ?_⟩
  · intro hm
    rcases List.mem_cons.mp hm with e | hm
    · exact absurd F.ns.lt (e ▸ Nat.lt_irrefl _)
    · exact (N _ hl).2.1 ((List.mem_singleton.mp hm).symm)
  · intro b hb
    rw [List.mem_singleton.mp hb]
    exact next_is_new F
  · intro p hp hI
    exact absurd (Heap.lt_size (N p hp).1) ((List.mem_singleton.mp hI) ▸ Nat.lt_irrefl _)
  · rintro i v m₁ nx₁ s₁ own ⟨hh', tk', rfl⟩ hin hP ⟨hl₁, hJ⟩ hoff hown hget hfp hst F₁ N₁
    obtain ⟨k, xv, hk, hkey⟩ := hP
    obtain ⟨t, rfl⟩ := Value.isInt_shape hkey
    have hI0 : h₀.get? s.heap.objs.size = none := next_is_new F
    obtain ⟨⟨oI, hoI, _⟩, _⟩ := id hst
    let mine := own.filter fun p => decide (p.1 = s.heap.objs.size)
    have hIown : (s.heap.objs.size, oI) ∈ mine := List.mem_filter.mpr ⟨hfp _ (List.mem_cons.mpr (.inl rfl)) hI0 _ hoI, by simp⟩
    have hat1 : ∀ p ∈ mine, p.1 = s.heap.objs.size := fun p hp => by simpa using (List.mem_filter.mp hp).2
    have hsep : OwnOff mine (nx₁.map (·.1)) := by
      intro p hp b hb e
      obtain ⟨q, hq, rfl⟩ := List.mem_map.mp hb
      exact hoff q hq (List.mem_singleton.mpr (e ▸ hat1 p hp))
    have N₂ : News h₀ env.locals hh' (nx₁ ++ mine) := fun p hp => N₁ p ((List.mem_append.mp hp).elim (fun h => List.mem_append.mpr (.inr h)) fun h => List.mem_append.mpr (.inl ((List.mem_filter.mp h).1)))
    have hdo : hh'.get? d = some od := (N₁ _ (List.mem_append.mpr (.inr hl₁))).1
    refine wpAny_mono (turn i k xv t m₁ nx₁ hh' tk' _ hk hsep hl₁ hJ F₁ N₂) (fun f s₂ p => ?_) fun _ _ e => e
    have fin : InvEndG h₀ env.locals (fun m' nx => (d, od) ∈ nx ∧ J (i + 1) m' nx) mine { s with heap := hh', toks := tk' } s₂ →
        LoopStepU h₀ env.locals [s.heap.objs.size] own (fun m nx => (d, od) ∈ nx ∧ J (i + 1) m nx) { s with heap := hh', toks := tk' } .next s₂ := by
      rintro ⟨h', tk, m', news', nx, e, F', N', hn, ho, ha, hm⟩
      refine ⟨rfl, h', tk, m', nx, e, F', fun p hp => ?_, fun p hp hq => ?_, hm⟩
      · rcases List.mem_append.mp hp with h | h
        · by_cases hI : p.1 = s.heap.objs.size
          · exact N' p (ho p (List.mem_filter.mpr ⟨h, by simpa using hI⟩))
          · have h1 : p.1 = d := by
              rcases List.mem_cons.mp (hown p h) with h2 | h2
              · exact absurd h2 hI
              · exact List.mem_singleton.mp h2
            have h2 : hh'.get? p.1 = some p.2 := hget p h
            rw [h1, hdo] at h2
            rw [show p = (d, od) from Prod.ext h1 (Option.some.inj h2).symm]
            exact N' _ (hn _ hm.1)
        · exact N' p (hn p h)
      · exact ha _ hIown p.1 (List.mem_map.mpr ⟨p, hp, rfl⟩) (List.mem_singleton.mp hq).symm
    cases f with
    | ret v => exact .ret p
    | brk => exact .brk p
    | next => exact .next (fin p)
    | cont => exact .cont (fin p)
  · rintro h' tk m' nx' F' N' _ ⟨_, hJ⟩
    exact done m' nx' h' tk hJ F' N'
end
section
variable {prog : Program} {w : World} {A : Around} {E : Value → Shared → Prop} {s : Shared} {h₀ : Heap} {L d : Addr} {m : Str → Option Value} {news : List (Addr × Obj)} {od : Obj} {kvs : List (Int × Value)} {Q : Value → Shared → Prop}
theorem sorted_keys (hh : A.handled = none) (lo : (d == sysModules) = false) (hl : (d, od) ∈ news) (hD : od.IsDictOf (PySem.intKind prog w) kvs) (F : Fr h₀ L s.heap m) (N : News h₀ L s.heap news) (h64 : kvs.length < 64)
    (h : ∀ D vs' ns' c h' tk, Fr h₀ L h' m → News h₀ L h' ((D, listOf (List.toArray vs') c) :: news) → (∀ q ∈ news, q.1 < D) → IntsAre vs' ns' → ns'.Perm (kvs.map (·.1)) → ns'.Pairwise (fun x y => x ≤ y) → Q (.ref D) { s with heap := h', toks := tk }) :
    wpAny (model prog w) A (call (.builtin "sorted") [.ref d]) Q E s := by
  obtain ⟨ep, ha⟩ := KdkAt.of hD
  have hat := ha.dictAt (N _ hl).1
  refine kdu_sorted (kdl_dict (knd := PySem.intKind prog w) (kvs := kvs) (ep := ep) lo) hh F N hat (by rw [sizeLine_eq]; omega) fun B h' tk vs F' N' l1 hl hv => ?_
  have hI : IntsAre vs (kvs.map (·.1)) := kdy_ints (by rw [hl, List.length_map]) fun j v hvj => by
    obtain ⟨k, x, hx, hk⟩ := hv j v hvj
    obtain ⟨t, rfl⟩ := Value.isInt_shape hk
    exact ⟨k, by rw [List.getElem?_map, hx]; rfl, t, rfl⟩
  refine ksk_lsort (news' := fun o => (B, o) :: news) F' N' (fun o => .head fun p hp => Nat.ne_of_lt (l1 p hp)) (by simp) hI (by rw [List.length_map]; exact h64) fun vs' ns' c h'' F2 N2 I2 _ p2 w2 _ => ?_
  exact h B vs' ns' c h'' tk F2 N2 l1 I2 p2 w2
end
theorem kvi_at {kvs : List (Int × Value)} {f : Tab} (r : KvI kvs f) : ∀ {i : Nat} {k : Int} {v : Value}, kvs[i]? = some (k, v) → ∃ h t, v = .int h t ∧ f[i]? = some (k, h) := by
  induction r with
  | nil => intro i k v e; simp at e
  | @cons k' h' t' kvs f r ih =>
    intro i k v e
    cases i with
    | zero => simp at e; obtain ⟨rfl, rfl⟩ := e; exact ⟨h', t', rfl, rfl⟩
    | succ i => simpa using ih (by simpa using e)
theorem look_at {f : Tab} (nd : (f.map (·.1)).Nodup) : ∀ {i : Nat} {k h : Int}, f[i]? = some (k, h) → look f k = some h := by
  induction f with
  | nil => intro i k h e; simp at e
  | cons p f ih =>
    intro i k h e
    simp only [List.map_cons, List.nodup_cons] at nd
    cases i with
    | zero => simp at e; subst e; simp [look]
    | succ i =>
      simp only [List.getElem?_cons_succ] at e
      have hk : k ∈ f.map (·.1) := List.mem_map.mpr ⟨(k, h), List.mem_of_getElem? e, rfl⟩
      have hne : p.1 ≠ k := fun q => nd.1 (q ▸ hk)
      have := ih nd.2 e
      unfold look at this ⊢
      rw [List.find?_cons]
      simp only [hne, decide_false]
      exact this
theorem max3 {prog : Program} {w : World} {A : Around} {E : Value → Shared → Prop} {s : Shared} {h₀ : Heap} {L : Addr} {m : Str → Option Value} {news : List (Addr × Obj)} {a b c : Int} {t u x : Tok} {Q : Value → Shared → Prop} (hh : A.handled = none) (F : Fr h₀ L s.heap m) (N : News h₀ L s.heap news)
    (h : ∀ h' tk y, Fr h₀ L h' m → News h₀ L h' news → Q (.int (max (max a b) c) y) { s with heap := h', toks := tk }) :
    wpAny (model prog w) A (call (.builtin "max") [.int a t, .int b u, .int c x]) Q E s :=
  max_three_ints hh fun h' tk hk => by
    have key := fun y => h h' tk y (F.grownK hk) (N.grown hk)
    by_cases h1 : b > a
    · rw [if_pos h1]
      by_cases h2 : c > b
      · rw [if_pos h2]
        rw [show max (max a b) c = c by omega] at key
        exact key _
      · rw [if_neg h2]
        rw [show max (max a b) c = b by omega] at key
        exact key _
    · rw [if_neg h1]
      by_cases h2 : c > a
      · rw [if_pos h2]
        rw [show max (max a b) c = c by omega] at key
        exact key _
      · rw [if_neg h2]
        rw [show max (max a b) c = a by omega] at key
        exact key _
def topOf (rows : List Row) (f : Tab) : Int := f.foldl (fun a p => max (max a p.2) (p.2 - (rowAt rows p.1).moves.1 + (rowAt rows p.1).moves.2)) 0
theorem topOf_take {rows : List Row} {f : Tab} {i : Nat} {k h : Int} (e : f[i]? = some (k, h)) : topOf rows (f.take (i + 1)) = max (max (topOf rows (f.take i)) h) (h - (rowAt rows k).moves.1 + (rowAt rows k).moves.2) := by
  unfold topOf
  rw [fold_take e]
end part_M9a
section part_M9
theorem calm_M9 : True := by
  w_top off
  trivial
local macro_rules | `(tactic| k_mem) => `(tactic| (refine memI ?_; ktr_member))
local macro_rules | `(tactic| walk_at "pO") => `(tactic| (first | with_reducible assumption | omega))
local macro_rules | `(tactic| walk_at "pB") => `(tactic| ((iterate 5 k_asm); (first | exact rfl | assumption); ktr_room; ktr_units))
local macro_rules | `(tactic| walk_at "pD") => `(tactic| ((try dsimp only); (try k_fold)))
local macro_rules | `(tactic| walk_at "pA") => `(tactic| (with_reducible assumption))
local macro_rules | `(tactic| walk_at "subscriptTail") => `(tactic| (k_here; (with_reducible show wpAny _ _ (subscriptTail _ _ _ (Value.int 0 _)) _ _ _); k_dflt (refine item0 (by k_asm) (by k_mem) ?_; k_whole)))
local macro_rules | `(tactic| walk_at "subscriptTail") => `(tactic| (k_here; k_dflt (refine' itemL (by k_asm) (by k_mem) ?a ?b (by walk_at "pA") ?_; (case a => walk_at "pO"); (case b => walk_at "pO"); k_whole)))
local macro_rules | `(tactic| walk_at "call ref") => `(tactic| (k_here; refine WStop.call (by with_reducible assumption) ?_))

local macro_rules | `(tactic| k_steps) => `(tactic| repeat' (first | (k_unfold; (try dsimp only)) | (k_end; kc_close) | (with_reducible refine flatT ?_; intro _; dsimp only) | walk1 | (dsimp only; walk1) | (leave1; walk_say "STEP leave1"; (try dsimp only)) | fail "no step"))

local macro_rules | `(tactic| walk_at "pW") => `(tactic| (k_here; refine WStop.intro ?_))
local macro_rules | `(tactic| walk_at "exec While Compare cons nil") => `(tactic| (walk_at "pW"))
local macro_rules | `(tactic| walk_at "exec While BoolOp cons nil") => `(tactic| (walk_at "pW"))
local macro_rules | `(tactic| walk_at "pyIter ref") => `(tactic| (walk_at "pW"))
local macro_rules | `(tactic| walk_at "call ref") => `(tactic| (k_here; (with_reducible show wpAny _ _ (call (Value.ref 84) _) _ _ _); k_dflt (apply effect_spec; walk_at "pB"; k_mem; walk_at "pA"; intro q9 t9 u9 h9 tk9 F9 N9 l9; (try k_lt l9); walk_at "pD")))
local macro_rules | `(tactic| walk_at "call ref") => `(tactic| (k_here; (with_reducible show wpAny _ _ (call (Value.ref 140) _) _ _ _); k_dflt (apply moves_spec; walk_at "pB"; k_mem; walk_at "pA"; intro q9 t9 u9 h9 tk9 F9 N9 l9; (try k_lt l9); walk_at "pD")))
local macro_rules | `(tactic| walk_at "call builtin:len") => `(tactic| (k_here; k_dflt (apply lenL; k_asm; k_mem; walk_at "pA"; walk_at "pO"; k_whole)))
local macro_rules | `(tactic| walk_at "call builtin:list.pop") => `(tactic| (k_here; k_dflt (apply popV; k_asm; k_asm; k_upd; walk_at "pO"; k_whole); intro h9 F9 N9; (try k_sweep)))
local macro_rules | `(tactic| walk_at "call builtin:list.append") => `(tactic| (k_here; k_dflt (apply appendV; k_asm; k_asm; k_upd; walk_at "pO"; k_whole); intro h9 F9 N9; (try k_sweep)))
local macro_rules | `(tactic| walk_at "subscriptTail") => `(tactic| (k_here; k_dflt (refine' dItem (by k_asm) ?p ?d (by walk_at "pA") ?_; (case d => walk_at "pA"); (case p => k_mem); k_whole)))
local macro_rules | `(tactic| walk_at "pI") => `(tactic| (k_asm; (rotate_left 3); walk_at "pA"; (rotate_right 3); k_mem; (iterate 2 walk_at "pA"); k_whole))
local macro_rules | `(tactic| walk_at "compareOp NotIn") => `(tactic| (k_here; k_dflt (first | (apply dNotIn1; walk_at "pI") | (apply dNotIn0; walk_at "pI"))))
local macro_rules | `(tactic| walk_at "setItem ref int") => `(tactic| (k_here; k_dflt (apply dSetNew; k_asm; k_asm; k_updF; walk_at "pA"; walk_at "pA"; walk_at "pO"; k_whole); intro h9 o9 F9 N9 d9; (try dsimp only at N9); (try k_sweep)))
local macro_rules | `(tactic| walk_at "newTuple") => `(tactic| (k_here; k_dflt (refine' kup_newTuple (by k_asm) (by k_asm) ?_ ?z; (case z => kmk_size)); intro D9 h9 F9 N9 l9; (try k_lt l9); (try k_sweep)))

local macro_rules | `(tactic| walk_at "pF") => `(tactic| (k_here; (rename Fr _ _ _ _ => lF'); (with_unfolding_all refine' For_invVF lF' (by exact rfl) (by exact rfl) ?_; k_whole)))
local macro_rules | `(tactic| walk_at "exec For Name Name cons nil") => `(tactic| (walk_at "pF"))

def GInv (rows : List Row) (f : Tab) (rl d : Addr) (led : List (Addr × Obj)) (j : Nat) (m : Str → Option Value) (nx : List (Addr × Obj)) : Prop :=
  nx = led ∧ m (Str.ofString "rows") = some (.ref rl) ∧ m (Str.ofString "found") = some (.ref d) ∧ ∃ t, m (Str.ofString "most") = some (.int (topOf rows (f.take j)) t)
set_option maxHeartbeats 8000000 in
theorem greatest_spec {w : World} {mean : ExcName → Option Value} {mg mb : Str → Option Value} {dp un : Nat} {gd : Option (List Code)} {cn : Str} {cs : Scope} {a : Addr} {ccd : Value} {cl : List (Str × Addr)} {outer : List Env} {A₀ : Around} {base h₀ : Heap} {L : Addr} {m : Str → Option Value} {news : List (Addr × Obj)} {s : Shared} {Q E : Value → Shared → Prop} {rl rvs rn rows} (B : Below A₀ base outer h₀) (F : Fr h₀ L s.heap m) (X : (hd.heap_39 w.params).In h₀) (N : News h₀ L s.heap news) (T : Top hd.view_39 (looseW hd.view_39 []) mean mg mb h₀) (hk : cs.kind = .function) (hd : dp + 4 < recursionLimit) (hu : un + 64 < cLine)
   (hl : (rl, listOf rvs.toArray rn) ∈ news) (hR : RowsAre news rvs rows) (hlen : rows.length < 32) (hne : 0 < rows.length)
   (ret : ∀ (σ : HS) t h' tk, σ.waiting = [] → (∃ k, σ = Nat.repeat (hNext rows) k hInit) → Fr h₀ L h' m → News h₀ L h' news → Q (.int (topOf rows σ.found) t) {s with heap := h', toks := tk}) :
   wpAny (model PR w) (ktrTop dp un gd cn cs L a ccd cl outer) (call (.ref 112) [.ref rl]) Q E s := by
  have hrl : rvs.length = rows.length := hR.length
  refine wpAny_call ?_
  k_dflt ktr_enter
  have c1 : CutCall 98 := ⟨⟩
  k_steps
  refine WStop.mk ?_; k_dflt (apply heights_spec; (iterate 5 k_asm); (first | exact rfl | assumption); ktr_room; ktr_units; k_mem; (refine RowsAre.mono ?_ (by assumption); (repeat (first | with_reducible exact sub_refl | with_reducible refine sub_tail ?_))); (first | with_reducible assumption | omega); (first | with_reducible assumption | omega); intro q9 sl9 d9 sv9 c9 od9 kv9 σ9 h9 tk9 w9 r9 o9 dd9 k9 lo9 e9 F9 N9 l9 l9b l9c; (try k_lt l9); (try dsimp only); (try k_fold)); k_steps
  refine WStop.mk ?_
  rename News _ _ _ _ => N5
  rename Fr _ _ _ _ => F5
  rename Obj.IsDictOf _ _ _ => dd
  rename HOk _ _ => ok
  rename KvI _ _ => kv
  rename (_ == sysModules) = false => lo1
  rename HS => σ
  k_dflt (refine dk_iter (GInv rows σ.found rl _ ((_, tupOf _ _) :: (_, listOf _ _) :: (_, _) :: news)) (by rfl) lo1 (by k_mem) dd F5 (dropN N5 (sub_cons (by k_mem) (sub_cons (by k_mem) (sub_cons (by k_mem) (sub_tail (sub_tail (sub_tail sub_refl))))))) ⟨rfl, rfl, rfl, _, rfl⟩ ?turn ?done)
  case turn =>
    intro i k v t m2 nx h2 tk2 own hv hoff hmem hJ F6 N6
    obtain ⟨rfl, e1, e2, tm, e3⟩ := hJ
    obtain ⟨hh, th, rfl, hf⟩ := kvi_at kv hv
    have hlk := look_at ok.nd hf
    obtain ⟨tv, hva⟩ := kv.some hlk
    have hik : k ∈ σ.found.map (·.1) := List.mem_map.mpr ⟨_, List.mem_of_getElem? hf, rfl⟩
    obtain ⟨h0, h1⟩ := ok.rng k hik
    have hi := rowAt_get h0 h1
    obtain ⟨r, ru, rk, hget, hr, hm⟩ := hR.get hi
    replace F6 := fr_names1 _ (allC e1 (allC e2 (allC e3 all0))) F6
    dsimp only [addN, envOf] at F6
    simp only [List.map_cons, List.cons_append, envOf] at N6 hoff
    have hl2 : (rl, listOf rvs.toArray rn) ∈ news ++ own := List.mem_append_left _ hl
    have hm2 : (r, tupOf ru rk) ∈ news ++ own := List.mem_append_left _ hm
    k_steps
    rename Fr _ _ _ _ => F7
    rename News _ _ _ _ => N7
    k_dflt (refine max3 (by rfl) F7 N7 ?_)
    intro h9 tk9 y9 F9 N9
    clear F7 N7
    k_steps
    rename Fr _ _ _ _ => F7
    rename News _ _ _ _ => N7
    rw [← topOf_take hf] at F7
    refine InvEndG.intro F7 N7 ⟨List.Mem.tail _ (List.Mem.tail _ (List.Mem.head _)), rfl, rfl, rfl, _, rfl⟩ hoff ?s1 ?s2
    case s1 => exact sub_tail (sub_cons (by k_mem) (sub_cons (by k_mem) (sub_cons (by k_mem) (sub_tail (sub_tail (sub_tail sub_app_l))))))
    case s2 => exact sub_tail (sub_tail (sub_tail (sub_tail sub_app_r)))
  case done =>
    intro m2 nx h2 tk2 hJ F6 N6
    obtain ⟨rfl, e1, e2, tm, e3⟩ := hJ
    replace F6 := fr_names _ (allC e1 (allC e2 (allC e3 all0))) F6
    dsimp only [addN, envOf] at F6
    k_steps
    rw [kv.length, List.take_length]
    rename News h₀ _ _ _ => N9
    exact ret _ _ _ _ (by assumption) (by assumption) (by k_asm) (dropN N9 (by (repeat (first | with_reducible exact sub_refl | with_reducible refine sub_tail ?_))))
end part_M9
section part_M10a
def LInv (led : List (Addr × Obj)) (rowl cr x : Addr) (many : Int) (P : Nat → Prop) (m : Str → Option Value) (nx : List (Addr × Obj)) : Prop :=
  ∃ vs n ks cvs cn rows tl, nx = (cr, listOf (List.toArray cvs) cn) :: (rowl, listOf (List.toArray vs) n) :: (led ++ tl) ∧ IntsAre vs ks ∧ ks.length ≤ 140 ∧ RowsAre tl cvs rows ∧ P rows.length ∧ OwnOff tl (cr :: rowl :: led.map (·.1)) ∧
    m (Str.ofString "row") = some (.ref rowl) ∧ m (Str.ofString "code") = some (.ref x) ∧ ∃ tm, m (Str.ofString "many") = some (.int many tm)
def LoopI (led : List (Addr × Obj)) (rowl cr x : Addr) (many : Int) (i : Nat) : (Str → Option Value) → List (Addr × Obj) → Prop := LInv led rowl cr x many (fun k => k = i)
theorem LInv.of {led : List (Addr × Obj)} {rowl cr x : Addr} {many : Int} {P : Nat → Prop} {m : Str → Option Value} {vs : List Value} {n : Nat} {ks : List Int} {cvs : List Value} {cn : Nat} {rows : List Row} {tl : List (Addr × Obj)} {tm : Tok}
    (h1 : IntsAre vs ks) (h2 : ks.length ≤ 140) (h3 : RowsAre tl cvs rows) (h4 : P rows.length) (h5 : OwnOff tl (cr :: rowl :: led.map (·.1))) (e1 : m (Str.ofString "row") = some (.ref rowl)) (e2 : m (Str.ofString "code") = some (.ref x)) (e3 : m (Str.ofString "many") = some (.int many tm)) :
    LInv led rowl cr x many P m ((cr, listOf (List.toArray cvs) cn) :: (rowl, listOf (List.toArray vs) n) :: (led ++ tl)) := ⟨vs, n, ks, cvs, cn, rows, tl, rfl, h1, h2, h3, h4, h5, e1, e2, tm, e3⟩
theorem law_led {h₀ h : Heap} {L cr x d sl rowl c2 c1 : Addr} {a b dd e f o2 o1 : Obj} (N : News h₀ L h [(cr, a), (x, b), (d, dd), (sl, e), (rowl, f), (c2, o2), (c1, o1)]) :
    News h₀ L h ((cr, a) :: (rowl, f) :: ([(x, b), (d, dd), (c2, o2), (c1, o1)] ++ [])) :=
  dropN N (sub_cons (List.Mem.head _) (sub_cons (List.Mem.tail _ (List.Mem.tail _ (List.Mem.tail _ (List.Mem.tail _ (List.Mem.head _))))) (sub_cons (List.Mem.tail _ (List.Mem.head _)) (sub_cons (List.Mem.tail _ (List.Mem.tail _ (List.Mem.head _))) (sub_cons (List.Mem.tail _ (List.Mem.tail _ (List.Mem.tail _ (List.Mem.tail _ (List.Mem.tail _ (List.Mem.head _)))))) (sub_cons (List.Mem.tail _ (List.Mem.tail _ (List.Mem.tail _ (List.Mem.tail _ (List.Mem.tail _ (List.Mem.tail _ (List.Mem.head _))))))) (sub_nil)))))))
theorem off_nil {l : List Addr} : OwnOff [] l := fun _ h => nomatch h
theorem off_pre {own tl : List (Addr × Obj)} {l : List Addr} (h : OwnOff own (l ++ tl.map (·.1))) : OwnOff own l := off_sub h fun b hb => List.mem_append_left _ hb
theorem many_fit {y : Int} {i : Nat} (b : 1 + y.fmod 12 ≤ 12) (h : i < (1 + y.fmod 12).toNat) : i < 12 := by omega
def CutJAt (h₀ : Heap) (L : Addr) (J : (Str → Option Value) → List (Addr × Obj) → Prop) (s s' : Shared) : Prop := ∃ h tk m nx, s' = { s with heap := h, toks := tk } ∧ Fr h₀ L h m ∧ News h₀ L h nx ∧ J m nx
theorem CutJAt.of {h₀ h : Heap} {L : Addr} {J : (Str → Option Value) → List (Addr × Obj) → Prop} {s : Shared} {tk : Nat} {m : Str → Option Value} {nx news : List (Addr × Obj)} (F : Fr h₀ L h m) (N : News h₀ L h news) (hJ : J m nx) (hs : ∀ p ∈ nx, p ∈ news) : CutJAt h₀ L J s { s with heap := h, toks := tk } := ⟨h, tk, m, nx, rfl, F, dropN N hs, hJ⟩
theorem cutJ {prog : Program} {w : World} {A : Around} {E : Value → Shared → Prop} {s : Shared} {h₀ : Heap} {L : Addr} {m0 : Str → Option Value} {t : Sem Flow} {Q : Flow → Shared → Prop} (J : (Str → Option Value) → List (Addr × Obj) → Prop) (_F : Fr h₀ L s.heap m0)
    (h1 : wpAny (model prog w) A t (fun f s' => f = .next ∧ CutJAt h₀ L J s s') E s)
    (h2 : ∀ h tk m nx, J m nx → Fr h₀ L h m → News h₀ L h nx → Q .next { s with heap := h, toks := tk }) : wpAny (model prog w) A t Q E s := by
  refine wpAny_mono h1 (fun f s' h => ?_) fun _ _ e => e
  obtain ⟨rfl, h, tk, m, nx, rfl, F, N, hJ⟩ := h
  exact h2 h tk m nx hJ F N
theorem cutLaw {prog : Program} {w : World} {A : Around} {E : Value → Shared → Prop} {s : Shared} {h₀ : Heap} {L cr rowl : Addr} {a b : Obj} {x d c2 c1 : Addr × Obj} {tl : List (Addr × Obj)} {many : Int} {tm : Tok} {m0 : Str → Option Value} {t : Sem Flow} {Q : Flow → Shared → Prop} (P : Nat → Prop)
    (F : Fr h₀ L s.heap m0) (_N : News h₀ L s.heap ((cr, a) :: (rowl, b) :: x :: d :: c2 :: c1 :: tl)) (_hm : m0 (Str.ofString "many") = some (.int many tm))
    (h1 : wpAny (model prog w) A t (fun f s' => f = .next ∧ CutJAt h₀ L (LInv [x, d, c2, c1] rowl cr x.1 many P) s s') E s)
    (h2 : ∀ h tk m nx, LInv [x, d, c2, c1] rowl cr x.1 many P m nx → Fr h₀ L h m → News h₀ L h nx → Q .next { s with heap := h, toks := tk }) : wpAny (model prog w) A t Q E s := cutJ _ F h1 h2
theorem rg_all : ∀ k : Fin 12, Builtin.Range.small 0 (k.val + 1 : Int) 1 = true ∧ Builtin.Range.rangeSize 0 (k.val + 1 : Int) 1 = (((k.val + 1 : Int).toNat : Nat) : Int) := by decide +kernel
theorem rg_many {b : Int} (h0 : 0 < b) (h1 : b ≤ 12) : Builtin.Range.small 0 b 1 = true ∧ Builtin.Range.rangeSize 0 b 1 = (b.toNat : Int) := by
  have e : b = ((⟨b.toNat - 1, by omega⟩ : Fin 12).val + 1 : Int) := by simp only; omega
  rw [e]
  exact rg_all _
theorem fm12 (y : Int) : 0 < 1 + y.fmod 12 ∧ 1 + y.fmod 12 ≤ 12 := by
  rw [Int.fmod_eq_emod_of_nonneg _ (by decide)]
  omega
section
variable {prog : Program} {w : World} {A : Around} {E : Value → Shared → Prop} {s : Shared} {h₀ : Heap} {L a b : Addr} {m : Str → Option Value} {news : List (Addr × Obj)} {vs : List Value} {n k : Nat} {Q : Value → Shared → Prop}
open PySem.SeqAt in
theorem eqNilF {y : Value} (N : News h₀ L s.heap news) (ha : (a, listOf (vs ++ [y]).toArray n) ∈ news) (hb : (b, listOf ([] : List Value).toArray k) ∈ news) (hu : A.units < cLine) (h : Q (.bool false) s) :
    wpAny (model prog w) A (compareOp .Eq (.ref a) (.ref b)) Q E s :=
  eq_list_lengthsAt (News.isList N ha) (News.isList N hb) (by simp) hu h
open PySem.SeqAt in
theorem eqNil0 (N : News h₀ L s.heap news) (ha : (a, listOf ([] : List Value).toArray n) ∈ news) (hb : (b, listOf ([] : List Value).toArray k) ∈ news) (hu : A.units < cLine) (h : Q (.bool true) s) :
    wpAny (model prog w) A (compareOp .Eq (.ref a) (.ref b)) Q E s :=
  eq_listAt (e := fun _ => true) (News.isList N ha) (News.isList N hb) rfl hu (fun j h1 _ => absurd h1 (by simp)) h
end
theorem lenS {prog : Program} {w : World} {A : Around} {E : Value → Shared → Prop} {s : Shared} {h₀ : Heap} {L l : Addr} {news : List (Addr × Obj)} {vs : List Value} {y : Value} {n k : Nat} {Q : Value → Shared → Prop} (N : News h₀ L s.heap news) (hm : (l, listOf (vs ++ [y]).toArray n) ∈ news) (e : vs.length = k) (hfit : k < 1000) (h : Q (.int ((k + 1 : Nat) : Int) (s.toks + 1)) { s with toks := s.toks + 1 + 1 }) :
    wpAny (model prog w) A (call (.builtin "len") [.ref l]) Q E s := lenL N hm (by simp [e]) (by omega) h
section
open PySem.SeqAt
variable {prog : Program} {w : World} {A : Around} {E : Value → Shared → Prop} {s : Shared} {h₀ : Heap} {L a b : Addr} {news : List (Addr × Obj)} {n k : Nat} {x y : Int} {t u t' u' : Tok} {Q : Value → Shared → Prop}
theorem neTup (N : News h₀ L s.heap news) (ha : (a, tupOf [.int x t, .int y u] n) ∈ news) (hb : (b, tupOf [.int x t', .int y u'] k) ∈ news) (hu : A.units < cLine) (h : Q (.bool false) s) :
    wpAny (model prog w) A (compareOp .NotEq (.ref a) (.ref b)) Q E s :=
  RcNeAt.tuples (e := fun _ => true) (items := #[.int x t, .int y u]) (items2 := #[.int x t', .int y u']) ⟨_, (N _ ha).1, rfl, n, rfl⟩ ⟨_, (N _ hb).1, rfl, k, rfl⟩ hu (fun j h1 h2 => by
    have hj : j = 0 ∨ j = 1 := by simp at h1; omega
    rcases hj with rfl | rfl
    · have := EqAt.int_int (A := A.in1) (s := s) x t x t'
      simpa using this
    · have := EqAt.int_int (A := A.in1) (s := s) y u y u'
      simpa using this) prog w E Q h
end
theorem law_sub {p1 p2 p3 c r x d c2 c1 : Addr × Obj} {tl own : List (Addr × Obj)} : ∀ p ∈ c :: r :: ([x, d, c2, c1] ++ (p3 :: tl)), p ∈ p1 :: p2 :: p3 :: c :: r :: x :: d :: c2 :: c1 :: (tl ++ own) :=
  sub_cons (List.Mem.tail _ (List.Mem.tail _ (List.Mem.tail _ (List.Mem.head _)))) (sub_cons (List.Mem.tail _ (List.Mem.tail _ (List.Mem.tail _ (List.Mem.tail _ (List.Mem.head _))))) (sub_cons (List.Mem.tail _ (List.Mem.tail _ (List.Mem.tail _ (List.Mem.tail _ (List.Mem.tail _ (List.Mem.head _)))))) (sub_cons (List.Mem.tail _ (List.Mem.tail _ (List.Mem.tail _ (List.Mem.tail _ (List.Mem.tail _ (List.Mem.tail _ (List.Mem.head _))))))) (sub_cons (List.Mem.tail _ (List.Mem.tail _ (List.Mem.tail _ (List.Mem.tail _ (List.Mem.tail _ (List.Mem.tail _ (List.Mem.tail _ (List.Mem.head _)))))))) (sub_cons (List.Mem.tail _ (List.Mem.tail _ (List.Mem.tail _ (List.Mem.tail _ (List.Mem.tail _ (List.Mem.tail _ (List.Mem.tail _ (List.Mem.tail _ (List.Mem.head _))))))))) (sub_cons (List.Mem.tail _ (List.Mem.tail _ (List.Mem.head _))) (sub_tail (sub_tail (sub_tail (sub_tail (sub_tail (sub_tail (sub_tail (sub_tail (sub_tail (fun _ hp => List.mem_append_left _ hp))))))))))))))))
theorem law_sub2 {p1 p2 c r x d c2 c1 : Addr × Obj} {tl : List (Addr × Obj)} : ∀ p ∈ c :: r :: ([x, d, c2, c1] ++ (p1 :: p2 :: tl)), p ∈ p1 :: p2 :: c :: r :: x :: d :: c2 :: c1 :: tl :=
  sub_cons (List.Mem.tail _ (List.Mem.tail _ (List.Mem.head _))) (sub_cons (List.Mem.tail _ (List.Mem.tail _ (List.Mem.tail _ (List.Mem.head _)))) (sub_cons (List.Mem.tail _ (List.Mem.tail _ (List.Mem.tail _ (List.Mem.tail _ (List.Mem.head _))))) (sub_cons (List.Mem.tail _ (List.Mem.tail _ (List.Mem.tail _ (List.Mem.tail _ (List.Mem.tail _ (List.Mem.head _)))))) (sub_cons (List.Mem.tail _ (List.Mem.tail _ (List.Mem.tail _ (List.Mem.tail _ (List.Mem.tail _ (List.Mem.tail _ (List.Mem.head _))))))) (sub_cons (List.Mem.tail _ (List.Mem.tail _ (List.Mem.tail _ (List.Mem.tail _ (List.Mem.tail _ (List.Mem.tail _ (List.Mem.tail _ (List.Mem.head _)))))))) (sub_cons (List.Mem.head _) (sub_cons (List.Mem.tail _ (List.Mem.head _)) (sub_tail (sub_tail (sub_tail (sub_tail (sub_tail (sub_tail (sub_tail (sub_tail (sub_refl))))))))))))))))
theorem ext_off {c r x d c2 c1 : Addr × Obj} {tl ext : List (Addr × Obj)} (hab : ∀ p ∈ ext, ∀ q ∈ c :: r :: x :: d :: c2 :: c1 :: tl, q.1 < p.1) : OwnOff ext [c.1, r.1, x.1, d.1, c2.1, c1.1] := by
  intro p hp b hb
  simp only [List.mem_cons, List.not_mem_nil, or_false] at hb
  rcases hb with rfl | rfl | rfl | rfl | rfl | rfl <;> exact Nat.ne_of_gt (hab p hp _ (by simp))
theorem snoc_of_len {α : Type} {svs : List Value} {l : List α} (e : svs.length = l.length) (h : l ≠ []) : ∃ us y, svs = us ++ [y] := by
  rcases snoc_cases svs with rfl | ⟨us, y, r⟩
  · exact absurd (List.length_eq_zero_iff.mp e.symm) h
  · exact ⟨us, y, r⟩
theorem nil_of_len {α : Type} {svs : List Value} {l : List α} (e : svs.length = l.length) (h : l = []) : svs = [] := by
  subst h
  exact List.length_eq_zero_iff.mp e
theorem neInts {prog : Program} {w : World} {A : Around} {E : Value → Shared → Prop} {s : Shared} {h₀ : Heap} {L a b : Addr} {news : List (Addr × Obj)} {xs ys : List Value} {n k : Nat} {ns ms : List Int} {Q : Value → Shared → Prop}
    (N : News h₀ L s.heap news) (ha : (a, listOf xs.toArray n) ∈ news) (hb : (b, listOf ys.toArray k) ∈ news) (hi : IntsAre xs ns) (hj : IntsAre ys ms) (e : ns = ms) (hu : A.units + 64 < cLine) (h : Q (.bool false) s) :
    wpAny (model prog w) A (compareOp .NotEq (.ref a) (.ref b)) Q E s :=
  ke_ne_ints (News.isList N ha) (News.isList N hb) hi hj hu (by simpa [e] using h)
theorem keys_same {kv8 kvs : List (Int × Value)} {f : Tab} {tl : List (Addr × Obj)} {a b : List Int} (k8 : KvI kv8 f) (k1 : KvL tl kvs f) (p1 : a.Perm (kv8.map (·.1))) (p2 : b.Perm (kvs.map (·.1))) (w1 : a.Pairwise (fun x y => x ≤ y)) (w2 : b.Pairwise (fun x y => x ≤ y)) : a = b := by
  refine ksm_same (p1.trans ?_) w1 w2
  rw [k8.keys, ← k1.keys]
  exact p2.symm
theorem look_of_perm {ns : List Int} {kvs : List (Int × Value)} {f : Tab} {k : Int} (p : ns.Perm (kvs.map (·.1))) (e : kvs.map (·.1) = f.map (·.1)) (hk : k ∈ ns) : ∃ h, look f k = some h := by
  have := p.mem_iff.mp hk
  rw [e] at this
  exact Option.isSome_iff_exists.mp (look_isSome_iff.mpr this)
theorem item0L {prog : Program} {w : World} {A : Around} {E : Value → Shared → Prop} {s : Shared} {h₀ : Heap} {L l : Addr} {news : List (Addr × Obj)} {value slice : PySem.Expr} {v : Value} {n : Nat} {u : Tok} {Q : Value → Shared → Prop}
    (N : News h₀ L s.heap news) (hm : (l, listOf [v].toArray n) ∈ news) (h : Q v s)
    (hs : subscripted slice false (.ref l) (.int 0 u) = operate [.ref l, .int 0 u] (getItem (.ref l) (.int 0 u)) := by with_unfolding_all rfl) :
    wpAny (model prog w) A (subscriptTail value slice (.ref l) (.int 0 u)) Q E s := itemL N hm (by decide) (by decide) rfl h hs
theorem perm_size {vs : List Value} {ns : List Int} {kvs : List (Int × Value)} (i : IntsAre vs ns) (p : ns.Perm (kvs.map (·.1))) (h : kvs.length < 64) : vs.toArray.size ≤ sizeLine := by
  rw [List.size_toArray, i.length, p.length_eq, List.length_map, sizeLine_eq]
  omega
theorem addTops {prog : Program} {w : World} {A : Around} {E : Value → Shared → Prop} {s : Shared} {h₀ : Heap} {L a b : Addr} {m : Str → Option Value} {news : List (Addr × Obj)} {vs : List Value} {n k : Nat} {ns : List Int} {x y : Int} {t u : Tok} {Q : Value → Shared → Prop}
    (F : Fr h₀ L s.heap m) (N : News h₀ L s.heap news) (ha : (a, listOf vs.toArray n) ∈ news) (hb : (b, listOf [Value.int x t, Value.int y u].toArray k) ∈ news) (hi : IntsAre vs ns) (hz : ns.length < 1000)
    (h : ∀ D us h', Fr h₀ L h' m → News h₀ L h' ((D, listOf (List.toArray us) 0) :: news) → (∀ p ∈ news, p.1 < D) → IntsAre us (ns ++ [x, y]) → Q (.ref D) { s with heap := h' }) :
    wpAny (model prog w) A (binaryOp .Add (.ref a) (.ref b)) Q E s :=
  kmk_add_ints F N (News.isList N ha) (News.isList N hb) hi (.cons x t (.cons y u .nil)) h (by rw [sizeLine_eq]; simp; omega)
theorem law_own {p1 p2 p3 c r x d c2 c1 : Addr × Obj} {tl own : List (Addr × Obj)} : ∀ p ∈ own, p ∈ p1 :: p2 :: p3 :: c :: r :: x :: d :: c2 :: c1 :: (tl ++ own) := by
  intro p hp
  simp only [List.mem_cons, List.mem_append]
  simp [hp]
theorem ap_right {a b : List (Addr × Obj)} {D : Addr} (h : AllLt D (a ++ b)) : ∀ q ∈ b, q.1 < D := fun q hq => allLt_at h q (List.mem_append_right _ hq)
theorem in6 {a b c d e f x : Addr} (h : @LT.lt Nat _ a x ∧ @LT.lt Nat _ b x ∧ @LT.lt Nat _ c x ∧ @LT.lt Nat _ d x ∧ @LT.lt Nat _ e x ∧ @LT.lt Nat _ f x) : ∀ y ∈ [a, b, c, d, e, f], x ≠ y := by
  obtain ⟨h1, h2, h3, h4, h5, h6⟩ := h
  intro y hy
  simp only [List.mem_cons, List.not_mem_nil, or_false] at hy
  rcases hy with rfl | rfl | rfl | rfl | rfl | rfl <;> exact Nat.ne_of_gt (by assumption)
theorem kvl_at {tl : List (Addr × Obj)} {kvs : List (Int × Value)} {f : Tab} (r : KvL tl kvs f) : ∀ {i : Nat} {k : Int} {v : Value}, kvs[i]? = some (k, v) → ∃ a h t n, v = .ref a ∧ (a, listOf [Value.int h t].toArray n) ∈ tl ∧ f[i]? = some (k, h) := by
  induction r with
  | nil => intro i k v e; simp at e
  | @cons k' h' a' t' n' kvs f hm r ih =>
    intro i k v e
    cases i with
    | zero => simp at e; obtain ⟨rfl, rfl⟩ := e; exact ⟨a', h', t', n', rfl, hm, rfl⟩
    | succ i => simpa using ih (by simpa using e)
def upsOf (rows : List Row) (f : Tab) : List Int := f.flatMap fun p => [p.2, p.2 - (rowAt rows p.1).moves.1 + (rowAt rows p.1).moves.2]
def topsOf (rows : List Row) (f : Tab) : List Int := 0 :: upsOf rows f
theorem topsOf_take {rows : List Row} {f : Tab} {i : Nat} {k h : Int} (e : f[i]? = some (k, h)) : topsOf rows (f.take (i + 1)) = topsOf rows (f.take i) ++ [h, h - (rowAt rows k).moves.1 + (rowAt rows k).moves.2] := by
  unfold topsOf upsOf
  rw [List.take_add_one, e]
  simp
theorem topsOf_length {rows : List Row} (f : Tab) : (topsOf rows f).length = 1 + 2 * f.length := by
  unfold topsOf upsOf
  induction f with
  | nil => rfl
  | cons p f ih => simp only [List.length_cons, List.flatMap_cons, List.length_append, List.length_nil] at *; omega
theorem fold_top {rows : List Row} (f : Tab) : ∀ a : Int, (f.foldl (fun a p => max (max a p.2) (p.2 - (rowAt rows p.1).moves.1 + (rowAt rows p.1).moves.2)) a = a ∨ f.foldl (fun a p => max (max a p.2) (p.2 - (rowAt rows p.1).moves.1 + (rowAt rows p.1).moves.2)) a ∈ upsOf rows f) ∧
    a ≤ f.foldl (fun a p => max (max a p.2) (p.2 - (rowAt rows p.1).moves.1 + (rowAt rows p.1).moves.2)) a ∧ ∀ x ∈ upsOf rows f, x ≤ f.foldl (fun a p => max (max a p.2) (p.2 - (rowAt rows p.1).moves.1 + (rowAt rows p.1).moves.2)) a := by
  induction f with
  | nil => intro a; exact ⟨.inl rfl, Int.le_refl _, fun x hx => by simp [upsOf] at hx⟩
  | cons p f ih =>
    intro a
    simp only [List.foldl_cons]
    obtain ⟨h1, h2, h3⟩ := ih (max (max a p.2) (p.2 - (rowAt rows p.1).moves.1 + (rowAt rows p.1).moves.2))
    have hu : upsOf rows (p :: f) = p.2 :: (p.2 - (rowAt rows p.1).moves.1 + (rowAt rows p.1).moves.2) :: upsOf rows f := by simp [upsOf]
    rw [hu]
    generalize p.2 - (rowAt rows p.1).moves.1 + (rowAt rows p.1).moves.2 = c at *
    generalize p.2 = b at *
    generalize List.foldl _ _ _ = r at *
    refine ⟨?_, by omega, ?_⟩
    · rcases h1 with h1 | h1
      · by_cases q1 : r = a
        · exact .inl q1
        · right
          by_cases q2 : r = b
          · rw [q2]; exact List.Mem.head _
          · have q3 : r = c := by omega
            rw [q3]; exact List.Mem.tail _ (List.Mem.head _)
      · exact .inr (List.Mem.tail _ (List.Mem.tail _ h1))
    · intro x hx
      rcases List.mem_cons.mp hx with rfl | hx
      · omega
      · rcases List.mem_cons.mp hx with rfl | hx
        · omega
        · exact h3 x hx
theorem top_max {rows : List Row} {f : Tab} {M : Int} (h : M ∈ topsOf rows f) (k : ∀ a, a ∈ topsOf rows f → a ≤ M) : topOf rows f = M := by
  obtain ⟨h1, h2, h3⟩ := fold_top (rows := rows) f 0
  unfold topOf
  generalize List.foldl _ _ _ = r at *
  have a1 : r ≤ M := by
    rcases h1 with h1 | h1
    · rw [h1]; exact k 0 (List.Mem.head _)
    · exact k r (List.Mem.tail _ h1)
  have a2 : M ≤ r := by
    rcases List.mem_cons.mp h with rfl | h
    · exact h2
    · exact h3 M h
  omega
def TInv (rows : List Row) (meets : Tab) (x : Addr) (led : List (Addr × Obj)) (j : Nat) (m : Str → Option Value) (nx : List (Addr × Obj)) : Prop :=
  ∃ t tvs tn, nx = (t, listOf (List.toArray tvs) tn) :: led ∧ IntsAre tvs (topsOf rows (meets.take j)) ∧ m (Str.ofString "tops") = some (.ref t) ∧ m (Str.ofString "code") = some (.ref x)
theorem tops_small {rows : List Row} {meets : Tab} {j : Nat} (h : meets.length < 64) : (topsOf rows (meets.take j)).length < 1000 := by
  rw [topsOf_length]
  have := List.length_take_le' j meets
  omega
end part_M10a
section part_M10b
theorem calm_M10b : True := by
  w_top off
  trivial
local macro_rules | `(tactic| walk_at "no such key") => `(tactic| fail)
local macro_rules | `(tactic| k_mem) => `(tactic| (refine memI ?_; ktr_member))
local macro_rules | `(tactic| walk_at "pO") => `(tactic| (first | with_reducible assumption | omega))
local macro_rules | `(tactic| walk_at "pB") => `(tactic| ((iterate 5 k_asm); (first | exact rfl | assumption); ktr_room; ktr_units))
local macro_rules | `(tactic| walk_at "pD") => `(tactic| ((try dsimp only); (try k_fold)))
local macro_rules | `(tactic| walk_at "pA") => `(tactic| (with_reducible assumption))
local macro_rules | `(tactic| walk_at "subscriptTail") => `(tactic| (k_here; (with_reducible show wpAny _ _ (subscriptTail _ _ _ (Value.int 0 _)) _ _ _); k_dflt (refine item0 (by k_asm) (by k_mem) ?_; k_whole)))
local macro_rules | `(tactic| walk_at "subscriptTail") => `(tactic| (k_here; k_dflt (refine' itemL (by k_asm) (by k_mem) ?a ?b (by walk_at "pA") ?_; (case a => walk_at "pO"); (case b => walk_at "pO"); k_whole)))
local macro_rules | `(tactic| walk_at "call ref") => `(tactic| (k_here; refine WStop.call (by with_reducible assumption) ?_))

local macro_rules | `(tactic| k_steps) => `(tactic| repeat' (first | (k_unfold; (try dsimp only)) | (k_end; kc_close) | (with_reducible refine flatT ?_; intro _; dsimp only) | walk1 | (dsimp only; walk1) | (leave1; walk_say "STEP leave1"; (try dsimp only)) | fail "no step"))

local macro_rules | `(tactic| walk_at "pW") => `(tactic| (k_here; refine WStop.intro ?_))
local macro_rules | `(tactic| walk_at "exec While Compare cons nil") => `(tactic| (walk_at "pW"))
local macro_rules | `(tactic| walk_at "exec While BoolOp cons nil") => `(tactic| (walk_at "pW"))
local macro_rules | `(tactic| walk_at "pyIter ref") => `(tactic| (walk_at "pW"))
local macro_rules | `(tactic| walk_at "call ref") => `(tactic| (k_here; (with_reducible show wpAny _ _ (call (Value.ref 84) _) _ _ _); k_dflt (apply effect_spec; walk_at "pB"; k_mem; walk_at "pA"; intro q9 t9 u9 h9 tk9 F9 N9 l9; (try k_lt l9); walk_at "pD")))
local macro_rules | `(tactic| walk_at "call ref") => `(tactic| (k_here; (with_reducible show wpAny _ _ (call (Value.ref 140) _) _ _ _); k_dflt (apply moves_spec; walk_at "pB"; k_mem; walk_at "pA"; intro q9 t9 u9 h9 tk9 F9 N9 l9; (try k_lt l9); walk_at "pD")))
local macro_rules | `(tactic| walk_at "call builtin:len") => `(tactic| (k_here; k_dflt (apply lenL; k_asm; k_mem; walk_at "pA"; walk_at "pO"; k_whole)))
local macro_rules | `(tactic| walk_at "call builtin:list.pop") => `(tactic| (k_here; k_dflt (apply popV; k_asm; k_asm; k_upd; walk_at "pO"; k_whole); intro h9 F9 N9; (try k_sweep)))
local macro_rules | `(tactic| walk_at "call builtin:list.append") => `(tactic| (k_here; k_dflt (apply appendV; k_asm; k_asm; k_upd; walk_at "pO"; k_whole); intro h9 F9 N9; (try k_sweep)))
local macro_rules | `(tactic| walk_at "subscriptTail") => `(tactic| (k_here; k_dflt (refine' dItem (by k_asm) ?p ?d (by walk_at "pA") ?_; (case d => walk_at "pA"); (case p => k_mem); k_whole)))
local macro_rules | `(tactic| walk_at "pI") => `(tactic| (k_asm; (rotate_left 3); walk_at "pA"; (rotate_right 3); k_mem; (iterate 2 walk_at "pA"); k_whole))
local macro_rules | `(tactic| walk_at "compareOp NotIn") => `(tactic| (k_here; k_dflt (first | (apply dNotIn1; walk_at "pI") | (apply dNotIn0; walk_at "pI"))))
local macro_rules | `(tactic| walk_at "setItem ref int") => `(tactic| (k_here; k_dflt (apply dSetNew; k_asm; k_asm; k_updF; walk_at "pA"; walk_at "pA"; walk_at "pO"; k_whole); intro h9 o9 F9 N9 d9; (try dsimp only at N9); (try k_sweep)))
local macro_rules | `(tactic| walk_at "newTuple") => `(tactic| (k_here; k_dflt (refine' kup_newTuple (by k_asm) (by k_asm) ?_ ?z; (case z => kmk_size)); intro D9 h9 F9 N9 l9; (try k_lt l9); (try k_sweep)))

local macro_rules | `(tactic| walk_at "call builtin:len") => `(tactic| (k_here; k_dflt (apply lenS; k_asm; k_mem; (first | walk_at "pA" | (simp only [List.length_append, List.length_singleton]; exact rfl)); omega; k_whole)))
local macro_rules | `(tactic| walk_at "call builtin:list.append") => `(tactic| (k_here; k_dflt (apply appendV; k_asm; k_asm; k_upd; (first | omega | (simp only [List.length_append, List.length_singleton]; omega)); k_whole); intro h9 F9 N9; (try k_sweep)))

def codeD (w : World) (k1 k2 k3 k4 k5 t1 t2 t3 : Tok) (sl cr : Addr) : Obj := dictOf
  [{ hash := PyData.keyHash w.params (Str.ofString "module"), key := Value.str (Str.ofString "module") (k1 + 1), val := Value.str (Str.ofString "M") t1 },
   { hash := PyData.keyHash w.params (Str.ofString "label"), key := Value.str (Str.ofString "label") (k2 + 1), val := Value.str (Str.ofString "P") t2 },
   { hash := PyData.keyHash w.params (Str.ofString "level"), key := Value.str (Str.ofString "level") (k3 + 1), val := Value.int 1 t3 },
   { hash := PyData.keyHash w.params (Str.ofString "slots"), key := Value.str (Str.ofString "slots") (k4 + 1), val := Value.ref sl },
   { hash := PyData.keyHash w.params (Str.ofString "rows"), key := Value.str (Str.ofString "rows") (k5 + 1), val := Value.ref cr }] 5
set_option maxHeartbeats 8000000 in
theorem put_spec0 {w : World} {mean : ExcName → Option Value} {mg mb : Str → Option Value} {dp un : Nat} {gd : Option (List Code)} {cn : Str} {cs : Scope} {a : Addr} {ccd : Value} {cl : List (Str × Addr)} {outer : List Env} {A₀ : Around} {base h₀ : Heap} {L : Addr} {m : Str → Option Value} {news : List (Addr × Obj)} {s : Shared} {Q E : Value → Shared → Prop} {x d cr sl rq : Addr} {cvs : List Value} {pn : Nat} {k1 k2 k3 k4 k5 t1 t2 t3 : Tok} {rest : List (Addr × Obj)} (B : Below A₀ base outer h₀) (F : Fr h₀ L s.heap m) (X : (hd.heap_39 w.params).In h₀) (N : News h₀ L s.heap news) (T : Top hd.view_39 (looseW hd.view_39 []) mean mg mb h₀) (hk : cs.kind = .function) (hd : dp + 1 < recursionLimit) (hu : un + 80 < cLine)
   (hn : news = (cr, listOf (List.toArray cvs) pn) :: (x, instObj 59 d) :: (d, codeD w k1 k2 k3 k4 k5 t1 t2 t3 sl cr) :: rest) (hoff : OwnOff rest [cr]) (hxc : @Ne Nat x cr) (hdc : @Ne Nat d cr) (hlen : cvs.length < 64)
   (ret : ∀ t h' tk, Fr h₀ L h' m → News h₀ L h' ((cr, listOf (List.toArray (cvs ++ [.ref rq])) (pn + 1)) :: (x, instObj 59 d) :: (d, codeD w k1 k2 k3 k4 k5 t1 t2 t3 sl cr) :: rest) → Q (.int cvs.length t) {s with heap := h', toks := tk}) :
   wpAny (model PR w) (ktrTop dp un gd cn cs L a ccd cl outer) (call (.ref 42) [.ref x, .ref rq]) Q E s := by
  subst hn
  obtain ⟨k, hk0⟩ : ∃ k, cvs.length = k := ⟨_, rfl⟩
  refine wpAny_call ?_
  k_dflt ktr_enter
  k_steps
  have e : ((k + 1 : Nat) : Int) - 1 = (cvs.length : Int) := by omega
  rw [e]
  exact ret _ _ _ (by k_asm) (by refine dropN (by k_asm) ?_; refine sub_cons (by k_mem) ?_; (repeat (first | with_reducible exact sub_refl | with_reducible refine sub_tail ?_)))
theorem put_spec {w : World} {mean : ExcName → Option Value} {mg mb : Str → Option Value} {dp un : Nat} {gd : Option (List Code)} {cn : Str} {cs : Scope} {a : Addr} {ccd : Value} {cl : List (Str × Addr)} {outer : List Env} {A₀ : Around} {base h₀ : Heap} {L : Addr} {m : Str → Option Value} {news : List (Addr × Obj)} {s : Shared} {Q E : Value → Shared → Prop} {x d cr sl rq : Addr} {cvs : List Value} {pn : Nat} {k1 k2 k3 k4 k5 t1 t2 t3 : Tok} {o g} (B : Below A₀ base outer h₀) (F : Fr h₀ L s.heap m) (X : (hd.heap_39 w.params).In h₀) (N : News h₀ L s.heap news) (T : Top hd.view_39 (looseW hd.view_39 []) mean mg mb h₀) (hk : cs.kind = .function) (hd : dp + 1 < recursionLimit) (hu : un + 80 < cLine)
   (hx : (x, instObj 59 d) ∈ news) (hD : (d, codeD w k1 k2 k3 k4 k5 t1 t2 t3 sl cr) ∈ news) (hxc : @Ne Nat x cr) (hdc : @Ne Nat d cr) (U : UpdF cr o news g) (ho : o = listOf (List.toArray cvs) pn) (hlen : cvs.length < 64)
   (ret : ∀ t h' tk, Fr h₀ L h' m → News h₀ L h' (g (listOf (List.toArray (cvs ++ [.ref rq])) (pn + 1))) → Q (.int cvs.length t) {s with heap := h', toks := tk}) :
   wpAny (model PR w) (ktrTop dp un gd cn cs L a ccd cl outer) (call (.ref 42) [.ref x, .ref rq]) Q E s := by
  subst ho
  obtain ⟨pre, post, rfl, hg, h1, h2⟩ := U.split
  refine put_spec0 (news := (cr, listOf (List.toArray cvs) pn) :: (x, instObj 59 d) :: (d, codeD w k1 k2 k3 k4 k5 t1 t2 t3 sl cr) :: (pre ++ post)) (rest := pre ++ post) B F X (dropN N ?_) T hk hd hu rfl ?_ hxc hdc hlen ?_
  · refine sub_cons (List.mem_append_right _ (List.Mem.head _)) (sub_cons hx (sub_cons hD ?_))
    intro p hp
    rcases List.mem_append.mp hp with hp | hp
    · exact List.mem_append_left _ hp
    · exact List.mem_append_right _ (List.Mem.tail _ hp)
  · intro p hp x hx
    cases List.mem_singleton.mp hx
    rcases List.mem_append.mp hp with hp | hp
    · exact h1 p hp
    · exact h2 p hp
  · intro t h' tk F5 N5
    refine ret t h' tk F5 (dropN N5 ?_)
    rw [hg]
    intro p hp
    rcases List.mem_append.mp hp with hp | hp
    · exact List.Mem.tail _ (List.Mem.tail _ (List.Mem.tail _ (List.mem_append_left _ hp)))
    · rcases List.mem_cons.mp hp with rfl | hp
      · exact List.Mem.head _
      · exact List.Mem.tail _ (List.Mem.tail _ (List.Mem.tail _ (List.mem_append_right _ hp)))
end part_M10b
section part_M10
theorem calm_M10 : True := by
  w_top off
  trivial
local macro_rules | `(tactic| k_mem) => `(tactic| (refine memI ?_; ktr_member))
local macro_rules | `(tactic| walk_at "pO") => `(tactic| (first | with_reducible assumption | omega))
local macro_rules | `(tactic| walk_at "pB") => `(tactic| ((iterate 5 k_asm); (first | exact rfl | assumption); ktr_room; ktr_units))
local macro_rules | `(tactic| walk_at "pD") => `(tactic| ((try dsimp only); (try k_fold)))
local macro_rules | `(tactic| walk_at "pA") => `(tactic| (with_reducible assumption))
local macro_rules | `(tactic| walk_at "subscriptTail") => `(tactic| (k_here; (with_reducible show wpAny _ _ (subscriptTail _ _ _ (Value.int 0 _)) _ _ _); k_dflt (refine item0 (by k_asm) (by k_mem) ?_; k_whole)))
local macro_rules | `(tactic| walk_at "subscriptTail") => `(tactic| (k_here; k_dflt (refine' itemL (by k_asm) (by k_mem) ?a ?b (by walk_at "pA") ?_; (case a => walk_at "pO"); (case b => walk_at "pO"); k_whole)))
local macro_rules | `(tactic| walk_at "call ref") => `(tactic| (k_here; refine WStop.call (by with_reducible assumption) ?_))

local macro_rules | `(tactic| k_steps) => `(tactic| repeat' (first | (k_unfold; (try dsimp only)) | (k_end; kc_close) | (with_reducible refine flatT ?_; intro _; dsimp only) | walk1 | (dsimp only; walk1) | (leave1; walk_say "STEP leave1"; (try dsimp only)) | fail "no step"))

local macro_rules | `(tactic| walk_at "pW") => `(tactic| (k_here; refine WStop.intro ?_))
local macro_rules | `(tactic| walk_at "exec While Compare cons nil") => `(tactic| (walk_at "pW"))
local macro_rules | `(tactic| walk_at "exec While BoolOp cons nil") => `(tactic| (walk_at "pW"))
local macro_rules | `(tactic| walk_at "pyIter ref") => `(tactic| (walk_at "pW"))
local macro_rules | `(tactic| walk_at "call ref") => `(tactic| (k_here; (with_reducible show wpAny _ _ (call (Value.ref 84) _) _ _ _); k_dflt (apply effect_spec; walk_at "pB"; k_mem; walk_at "pA"; intro q9 t9 u9 h9 tk9 F9 N9 l9; (try k_lt l9); walk_at "pD")))
local macro_rules | `(tactic| walk_at "call ref") => `(tactic| (k_here; (with_reducible show wpAny _ _ (call (Value.ref 140) _) _ _ _); k_dflt (apply moves_spec; walk_at "pB"; k_mem; walk_at "pA"; intro q9 t9 u9 h9 tk9 F9 N9 l9; (try k_lt l9); walk_at "pD")))
local macro_rules | `(tactic| walk_at "call builtin:len") => `(tactic| (k_here; k_dflt (apply lenL; k_asm; k_mem; walk_at "pA"; walk_at "pO"; k_whole)))
local macro_rules | `(tactic| walk_at "call builtin:list.pop") => `(tactic| (k_here; k_dflt (apply popV; k_asm; k_asm; k_upd; walk_at "pO"; k_whole); intro h9 F9 N9; (try k_sweep)))
local macro_rules | `(tactic| walk_at "call builtin:list.append") => `(tactic| (k_here; k_dflt (apply appendV; k_asm; k_asm; k_upd; walk_at "pO"; k_whole); intro h9 F9 N9; (try k_sweep)))
local macro_rules | `(tactic| walk_at "subscriptTail") => `(tactic| (k_here; k_dflt (refine' dItem (by k_asm) ?p ?d (by walk_at "pA") ?_; (case d => walk_at "pA"); (case p => k_mem); k_whole)))
local macro_rules | `(tactic| walk_at "pI") => `(tactic| (k_asm; (rotate_left 3); walk_at "pA"; (rotate_right 3); k_mem; (iterate 2 walk_at "pA"); k_whole))
local macro_rules | `(tactic| walk_at "compareOp NotIn") => `(tactic| (k_here; k_dflt (first | (apply dNotIn1; walk_at "pI") | (apply dNotIn0; walk_at "pI"))))
local macro_rules | `(tactic| walk_at "setItem ref int") => `(tactic| (k_here; k_dflt (apply dSetNew; k_asm; k_asm; k_updF; walk_at "pA"; walk_at "pA"; walk_at "pO"; k_whole); intro h9 o9 F9 N9 d9; (try dsimp only at N9); (try k_sweep)))
local macro_rules | `(tactic| walk_at "newTuple") => `(tactic| (k_here; k_dflt (refine' kup_newTuple (by k_asm) (by k_asm) ?_ ?z; (case z => kmk_size)); intro D9 h9 F9 N9 l9; (try k_lt l9); (try k_sweep)))

local macro_rules | `(tactic| walk_at "pN") => `(tactic| (k_asm; k_mem; k_mem; ktr_units; k_whole))
local macro_rules | `(tactic| walk_at "compareOp NotEq ref ref") => `(tactic| (k_here; k_dflt (first | (apply neNilT; walk_at "pN") | (apply neNil0; walk_at "pN") | (apply neOne; walk_at "pN"))))
local macro_rules | `(tactic| walk_at "exec If") => `(tactic| (k_here; refine WStop.cut (by with_reducible assumption) ?_))

local macro_rules | `(tactic| walk_at "call ref") => `(tactic| (k_here; (with_reducible show wpAny _ _ (call (Value.ref 126) _) _ _ _); k_dflt (apply next_spec; walk_at "pB"; k_updF; exact rfl; (iterate 2 walk_at "pA"); intro v9 n9 i9 y9 t9 h9 tk9 I9 l9 F9 N9; (try dsimp only at N9); walk_at "pD")))
local macro_rules | `(tactic| walk_at "compareOp Eq ref ref") => `(tactic| (walk_at "pW"))
local macro_rules | `(tactic| walk_at "compareOp NotEq ref ref") => `(tactic| (walk_at "pW"))
local macro_rules | `(tactic| walk_at "call builtin:sorted") => `(tactic| (walk_at "pW"))
local macro_rules | `(tactic| walk_at "eval ListComp") => `(tactic| (walk_at "pW"))
local macro_rules | `(tactic| walk_at "CompSrc") => `(tactic| (walk_at "pW"))
local macro_rules | `(tactic| walk_at "CompEnd") => `(tactic| (refine WStop.intro ?_))
local macro_rules | `(tactic| walk_at "subscriptTail") => `(tactic| (k_here; (with_reducible show wpAny _ _ (subscriptTail _ _ _ (Value.int 0 _)) _ _ _); k_dflt (refine item0L (by k_asm) (by k_mem) ?_; k_whole)))
local macro_rules | `(tactic| walk_at "subscriptTail") => `(tactic| (k_here; k_dflt (refine' dItem (by k_asm) ?p ?d (by walk_at "pA") ?_; (case d => assumption); (case p => k_mem); k_whole)))
local macro_rules | `(tactic| walk_at "pF") => `(tactic| (k_here; (rename Fr _ _ _ _ => lF'); (with_unfolding_all refine' For_invVF lF' (by exact rfl) (by exact rfl) ?_; k_whole)))
local macro_rules | `(tactic| walk_at "exec For Name Name cons nil") => `(tactic| (walk_at "pF"))
local macro_rules | `(tactic| walk_at "binaryOp Add ref ref") => `(tactic| (walk_at "pW"))
local macro_rules | `(tactic| walk_at "call builtin:max") => `(tactic| (walk_at "pW"))

set_option maxHeartbeats 8000000 in
theorem law_holds : PySem.Challenge.rw_pb0316_01.Holds := hd (by
  k_go0
  (all_goals try k_fold)
  have c1 : CutCall 119 := ⟨⟩
  have c2 : CutCall 133 := ⟨⟩
  have c3 : CutCall 112 := ⟨⟩
  have c4 : CutCall 147 := ⟨⟩
  have c5 : CutCall 42 := ⟨⟩
  have c6 : CutCall 98 := ⟨⟩
  k_steps
  refine WStop.mk ?_
  k_dflt (apply row_spec; (iterate 5 k_asm); (first | exact rfl | assumption); ktr_room; ktr_units; assumption; assumption; omega; intro q9 r9 n9 m9 h9 tk9 I9 e9 F9 N9 l9; (try k_lt l9); (try dsimp only); (try k_fold))
  k_steps
  refine WStop.mk ?_
  rename News _ _ _ _ => N3
  rename Fr _ _ _ _ => F3
  k_dflt (change News _ _ _ [_, _, (_, codeD _ _ _ _ _ _ _ _ _ _ _), _, _, _, _] at N3)
  rename IsRange _ _ _ _ _ _ _ _ => rg3
  rename IntsAre _ _ => I3
  rename List.length _ ≤ 140 => l3
  obtain ⟨bm0, bm1⟩ := fm12 (by first | assumption)
  k_dflt (refine rg_iter (LoopI _ _ _ _ _) (by rfl) rg3 (rg_many bm0 bm1).1 (rg_many bm0 bm1).2 F3 (law_led N3) (LInv.of (tl := []) (cvs := []) (rows := []) I3 l3 .nil rfl off_nil rfl rfl rfl) ?turn ?done)
  case turn =>
    clear I3 l3
    intro i ti m2 nx h2 tk2 own hi hoff hJ F4 N4
    obtain ⟨vs, n, ks, cvs, cn, rows, tl, rfl, I4, l4, hR, hlen, off, e1, e2, tm, e3⟩ := hJ
    simp only [List.map_cons, List.map_nil, List.map_append, List.cons_append, List.nil_append] at N4 off hoff
    have hoff4 := kd_off (off_pre (l := [_, _, _, _, _, _]) hoff) off
    have hi12 := many_fit bm1 hi
    have hcl : cvs.length = i := by rw [hR.length, hlen]
    replace F4 := fr_names1 _ (allC e1 (allC e2 (allC e3 all0))) F4
    dsimp only [addN, envOfC] at F4
    k_steps
    refine WStop.mk ?_
    k_dflt (apply drawn_spec; (iterate 5 k_asm); (first | exact rfl | assumption); ktr_room; ktr_units; k_updF; exact rfl; (iterate 4 with_reducible assumption); intro q9 us9 k9 v9 n9 i9 h9 tk9 rv9 I9 e9 F9 N9 l9; (obtain ⟨row9, rv9⟩ := rv9); (try dsimp only at N9); (try k_lt l9); (try dsimp only); (try k_fold))
    k_steps
    refine WStop.mk ?_
    k_dflt (apply put_spec; (iterate 5 k_asm); (first | exact rfl | assumption); ktr_room; ktr_units; k_mem; k_mem; omega; omega; k_updF; exact rfl; omega; intro t9 h9 tk9 F9 N9; (try dsimp only at N9); (try dsimp only); (try k_fold))
    k_steps
    refine WStop.mk ?_
    rename News _ _ _ _ => N5
    k_dflt (refine neTup N5 (by k_mem) (by k_mem) (by ktr_units) ?_)
    k_steps
    rename Fr _ _ _ _ => F6
    rename News _ _ _ _ => N6
    refine InvEndG.intro F6 N6 (LInv.of (tl := (_, tupOf _ _) :: tl) (by with_reducible assumption) (by with_reducible assumption) ((hR.mono (fun p hp => List.Mem.tail _ hp)).snoc (by with_reducible assumption) (List.Mem.head _)) (by simp [hlen]) (off_cons (in6 (by dsimp only; omega)) off) rfl rfl rfl) (off_new (l := [_, _, _, _, _, _]) hoff (ap_right (a := tl) (by simp only [*]))) law_sub law_own
  case done =>
    clear I3 l3
    intro m2 nx h2 tk2 hJ F4 N4
    obtain ⟨vs, n, ks, cvs, cn, rows, tl, rfl, I4, l4, hR, hlen, off, e1, e2, tm, e3⟩ := hJ
    simp only [List.map_cons, List.map_nil, List.map_append, List.cons_append, List.nil_append] at N4 off
    have hi12 : rows.length ≤ 12 := by rw [hlen]; omega
    have hi1 : 0 < rows.length := by rw [hlen]; omega
    have hcl : cvs.length = rows.length := hR.length
    clear hlen
    replace F4 := fr_names _ (allC e1 (allC e2 (allC e3 all0))) F4
    dsimp only [addN, envOfC] at F4
    have cut : CutHere := ⟨⟩
    k_steps
    refine WStop.mk ?_
    clear cut
    rename Fr _ _ _ _ => F5
    rename News _ _ _ _ => N5
    k_dflt (refine cutLaw (fun k => 0 < k ∧ k < 32) F5 N5 rfl ?h1 ?h2)
    case h1 =>
      k_steps
      · refine WStop.mk ?_
        k_dflt (apply put_spec; (iterate 5 k_asm); (first | exact rfl | assumption); ktr_room; ktr_units; k_mem; k_mem; omega; omega; k_updF; exact rfl; omega; intro t9 h9 tk9 F9 N9; (try dsimp only at N9); (try dsimp only); (try k_fold))
        k_steps
        refine WStop.mk ?_
        k_dflt (apply put_spec; (iterate 5 k_asm); (first | exact rfl | assumption); ktr_room; ktr_units; k_mem; k_mem; omega; omega; k_updF; exact rfl; first | omega | (simp only [List.length_append, List.length_singleton]; omega); intro t9 h9 tk9 F9 N9; (try dsimp only at N9); (try dsimp only); (try k_fold))
        k_steps
        rename Fr _ _ _ _ => F6
        rename News _ _ _ _ => N6
        refine CutJAt.of F6 N6 (LInv.of (tl := (_, tupOf _ _) :: (_, tupOf _ _) :: tl) (by with_reducible assumption) (by with_reducible assumption) (((hR.mono sub_cc).snoc (.const) (List.Mem.tail _ (List.Mem.head _))).snoc .ret (List.Mem.head _)) (by simp; omega) (off_cons (in6 (by dsimp only; omega)) (off_cons (in6 (by dsimp only; omega)) off)) rfl rfl rfl) law_sub2
      · rename Fr _ _ _ _ => F6
        rename News _ _ _ _ => N6
        refine CutJAt.of F6 N6 (LInv.of (tl := tl) (by with_reducible assumption) (by with_reducible assumption) hR (by omega) off rfl rfl rfl) (fun _ h => h)
    case h2 =>
      clear hR off I4 l4 hi12 hi1 hcl e1 e2 e3 F5 N5
      intro h3 tk3 m3 nx hJ F4 N4
      obtain ⟨vs, n, ks, cvs, cn, rows, tl, rfl, I4, l4, hR, hlen, off, e1, e2, tm, e3⟩ := hJ
      simp only [List.map_cons, List.map_nil, List.map_append, List.cons_append, List.nil_append] at N4 off
      obtain ⟨hi1, hi32⟩ := hlen
      have hcl : cvs.length = rows.length := hR.length
      replace F4 := fr_names _ (allC e1 (allC e2 (allC e3 all0))) F4
      dsimp only [addN, envOfC] at F4
      k_steps
      refine WStop.mk ?_
      rename Fr _ _ _ _ => F5
      rename News _ _ _ _ => N5
      k_dflt (refine' ways_spec (rvs := cvs) (rows := rows) ?wB F5 ?wX N5 ?wT ?wk ?wd ?wu (List.Mem.head _) ?wR hi32 hi1 ?wret)
      case wB => k_asm
      case wX => k_asm
      case wT => k_asm
      case wk => exact rfl
      case wd => ktr_room
      case wu => ktr_units
      case wR => exact hR.mono (sub_tail (sub_tail (sub_tail (sub_tail (sub_tail (sub_tail sub_refl))))))
      case wret =>
        intro wq wd g ext wo kvs h5 tk5 hg hD lo hb F6 N6 hab l6 l7
        have off2 := kd_off (ext_off hab) off
        have hR2 := hR.mono (sub_app_l (b := ext))
        have hg2 : g = true → ∃ meets, WGood rows meets ∧ meets.length ≤ rows.length ∧ KvL (tl ++ ext) kvs meets := fun q => by
          obtain ⟨meets, a1, a2, a3⟩ := hg q
          exact ⟨meets, a1, a2, a3.mono sub_app_r⟩
        simp only [List.cons_append] at N6
        k_lt l6
        clear hg hab hR off F5 N5
        generalize tl ++ ext = tl2 at *
        k_steps
        refine WStop.mk ?_; k_dflt (apply heights_spec; (iterate 5 k_asm); (first | exact rfl | assumption); ktr_room; ktr_units; k_mem; (refine RowsAre.mono ?_ (by assumption); (repeat (first | with_reducible exact sub_refl | with_reducible refine sub_tail ?_))); (first | with_reducible assumption | omega); (first | with_reducible assumption | omega); intro q9 sl9 d9 sv9 c9 od9 kv9 σ9 h9 tk9 w9 r9 o9 dd9 k9 lo9 e9 F9 N9 l9 l9b l9c; (try k_lt l9); (try dsimp only); (try k_fold)); k_steps
        refine WStop.mk ?_
        rename HS.waiting _ = [] => w7
        rename ∃ k, _ = Nat.repeat _ k _ => r7
        rename List.length _ = List.length (HS.faults _) => e7
        obtain ⟨k7, rfl⟩ := r7
        rename News _ _ _ _ => N7
        cases g with
        | false =>
          obtain ⟨us, uy, rfl⟩ := snoc_of_len e7 (law_bad (hb rfl) w7)
          k_dflt (refine eqNilF N7 (by k_mem) (by k_mem) (by ktr_units) ?_)
          clear e7 w7
          k_steps
        | true =>
          obtain ⟨meets, hgood, hml, hkv⟩ := hg2 rfl
          clear hg2 hb
          obtain rfl := nil_of_len e7 (law_good hgood w7).1
          k_dflt (refine eqNil0 N7 (by k_mem) (by k_mem) (by ktr_units) ?_)
          clear e7 w7
          k_steps
          refine WStop.mk ?_; k_dflt (apply heights_spec; (iterate 5 k_asm); (first | exact rfl | assumption); ktr_room; ktr_units; k_mem; (refine RowsAre.mono ?_ (by assumption); (repeat (first | with_reducible exact sub_refl | with_reducible refine sub_tail ?_))); (first | with_reducible assumption | omega); (first | with_reducible assumption | omega); intro q9 sl9 d9 sv9 c9 od9 kv9 σ9 h9 tk9 w9 r9 o9 dd9 k9 lo9 e9 F9 N9 l9 l9b l9c; (try k_lt l9); (try dsimp only); (try k_fold)); k_steps
          refine WStop.mk ?_
          rename HS.waiting _ = [] => w8
          rename ∃ k, _ = Nat.repeat _ k _ => r8
          rename List.length _ = List.length (HS.faults _) => e8
          rename KvI _ _ => kv8
          rename HOk _ _ => ok8
          obtain ⟨k8, rfl⟩ := r8
          obtain ⟨hf8, hm8⟩ := law_good hgood w8
          rw [hm8] at kv8
          have nd8 := ok8.nd
          have rng8 := ok8.rng
          rw [hm8] at nd8 rng8
          obtain rfl := nil_of_len e8 hf8
          clear e8 ok8 w8 hf8 hm8
          have hk1 := hkv.length
          have hk8 := kv8.length
          have b1 := lt64e hk1 hml hi32
          have b8 := lt64e hk8 hml hi32
          rename News _ _ _ _ => N8
          k_dflt (refine neNil0 N8 (by k_mem) (by k_mem) (by ktr_units) ?_)
          k_steps
          refine WStop.mk ?_; k_dflt (refine' sorted_keys ?hh ?lo ?hl ?hD ?F ?N ?z ?_; (case hh => exact rfl); (case F => k_asm); (case N => k_asm); (case hl => k_mem); (case hD => assumption); (case lo => with_reducible assumption); (case z => first | with_reducible assumption | omega)); intro D9 v9 n9 c9 h9 tk9 F9 N9 l9 I9 p9 w9; (try k_lt l9); (try k_sweep); k_steps
          refine WStop.mk ?_; k_dflt (refine' sorted_keys ?hh ?lo ?hl ?hD ?F ?N ?z ?_; (case hh => exact rfl); (case F => k_asm); (case N => k_asm); (case hl => k_mem); (case hD => assumption); (case lo => with_reducible assumption); (case z => first | with_reducible assumption | omega)); intro D9 v9 n9 c9 h9 tk9 F9 N9 l9 I9 p9 w9; (try k_lt l9); (try k_sweep); k_steps
          refine WStop.mk ?_
          rename News _ _ _ _ => N9
          k_dflt (refine neInts N9 (by k_mem) (by k_mem) (by with_reducible assumption) (by with_reducible assumption) (keys_same kv8 hkv (by with_reducible assumption) (by with_reducible assumption) (by with_reducible assumption) (by with_reducible assumption)) (by ktr_units) ?_)
          k_steps
          refine WStop.mk ?_
          k_dflt (refine LCg.ListComp_U (F₀ := by k_asm) (by with_unfolding_all rfl) (by decide) (by rfl) (by decide) (by rfl) ?_)
          k_steps
          refine WStop.mk ?_; k_dflt (refine' sorted_keys ?hh ?lo ?hl ?hD ?F ?N ?z ?_; (case hh => exact rfl); (case F => k_asm); (case N => k_asm); (case hl => k_mem); (case hD => assumption); (case lo => with_reducible assumption); (case z => first | with_reducible assumption | omega)); intro D9 v9 n9 c9 h9 tk9 F9 N9 l9 I9 p9 w9; (try k_lt l9); (try k_sweep); k_steps
          refine WStop.mk ?_
          rename Fr _ _ _ _ => Fa
          rename News _ _ _ _ => Na
          rename IntsAre _ _ => Ia
          k_dflt (refine LCg.CompSrc.ledger (by rfl) Fa Na (by k_mem) (perm_size Ia (by with_reducible assumption) (by first | with_reducible assumption | omega)) ?_)
          intro ga
          k_dflt (refine kcf_list (fun k => (look meets k).getD 0) Ia ?_ ?_)
          · intro k' t' I' oI' C' oC' D' m' ys' h' tk' E' hk' hC' hx' F' N' off' ne' hMark'
            obtain ⟨hh, hlk⟩ := look_of_perm (by with_reducible assumption) kv8.keys hk'
            obtain ⟨tv, hva⟩ := kv8.some hlk
            clear Fa Na
            k_steps
            refine WStop.mk ?_
            rename Fr _ _ _ _ => Fb
            rename News _ _ _ _ => Nb
            k_dflt (refine LCg.CompEnd.intro Fb Nb _ (fun _ h => h) off' (by lcg_src) ⟨rfl, tv, by show _ = Value.int ((look meets k').getD 0) _; rw [hlk]; rfl⟩)
          · unfold KPfDone
            intro ysA IyA
            unfold LCg.FinE
            intro DA hA tkA FA NA oA
            clear Fa Na
            k_steps
            refine WStop.mk ?_
            k_dflt (refine LCg.ListComp_U (F₀ := by k_asm) (by with_unfolding_all rfl) (by decide) (by rfl) (by decide) (by rfl) ?_)
            k_steps
            refine WStop.mk ?_; k_dflt (refine' sorted_keys ?hh ?lo ?hl ?hD ?F ?N ?z ?_; (case hh => exact rfl); (case F => k_asm); (case N => k_asm); (case hl => k_mem); (case hD => assumption); (case lo => with_reducible assumption); (case z => first | with_reducible assumption | omega)); intro D9 v9 n9 c9 h9 tk9 F9 N9 l9 I9 p9 w9; (try k_lt l9); (try k_sweep); k_steps
            refine WStop.mk ?_
            rename Fr _ _ _ _ => Fa
            rename News _ _ _ _ => Na
            rename IntsAre _ _ => Ib
            k_dflt (refine LCg.CompSrc.ledger (by rfl) Fa Na (by k_mem) (perm_size Ib (by with_reducible assumption) (by first | with_reducible assumption | omega)) ?_)
            intro gb
            k_dflt (refine kcf_list (fun k => (look meets k).getD 0) Ib ?_ ?_)
            · intro k' t' I' oI' C' oC' D' m' ys' h' tk' E' hk' hC' hx' F' N' off' ne' hMark'
              obtain ⟨hh, hlk⟩ := look_of_perm (by with_reducible assumption) hkv.keys hk'
              obtain ⟨va, vt, vn, hva, hma⟩ := hkv.some hlk
              clear Fa Na
              k_steps
              refine WStop.mk ?_
              rename Fr _ _ _ _ => Fb
              rename News _ _ _ _ => Nb
              k_dflt (refine LCg.CompEnd.intro Fb Nb _ (fun _ h => h) off' (by lcg_src) ⟨rfl, vt, by show _ = Value.int ((look meets k').getD 0) _; rw [hlk]; rfl⟩)
            · unfold KPfDone
              intro ysB IyB
              unfold LCg.FinE
              intro DB hB tkB FB NB oB
              clear Fa Na
              k_steps
              refine WStop.mk ?_
              rename News _ _ _ _ => Nc
              k_dflt (refine neInts (xs := ysA) (ys := ysB) Nc (by k_mem) (by k_mem) IyA IyB (congrArg (List.map _) (keys_same kv8 hkv (by with_reducible assumption) (by with_reducible assumption) (by with_reducible assumption) (by with_reducible assumption))) (by ktr_units) ?_)
              clear IyA IyB Ia Ib
              k_steps
              refine WStop.mk ?_
              rename Fr _ _ _ _ => Fd
              rename News _ _ _ _ => Nd
              k_dflt (refine dk_iter (TInv rows meets _ _) (by rfl) lo (by k_mem) hD Fd (dropN (news := (_, listOf [Value.int 0 _].toArray _) :: _) Nd (sub_cons (by k_mem) sub_refl)) ⟨_, _, _, rfl, .cons 0 _ .nil, rfl, rfl⟩ ?tturn ?tdone)
              case tturn =>
                intro i k v t m2 nx h2 tk2 own hv hoff hmem hJ F6 N6
                obtain ⟨ta, tvs, tn, rfl, It, e1, e2⟩ := hJ
                obtain ⟨a1, hh, t1, n1, rfl, _, hf⟩ := kvl_at hkv hv
                have hlk := look_at nd8 hf
                obtain ⟨va, vt, vn, hva, hma⟩ := hkv.some hlk
                obtain ⟨h0, h1⟩ := rng8 k (List.mem_map.mpr ⟨_, List.mem_of_getElem? hf, rfl⟩)
                have hi := rowAt_get h0 h1
                obtain ⟨r, ru, rk, hget, hr, hm⟩ := hR2.get hi
                replace F6 := fr_names1 _ (allC e1 (allC e2 all0)) F6
                dsimp only [addN, envOfC] at F6
                simp only [List.map_cons, List.cons_append] at N6 hoff
                have hma2 : (va, listOf [Value.int hh vt].toArray vn) ∈ tl2 ++ own := List.mem_append_left _ hma
                have hm2 : (r, tupOf ru rk) ∈ tl2 ++ own := List.mem_append_left _ hm
                clear Fd Nd
                k_steps
                refine WStop.mk ?_
                rename Fr _ _ _ _ => Fe
                rename News _ _ _ _ => Ne
                k_dflt (refine addTops Fe Ne (by k_mem) (by k_mem) It (tops_small (by omega)) ?_)
                intro Da usa ha Fa Na la Ia
                rw [← topsOf_take hf] at Ia
                k_lt la
                clear Fe Ne
                k_steps
                rename Fr _ _ _ _ => Fe
                rename News _ _ _ _ => Ne
                refine InvEndG.intro Fe Ne ⟨List.Mem.tail _ (by k_mem), _, _, _, rfl, Ia, rfl, rfl⟩ (off_new (l := []) (off_sub hoff fun b hb => List.Mem.tail _ hb) (ap_right (a := tl2) (by simp only [*]))) (sub_cons (by k_mem) ?ts) ?to
                case ts =>
                  (repeat ((with_reducible refine sub_cons ?_ ?_); (focus k_mem)))
                  (repeat (first | with_reducible exact sub_app_l | with_reducible refine sub_tail ?_))
                case to => (repeat (first | with_reducible exact sub_app_r | with_reducible refine sub_tail ?_))
              case tdone =>
                intro m2 nx h2 tk2 hJ F6 N6
                obtain ⟨ta, tvs, tn, rfl, It, e1, e2⟩ := hJ
                rw [hkv.length, List.take_length] at It
                replace F6 := fr_names _ (allC e1 (allC e2 all0)) F6
                dsimp only [addN, envOfC] at F6
                clear Fd Nd
                k_steps
                refine WStop.mk ?_
                k_dflt (apply greatest_spec; (iterate 5 k_asm); (first | exact rfl | assumption); ktr_room; ktr_units; k_mem; (refine RowsAre.mono ?_ (by assumption); (repeat (first | with_reducible exact sub_refl | with_reducible refine sub_tail ?_))); omega; omega; intro σ9 t9 h9 tk9 w9 r9 F9 N9; (try dsimp only); (try k_fold))
                k_steps
                refine WStop.mk ?_
                rename Fr _ _ _ _ => Ff
                rename News _ _ _ _ => Nf
                rename HS.waiting _ = [] => wz
                rename ∃ k, _ = Nat.repeat _ k _ => rz
                obtain ⟨kz, rfl⟩ := rz
                have hz := (law_good hgood wz).2
                k_dflt (refine kso_max Ff Nf (News.isList Nf (by k_mem)) It (by rw [topsOf_length]; omega) (by rfl) ?_)
                intro hq Mq tq kq Fq Nq aq bq
                have eq := (congrArg (topOf rows) hz).trans (top_max aq bq)
                clear Ff Nf aq bq hz
                k_steps)
end part_M10
end Mine
set_option maxRecDepth 100000 in
set_option maxHeartbeats 8000000 in
theorem PySem.Challenge.cw_pb0316_01_holds : PySem.Challenge.rw_pb0316_01.Holds :=
  Mine.law_holds
