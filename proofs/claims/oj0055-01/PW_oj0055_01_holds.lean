import PyProof.Rows.All
import Wide.All
import OpenK.AllK
import Wide.FinOn
import PySem.Challenge.RW_oj0055_01
set_option Elab.async false
set_option linter.all false
set_option rowWalk.seconds 0
namespace Mine
local macro_rules | `(tactic| walk_at $s:str) => `(tactic| k_extra $(Lean.Syntax.mkStrLit ("m:" ++ s.getString)))
local macro_rules | `(tactic| omega) => `(tactic| k_extra "m:omega")
section
-- HD
open PySem PySem.W PySem.W.X PyProof.Rows
set_option maxRecDepth 1000000
set_option maxHeartbeats 0
noncomputable def keepL : List Nat := [1, 3, 4, 6, 7, 8, 9, 10, 11, 12, 13, 14, 15, 17, 19, 20, 21, 22, 23, 24, 25, 26, 27, 28, 30, 31, 32, 33, 34, 35, 36, 37, 38, 39, 40, 42, 43, 44, 45, 46, 47, 48, 49, 50, 51, 52, 53, 54, 55, 56, 57, 58, 59]
noncomputable def view : Program := { PySem.Challenge.pw_oj0055_01 with main := { PySem.Challenge.pw_oj0055_01.main with body := keepL.filterMap (PySem.Challenge.pw_oj0055_01.main.body[·]?) } }
theorem both {σ α β : Type} {o : Option σ} {f : σ → α} {g : σ → β} {a : α} {b : β} (h1 : o.map f = some a) (h2 : o.map g = some b) : o.map (fun s => (f s, g s)) = some (a, b) := by
  cases o with
  | none => cases h1
  | some s => cases h1; cases h2; rfl
/-- the top's run leaves what the head looks for: one check by the kernel, over the library's own quick forms -/
theorem seen_ok : ∀ w, (openEnds treeTable PySem.Challenge.pw_oj0055_01 w 4008).map (fun s => openSeen view [Str.ofString "Raised", Str.ofString "error"] (importedModules PySem.Challenge.pw_oj0055_01.main.body) (fun s => xlAt view [] s && recOk (RowW.records PySem.Challenge.rw_oj0055_01.row.toRowW) s) true s) = some (openGood view [Str.ofString "Raised", Str.ofString "error"]) := fun w => by
  unfold openEnds topFrom
  rw [PySem.W.Fast.te14082659384304107361, PySem.W.Fast.te14364793385576792824, PySem.W.Fast.te4187177175401517315]
  kernel_rfl
theorem said_ok : PySem.Challenge.rw_oj0055_01.wellSaid = true := by
  rw [PySem.W.Fast.te9446332074065402090]
  kernel_rfl
theorem oh {d : DefRec} {kwd : List (Str × Expr)} (said : PySem.Challenge.rw_oj0055_01.row.wellSaid = true) (H : Hook) (h2 : ∀ w, (openEnds treeTable PySem.Challenge.pw_oj0055_01 w 4008).map H.obs = some (H.val w)) (hdef : defOf view (RowW.name PySem.Challenge.rw_oj0055_01.row.toRowW) = some (d, kwd)) (hp : (RowW.prog PySem.Challenge.rw_oj0055_01.row.toRowW).theDef (RowW.name PySem.Challenge.rw_oj0055_01.row.toRowW) = some (d.params, d.body, d.scope)) (hk : kwWritten? d.params.kwonlyargs d.params.kw_defaults = some kwd) (hw : (OpenRow.toRowW PySem.Challenge.rw_oj0055_01.row).promised)
    (hc : WalkO view [Str.ofString "Raised", Str.ofString "error"] (XL view []) H.says (OpenRow.toRowW PySem.Challenge.rw_oj0055_01.row) d kwd fun f vs => PySem.call f vs) : PySem.Challenge.rw_oj0055_01.row.Holds :=
  holds_open (q := view) (loose := [Str.ofString "Raised", Str.ofString "error"]) (Xt := fun s => xlAt view [] s && recOk (RowW.records PySem.Challenge.rw_oj0055_01.row.toRowW) s) (XP := XL view []) (Yf := Hook.obs H) (Ya := Hook.val H) (YP := Hook.says H) (N := 4008) (fun w => both (seen_ok w) (h2 w)) (Hook.of H) (Hook.keeps H) (fun s e => xl_of s (Bool.and_eq_true_iff.mp e).1) XL.keeps hdef hp hk (fun s e => recFacts_of (Bool.and_eq_true_iff.mp e).2) (by rfl) said (by decide +kernel) ⟨rfl, rfl, rfl, rfl, rfl, by decide +kernel⟩ hw hc
theorem kw_HD : True := by
  k_with "m:h2" => (unfold openEnds topFrom; rw [PySem.W.Fast.te14082659384304107361, PySem.W.Fast.te14364793385576792824]; kernel_rfl)
  trivial
local macro_rules | `(tactic| k_head) => `(tactic| x_head)
local macro_rules | `(tactic| o_law) => `(tactic| refine holds_law said_ok fun said => ?_)
local macro_rules | `(tactic| o_head $H:term) => `(tactic| refine oh (by assumption) $H (fun w => by k_extra "m:h2") rfl rfl rfl ?hw ?hc)
open_top hd for PySem.Challenge.rw_oj0055_01
end

section
-- PRE
open PySem PySem.W PyProof.Rows
open PySem.Challenge
noncomputable abbrev LS : List Str := [Str.ofString "Raised", Str.ofString "error"]
/-- a contract of a def: whoever calls it -/
noncomputable abbrev CbG (d : Nat) (w : World) (mean : ExcName → Option Value) (mg mb : Str → Option Value) (f : Addr) (news : List (Addr × Obj)) (vs : List Value)
    (Ret : Heap → Addr → (Str → Option Value) → Shared → (Value → Shared → Prop) → Prop) : Prop :=
  ∀ (dp un : Nat) (gd : Option (List Code)) (cn : Str) (cs : Scope) (a : Addr) (ccd : Value) (cl : List (Str × Addr)) (outer : List Env) (A₀ : Around) (base h₀ : Heap) (L : Addr) (m : Str → Option Value) (s : Shared) (Q E : Value → Shared → Prop),
    Below A₀ base outer h₀ → Fr h₀ L s.heap m → (hd.heap_1 w.params).In h₀ → News h₀ L s.heap news → Top view LS mean mg mb h₀ → cs.kind = .function →
    dp + d < recursionLimit → un + 8 * d < cLine → Ret h₀ L m s Q →
      wpAny (model rw_oj0055_01.row.toRowW.prog w) (ktrTop dp un gd cn cs L a ccd cl outer) (call (.ref f) vs) Q E s
noncomputable abbrev RetV (news : List (Addr × Obj)) (R : Tok → Value) (h₀ : Heap) (L : Addr) (m : Str → Option Value) (s : Shared) (Q : Value → Shared → Prop) : Prop :=
  ∀ (t : Tok) (h' : Heap) (tk' : Nat), Fr h₀ L h' m → News h₀ L h' news → Q (R t) { s with heap := h', toks := tk' }
noncomputable abbrev Cb (d : Nat) (w : World) (mean : ExcName → Option Value) (mg mb : Str → Option Value) (f : Addr) (news : List (Addr × Obj)) (vs : List Value) (R : Tok → Value) : Prop :=
  CbG d w mean mg mb f news vs (RetV news R)
/-- one new object made: a tuple -/
noncomputable abbrev RetT (news : List (Addr × Obj)) (vs : Tok → Tok → List Value) (h₀ : Heap) (L : Addr) (m : Str → Option Value) (s : Shared) (Q : Value → Shared → Prop) : Prop :=
  ∀ (D : Addr) (t t' : Tok) (h' : Heap) (tk' : Nat), Fr h₀ L h' m → News h₀ L h' ((D, { cls := .type "tuple", data := .seq (vs t t').toArray }) :: news) → (∀ p ∈ news, p.1 < D) → Q (.ref D) { s with heap := h', toks := tk' }
theorem News.tl {h₀ h : Heap} {L : Addr} {p : Addr × Obj} {news : List (Addr × Obj)} (N : News h₀ L h (p :: news)) : News h₀ L h news := fun q hq => N q (.tail _ hq)
theorem News.apl {h₀ h : Heap} {L : Addr} {own news : List (Addr × Obj)} (N : News h₀ L h (news ++ own)) : News h₀ L h news := fun q hq => N q (List.mem_append_left _ hq)
theorem ret_same {Q : Value → Shared → Prop} {v v' : Value} {s : Shared} (h : Q v' s) (e : v = v') : Q v s := by rw [e]; exact h
theorem retT_end {news : List (Addr × Obj)} {vs : Tok → Tok → List Value} {h₀ : Heap} {L : Addr} {m : Str → Option Value} {s : Shared} {Q : Value → Shared → Prop} (hret : RetT news vs h₀ L m s Q) {D : Addr} {t t' : Tok} {h : Heap} {tk : Nat} {xs : Array Value}
    (F : Fr h₀ L h m) (N : News h₀ L h ((D, { cls := .type "tuple", data := .seq xs }) :: news)) (hL : ∀ p ∈ news, p.1 < D) (e : xs = (vs t t').toArray) : Q (.ref D) { s with heap := h, toks := tk } := by
  subst e
  exact hret D t t' h tk F N hL
theorem tup_ii {a b A B : Int} {t t' : Tok} (h1 : a = A) (h2 : b = B) : #[Value.int a t, Value.int b t'] = ([Value.int A t, Value.int B t'] : List Value).toArray := by subst h1; subst h2; rfl
/-- room for depth, without a long proof of arithmetic -/
theorem rm_d0 {x d : Nat} (h : x + d < recursionLimit := by with_reducible assumption) : x < recursionLimit := by omega
theorem rm_d1 {x a d : Nat} (h : x + d < recursionLimit := by with_reducible assumption) (e : Nat.ble a d = true := by k_dflt (exact Eq.refl true)) : x + a < recursionLimit := by have := Nat.le_of_ble_eq_true e; omega
theorem rm_d2 {x a b d : Nat} (h : x + d < recursionLimit := by with_reducible assumption) (e : Nat.ble (a + b) d = true := by k_dflt (exact Eq.refl true)) : x + a + b < recursionLimit := by have := Nat.le_of_ble_eq_true e; omega
theorem rm_u0 {x d : Nat} (h : x + d < cLine := by with_reducible assumption) : x < cLine := by omega
theorem rm_u1 {x a d : Nat} (h : x + d < cLine := by with_reducible assumption) (e : Nat.ble a d = true := by k_dflt (exact Eq.refl true)) : x + a < cLine := by have := Nat.le_of_ble_eq_true e; omega
theorem rm_u2 {x a b d : Nat} (h : x + d < cLine := by with_reducible assumption) (e : Nat.ble (a + b) d = true := by k_dflt (exact Eq.refl true)) : x + a + b < cLine := by have := Nat.le_of_ble_eq_true e; omega
theorem n_le {a b : Nat} (e : Nat.ble a b = true) : a ≤ b := Nat.le_of_ble_eq_true e
theorem n_lt {a b : Nat} (e : Nat.ble (a + 1) b = true) : a < b := Nat.le_of_ble_eq_true e
theorem n_up {x a b : Nat} (h : x ≤ a := by with_reducible assumption) (e : Nat.ble a b = true := by k_dflt decide) : x ≤ b := Nat.le_trans h (Nat.le_of_ble_eq_true e)
/-- small steps of arithmetic, each by one lemma -/
theorem q_c1 {n k : Nat} {b : Int} (h : n ≤ k := by with_reducible assumption) (e : (k : Int) < b := by k_dflt decide) : (n : Int) < b := by omega
theorem q_c2 {n k : Nat} {b : Int} (h : n ≤ k := by with_reducible assumption) (e : (k : Int) ≤ b := by k_dflt decide) : (n : Int) ≤ b := by omega
theorem q_c3 {n : Nat} {b : Int} (e : b ≤ 0 := by k_dflt decide) : b ≤ (n : Int) := by omega
theorem q_c4 {n : Nat} {b : Int} (e : b < 0 := by k_dflt decide) : b < (n : Int) := by omega
theorem q_o {a b : Nat} (h : 1 ≤ a ∧ a ≤ 1 := by with_reducible assumption) (e : Nat.ble 1 b = true := by k_dflt decide) : a ≤ b := by have := Nat.le_of_ble_eq_true e; omega
theorem q_n1 {a c : Int} (h : 0 ≤ a := by with_reducible assumption) (e : c < 0 := by k_dflt decide) : c < a := by omega
theorem q_n2 {a c : Int} (h : 0 ≤ a := by with_reducible assumption) (e : c ≤ 0 := by k_dflt decide) : c ≤ a := by omega
theorem q_n3 {a : Int} {n : Nat} (h : 0 ≤ a := by with_reducible assumption) : -(n : Int) ≤ a := by omega
theorem q_l1 {a b : Int} {n k : Nat} (h : a < n := by with_reducible assumption) (h2 : n ≤ k := by with_reducible assumption) (e : (k : Int) ≤ b := by k_dflt decide) : a < b := by omega
theorem q_l2 {a b : Int} {n k : Nat} (h : a ≤ n := by with_reducible assumption) (h2 : n ≤ k := by with_reducible assumption) (e : (k : Int) < b := by k_dflt decide) : a < b := by omega
theorem q_t1 {a b c : Nat} (h : a ≤ b := by with_reducible assumption) (h2 : b ≤ c := by with_reducible assumption) : a ≤ c := Nat.le_trans h h2
theorem q_t2 {a b c : Nat} (h : a < b := by with_reducible assumption) (h2 : b ≤ c := by with_reducible assumption) : a < c := Nat.lt_of_lt_of_le h h2
theorem q_t3 {a b c : Int} (h : a < b := by with_reducible assumption) (h2 : b ≤ c := by with_reducible assumption) : a < c := Int.lt_of_lt_of_le h h2
theorem q_t4 {a b : Int} (h : a < b := by with_reducible assumption) : a ≤ b := Int.le_of_lt h
theorem q_t5 {a b : Nat} (h : a < b := by with_reducible assumption) : a ≤ b := Nat.le_of_lt h
theorem q_a {P Q R : Prop} (h : (P ∧ Q) ∧ R) : P := h.1.1
theorem q_b {P Q R : Prop} (h : (P ∧ Q) ∧ R) : Q := h.1.2
theorem q_r {P Q R : Prop} (h : P ∧ Q ∧ R) : Q := h.2.1
theorem q_s {P Q R : Prop} (h : P ∧ Q ∧ R) : R := h.2.2
theorem q_t {P Q R S : Prop} (h : P ∧ Q ∧ R ∧ S) : R := h.2.2.1
theorem q_u {P Q R S : Prop} (h : P ∧ Q ∧ R ∧ S) : S := h.2.2.2
theorem letA {α : Type} {M : Model} {A : Around} {t : Sem α} {Q : α → Shared → Prop} {E : Value → Shared → Prop} {s : Shared} (h : let A' := A; wpAny M A' t Q E s) : wpAny M A t Q E s := h
end

section
-- CX
open PySem PySem.W PyProof.Rows
theorem kwn_CX : True := by
  k_with_none
  w_top off
  trivial
theorem kwo_CX : True := by
  k_with "m:omega" => first | with_reducible assumption | decide | with_reducible exact Int.le_refl _ | with_reducible exact Nat.le_refl _ | with_reducible exact rm_u2 | with_reducible exact rm_d2 | with_reducible exact rm_u1 | with_reducible exact rm_d1 | with_reducible exact rm_u0 | with_reducible exact rm_d0 | with_reducible exact n_up | with_reducible exact q_o | with_reducible exact q_c1 | with_reducible exact q_c2 | with_reducible exact q_c3 | with_reducible exact q_c4 | with_reducible exact q_n1 | with_reducible exact q_n2 | with_reducible exact q_n3 | with_reducible exact q_l1 | with_reducible exact q_l2 | with_reducible exact q_t1 | with_reducible exact q_t2 | with_reducible exact q_t3 | with_reducible exact q_t4 | with_reducible exact q_t5 | ((with_reducible show _ ≠ _); first | k_extra "P" | (refine Ne.symm ?_; k_extra "P") | (refine Nat.ne_of_lt ?_; k_extra "P") | (refine Nat.ne_of_gt ?_; k_extra "P"))
  k_with "P" => first | with_reducible assumption | with_reducible exact And.left (by with_reducible assumption) | with_reducible exact And.right (by with_reducible assumption) | with_reducible exact q_r (by with_reducible assumption) | with_reducible exact q_s (by with_reducible assumption) | with_reducible exact q_t (by with_reducible assumption) | with_reducible exact q_u (by with_reducible assumption)
  trivial
open PySem.Challenge
set_option maxRecDepth 100000
set_option maxHeartbeats 1000000
/-! STEPS IN ONE: a call by name, its arguments and all -/
noncomputable def plainE : PySem.Expr → Bool
  | .Starred .. => false
  | _ => true
theorem plainS {e : PySem.Expr} {rest : List PySem.Expr} {env : Env} (h : plainE e = true) : starEach (e :: rest) env = (false, eval e env) :: starEach rest env := by
  cases e <;> first | rfl | cases h
/-- a name of the globals, read in a function's frame -/
noncomputable def chkG (env : Env) (x : Str) : Bool := env.scope.kind == .function && env.kindOf x == some .globalImplicit && (x == Str.ofString "__debug__") == false
/-- a local name -/
noncomputable def chkL (env : Env) (x : Str) : Bool := env.scope.kind == .function && env.kindOf x == some .local && (x == Str.ofString "__debug__") == false
theorem chkG.k {env : Env} {x : Str} {b : Bool} (h : (chkG env x && b) = true) : env.scope.kind = .function ∧ env.kindOf x = some .globalImplicit ∧ (x == Str.ofString "__debug__") = false ∧ b = true := by
  unfold chkG at h; simp only [Bool.and_eq_true, beq_iff_eq] at h; exact ⟨h.1.1.1, h.1.1.2, h.1.2, h.2⟩
theorem chkL.k {env : Env} {x : Str} {b : Bool} (h : (chkL env x && b) = true) : env.scope.kind = .function ∧ env.kindOf x = some .local ∧ (x == Str.ofString "__debug__") = false ∧ b = true := by
  unfold chkL at h; simp only [Bool.and_eq_true, beq_iff_eq] at h; exact ⟨h.1.1.1, h.1.1.2, h.1.2, h.2⟩
section
variable {w : World} {A : Around} {E : Value → Shared → Prop} {s : Shared} {h₀ : Heap} {L a f : Addr} {m : Str → Option Value} {mean : ExcName → Option Value} {mg mb : Str → Option Value} {cn : Str} {cs : Scope} {ccd : Value} {cl : List (Str × Addr)} {nm x c : Str} {t : Tok} {p1 p2 p3 : Pos} {e e' e'' : PySem.Expr} {Q : Value → Shared → Prop}
theorem kw_CX_1 : True := by
  k_with "m:eval Name" => (k_here; k_dflt (refine nameX_B (by k_asm) (by k_asm) (by k_asm) (by k_is) (by boot_fast) (by decide) ?_ (by assumption) (by assumption)))
  trivial
theorem callLen (F : Fr h₀ L s.heap m := by k_asm) (X : (hd.heap_1 w.params).In h₀ := by k_asm) (T : Top view LS mean mg mb h₀ := by k_asm)
    (h : wpAny (model rw_oj0055_01.row.toRowW.prog w) A (eval e (envX cn cs L a ccd cl)) (fun v s₁ => wpAny (model rw_oj0055_01.row.toRowW.prog w) A (call (.builtin "len") [v]) Q E s₁) E s) (ck : (chkG (envX cn cs L a ccd cl) (Str.ofString "len") && plainE e) = true := by exact Eq.refl true) :
    wpAny (model rw_oj0055_01.row.toRowW.prog w) A (eval (.Call (.Name (Str.ofString "len") p1) [e] [] p2) (envX cn cs L a ccd cl)) Q E s := by
  obtain ⟨hk, hb, -, hs⟩ := chkG.k ck
  revert X; k_fill; intro X
  refine Call_ ?_
  walk1
  refine callWith_builtin1 ?_ (plainS hs) rfl
  refine args_cons (wpAny_mono h (fun v s₁ h₁ => args_nil h₁) fun _ _ y => y) (plainS hs)
theorem callStr (F : Fr h₀ L s.heap m := by k_asm) (X : (hd.heap_1 w.params).In h₀ := by k_asm) (T : Top view LS mean mg mb h₀ := by k_asm)
    (h : wpAny (model rw_oj0055_01.row.toRowW.prog w) A (eval e (envX cn cs L a ccd cl)) (fun v s₁ => wpAny (model rw_oj0055_01.row.toRowW.prog w) A (call (.type "str") [v]) Q E s₁) E s) (ck : (chkG (envX cn cs L a ccd cl) (Str.ofString "str") && plainE e) = true := by exact Eq.refl true) :
    wpAny (model rw_oj0055_01.row.toRowW.prog w) A (eval (.Call (.Name (Str.ofString "str") p1) [e] [] p2) (envX cn cs L a ccd cl)) Q E s := by
  obtain ⟨hk, hb, -, hs⟩ := chkG.k ck
  revert X; k_fill; intro X
  refine Call_ ?_
  walk1
  refine PyProof.Rows.callWith_type1 ?_ (plainS hs) rfl
  refine args_cons (wpAny_mono h (fun v s₁ h₁ => args_nil h₁) fun _ _ y => y) (plainS hs)
section
variable {h : Heap} {g : Array GenState} {d : Drawn} {tk k : Nat} {o : OsState}
theorem len_nm (F : Fr h₀ L h m := by k_asm) (X : (hd.heap_1 w.params).In h₀ := by k_asm) (T : Top view LS mean mg mb h₀ := by k_asm) (hv : m x = some (.str c t) := by exact rfl) (hl : c.length ≤ k := by with_reducible assumption) (q : Q (.int c.length (tk + 1)) ⟨h, g, d, tk + 1 + 1, o⟩)
    (ck : (chkG (envX cn cs L a ccd cl) (Str.ofString "len") && (chkL (envX cn cs L a ccd cl) x && Nat.ble k 100000)) = true := by exact Eq.refl true) :
    wpAny (model rw_oj0055_01.row.toRowW.prog w) A (eval (.Call (.Name (Str.ofString "len") p1) [.Name x p3] [] p2) (envX cn cs L a ccd cl)) Q E ⟨h, g, d, tk, o⟩ := by
  obtain ⟨hk, hb, hd, hs⟩ := chkG.k ck
  obtain ⟨-, hx, hd', hn⟩ := chkL.k hs
  have := Nat.le_of_ble_eq_true hn
  refine callLen F X T (nameX_L F hv (P.len_str (by omega) q) hk hx hd') ?_
  rw [chkG, hk, hb]; rfl
theorem lenS (hl : c.length ≤ k := by with_reducible assumption) (q : Q (.int c.length (tk + 1)) ⟨h, g, d, tk + 1 + 1, o⟩) (hn : Nat.ble k 100000 = true := by exact Eq.refl true) : wpAny (model rw_oj0055_01.row.toRowW.prog w) A (call (.builtin "len") [.str c t]) Q E ⟨h, g, d, tk, o⟩ := by
  have := Nat.le_of_ble_eq_true hn
  exact P.len_str (by omega) q
end
theorem callK1 (F : Fr h₀ L s.heap m := by k_asm) (X : (hd.heap_1 w.params).In h₀ := by k_asm) (T : Top view LS mean mg mb h₀ := by k_asm) (e0 : nsIn (hd.heap_1 w.params) mainGlobals nm = some (some (.ref f)) := by k_is) (hf : keepIn (hd.heap_1 w.params) (.ref f) = true := by k_is)
    (h : wpAny (model rw_oj0055_01.row.toRowW.prog w) A (eval e (envX cn cs L a ccd cl)) (fun v s₁ => (hd.heap_1 w.params).In s₁.heap ∧ wpAny (model rw_oj0055_01.row.toRowW.prog w) A (call (.ref f) [v]) Q E s₁) E s) (ck : (chkG (envX cn cs L a ccd cl) nm && plainE e) = true := by exact Eq.refl true) :
    wpAny (model rw_oj0055_01.row.toRowW.prog w) A (eval (.Call (.Name nm p1) [e] [] p2) (envX cn cs L a ccd cl)) Q E s := by
  obtain ⟨hk, hb, hd, hs⟩ := chkG.k ck
  refine Call_ (nameX_K F X (topRead_of T) e0 ?_ hk hb hd)
  refine callWith_K X hf ?_ (plainS hs) rfl
  exact args_cons (wpAny_mono h (fun _ _ h1 => args_nil h1) fun _ _ y => y) (plainS hs)
theorem callK2 (F : Fr h₀ L s.heap m := by k_asm) (X : (hd.heap_1 w.params).In h₀ := by k_asm) (T : Top view LS mean mg mb h₀ := by k_asm) (e0 : nsIn (hd.heap_1 w.params) mainGlobals nm = some (some (.ref f)) := by k_is) (hf : keepIn (hd.heap_1 w.params) (.ref f) = true := by k_is)
    (h : wpAny (model rw_oj0055_01.row.toRowW.prog w) A (eval e (envX cn cs L a ccd cl)) (fun v s₁ => wpAny (model rw_oj0055_01.row.toRowW.prog w) A (eval e' (envX cn cs L a ccd cl)) (fun v' s₂ => (hd.heap_1 w.params).In s₂.heap ∧ wpAny (model rw_oj0055_01.row.toRowW.prog w) A (call (.ref f) [v, v']) Q E s₂) E s₁) E s) (ck : (chkG (envX cn cs L a ccd cl) nm && (plainE e && plainE e')) = true := by exact Eq.refl true) :
    wpAny (model rw_oj0055_01.row.toRowW.prog w) A (eval (.Call (.Name nm p1) [e, e'] [] p2) (envX cn cs L a ccd cl)) Q E s := by
  obtain ⟨hk, hb, hd, hs⟩ := chkG.k ck
  refine Call_ (nameX_K F X (topRead_of T) e0 ?_ hk hb hd)
  refine callWith_K X hf ?_ (plainS (Bool.and_eq_true_iff.mp hs).1) (by rw [plainS (Bool.and_eq_true_iff.mp hs).2]; rfl)
  exact args_cons (wpAny_mono h (fun _ _ h1 => args_cons (wpAny_mono h1 (fun _ _ h2 => args_nil h2) fun _ _ y => y) (plainS (Bool.and_eq_true_iff.mp hs).2)) fun _ _ y => y) (plainS (Bool.and_eq_true_iff.mp hs).1)
theorem callK3 (F : Fr h₀ L s.heap m := by k_asm) (X : (hd.heap_1 w.params).In h₀ := by k_asm) (T : Top view LS mean mg mb h₀ := by k_asm) (e0 : nsIn (hd.heap_1 w.params) mainGlobals nm = some (some (.ref f)) := by k_is) (hf : keepIn (hd.heap_1 w.params) (.ref f) = true := by k_is)
    (h : wpAny (model rw_oj0055_01.row.toRowW.prog w) A (eval e (envX cn cs L a ccd cl)) (fun v s₁ => wpAny (model rw_oj0055_01.row.toRowW.prog w) A (eval e' (envX cn cs L a ccd cl)) (fun v' s₂ => wpAny (model rw_oj0055_01.row.toRowW.prog w) A (eval e'' (envX cn cs L a ccd cl)) (fun v'' s₃ => (hd.heap_1 w.params).In s₃.heap ∧ wpAny (model rw_oj0055_01.row.toRowW.prog w) A (call (.ref f) [v, v', v'']) Q E s₃) E s₂) E s₁) E s) (ck : (chkG (envX cn cs L a ccd cl) nm && (plainE e && plainE e' && plainE e'')) = true := by exact Eq.refl true) :
    wpAny (model rw_oj0055_01.row.toRowW.prog w) A (eval (.Call (.Name nm p1) [e, e', e''] [] p2) (envX cn cs L a ccd cl)) Q E s := by
  obtain ⟨hk, hb, hd, hs⟩ := chkG.k ck
  refine Call_ (nameX_K F X (topRead_of T) e0 ?_ hk hb hd)
  refine callWith_K X hf ?_ (plainS (Bool.and_eq_true_iff.mp (Bool.and_eq_true_iff.mp hs).1).1) (by rw [plainS (Bool.and_eq_true_iff.mp (Bool.and_eq_true_iff.mp hs).1).2, plainS (Bool.and_eq_true_iff.mp hs).2]; rfl)
  exact args_cons (wpAny_mono h (fun _ _ h1 => args_cons (wpAny_mono h1 (fun _ _ h2 => args_cons (wpAny_mono h2 (fun _ _ h3 => args_nil h3) fun _ _ y => y) (plainS (Bool.and_eq_true_iff.mp hs).2)) fun _ _ y => y) (plainS (Bool.and_eq_true_iff.mp (Bool.and_eq_true_iff.mp hs).1).2)) fun _ _ y => y) (plainS (Bool.and_eq_true_iff.mp (Bool.and_eq_true_iff.mp hs).1).1)
end
end

section
-- SX
open PySem PySem.W PyProof.Rows
/-! STATEMENTS IN ONE STEP, with what stands behind them -/
noncomputable def noComp : PySem.Expr → Bool
  | .ListComp .. => false
  | .SetComp .. => false
  | .DictComp .. => false
  | _ => true
theorem noSwap {e : PySem.Expr} {t : Option PySem.Expr} {n : Nat} {env : Env} (h : noComp e = true) : swapsWith e t n env = pure false := by
  cases e <;> first | rfl | cases h
section
variable {M : Model} {A : Around} {env : Env} {rest body : List Stmt} {e test : PySem.Expr} {x : Str} {p pos : Pos} {Q : Flow → Shared → Prop} {E : Value → Shared → Prop} {s : Shared}
theorem sAsg (h : wpAny M A (eval e env) (fun v s₁ => wpAny M A (storeName env x v) (fun _ s₂ => wpAny M A (execs rest env) Q E s₂) E s₁) E s) (hs : noComp e = true) : wpAny M A (execs (.Assign [.Name x p] e pos :: rest) env) Q E s :=
  wpAny_execs_cons (wpAny_Assign_Name h (noSwap hs))
theorem sRet (h : wpAny M A (eval e env) (fun v => Q (.ret v)) E s) : wpAny M A (execs (.Return (some e) pos :: rest) env) Q E s :=
  wpAny_execs_cons (wpAny_Return_some h)
theorem sIf1 (h : wpAny M A (isTrue test env (eval test env)) (fun b s₂ => if b = true then wpAny M A (execs body env) (fun f s' => match f with | .next => wpAny M A (execs rest env) Q E s' | f => Q f s') E s₂ else wpAny M A (execs rest env) Q E s₂) E s) : wpAny M A (execs (.If test body [] pos :: rest) env) Q E s :=
  wpAny_execs_cons (wpAny_If (wpAny_mono h (fun b s₂ hb => by cases b with
    | true => exact hb
    | false => exact wpAny_execs_nil hb) fun _ _ y => y))
theorem sIfR (h : wpAny M A (isTrue test env (eval test env)) (fun b s₂ => if b = true then wpAny M A (eval e env) (fun v => Q (.ret v)) E s₂ else wpAny M A (execs rest env) Q E s₂) E s) : wpAny M A (execs (.If test [.Return (some e) p] [] pos :: rest) env) Q E s :=
  sIf1 (wpAny_mono h (fun b s₂ hb => by cases b with
    | true => exact sRet hb
    | false => exact hb) fun _ _ y => y)
end
section
variable {M : Model} {A : Around} {env : Env} {e e' e2 e3 : PySem.Expr} {k : Nat} {pos p p' : Pos} {Q : Value → Shared → Prop} {E : Value → Shared → Prop} {s : Shared}
theorem tup2 (h : wpAny M A (eval e env) (fun v s₁ => wpAny M A (eval e' env) (fun v' s₂ => wpAny M A (newTuple [v, v']) Q E s₂) E s₁) E s) (h1 : plainE e = true) (h2 : plainE e' = true) : wpAny M A (eval (.Tuple [e, e'] k pos) env) Q E s :=
  Tuple_ (args_cons (wpAny_mono h (fun _ _ h => args_cons (wpAny_mono h (fun _ _ h => args_nil h) fun _ _ y => y) (plainS h2)) fun _ _ y => y) (plainS h1))
theorem lst1 (h : wpAny M A (eval e env) (fun v s₁ => wpAny M A (newList [v]) Q E s₁) E s) (h1 : plainE e = true) : wpAny M A (eval (.List [e] pos) env) Q E s :=
  List_ (args_cons (wpAny_mono h (fun _ _ h => args_nil h) fun _ _ y => y) (plainS h1))
theorem lst2 (h : wpAny M A (eval e env) (fun v s₁ => wpAny M A (eval e' env) (fun v' s₂ => wpAny M A (newList [v, v']) Q E s₂) E s₁) E s) (h1 : plainE e = true) (h2 : plainE e' = true) : wpAny M A (eval (.List [e, e'] pos) env) Q E s :=
  List_ (args_cons (wpAny_mono h (fun _ _ h => args_cons (wpAny_mono h (fun _ _ h => args_nil h) fun _ _ y => y) (plainS h2)) fun _ _ y => y) (plainS h1))
theorem lst3 (h : wpAny M A (eval e env) (fun v s₁ => wpAny M A (eval e' env) (fun v' s₂ => wpAny M A (eval e2 env) (fun v2 s₃ => wpAny M A (newList [v, v', v2]) Q E s₃) E s₂) E s₁) E s) (h1 : plainE e = true) (h2 : plainE e' = true) (h3 : plainE e2 = true) : wpAny M A (eval (.List [e, e', e2] pos) env) Q E s :=
  List_ (args_cons (wpAny_mono h (fun _ _ h => args_cons (wpAny_mono h (fun _ _ h => args_cons (wpAny_mono h (fun _ _ h => args_nil h) fun _ _ y => y) (plainS h3)) fun _ _ y => y) (plainS h2)) fun _ _ y => y) (plainS h1))
theorem lst4 (h : wpAny M A (eval e env) (fun v s₁ => wpAny M A (eval e' env) (fun v' s₂ => wpAny M A (eval e2 env) (fun v2 s₃ => wpAny M A (eval e3 env) (fun v3 s₄ => wpAny M A (newList [v, v', v2, v3]) Q E s₄) E s₃) E s₂) E s₁) E s) (h1 : plainE e = true) (h2 : plainE e' = true) (h3 : plainE e2 = true) (h4 : plainE e3 = true) : wpAny M A (eval (.List [e, e', e2, e3] pos) env) Q E s :=
  List_ (args_cons (wpAny_mono h (fun _ _ h => args_cons (wpAny_mono h (fun _ _ h => args_cons (wpAny_mono h (fun _ _ h => args_cons (wpAny_mono h (fun _ _ h => args_nil h) fun _ _ y => y) (plainS h4)) fun _ _ y => y) (plainS h3)) fun _ _ y => y) (plainS h2)) fun _ _ y => y) (plainS h1))
/-- a pair of two texts -/
theorem tupSS {h₀ h : Heap} {g : Array GenState} {d : Drawn} {tk : Nat} {o : OsState} {L : Addr} {m : Str → Option Value} {news : List (Addr × Obj)} {x y : Str} {k1 k2 : Nat} (F : Fr h₀ L h m := by k_asm) (N : News h₀ L h news := by k_asm)
    (q : ∀ D h', Fr h₀ L h' m → News h₀ L h' ((D, ({ cls := .type "tuple", data := .seq #[.str x tk, .str y (tk + 1)] } : Obj)) :: news) → (∀ p ∈ news, p.1 < D) → Q (.ref D) ⟨h', g, d, tk + 1 + 1, o⟩) : wpAny M A (eval (.Tuple [.Constant (.str x) k1 p, .Constant (.str y) k2 p'] k pos) env) Q E ⟨h, g, d, tk, o⟩ :=
  tup2 (PySem.Calls.Constant_str (PySem.Calls.Constant_str (kup_newTuple F N q (by rw [sizeLine_eq]; exact Nat.le_of_ble_eq_true rfl)))) rfl rfl
end
section
variable {M : Model} {A : Around} {E : Value → Shared → Prop} {h₀ h : Heap} {g : Array GenState} {d : Drawn} {tk : Nat} {o : OsState} {L a : Addr} {m : Str → Option Value} {news : List (Addr × Obj)} {cn : Str} {cs : Scope} {ccd : Value} {cl : List (Str × Addr)} {env : Env} {x y : Str} {v u : Value} {i : Int} {k : Nat} {p p' pos : Pos} {r : PySem.Expr} {op : Operator} {cop : CmpOp} {whole : Sem Value}
theorem cInt {Q : Value → Shared → Prop} (q : Q (.int i tk) ⟨h, g, d, tk + 1, o⟩) : wpAny M A (eval (.Constant (.int i) k pos) env) Q E ⟨h, g, d, tk, o⟩ := wpAny_Constant_int q
theorem cStr {Q : Value → Shared → Prop} (q : Q (.str x tk) ⟨h, g, d, tk + 1, o⟩) : wpAny M A (eval (.Constant (.str x) k pos) env) Q E ⟨h, g, d, tk, o⟩ := PySem.Calls.Constant_str q
theorem storeS {Q : Unit → Shared → Prop} (F : Fr h₀ L h m := by k_asm) (N : News h₀ L h news := by k_asm) (q : ∀ h', Fr h₀ L h' (fun y => if y = x then some v else m y) → News h₀ L h' news → Q () ⟨h', g, d, tk + 1, o⟩) (ck : (chkL (envX cn cs L a ccd cl) x && true) = true := by exact Eq.refl true) : wpAny M A (storeName (envX cn cs L a ccd cl) x v) Q E ⟨h, g, d, tk, o⟩ := storeX_L F N q (chkL.k ck).1 (chkL.k ck).2.1
theorem lstS {vs : List Value} {Q : Value → Shared → Prop} (F : Fr h₀ L h m := by k_asm) (N : News h₀ L h news := by k_asm) (q : ∀ l h', Fr h₀ L h' m → News h₀ L h' ((l, W.listOf vs.toArray 0) :: news) → (∀ p ∈ news, p.1 < l) → Q (.ref l) ⟨h', g, d, tk, o⟩) (hz : vs.length ≤ sizeLine) : wpAny M A (newList vs) Q E ⟨h, g, d, tk, o⟩ := newList_K F N q hz
theorem tupS {vs : List Value} {Q : Value → Shared → Prop} (F : Fr h₀ L h m := by k_asm) (N : News h₀ L h news := by k_asm) (q : ∀ D h', Fr h₀ L h' m → News h₀ L h' ((D, ({ cls := .type "tuple", data := .seq vs.toArray } : Obj)) :: news) → (∀ p ∈ news, p.1 < D) → Q (.ref D) ⟨h', g, d, tk, o⟩) (hz : vs.length ≤ sizeLine) : wpAny M A (newTuple vs) Q E ⟨h, g, d, tk, o⟩ := kup_newTuple F N q hz
section
variable {prog : Program} {w : World} {b c : Int} {t t' : Tok} {Q : Value → Shared → Prop}
theorem addS (q : Q (.int (b + c) tk) ⟨h, g, d, tk + 1, o⟩) : wpAny (model prog w) A (binaryOp .Add (.int b t) (.int c t')) Q E ⟨h, g, d, tk, o⟩ := add_int q
theorem subS (q : Q (.int (b - c) tk) ⟨h, g, d, tk + 1, o⟩) : wpAny (model prog w) A (binaryOp .Sub (.int b t) (.int c t')) Q E ⟨h, g, d, tk, o⟩ := sub_int q
end
theorem bN {Q : Value → Shared → Prop} (F : Fr h₀ L h m := by k_asm) (hv : m x = some v := by exact rfl) (q : wpAny M A (eval r (envX cn cs L a ccd cl)) (fun b s₂ => wpAny M A (binaryOp op v b) Q E s₂) E ⟨h, g, d, tk, o⟩) (ck : (chkL (envX cn cs L a ccd cl) x && true) = true := by exact Eq.refl true) : wpAny M A (eval (.BinOp (.Name x p) op r pos) (envX cn cs L a ccd cl)) Q E ⟨h, g, d, tk, o⟩ :=
  wpAny_BinOp (nameX_L F hv q (chkL.k ck).1 (chkL.k ck).2.1 (chkL.k ck).2.2.1)
theorem bNN {Q : Value → Shared → Prop} (F : Fr h₀ L h m := by k_asm) (hv : m x = some v := by exact rfl) (hu : m y = some u := by exact rfl) (q : wpAny M A (binaryOp op v u) Q E ⟨h, g, d, tk, o⟩) (cy : (chkL (envX cn cs L a ccd cl) y && true) = true := by exact Eq.refl true) (ck : (chkL (envX cn cs L a ccd cl) x && true) = true := by exact Eq.refl true) : wpAny M A (eval (.BinOp (.Name x p) op (.Name y p') pos) (envX cn cs L a ccd cl)) Q E ⟨h, g, d, tk, o⟩ :=
  bN F hv (nameX_L F hu q (chkL.k cy).1 (chkL.k cy).2.1 (chkL.k cy).2.2.1) ck
theorem bNC {Q : Value → Shared → Prop} (F : Fr h₀ L h m := by k_asm) (hv : m x = some v := by exact rfl) (q : wpAny M A (binaryOp op v (.int i tk)) Q E ⟨h, g, d, tk + 1, o⟩) (ck : (chkL (envX cn cs L a ccd cl) x && true) = true := by exact Eq.refl true) : wpAny M A (eval (.BinOp (.Name x p) op (.Constant (.int i) k p') pos) (envX cn cs L a ccd cl)) Q E ⟨h, g, d, tk, o⟩ :=
  bN F hv (cInt q) ck
theorem cN {Q : Bool → Shared → Prop} (F : Fr h₀ L h m := by k_asm) (hv : m x = some v := by exact rfl) (q : wpAny M A (eval r (envX cn cs L a ccd cl)) (fun b s₂ => wpAny M A (compareOp cop v b) (fun c s₃ => wpAny M A (truthy c) Q E s₃) E s₂) E ⟨h, g, d, tk, o⟩) (ck : (chkL (envX cn cs L a ccd cl) x && !behindInMarks cop r) = true := by exact Eq.refl true) : wpAny M A (isTrue (.Compare (.Name x p) [cop] [r] pos) (envX cn cs L a ccd cl) whole) Q E ⟨h, g, d, tk, o⟩ :=
  wpAny_isTrue_Compare1 (nameX_L F hv q (chkL.k ck).1 (chkL.k ck).2.1 (chkL.k ck).2.2.1) (by simpa using (chkL.k ck).2.2.2)
theorem cNN {Q : Bool → Shared → Prop} (F : Fr h₀ L h m := by k_asm) (hv : m x = some v := by exact rfl) (hu : m y = some u := by exact rfl) (q : wpAny M A (compareOp cop v u) (fun c s₃ => wpAny M A (truthy c) Q E s₃) E ⟨h, g, d, tk, o⟩) (cy : (chkL (envX cn cs L a ccd cl) y && true) = true := by exact Eq.refl true) (ck : (chkL (envX cn cs L a ccd cl) x && !behindInMarks cop (.Name y p')) = true := by exact Eq.refl true) : wpAny M A (isTrue (.Compare (.Name x p) [cop] [(.Name y p')] pos) (envX cn cs L a ccd cl) whole) Q E ⟨h, g, d, tk, o⟩ :=
  cN F hv (nameX_L F hu q (chkL.k cy).1 (chkL.k cy).2.1 (chkL.k cy).2.2.1) ck
theorem cNC {Q : Bool → Shared → Prop} (F : Fr h₀ L h m := by k_asm) (hv : m x = some v := by exact rfl) (q : wpAny M A (compareOp cop v (.int i tk)) (fun c s₃ => wpAny M A (truthy c) Q E s₃) E ⟨h, g, d, tk + 1, o⟩) (ck : (chkL (envX cn cs L a ccd cl) x && !behindInMarks cop (.Constant (.int i) k p')) = true := by exact Eq.refl true) : wpAny M A (isTrue (.Compare (.Name x p) [cop] [(.Constant (.int i) k p')] pos) (envX cn cs L a ccd cl) whole) Q E ⟨h, g, d, tk, o⟩ :=
  cN F hv (cInt q) ck
theorem gN {Q : Value → Shared → Prop} (F : Fr h₀ L h m := by k_asm) (hv : m x = some v := by exact rfl) (q : wpAny M A (eval r (envX cn cs L a ccd cl)) (fun b s₂ => wpAny M A (subscriptTail (.Name x p) r v b) Q E s₂) E ⟨h, g, d, tk, o⟩) (ck : (chkL (envX cn cs L a ccd cl) x && true) = true := by exact Eq.refl true) : wpAny M A (eval (.Subscript (.Name x p) r pos) (envX cn cs L a ccd cl)) Q E ⟨h, g, d, tk, o⟩ :=
  Subscript_ (nameX_L F hv q (chkL.k ck).1 (chkL.k ck).2.1 (chkL.k ck).2.2.1)
theorem gNN {Q : Value → Shared → Prop} (F : Fr h₀ L h m := by k_asm) (hv : m x = some v := by exact rfl) (hu : m y = some u := by exact rfl) (q : wpAny M A (subscriptTail (.Name x p) (.Name y p') v u) Q E ⟨h, g, d, tk, o⟩) (cy : (chkL (envX cn cs L a ccd cl) y && true) = true := by exact Eq.refl true) (ck : (chkL (envX cn cs L a ccd cl) x && true) = true := by exact Eq.refl true) : wpAny M A (eval (.Subscript (.Name x p) (.Name y p') pos) (envX cn cs L a ccd cl)) Q E ⟨h, g, d, tk, o⟩ :=
  gN F hv (nameX_L F hu q (chkL.k cy).1 (chkL.k cy).2.1 (chkL.k cy).2.2.1) ck
theorem gNC {Q : Value → Shared → Prop} (F : Fr h₀ L h m := by k_asm) (hv : m x = some v := by exact rfl) (q : wpAny M A (subscriptTail (.Name x p) (.Constant (.int i) k p') v (.int i tk)) Q E ⟨h, g, d, tk + 1, o⟩) (ck : (chkL (envX cn cs L a ccd cl) x && true) = true := by exact Eq.refl true) : wpAny M A (eval (.Subscript (.Name x p) (.Constant (.int i) k p') pos) (envX cn cs L a ccd cl)) Q E ⟨h, g, d, tk, o⟩ :=
  gN F hv (cInt q) ck
end
end

section
-- CG
open PySem PySem.W PyProof.Rows PySem.Calls PySem.Spec
open PySem.Challenge
section
variable {prog : Program} {w : World} {A₀ A : Around} {s : Shared} {base h₀ : Heap} {outer : List Env} {L a : Addr} {m : Str → Option Value} {mu : List (Addr × Obj)} {K : Frag} {p : Program} {loose : List Str} {mean : ExcName → Option Value} {mg mb : Str → Option Value}
    {env : Env} {R : Result → Shared → Prop} {name qual : Str} {params : Arguments} {body : List Stmt} {scope : Scope} {dV kV doc pm cdv ct oc : Value} {an od : Option Addr} {osl : Array (Option Value)} {f : Addr} {args : Args} {binds : List (Str × Value)}
/-- a def entered: all that stands but mu is the ground -/
theorem code_defP (B : Below A₀ base outer h₀) (F : Fr h₀ L s.heap m) (X₀ : K.In h₀) (N : News h₀ L s.heap mu) (T : Top p loose mean mg mb h₀) (hA : A.frames = some (env :: outer)) (hf : env.frame = some L) (hke : env.scope.kind = .function)
    (ho : K.lookup f = some ⟨oc, od, .func (fnOf name qual params body scope dV kV doc pm an cdv ct), osl⟩) (hcd : codeIn K cdv qual = true) (hroom : A.depth < recursionLimit)
    (hbind : BindsTo s (fnOf name qual params body scope dV kV doc pm an cdv ct) args binds) (hloc : ∀ y ∈ binds, scope.names.lookup y.1 = some .local)
    (h : ∀ g L' h₁, (∀ b o, s.heap.get? b = some o → b ∉ mu.map (·.1) → g.get? b = some o) → Fr h₀ L g m → Fr g L' h₁ (fun y => binds.reverse.lookup y) → News g L' h₁ mu → Below A base (env :: outer) g → K.In g → Top p loose mean mg mb g →
      wpAny (model prog w) (A.deeper (envOf qual scope L' f cdv)) (execs body (envOf qual scope L' f cdv))
        (fun fl s' => LeaveK h₀ L m g R (match fl with | .ret v => v | _ => .none) s')
        (fun e s' => wpAny (model prog w) (A.deeper (envOf qual scope L' f cdv)) (leaving (envOf qual scope L' f cdv) e) (fun _ s'' => R (.error e) s'') (fun e' s'' => R (.error e') s'') s')
        { s with heap := h₁, toks := s.toks + binds.length })
    (hco : scope.isCoroutine = false) (hgen : scope.isGenerator = false) (hk : scope.kind = .function)
    (hcell : ∀ x ∈ scope.names, x.2 ≠ .cell) : codeAny (model prog w) A (.call (.ref f) args) R s := by
  obtain ⟨FG, BG, st, lv⟩ := groundX (R := R) B F N hA hf hke
  have X := X₀.keeps F.keep
  refine codeAny_call_def (fd := fnOf name qual params body scope dV kV doc pm an cdv ct) (body := body) (binds := binds) hroom (X _ _ ho) rfl (T.nolimit.keeps F.keep) (codeRec_of X hcd) rfl hbind hcell hloc (fun h₁ hns hk₁ => ?_) hco hgen hk
  exact wpAny_mono (h _ s.heap.objs.size h₁ (fun b o e nm => hideAll_get _ e nm) FG ⟨hns, fun b o e => hk₁ b o (of_hideAll _ e), Nat.le_of_eq (hideAll_size _ _)⟩
    (fun p hp => ⟨hk₁ _ _ (N p hp).1, Nat.ne_of_lt (Heap.lt_size (N p hp).1), hideAll_none _ (List.mem_map_of_mem hp)⟩) BG (X₀.keeps st) (T.keeps st)) (fun fl s' hl => lv _ _ hl) fun _ _ y => y
end
section
variable {h₀ h g h' : Heap} {L L' : Addr} {m' : Str → Option Value} {news : List (Addr × Obj)}
theorem newsSub {p : Addr × Obj} (N : News h₀ L h news) (hp : p ∈ news) : News h₀ L h [p] := fun q hq => by
  rcases List.mem_singleton.mp hq with rfl
  exact N _ hp
theorem newsMu {mu : List (Addr × Obj)} (N : News h₀ L h news) (NM : News h₀ L h mu) {q : Addr × Obj} (hq : q ∈ news) (hm : q.1 ∈ mu.map (·.1)) : q ∈ mu := by
  obtain ⟨p, hp, e⟩ := List.mem_map.mp hm
  have h1 := (N _ hq).1
  have h2 := (NM _ hp).1
  rw [e, h1] at h2
  have : q = p := Prod.ext e.symm (Option.some.inj h2)
  rw [this]; exact hp
theorem newsKeepM {mu : List (Addr × Obj)} (N : News h₀ L h news) (NM : News h₀ L h mu) (HG : ∀ b o, h.get? b = some o → b ∉ mu.map (·.1) → g.get? b = some o) (F' : Fr g L' h' m') (kM : News h₀ L h' mu) : News h₀ L h' news := fun q hq => by
  by_cases hm : q.1 ∈ mu.map (·.1)
  · exact kM q (newsMu N NM hq hm)
  · exact ⟨F'.keep _ _ (HG _ _ (N q hq).1 hm), (N q hq).2⟩
theorem neNew {mu new : List (Addr × Obj)} {D : Addr} {o : Obj} (N : News h₀ L h news) (NM : News h₀ L h mu) (HG : ∀ b o, h.get? b = some o → b ∉ mu.map (·.1) → g.get? b = some o) (N' : News g L' h' new) (hD : (D, o) ∈ new) (hne : ∀ q ∈ mu, q.1 ≠ D) : ∀ p ∈ news, p.1 ≠ D := fun p hp e => by
  by_cases hm : p.1 ∈ mu.map (·.1)
  · exact hne p (newsMu N NM hp hm) e
  · have h1 := HG _ _ (N p hp).1 hm
    have h2 := (N' _ hD).2.2
    rw [e, h2] at h1
    cases h1
theorem newsOneM {mu new : List (Addr × Obj)} {D : Addr} {o : Obj} (N : News h₀ L h news) (NM : News h₀ L h mu) (HG : ∀ b o, h.get? b = some o → b ∉ mu.map (·.1) → g.get? b = some o) (F' : Fr g L' h' m') (kN : News h₀ L h' new) (hD : (D, o) ∈ new) (hmu : ∀ q ∈ mu, q ∈ new) : News h₀ L h' ((D, o) :: news) := fun q hq => by
  rcases List.mem_cons.mp hq with rfl | hq
  · exact kN _ hD
  · exact newsKeepM N NM HG F' (fun q hq => kN q (hmu q hq)) q hq
theorem oneIn {p : Addr × Obj} {new : List (Addr × Obj)} (h : p ∈ new) : ∀ q ∈ [p], q ∈ new := fun q hq => by
  rcases List.mem_singleton.mp hq with rfl
  exact h
theorem oneNe {p : Addr × Obj} {D : Addr} (h : p.1 ≠ D) : ∀ q ∈ [p], q.1 ≠ D := fun q hq => by
  rcases List.mem_singleton.mp hq with rfl
  exact h
theorem newsKeep (N : News h₀ L h news) (HG : ∀ b o, h.get? b = some o → b ∉ ([] : List (Addr × Obj)).map (·.1) → g.get? b = some o) (F' : Fr g L' h' m') : News h₀ L h' news :=
  fun q hq => ⟨F'.keep _ _ (HG _ _ (N q hq).1 (by simp)), (N q hq).2⟩
theorem newsOne {D : Addr} {o : Obj} {new : List (Addr × Obj)} (N : News h₀ L h news) (HG : ∀ b o, h.get? b = some o → b ∉ ([] : List (Addr × Obj)).map (·.1) → g.get? b = some o) (F' : Fr g L' h' m') (kN : News h₀ L h' new) (hD : (D, o) ∈ new) : News h₀ L h' ((D, o) :: news) := fun q hq => by
  rcases List.mem_cons.mp hq with rfl | hq
  · exact kN _ hD
  · exact newsKeep N HG F' q hq
theorem listG {l : Addr} {vs : Array Value} {n : Nat} (N : News h₀ L h news) (HG : ∀ b o, h.get? b = some o → b ∉ ([] : List (Addr × Obj)).map (·.1) → g.get? b = some o) (hl : (l, ({ cls := .type "list", data := .seq vs n } : Obj)) ∈ news) : g.IsList l vs := ⟨_, HG _ _ (N _ hl).1 (by simp), rfl, n, rfl⟩
end
theorem item_lst {prog : Program} {w : World} {A : Around} {E : Value → Shared → Prop} {s : Shared} {value slice : PySem.Expr} {l : Addr} {vs : Array Value} {k : Int} {u : Tok} {v : Value} {Q : Value → Shared → Prop}
    (hl : s.heap.IsList l vs) (h0 : 0 ≤ k) (hhi : k < 2 ^ 63) (hx : vs[k.toNat]? = some v) (h : Q v s)
    (hs : subscripted slice false (.ref l) (.int k u) = operate [.ref l, .int k u] (getItem (.ref l) (.int k u)) := by with_unfolding_all rfl) :
    wpAny (model prog w) A (subscriptTail value slice (.ref l) (.int k u)) Q E s := tail_any hl.typeIs slot_list_getitem.lookup (wpAny_getItem_list hl h0 hhi hx h) hs
noncomputable def max0 (n : Int) : Int := if n < 0 then 0 else n
theorem psOne {m' : Str → Option Value} {nm : Str} {v : Value} (h : m' nm = some v) : ∀ p ∈ [(nm, v)], m' p.1 = some p.2 := fun p hp => by
  rcases List.mem_singleton.mp hp with rfl
  exact h
theorem notOne {nm z : Str} {v : Value} (h : ∀ p ∈ [(nm, v)], z ≠ p.1) : z ≠ nm := h _ (List.mem_singleton.mpr rfl)
/-- a contract of a def, for callers without cells -/
noncomputable abbrev CbH (d : Nat) (w : World) (mean : ExcName → Option Value) (mg mb : Str → Option Value) (f : Addr) (news : List (Addr × Obj)) (vs : List Value)
    (Ret : Heap → Addr → (Str → Option Value) → Shared → (Value → Shared → Prop) → Prop) : Prop :=
  ∀ (dp un : Nat) (gd : Option (List Code)) (cn : Str) (cs : Scope) (a : Addr) (ccd : Value) (outer : List Env) (A₀ : Around) (base h₀ : Heap) (L : Addr) (m : Str → Option Value) (s : Shared) (Q E : Value → Shared → Prop),
    Below A₀ base outer h₀ → Fr h₀ L s.heap m → (hd.heap_1 w.params).In h₀ → News h₀ L s.heap news → Top view LS mean mg mb h₀ → cs.kind = .function →
    dp + d < recursionLimit → un + 8 * d < cLine → Ret h₀ L m s Q →
      wpAny (model rw_oj0055_01.row.toRowW.prog w) (ktrTop dp un gd cn cs L a ccd [] outer) (call (.ref f) vs) Q E s
end

section
-- EX1
open PySem PySem.W PyProof.Rows
open PySem.Challenge
/-- the exception e stands with its object's class and dict, its newest traceback entry T holds fl -/
noncomputable def TrD (B h : Heap) (e : Addr) (oe : Obj) (fl : Value) : Prop :=
  ∃ vs T oT ts, h.get? e = some { oe with data := .fields vs } ∧ vs[1]? = some (.ref T) ∧ B.get? T = none ∧ T ≠ e ∧ h.get? T = some oT ∧ oT.data = .fields ts ∧ ts[3]? = some fl
section
variable {M : Model} {A : Around} {E : Value → Shared → Prop} {s : Shared}
theorem mapF_eq {o : Obj} {vs : Array Value} (hd : o.data = .fields vs) (f : Array Value → Array Value) : Obj.mapFields f o = { o with data := .fields (f vs) } := by
  obtain ⟨c, d, dt, sl⟩ := o
  dsimp only at hd
  subst hd
  rfl
theorem entryD {B : Heap} {env : Env} {outer : List Env} {L e : Addr} {oe : Obj} {vs : Array Value} {head : Value} {hadNext : Bool} {Q : Unit → Shared → Prop}
    (hfr : A.frames = some (env :: outer)) (hl : s.heap.FunFrames B (env :: outer)) (hf : env.frame = some L) (he : s.heap.get? e = some oe) (hkb : B.StaysIn s.heap) (hen : B.get? e = none) (hd : oe.data = .fields vs) (hsz : 1 < vs.size)
    (h : ∀ h', B.StaysIn h' → h'.FunFrames B (env :: outer) → TrD B h' e oe (rawInt L) → s.heap.UpToSlots h' → Q () { s with heap := h' }) :
    wpAny M A (do let a ← frameOf env; let pl ← entryPlaceOf L hadNext; let b ← EntryCells.newEntry head a .none (rawInt L) .none pl; setField (.ref e) 1 b) Q E s := by
  have e_no : e ∉ (env :: outer).filterMap (·.frame) := by
    intro hm
    obtain ⟨_, o, ho, hno⟩ := hl.mem hm
    exact hno vs ((Option.some.inj (ho.symm.trans he)) ▸ hd)
  refine wpAny_bind (wpAny_frameOf_fun hfr hl hf fun g hg => ?_)
  have ge : g.get? e = some oe := (hg.2.1 e e_no).trans he
  have gB : B.StaysIn g := fun b o hb => (hg.2.1 b fun hm => by rw [(hl.mem hm).1] at hb; cases hb).trans (hkb b o hb)
  refine wpAny_bind (wpAny_entryPlaceOf fun pl hpl => ?_)
  unfold EntryCells.newEntry newFields
  refine wpAny_bind (wpAny_newObj_type ?_ (hpl.sizeOk5 _ _ _ _ _))
  generalize hob : ({ cls := .type "traceback", dict := none, data := .fields ([head, .ref L, .none, rawInt L, .none] ++ (if pl.isEmpty then List.replicate 6 Value.none else pl)).toArray } : Obj) = ob
  have obF : ob.isFreed = false := by subst hob; rfl
  have ge1 : (g.push ob).get? e = some oe := Heap.get?_push_of_some (h := g) ob ge
  refine wpAny_setField ge1 hd hsz ?_
  have neT : g.objs.size ≠ e := Nat.ne_of_gt (Heap.lt_size ge)
  have me := mapF_eq hd (·.setIfInBounds 1 (Value.ref g.objs.size))
  have ge2 : ((g.push ob).update e (Obj.mapFields (·.setIfInBounds 1 (Value.ref g.objs.size)))).get? e = some { oe with data := .fields (vs.setIfInBounds 1 (Value.ref g.objs.size)) } := by
    have := Heap.get?_update_self (Obj.mapFields (·.setIfInBounds 1 (Value.ref g.objs.size))) ge1 (by rw [me]; rfl)
    rw [this, me]
  have other : ∀ b o, b ≠ e → g.get? b = some o → ((g.push ob).update e (Obj.mapFields (·.setIfInBounds 1 (Value.ref g.objs.size)))).get? b = some o := fun b o hb ho => by
    rw [Heap.get?_update_other _ _ (Ne.symm hb)]
    exact Heap.get?_push_of_some _ ho
  have notE : ∀ b o, s.heap.get? b = some o → (∀ ws, o.data ≠ .fields ws) → b ≠ e := by
    rintro b o hb hn rfl
    exact hn vs ((Option.some.inj (hb.symm.trans he)) ▸ hd)
  refine h _ (fun b o hb => other b o (fun q => by rw [q, hen] at hb; cases hb) (gB b o hb)) (hl.of_keeps fun b o hb hn => ?_) ?_ (fun b o hb hn => ?_)
  · obtain ⟨sl, hs⟩ := hg.2.2 b o hb
    exact ⟨_, other b _ (notE b o hb hn) hs, rfl⟩
  · refine ⟨_, g.objs.size, ob, _, ge2, by simp [hsz], gB.fresh, neT, ?_, by subst hob; rfl, ?_⟩
    · rw [Heap.get?_update_other _ _ (Ne.symm neT)]
      exact Heap.get?_push_size g obF
    · first
        | (simp; done)
        | (rcases hpl with rfl | ⟨_, _, _, _, _, _, _, rfl⟩ <;> simp)
  · obtain ⟨sl, hs⟩ := hg.2.2 b o hb
    exact ⟨sl, other b _ (notE b o hb hn) hs⟩
/-- the newest entry's mark is turned to none -/
theorem flightD {B : Heap} {l : List Env} {e : Addr} {oe : Obj} {fl : Value} {Q : Unit → Shared → Prop} (hkb : B.StaysIn s.heap) (hl : s.heap.FunFrames B l) (ht : TrD B s.heap e oe fl)
    (h : ∀ h', B.StaysIn h' → h'.FunFrames B l → TrD B h' e oe .none → s.heap.UpToSlots h' → Q () { s with heap := h' }) : wpAny M A (setFlight (.ref e) none) Q E s := by
  obtain ⟨vs, T, oT, ts, he, h1, hBT, hTe, hT, hdT, h3⟩ := ht
  have hsz : 3 < ts.size := (Array.getElem?_eq_some_iff.mp h3).1
  unfold setFlight
  refine wpAny_bind (wpAny_field he rfl h1 ?_)
  rw [if_pos (show (Value.ref T != Value.none) = true from by simp)]
  have mT := mapF_eq hdT (·.setIfInBounds 3 ((none : Option Addr).elim Value.none fun f => rawInt f))
  have other : ∀ b, b ≠ T → (s.heap.update T (Obj.mapFields (·.setIfInBounds 3 ((none : Option Addr).elim Value.none fun f => rawInt f)))).get? b = s.heap.get? b := fun b hb => Heap.get?_update_other _ _ (Ne.symm hb)
  have notT : ∀ b o, s.heap.get? b = some o → (∀ ws, o.data ≠ .fields ws) → b ≠ T := by
    rintro b o hb hn rfl
    exact hn ts ((Option.some.inj (hb.symm.trans hT)) ▸ hdT)
  refine wpAny_setField hT hdT hsz (h _ (fun b o hb => (other b fun q => by rw [q, hBT] at hb; cases hb).trans (hkb b o hb)) (hl.of_keeps fun b o hb hn => ⟨o, (other b (notT b o hb hn)).trans hb, rfl⟩) ?_
    (fun b o hb hn => ⟨o.slots, (other b (notT b o hb hn)).trans hb⟩))
  refine ⟨vs, T, { oT with data := .fields (ts.setIfInBounds 3 .none) }, ts.setIfInBounds 3 .none, (other e (Ne.symm hTe)).trans he, h1, hBT, hTe, ?_, rfl, ?_⟩
  · have := Heap.get?_update_self (Obj.mapFields (·.setIfInBounds 3 ((none : Option Addr).elim Value.none fun f => rawInt f))) hT (by rw [mT]; rfl)
    rw [this, mT]
    rfl
  · simp [hsz]
theorem noteD1 {B : Heap} {env : Env} {outer : List Env} {L e : Addr} {oe : Obj} {vs : Array Value} {Q : Unit → Shared → Prop}
    (hfr : A.frames = some (env :: outer)) (hl : s.heap.FunFrames B (env :: outer)) (hf : env.frame = some L) (he : s.heap.get? e = some oe) (hkb : B.StaysIn s.heap) (hen : B.get? e = none) (hd : oe.data = .fields vs) (h1 : vs[1]? = some .none)
    (h : ∀ h', B.StaysIn h' → h'.FunFrames B (env :: outer) → TrD B h' e oe (rawInt L) → s.heap.UpToSlots h' → Q () { s with heap := h' }) : wpAny M A (noteFrame (.ref e) env) Q E s := by
  unfold noteFrame
  simp only [hf]
  refine wpAny_bind (wpAny_field he hd h1 ?_)
  rw [if_neg (by decide)]
  exact entryD hfr hl hf he hkb hen hd (Array.getElem?_eq_some_iff.mp h1).1 h
theorem noteD2 {B : Heap} {env : Env} {outer : List Env} {L e : Addr} {oe : Obj} {Q : Unit → Shared → Prop}
    (hfr : A.frames = some (env :: outer)) (hl : s.heap.FunFrames B (env :: outer)) (hf : env.frame = some L) (ht : TrD B s.heap e oe .none) (hkb : B.StaysIn s.heap) (hen : B.get? e = none)
    (h : ∀ h', B.StaysIn h' → h'.FunFrames B (env :: outer) → TrD B h' e oe (rawInt L) → s.heap.UpToSlots h' → Q () { s with heap := h' }) : wpAny M A (noteFrame (.ref e) env) Q E s := by
  obtain ⟨vs, T, oT, ts, he, h1, hBT, hTe, hT, hdT, h3⟩ := ht
  have hsz : 3 < ts.size := (Array.getElem?_eq_some_iff.mp h3).1
  unfold noteFrame
  simp only [hf]
  refine wpAny_bind (wpAny_field he rfl h1 ?_)
  rw [if_pos (show (Value.ref T != Value.none) = true from by simp)]
  refine wpAny_bind (wpAny_field hT hdT h3 ?_)
  rw [if_neg (show ¬ ((Value.none == rawInt L) = true) from by simp [rawInt])]
  have other : ∀ b, b ≠ T → (s.heap.update T (Obj.mapFields (·.setIfInBounds 3 Value.none))).get? b = s.heap.get? b := fun b hb => Heap.get?_update_other _ _ (Ne.symm hb)
  have notT : ∀ b o, s.heap.get? b = some o → (∀ ws, o.data ≠ .fields ws) → b ≠ T := by
    rintro b o hb hn rfl
    exact hn ts ((Option.some.inj (hb.symm.trans hT)) ▸ hdT)
  refine wpAny_bind (wpAny_setField hT hdT hsz ?_)
  refine entryD hfr (hl.of_keeps fun b o hb hn => ⟨o, (other b (notT b o hb hn)).trans hb, rfl⟩) hf ((other e (Ne.symm hTe)).trans he) (fun b o hb => (other b fun q => by rw [q, hBT] at hb; cases hb).trans (hkb b o hb)) hen rfl
    (Array.getElem?_eq_some_iff.mp h1).1 fun h' k1 k2 k3 k4 => h h' k1 k2 ?_ fun b o hb hn => k4 b o ((other b (notT b o hb hn)).trans hb) hn
  obtain ⟨vs', T', oT', ts', x⟩ := k3
  exact ⟨vs', T', oT', ts', x⟩
theorem leaveD1 {B : Heap} {env : Env} {outer : List Env} {L e : Addr} {oe : Obj} {vs : Array Value} {Q : Unit → Shared → Prop}
    (hfr : A.frames = some (env :: outer)) (hl : s.heap.FunFrames B (env :: outer)) (hf : env.frame = some L) (he : s.heap.get? e = some oe) (hkb : B.StaysIn s.heap) (hen : B.get? e = none) (hd : oe.data = .fields vs) (h1 : vs[1]? = some .none)
    (h : ∀ h', B.StaysIn h' → h'.FunFrames B (env :: outer) → TrD B h' e oe .none → s.heap.UpToSlots h' → Q () { s with heap := h' }) : wpAny M A (leaving env (.ref e)) Q E s := by
  unfold leaving
  refine wpAny_bind (noteD1 hfr hl hf he hkb hen hd h1 fun h' k1 k2 k3 k4 => ?_)
  exact flightD (s := { s with heap := h' }) k1 k2 k3 fun h'' j1 j2 j3 j4 => h h'' j1 j2 j3 (k4.trans j4)
theorem leaveD2 {B : Heap} {env : Env} {outer : List Env} {L e : Addr} {oe : Obj} {Q : Unit → Shared → Prop}
    (hfr : A.frames = some (env :: outer)) (hl : s.heap.FunFrames B (env :: outer)) (hf : env.frame = some L) (ht : TrD B s.heap e oe .none) (hkb : B.StaysIn s.heap) (hen : B.get? e = none)
    (h : ∀ h', B.StaysIn h' → h'.FunFrames B (env :: outer) → TrD B h' e oe .none → s.heap.UpToSlots h' → Q () { s with heap := h' }) : wpAny M A (leaving env (.ref e)) Q E s := by
  unfold leaving
  refine wpAny_bind (noteD2 hfr hl hf ht hkb hen fun h' k1 k2 k3 k4 => ?_)
  exact flightD (s := { s with heap := h' }) k1 k2 k3 fun h'' j1 j2 j3 j4 => h h'' j1 j2 j3 (k4.trans j4)
end
end

section
-- EX2
open PySem PySem.W PyProof.Rows PySem.Calls
open PySem.Challenge
noncomputable abbrev frs (l : List Env) : List Addr := l.filterMap (·.frame)
noncomputable def Exc (base G : Heap) (l : List Env) (e : Addr) (oe : Obj) (news : List (Addr × Obj)) (h : Heap) : Prop :=
  ∃ B, base.StaysIn B ∧ (∀ b o, G.get? b = some o → b ∉ frs l → B.get? b = some o) ∧ (∀ q ∈ news, B.get? q.1 = some q.2 ∧ G.get? q.1 = none ∧ base.get? q.1 = none) ∧ B.StaysIn h ∧ B.get? e = none ∧ h.FunFrames B l ∧ TrD B h e oe .none
theorem none_back {h h' : Heap} (k : ∀ b o, h.get? b = some o → h'.get? b = some o) {b : Addr} (e : h'.get? b = none) : h.get? b = none := by
  cases q : h.get? b with
  | none => rfl
  | some o => exact absurd (k b o q) (by rw [e]; simp)
section
variable {M : Model} {A : Around} {E : Value → Shared → Prop} {s' : Shared} {base g g₂ : Heap} {outer : List Env} {L a e : Addr} {m : Str → Option Value} {name : Str} {scope : Scope} {cd : Value} {Q : Unit → Shared → Prop} {news : List (Addr × Obj)} {oe : Obj}
theorem leave_first {vs : Array Value} (K : Below A base outer g) (F : Fr g L s'.heap m) (N : News g L s'.heap news) (he : s'.heap.get? e = some oe) (hg : g.get? e = none) (hn : ∀ q ∈ news, q.1 ≠ e) (hd : oe.data = .fields vs) (h1 : vs[1]? = some .none)
    (hQ : ∀ h', Exc base g outer e oe news h' → g.UpToSlots h' → Q () { s' with heap := h' }) (hk : scope.kind = .function := by rfl) :
    wpAny M (A.deeper (envOf name scope L a cd)) (leaving (envOf name scope L a cd) (.ref e)) Q E s' := by
  have K' := K.push (name := name) (a := a) (cd := cd) F hk
  have hb : base.get? e = none := none_back K.stays hg
  have inl : ∀ env ∈ (envOf name scope L a cd :: outer), ∀ b, env.frame = some b → b ∈ e :: frs (envOf name scope L a cd :: outer) := fun env he' b hb' => .tail _ (List.mem_filterMap.mpr ⟨env, he', hb'⟩)
  have sB : base.StaysIn (hideAll s'.heap (e :: frs (envOf name scope L a cd :: outer))) := fun b o q => hideAll_get _ (K'.stays b o q) fun hm => by
    rcases List.mem_cons.mp hm with rfl | hm
    · rw [hb] at q; cases q
    · rw [(K'.frames.mem hm).1] at q; cases q
  refine leaveD1 (B := hideAll s'.heap (e :: frs (envOf name scope L a cd :: outer))) K'.stack (funFrames_hide K'.frames inl) rfl he (fun b o q => of_hideAll _ q) (hideAll_none _ (.head _)) hd h1 fun h' k1 k2 k3 k4 => ?_
  refine hQ h' ⟨_, sB, fun b o q nm => hideAll_get _ (F.keep b o q) fun hm => ?_, fun q hq => ⟨hideAll_get _ (N q hq).1 fun hm => ?_, (N q hq).2.2, none_back K.stays (N q hq).2.2⟩, k1, hideAll_none _ (.head _), k2.2.2, k3⟩ ((Heap.UpToSlots.of_keeps F.keep).trans k4)
  · rcases List.mem_cons.mp hm with rfl | hm
    · rw [hg] at q; cases q
    · rcases kts_mem hm with rfl | hm
      · rw [kts_self F] at q; cases q
      · exact nm hm
  · rcases List.mem_cons.mp hm with z | hm
    · exact hn q hq z
    · obtain ⟨env, he', hf⟩ := List.mem_filterMap.mp hm
      rcases List.mem_cons.mp he' with rfl | he'
      · exact (N q hq).2.1 (Option.some.inj hf).symm
      · obtain ⟨o, ho, _⟩ := (K.frames.mem (List.mem_filterMap.mpr ⟨env, he', hf⟩)).2
        rw [(N q hq).2.2] at ho; cases ho
theorem leave_on (K : Below A base outer g) (F : Fr g L g₂ m) (R : Exc base g₂ (envOf name scope L a cd :: outer) e oe news s'.heap) (hsm : g₂.UpToSlots s'.heap)
    (hQ : ∀ h', Exc base g outer e oe news h' → g.UpToSlots h' → Q () { s' with heap := h' }) :
    wpAny M (A.deeper (envOf name scope L a cd)) (leaving (envOf name scope L a cd) (.ref e)) Q E s' := by
  obtain ⟨B, hB, hBG, hl, hBh, hBe, hfr, ht⟩ := R
  refine leaveD2 (Around.frames_deeper K.stack) hfr rfl ht hBh hBe fun h' k1 k2 k3 k4 => ?_
  refine hQ h' ⟨B, hB, fun b o q nm => hBG b o (F.keep b o q) fun hm => ?_, fun q hq => ⟨(hl q hq).1, none_back F.keep (hl q hq).2.1, (hl q hq).2.2⟩, k1, hBe, k2.2.2, k3⟩ ((Heap.UpToSlots.of_keeps F.keep).trans (hsm.trans k4))
  rcases kts_mem hm with rfl | hm
  · rw [kts_self F] at q; cases q
  · exact nm hm
end
end

section
-- EX3
open PySem PySem.W PyProof.Rows PySem.Calls PySem.Spec
open PySem.Challenge
section
variable {prog : Program} {w : World} {A₀ : Around} {E : Value → Shared → Prop} {s' : Shared} {base g g₀ G : Heap} {outer : List Env} {L a e C : Addr} {m : Str → Option Value} {name : Str} {scope : Scope} {cd : Value}
  {n : Str} {b₀ : Stmt} {suite : List Stmt} {pos np : Pos} {rest : List ExceptHandler} {Q : Flow → Shared → Prop} {news : List (Addr × Obj)} {KF : Frag}
  {p : Program} {loose : List Str} {mean : ExcName → Option Value} {mg mb : Str → Option Value} {x : Str} {oe : Obj}
theorem caughtD (R : Exc base G (envOf name scope L a cd :: outer) e oe news s'.heap) (hoc : oe.cls = .ref C) (F : Fr g L G m) (K : Below A₀ base outer g) (hsm : G.UpToSlots s'.heap) (XB : KF.In base) (TB : Top p loose mean mg mb base)
    (D : KtsDicts (frs outer) g) (T0 : KtsTurn (frs outer) g₀ g) (ex : nsIn KF mainGlobals x = some (some (.ref C))) (q : ktsIn KF C "BaseException" = true)
    (k : ∀ h' g' tk vs, KtsTurn (frs outer) g₀ g' → Fr g' L h' (fun y => if y = n then some (.ref e) else m y) → News g' L h' ((e, { oe with data := .fields vs }) :: news) → Below A₀ base outer g' → KF.In g' → Top p loose mean mg mb g' → KtsDicts (frs outer) g' →
      wpAny (model prog w) ((A₀.deeper (envOf name scope L a cd)).mark (some (.ref e))) (execs (b₀ :: suite) (envOf name scope L a cd))
        (fun f s₄ => wpAny (model prog w) (A₀.deeper (envOf name scope L a cd)) (do bindName (envOf name scope L a cd) n .none; unbindBehindTheSuite (envOf name scope L a cd) n pos) (fun _ s₅ => Q f s₅) E s₄)
        (AsSuiteRaised (model prog w) ((A₀.deeper (envOf name scope L a cd)).mark (some (.ref e))) (envOf name scope L a cd) n pos (notedBy (model prog w) ((A₀.deeper (envOf name scope L a cd)).mark (some (.ref e))) (envOf name scope L a cd) (cameBackBy (model prog w) (A₀.deeper (envOf name scope L a cd)) (envOf name scope L a cd) E)))
        { s' with heap := h', toks := tk })
    (hk : scope.kind = .function := by rfl) (hlo : (envOf name scope L a cd).kindOf n = some .local := by rfl) (hx : (envOf name scope L a cd).kindOf x = some .globalImplicit := by rfl) (hd : (x == ("__debug__" : Str)) = false := by decide) :
    wpAny (model prog w) (A₀.deeper (envOf name scope L a cd)) (noteFrame (.ref e) (envOf name scope L a cd))
      (fun _ s₂ => wpAny (model prog w) (A₀.deeper (envOf name scope L a cd)) (setFlight (.ref e) none) (fun _ s₃ =>
        wpAny (model prog w) (A₀.deeper (envOf name scope L a cd)) (handleBy (.ref e) (envOf name scope L a cd) (.ExceptHandler (some (.Name x np)) (some n) (b₀ :: suite) pos :: rest)) Q E s₃) E s₂) E s' := by
  obtain ⟨B, hB, hBG, hl, hBh, hBe, hfr, ht⟩ := R
  have hL : B.get? L = none := by
    obtain ⟨_, ⟨L', _, hf, hn', _⟩, _⟩ := hfr
    obtain rfl : L = L' := Option.some.inj hf
    exact hn'
  refine noteD2 (Around.frames_deeper K.stack) hfr rfl ht hBh hBe fun h₄ a1 a2 a3 a4 => ?_
  refine flightD (s := { s' with heap := h₄ }) a1 a2 a3 fun h₅ b1 b2 b3 b4 => ?_
  have sm5 := hsm.trans (a4.trans b4)
  obtain ⟨g₅, T₅, F₅, K₅⟩ := kts_ground K F hBG b1 sm5
  have X₅ : KF.In g₅ := XB.keeps K₅.stays
  have P₅ : TopRead p loose mg mb g₅ := topRead_of (TB.keeps K₅.stays)
  obtain ⟨nm, q', N, bs, bm, hdct, sn, sub, ab, col, dd, k0, k1, k2, k3, k5, newId, hC, hbase, hbT⟩ := kts_cls X₅ q
  have hC₅ := F₅.keep _ _ hC
  obtain ⟨vs5, T5, oT5, ts5, he5, _⟩ := id b3
  refine wpAny_handleBy_cons (codeAny_handlers_test (name_K (s := { s' with heap := h₅ }) F₅ X₅ P₅ ex ?_ hk hx hd)) (by intro q; cases q)
  refine wpAny_excMatches_sub_self hC₅ he5 hoc hbase (codeAny_handlers_suite_as ?_)
  refine flightD (s := { s' with heap := h₅ }) b1 b2 b3 fun h₆ c1 c2 c3 c4 => ?_
  have sm6 := sm5.trans c4
  obtain ⟨g₆, T₆, F₆, K₆⟩ := kts_ground K F hBG c1 sm6
  obtain ⟨vs6, T6, oT6, ts6, he6, _⟩ := c3
  have ne₆ : g₆.get? e = none := T₆.none_ _ (kts_fresh F hBG hBe fun o ho mm => by
    obtain ⟨_, o', ho', hno⟩ := K.frames.mem mm
    rw [ho] at ho'
    cases ho'
    obtain ⟨sl, hs⟩ := sm6 _ _ (F.keep _ _ ho) hno
    rw [he6] at hs
    exact hno vs6 (congrArg Obj.data (Option.some.inj hs)).symm)
  have Nl : News g₆ L h₆ news := fun q hq => ⟨c1 _ _ (hl q hq).1, (fun z => by have := (hl q hq).1; rw [z, hL] at this; cases this), T₆.none_ _ (kts_none F.keep (hl q hq).2.1)⟩
  have N₆ := News.more F₆ Nl he6 (fun es n q => by cases q) ne₆
  have X₆ : KF.In g₆ := XB.keeps K₆.stays
  have P₆ : Top p loose mean mg mb g₆ := TB.keeps K₆.stays
  have D₆ : KtsDicts (frs outer) g₆ := D.turn T₆
  refine stN (s := { s' with heap := h₆ }) F₆ N₆ (fun h₇ F₇ N₇ => ?_) hk hlo
  exact k h₇ g₆ _ _ (T0.trans T₆) F₇ N₇ K₆ X₆ P₆ D₆
end
end

section
-- EX4
open PySem PySem.W PyProof.Rows PySem.Calls PySem.Spec
open PySem.Challenge
/-- what a raise of an own object wants of the value -/
noncomputable def RaisableD (K : Frag) (E : Value → Shared → Prop) (v : Value) (s₁ : Shared) : Prop :=
  ∃ a ob vs, v = .ref a ∧ s₁.heap.get? a = some ob ∧ ob.cls = .ref 33 ∧ ob.data = .fields vs ∧ vs[1]? = some .none ∧ K.In s₁.heap ∧ E (.ref a) s₁
theorem Raise_inst {w : World} {prog : Program} {A : Around} {E : Value → Shared → Prop} {s : Shared} {env : Env} {e : Expr} {pos : Pos} {Q : Flow → Shared → Prop} (hh : A.handled = none)
    (h : wpAny (model prog w) A (eval e env) (RaisableD (hd.heap_1 w.params) E) E s) : wpAny (model prog w) A (exec (.Raise (some e) none pos) env) Q E s := by
  show wpAny (model prog w) A (do standAt pos; raiseStmt env (some (do let v ← eval e env; standAt pos; pure v)) none) Q E s
  refine wpAny_bind (wpAny_standAt ?_)
  unfold raiseStmt
  dsimp only
  refine wpAny_bind (wpAny_bind (wpAny_mono h (fun v s₁ h₁ => wpAny_bind (wpAny_standAt (wpAny_pure ?_))) fun _ _ x => x))
  obtain ⟨a, ob, vs, rfl, ha, hc, hd', h1, X, hE⟩ := h₁
  have lt : Looks (model prog w) s₁.heap (typeOf (.ref a)) ob.cls := (Looks.ld ha).andThen .now
  rw [hc] at lt
  have hb : Looks (model prog w) s₁.heap (isSubtype (.ref 33) (.type "BaseException")) true := looks_mroIn X (by kernel_rfl)
  have hm : Looks (model prog w) s₁.heap (typeOf (.ref 33)) (.type "type") := looks_typeIn X (by kernel_rfl)
  have hnt : ∀ {Q' : Bool → Shared → Prop}, Q' false s₁ → wpAny (model prog w) A (isType (.ref a)) Q' E s₁ := by
    intro Q' hq
    simp only [isType, loadHead]
    refine wpAny_bind (wpAny_loadPart ha ?_)
    rw [hd']; exact wpAny_pure hq
  refine wpAny_bind (wpAny_pure ?_)
  dsimp only
  refine wpAny_bind (wpAny_holding ?_)
  unfold excFromValue isExcClass
  refine wpAny_bind (wpAny_bind (hnt ?_))
  simp only [Bool.false_eq_true, if_false]
  refine wpAny_pure ?_
  simp only [Bool.false_eq_true, if_false]
  refine wpAny_bind ((lt.andThen hb : Looks _ _ (isInstance (.ref a) (.type "BaseException")) true).here ?_)
  simp only [if_true]
  refine wpAny_pure ?_
  refine wpAny_bind (hnt ?_)
  simp only [Bool.false_eq_true, if_false]
  unfold raisedInstance
  refine wpAny_bind (wpAny_bind (lt.here (wpAny_bind (hm.here ?_))))
  rw [if_pos (by decide)]
  refine wpAny_pure ?_
  unfold setFlight raiseNew
  refine wpAny_bind (wpAny_bind (wpAny_field ha hd' h1 ?_))
  rw [if_neg (by decide)]
  refine wpAny_pure (wpAny_bind (wpAny_handled ?_))
  rw [hh]
  first
    | exact wpAny_throw hE
    | exact wpAny_bind (wpAny_pure (wpAny_throw hE))
end

section
-- EX6
open PySem PySem.W PyProof.Rows PySem.Calls PySem.Spec PySem.Builtin PySem.Builtin.ObjectAttr PySem.Builtin.Getset_descriptor
theorem kwn_EX6 : True := by
  k_with_none
  w_top off
  trivial
theorem kwo_EX6 : True := by
  k_with "m:omega" => first | with_reducible assumption | decide | with_reducible exact Int.le_refl _ | with_reducible exact Nat.le_refl _ | with_reducible exact rm_u2 | with_reducible exact rm_d2 | with_reducible exact rm_u1 | with_reducible exact rm_d1 | with_reducible exact rm_u0 | with_reducible exact rm_d0 | with_reducible exact n_up | with_reducible exact q_o | with_reducible exact q_c1 | with_reducible exact q_c2 | with_reducible exact q_c3 | with_reducible exact q_c4 | with_reducible exact q_n1 | with_reducible exact q_n2 | with_reducible exact q_n3 | with_reducible exact q_l1 | with_reducible exact q_l2 | with_reducible exact q_t1 | with_reducible exact q_t2 | with_reducible exact q_t3 | with_reducible exact q_t4 | with_reducible exact q_t5 | ((with_reducible show _ ≠ _); first | k_extra "P" | (refine Ne.symm ?_; k_extra "P") | (refine Nat.ne_of_lt ?_; k_extra "P") | (refine Nat.ne_of_gt ?_; k_extra "P"))
  k_with "P" => first | with_reducible assumption | with_reducible exact And.left (by with_reducible assumption) | with_reducible exact And.right (by with_reducible assumption) | with_reducible exact q_r (by with_reducible assumption) | with_reducible exact q_s (by with_reducible assumption) | with_reducible exact q_t (by with_reducible assumption) | with_reducible exact q_u (by with_reducible assumption)
  k_with "K5" => ((case k1 => k_asm); (case k2 => k_asm); (case k3 => k_asm); (case k4 => k_asm); (case k5 => k_asm))
  k_with "m:eval Call" => (k_here; k_dflt (first | ((with_reducible show wpAny _ _ (eval (.Call (.Name (Str.ofString "len") _) [.Name _ _] [] _) _) _ _ _); refine len_nm (q := ?_)) | ((with_reducible show wpAny _ _ (eval (.Call (.Name (Str.ofString "len") _) [_] [] _) _) _ _ _); refine callLen (h := ?_)) | ((with_reducible show wpAny _ _ (eval (.Call (.Name (Str.ofString "str") _) [_] [] _) _) _ _ _); refine callStr (h := ?_)) | ((with_reducible show wpAny _ _ (eval (.Call (.Name _ _) [_] [] _) _) _ _ _); refine callK1 (h := ?_)) | ((with_reducible show wpAny _ _ (eval (.Call (.Name _ _) [_, _] [] _) _) _ _ _); refine callK2 (h := ?_)) | ((with_reducible show wpAny _ _ (eval (.Call (.Name _ _) [_, _, _] [] _) _) _ _ _); refine callK3 (h := ?_))); k_whole)
  k_with "m:eval Constant int" => (k_here; k_dflt (refine cInt ?_); k_whole)
  k_with "m:eval Constant str" => (k_here; k_dflt (refine cStr ?_); k_whole)
  k_with "m:storeName" => (k_here; k_dflt (refine storeS (q := ?_)); k_whole; intro h' F' N'; (try k_sweep))
  k_with "m:binaryOp Add int int" => (k_here; k_dflt (refine addS ?_); k_whole)
  k_with "m:binaryOp Sub int int" => (k_here; k_dflt (refine subS ?_); k_whole)
  k_with "m:call builtin:len" => (k_here; (with_reducible show wpAny _ _ (call _ [.str _ _]) _ _ _); k_dflt (refine lenS (q := ?_)); k_whole)
  k_with "m:newList" => (k_here; k_dflt (refine lstS (q := ?_) (by first | exact Nat.le_of_ble_eq_true rfl | size_fits)); k_whole; intro l' h' F' N' l1; (try k_lt l1); (try k_sweep))
  k_with "m:execs cons" => (k_here; k_dflt (first | ((with_reducible show wpAny _ _ (execs (.Assign [.Name _ _] _ _ :: _) _) _ _ _); refine sAsg ?_ (Eq.refl true)) | ((with_reducible show wpAny _ _ (execs (.Return (some _) _ :: _) _) _ _ _); refine sRet ?_) | ((with_reducible show wpAny _ _ (execs (.If _ [.Return (some _) _] [] _ :: _) _) _ _ _); refine sIfR ?_) | ((with_reducible show wpAny _ _ (execs (.If _ _ [] _ :: _) _) _ _ _); refine sIf1 ?_)); k_whole)
  k_with "m:eval Tuple" => (k_here; first | ((with_reducible show wpAny _ _ (eval (.Tuple [.Constant (.str _) _ _, .Constant (.str _) _ _] _ _) _) _ _ _); k_dflt (refine tupSS (q := ?_)); k_whole; intro D' h' F' N' l1; (try k_lt l1)) | ((with_reducible show wpAny _ _ (eval (.Tuple [_, _] _ _) _) _ _ _); k_dflt (refine tup2 ?_ (Eq.refl true) (Eq.refl true)); k_whole))
  k_with "m:eval List" => (k_here; k_dflt (first | ((with_reducible show wpAny _ _ (eval (.List [_] _) _) _ _ _); refine lst1 ?_ (Eq.refl true)) | ((with_reducible show wpAny _ _ (eval (.List [_, _] _) _) _ _ _); refine lst2 ?_ (Eq.refl true) (Eq.refl true)) | ((with_reducible show wpAny _ _ (eval (.List [_, _, _] _) _) _ _ _); refine lst3 ?_ (Eq.refl true) (Eq.refl true) (Eq.refl true)) | ((with_reducible show wpAny _ _ (eval (.List [_, _, _, _] _) _) _ _ _); refine lst4 ?_ (Eq.refl true) (Eq.refl true) (Eq.refl true) (Eq.refl true))); k_whole)
  k_with "m:eval BinOp" => (k_here; k_dflt (first | ((with_reducible show wpAny _ _ (eval (.BinOp (.Name _ _) _ (.Name _ _) _) _) _ _ _); refine bNN (q := ?_)) | ((with_reducible show wpAny _ _ (eval (.BinOp (.Name _ _) _ (.Constant (.int _) _ _) _) _) _ _ _); refine bNC (q := ?_)) | ((with_reducible show wpAny _ _ (eval (.BinOp (.Name _ _) _ _ _) _) _ _ _); refine bN (q := ?_))); k_whole)
  k_with "m:isTrue Compare" => (k_here; k_dflt (first | ((with_reducible show wpAny _ _ (isTrue (.Compare (.Name _ _) [_] [(.Name _ _)] _) _ _) _ _ _); refine cNN (q := ?_)) | ((with_reducible show wpAny _ _ (isTrue (.Compare (.Name _ _) [_] [(.Constant (.int _) _ _)] _) _ _) _ _ _); refine cNC (q := ?_)) | ((with_reducible show wpAny _ _ (isTrue (.Compare (.Name _ _) [_] [_] _) _ _) _ _ _); refine cN (q := ?_))); k_whole)
  k_with "m:eval Subscript" => (k_here; k_dflt (first | ((with_reducible show wpAny _ _ (eval (.Subscript (.Name _ _) (.Name _ _) _) _) _ _ _); refine gNN (q := ?_)) | ((with_reducible show wpAny _ _ (eval (.Subscript (.Name _ _) (.Constant (.int _) _ _) _) _) _ _ _); refine gNC (q := ?_)) | ((with_reducible show wpAny _ _ (eval (.Subscript (.Name _ _) _ _) _) _ _ _); refine gN (q := ?_))); k_whole)
  trivial
open PySem.Challenge
set_option maxRecDepth 100000
set_option maxHeartbeats 4000000
section
variable {prog : Program} {w : World} {A : Around} {K : Frag} {C : Addr} {R : Result → Shared → Prop} {h : Heap} {g : Array GenState} {d : Drawn} {t : Nat} {os : OsState}
noncomputable abbrev bmE : List Value := [.type "Exception", .type "BaseException", .type "object"]
/-- a new exception's fields -/
noncomputable abbrev excNew (C T : Addr) : Obj := { cls := .ref C, data := .fields #[.ref T, .none, .none, .none, .bool false, .none] }
noncomputable abbrev tupV (vs : List Value) : Obj := { cls := .type "tuple", data := .seq vs.toArray }
/-- a class of exceptions with its own __init__ is called -/
theorem make_E {rest : List Value} {fI N : Addr} {nm qn : Str} {bs : List Value} {hdct : Bool} {sn : List Str} {sub : List Value} {ab : Bool} {col : Option Bool} {dd : Option Addr} {k0 k1 k2 k3 k5 : Option Value} (X : K.In h)
    (hC : h.get? C = some (excClassObj nm qn C N bs bmE hdct sn sub ab col dd k0 k1 k2 k3 k5 "Exception.__new__")) (hi : findIn K (.ref C) "__init__" = some (some (.ref fI))) (hf : typeIn K (.ref fI) = some (.type "function"))
    (hcall : specialIn K (.ref C) "__call__" = some (some (.builtin "type.__call__"))) (hty : instIn K (.ref C) (.type "type") = some true) (hrest : rest.length ≤ sizeLine)
    (hq : wpAny (model prog w) (A.under (.builtin "type.__call__" ⟨.ref C :: rest, []⟩)) (call (.ref fI) (.ref (h.objs.size + 1) :: rest)) (fun v s' => v = .none ∧ R (.ok (.ret (.ref (h.objs.size + 1)))) s') (fun e s' => R (.error e) s') ⟨(h.push (tupV rest)).push (excNew C h.objs.size), g, d, t, os⟩) :
    codeAny (model prog w) A (.call (.ref C) ⟨rest, []⟩) R ⟨h, g, d, t, os⟩ := by
  have F := PySem.F.excBase_Exception
  have T : OwnTail h bmE bmE := .base
  have call := looks_specialIn (M := model prog w) X hcall
  have typ := looks_instIn (M := model prog w) X hty
  have hi' := looks_findIn (M := model prog w) X hi
  have hb : ∀ self, Looks (model prog w) h (bindSpecial (.ref fI) self) (.ref fI, [self]) := fun self => bind_fn X self hf
  refine codeAny_of_tree ?_
  show wpAny _ _ (callAny (.ref C) _) _ _ _
  refine nd_load hC ?_
  show wpAny _ _ (callAny.viaDunder (.ref C) _) _ _ _
  unfold callAny.viaDunder
  refine wpAny_bind (call.at ?_)
  dsimp only
  rw [tc_bind]
  refine wpAny_bind (wpAny_pure (wpAny_bind (wpAny_pure ?_)))
  refine wpAny_pure (a := Fin.again (.call (.builtin "type.__call__") ⟨.ref C :: rest, []⟩)) (And.intro rfl ?_)
  refine codeAny_call_builtin_at (Code.quiet_builtin _ (by decide +kernel)) entry_typeCall (check_slot tc_kind tc_split typ (tc_args _ _ _) ?_)
  unfold Builtin.«type.__call__»
  repeat (first | with_reducible refine wpAny_loadPart_at hC ?_ | with_reducible refine wpAny_madeBy_exc hC ?_ | wp_step)
  refine codeAny_call_builtin_code (Code.quiet_builtin _ F.quiet) (wpAny_check_new_subU F F.hasB T hC ?_)
  refine codeAny_exc_new_subU F F.hasB F T hC ?_ hrest
  show wpAny _ _ _ _ _ _
  have k : ∀ b o, h.get? b = some o → ((h.push (tupV rest)).push (excNew C h.objs.size)).get? b = some o := fun b o e => Heap.get?_push_of_some _ (Heap.get?_push_of_some _ e)
  have hC₁ := k _ _ hC
  have hget : ((h.push (tupV rest)).push (excNew C h.objs.size)).get? (h.objs.size + 1) = some (excNew C h.objs.size) := by heap_get
  have hcC : (Value.ref C :: bmE).contains (.ref C) = true := by simp
  have i1 := hi'.keeps k
  have b1 := (hb (.ref (h.objs.size + 1))).keeps k
  unfold isInstance
  repeat (first | with_reducible refine wpAny_loadPart_at hget ?_ | (with_reducible refine wpAny_isSubtype_exc hC₁ ?_; rw [hcC]) | wp_step)
  refine i1.here ?_
  dsimp only
  refine wpAny_holding (wpAny_bind (b1.here ?_))
  dsimp only
  refine wpAny_bind (wpAny_mono hq (fun v s' z => ?_) fun _ _ z => z)
  obtain ⟨rfl, z⟩ := z
  exact wpAny_pure (wpAny_pure z)
end
section
variable {prog : Program} {w : World} {A : Around} {K : Frag} {C x L : Addr} {R : Result → Shared → Prop} {s : Shared} {h₀ : Heap} {m : Str → Option Value} {news news' : List (Addr × Obj)}
/-- what a store upon an object of C wants of its class -/
structure ExcCls (K : Frag) (C : Addr) : Prop where
  mro : ∃ cd, clsIn K C = some cd ∧ cd.mro = .ref C :: bmE ∧ cd.hasDict = true
  set : findIn K (.ref C) "__setattr__" = some (some (.builtin "object.__setattr__"))
theorem refE (self : Value) (C : Addr) : refuseLoop self "__setattr__" (.ref C :: bmE) = pure () := by kernel_rfl
theorem osa_openE {ox : Obj} {od : Option Obj} {name : Str} {tk : Tok} {v : Value} (X : K.In s.heap) (Y : ExcCls K C) (I : InstAt s.heap x ox C od) (ht : takerIn K C name = some none)
    (h : ∀ b, wpAny (model prog w) A.in1 (ObjectAttr.storeInOwnDict (.ref x) (.ref C) (.str name tk) name v b)
      (fun fin s' => match fin with | .done f => R (.ok f) s' | .again c' => c'.quiet = true ∧ codeAny (model prog w) A c' R s') (fun e s' => R (.error e) s') s) :
    codeAny (model prog w) A (.call (.builtin "object.__setattr__") ⟨[.ref x, .str name tk, v], []⟩) R s := by
  have SF := PySem.F.store_object
  obtain ⟨cd, hc, ho, -⟩ := Y.mro
  have sub : Looks (model prog w) s.heap (isInstance (.ref x) (.type "object")) true := I.type.andThen (looks_mroIn X (by unfold mroIn; rw [hc, Option.bind_some, ho]; rfl))
  refine codeAny_call_builtin SF.slot.plain SF.entry (@check_slot (model prog w) _ _ s "object.__setattr__" "object" "__setattr__" (.ref x) [.str name tk, v] [] _ SF.kind SF.split sub (SF.args (.ref x) (.str name tk) v) ?_)
  obtain ⟨attr, ha, hr⟩ := Option.bind_eq_some_iff.mp ht
  have hm : Looks (model prog w) s.heap (mroOf (.ref C)) cd.mro := (looks_clsIn X hc).andThen .now
  have L3 : Looks (model prog w) s.heap (storeTaker? attr) none := by
    cases attr with
    | none => exact .now
    | some a =>
      obtain ⟨b, hb, e⟩ := Option.map_eq_some_iff.mp hr
      refine (looks_takesIn X hb).andThen ?_
      cases b with
      | true => cases e
      | false => exact .now
  rw [osa_eq, refuse_eq]
  refine wpAny_bind (wpAny_bind (I.type.here (wpAny_bind (hm.here ?_))))
  rw [ho, refE]
  refine wpAny_pure (wpAny_bind (I.type.here (wpAny_bind ((looks_findIn X ha).here (wpAny_bind (L3.here ?_))))))
  exact h _
theorem storeD {E : Value → Shared → Prop} {dx : Addr} {od od' : Obj} {name : Str} {tk : Tok} {v : Value} {pre post : List (Addr × Obj)} {es' : List DictEntry} {n' : Nat} {Q : Fin → Shared → Prop} (F : Fr h₀ L s.heap m) (N : News h₀ L s.heap (pre ++ (dx, od) :: post))
    (hl : (lookIn name od).isSome = true) (h1 : ∀ p ∈ pre, p.1 ≠ dx) (h2 : ∀ p ∈ post, p.1 ≠ dx)
    (e : Obj.putName name (PyData.keyHash w.params name) (.str name s.toks) v od = od') (e' : od'.data = .dict es'.toArray n') (hz : es'.length ≤ 1000)
    (h : ∀ h', Fr h₀ L h' m → News h₀ L h' (pre ++ (dx, od') :: post) → Q (.done (.ret .none)) { s with heap := h', toks := s.toks + 1 }) :
    wpAny (model prog w) A (storeInDict dx (.str name tk) name v) Q E s := by
  obtain ⟨U1, U2⟩ := news_upd (f := Obj.putName name (PyData.keyHash w.params name) (.str name s.toks) v) F N h1 h2 e (by obtain ⟨_, _, dd, _⟩ := od'; cases e'; rfl)
  have D := (N (dx, od) (by simp)).1
  have D' := (U2 (dx, od') (by simp)).1
  refine wpAny_bind (wpAny_pure (wpAny_bind ?_))
  unfold nsSet
  refine wpAny_bind (wpAny_bind (wpAny_askSetting (wpAny_pure (wpAny_bind (wpAny_mkText (wpAny_bind (wpAny_loadPart D ?_)))))))
  unfold lookIn at hl
  split at hl
  · rename_i es₀ n₀ q
    rw [q]
    dsimp only
    have c : (!es₀.any (·.key.isStr name) && es₀.any (·.refKey)) = false := by
      rw [← Array.any_toList, ← Array.any_toList]
      split at hl
      · rename_i en he
        rw [List.any_eq_true.mpr ⟨en, List.mem_of_find?_eq_some he, List.find?_some he⟩]; rfl
      · split at hl
        · cases hl
        · rename_i z; rw [Bool.not_eq_true] at z; rw [z, Bool.and_false]
    rw [aRefKeyMayBeTheName_at, c]
    refine wpAny_updatePart D ?_
    refine wpAny_bind (wpAny_lookBehind D' (by rw [e']; exact pastItsLine_dict (by rw [List.size_toArray, sizeLine_eq]; omega)) ?_)
    exact wpAny_pure (h _ U1 U2)
  · cases hl
/-- the first store makes the dict -/
theorem set_E0 {Q : Unit → Shared → Prop} {E : Value → Shared → Prop} {vs : Array Value} {name : Str} {v : Value} {pre post : List (Addr × Obj)} (F : Fr h₀ L s.heap m) (X₀ : K.In h₀) (N : News h₀ L s.heap (pre ++ (x, { cls := .ref C, data := .fields vs }) :: post)) (Y : ExcCls K C) (ht : takerIn K C name = some none)
    (h1 : ∀ p ∈ pre, p.1 ≠ x) (h2 : ∀ p ∈ post, p.1 ≠ x)
    (h : ∀ dx h', Fr h₀ L h' m → News h₀ L h' ((dx, dictOf [⟨PyData.keyHash w.params name, .str name (s.toks + 1), v⟩] 1) :: (pre ++ (x, { cls := .ref C, dict := some dx, data := .fields vs }) :: post)) → (∀ p ∈ pre ++ (x, { cls := .ref C, data := .fields vs }) :: post, p.1 < dx) → Q () { s with heap := h', toks := s.toks + 2 }) :
    wpAny (model prog w) A (setAttr (.ref x) name v) Q E s := by
  obtain ⟨hh, g, d, t, os⟩ := s
  have X := X₀.keeps F.keep
  have hx : hh.get? x = some { cls := .ref C, data := .fields vs } := (N (x, { cls := .ref C, data := .fields vs }) (List.mem_append_right _ (.head _))).1
  have I : InstAt hh x { cls := .ref C, data := .fields vs } C none := ⟨hx, rfl, rfl, trivial⟩
  refine set_plain X I Y.set (osa_openE (s := ⟨hh, g, d, t + 1, os⟩) X Y I ht fun b => ?_)
  obtain ⟨cd, hc, ho, hd⟩ := Y.mro
  refine wpAny_bind (wpAny_pure (wpAny_bind (wpAny_bind (wpAny_loadPart hx (wpAny_bind ((looks_clsIn (h := hh) X hc).here ?_))))))
  rw [hd]
  show wpAny _ _ (alloc emptyDict >>= fun d => _) _ _ _
  refine wpAny_bind (wpAny_alloc ?_)
  have F1 := F.push emptyDict
  have N1 := N.push F emptyDict
  have ne : hh.objs.size ≠ x := Nat.ne_of_gt (Heap.lt_size hx)
  obtain ⟨F2, N2⟩ := news_upd (pre := (hh.objs.size, emptyDict) :: pre) (f := fun o => { o with dict := some hh.objs.size }) F1 N1 (fun p hp => (List.mem_cons.mp hp).elim (fun e => by rw [e]; exact ne) (h1 p)) h2 rfl rfl
  have hx1 : (hh.push emptyDict).get? x = some { cls := .ref C, data := .fields vs } := Heap.get?_push_of_some _ hx
  refine wpAny_bind (wpAny_update hx1 (wpAny_pure ?_))
  dsimp only
  have lt : ∀ p ∈ pre ++ (x, ({ cls := .ref C, data := .fields vs } : Obj)) :: post, p.1 < hh.objs.size := fun p hp => Heap.lt_size (N p hp).1
  have ne2 : ∀ p ∈ pre ++ (x, ({ cls := .ref C, dict := some hh.objs.size, data := .fields vs } : Obj)) :: post, p.1 ≠ hh.objs.size := fun p hp => by
    rcases List.mem_append.mp hp with q | q
    · exact Nat.ne_of_lt (lt p (List.mem_append_left _ q))
    · rcases List.mem_cons.mp q with rfl | q
      · exact Ne.symm ne
      · exact Nat.ne_of_lt (lt p (List.mem_append_right _ (.tail _ q)))
  refine storeD (pre := []) (dx := hh.objs.size) (od := emptyDict) (es' := [⟨PyData.keyHash w.params name, .str name (t + 1), v⟩]) (n' := 1) (od' := dictOf [⟨PyData.keyHash w.params name, .str name (t + 1), v⟩] 1) F2 N2 rfl (fun p hp => nomatch hp) ne2 rfl rfl (Nat.le_of_ble_eq_true rfl) fun h' F' N' => h _ h' F' N' lt
theorem set_E {Q : Unit → Shared → Prop} {E : Value → Shared → Prop} {vs : Array Value} {dx : Addr} {name : Str} {v : Value} {es es' : List DictEntry} {n n' : Nat} (F : Fr h₀ L s.heap m) (X₀ : K.In h₀) (N : News h₀ L s.heap news) (Y : ExcCls K C) (hx : (x, { cls := .ref C, dict := some dx, data := .fields vs }) ∈ news) (hd : (dx, dictOf es n) ∈ news)
    (ht : takerIn K C name = some none) (hl : (getL name es).isSome = true) (e : (putL name (PyData.keyHash w.params name) (.str name (s.toks + 1)) v es, putN name es n) = (es', n')) (U : Upd dx (dictOf es n) (dictOf es' n') news news') (hz : es'.length ≤ 1000)
    (h : ∀ h', Fr h₀ L h' m → News h₀ L h' news' → Q () { s with heap := h', toks := s.toks + 2 }) : wpAny (model prog w) A (setAttr (.ref x) name v) Q E s := by
  obtain ⟨hh, g, d, t, os⟩ := s
  have X := X₀.keeps F.keep
  have hx := (N _ hx).1
  have I : InstAt hh x { cls := .ref C, dict := some dx, data := .fields vs } C (some (dictOf es n)) := ⟨hx, rfl, rfl, (N _ hd).1⟩
  refine set_plain X I Y.set (osa_openE (s := ⟨hh, g, d, t + 1, os⟩) X Y I ht fun b => ?_)
  obtain ⟨cd, hc, ho, hd'⟩ := Y.mro
  refine wpAny_bind (wpAny_pure (wpAny_bind (wpAny_bind (wpAny_loadPart hx (wpAny_bind ((looks_clsIn (h := hh) X hc).here ?_))))))
  rw [hd']
  refine wpAny_pure (a := some dx) ?_
  obtain ⟨pre, post, rfl, rfl, a, b⟩ := U.split
  obtain ⟨e1, e2⟩ := Prod.mk.inj e
  exact storeD (s := ⟨hh, g, d, t + 1, os⟩) F N hl a b (by rw [putName_dict, e1, e2]) rfl hz fun h' F' N' => h h' F' N'
theorem init_E {Q : Value → Shared → Prop} {E : Value → Shared → Prop} {T₀ : Addr} {v : Value} {N₀ : Addr} {nm qn : Str} {bs : List Value} {hdct : Bool} {sn : List Str} {sub : List Value} {ab : Bool} {col : Option Bool} {dd : Option Addr} {k0 k1 k2 k3 k5 : Option Value} {pre post : List (Addr × Obj)}
    (F : Fr h₀ L s.heap m) (N : News h₀ L s.heap (pre ++ (x, excNew C T₀) :: post)) (hC : s.heap.get? C = some (excClassObj nm qn C N₀ bs bmE hdct sn sub ab col dd k0 k1 k2 k3 k5 "Exception.__new__")) (h1 : ∀ p ∈ pre, p.1 ≠ x) (h2 : ∀ p ∈ post, p.1 ≠ x)
    (h : ∀ T h', Fr h₀ L h' m → News h₀ L h' ((T, tupV [v]) :: (pre ++ (x, excNew C T) :: post)) → Q .none { s with heap := h' }) :
    wpAny (model prog w) A (call (.builtin "Exception.__init__") [.ref x, v]) Q E s := by
  obtain ⟨hh, g, d, t, os⟩ := s
  have FE := PySem.F.excBase_Exception
  have T : OwnTail hh bmE bmE := .base
  have hx : hh.get? x = some (excNew C T₀) := (N (x, excNew C T₀) (List.mem_append_right _ (.head _))).1
  refine wpAny_call (codeAny_call_builtin FE.init.plain FE.initEntry (wpAny_check_init_subU FE T hC hx rfl ?_))
  wp_walk
  have F1 := F.push (tupV [v])
  have N1 := N.push F (tupV [v])
  have ne : hh.objs.size ≠ x := Nat.ne_of_gt (Heap.lt_size hx)
  obtain ⟨F2, N2⟩ := news_upd (pre := (hh.objs.size, tupV [v]) :: pre) (o' := excNew C hh.objs.size) (f := Obj.mapFields (·.setIfInBounds 0 (.ref hh.objs.size))) F1 N1 (fun p hp => (List.mem_cons.mp hp).elim (fun e => by rw [e]; exact ne) (h1 p)) h2 rfl rfl
  exact h _ _ F2 N2
theorem make_EK {rest : List Value} {fI N₀ : Addr} {nm qn : Str} {bs : List Value} {hdct : Bool} {sn : List Str} {sub : List Value} {ab : Bool} {col : Option Bool} {dd : Option Addr} {k0 k1 k2 k3 k5 : Option Value} {Q : Value → Shared → Prop} {E : Value → Shared → Prop} (F : Fr h₀ L s.heap m) (N : News h₀ L s.heap news) (X₀ : K.In h₀)
    (hC : K.lookup C = some (excClassObj nm qn C N₀ bs bmE hdct sn sub ab col dd k0 k1 k2 k3 k5 "Exception.__new__")) (hi : findIn K (.ref C) "__init__" = some (some (.ref fI))) (hf : typeIn K (.ref fI) = some (.type "function"))
    (hcall : specialIn K (.ref C) "__call__" = some (some (.builtin "type.__call__"))) (hty : instIn K (.ref C) (.type "type") = some true) (hrest : rest.length ≤ sizeLine)
    (h : ∀ T x h', Fr h₀ L h' m → News h₀ L h' ((x, excNew C T) :: (T, tupV rest) :: news) →
      wpAny (model prog w) (A.under (.builtin "type.__call__" ⟨.ref C :: rest, []⟩)) (call (.ref fI) (.ref x :: rest)) (fun v s' => v = .none ∧ Q (.ref x) s') E { s with heap := h' }) :
    wpAny (model prog w) A (call (.ref C) rest) Q E s := by
  obtain ⟨hh, g, d, t, os⟩ := s
  have X := X₀.keeps F.keep
  refine wpAny_call (make_E X (X _ _ hC) hi hf hcall hty hrest ?_)
  have F1 := F.push (tupV rest)
  have N2 := (N.push F (tupV rest)).push F1 (excNew C hh.objs.size)
  rw [Heap.size_push] at N2
  exact h hh.objs.size (hh.objs.size + 1) _ (F1.push _) N2
end
/-- what __init__ leaves behind: the exception with its dict -/
noncomputable abbrev RetInit (x : Addr) (msg : Str) (ec : Addr) (h₀ : Heap) (L : Addr) (m : Str → Option Value) (s : Shared) (Q : Value → Shared → Prop) : Prop :=
  ∀ (d T : Addr) (es : List DictEntry) (n : Nat) (t1 t2 : Tok) (h' : Heap) (tk' : Nat), Fr h₀ L h' m → News h₀ L h' [(x, { cls := .ref 33, dict := some d, data := .fields #[.ref T, .none, .none, .none, .bool false, .none] }), (d, dictOf es n)] →
    getL "code" es = some (some (.int 1 t1)) → getL "value" es = some (some (.str msg t2)) → getL "errorcode" es = some (some (.ref ec)) → Q .none { s with heap := h', toks := tk' }
theorem excCls_33 (P : Params) : ExcCls (hd.heap_1 P) 33 := ⟨⟨_, rfl, rfl, rfl⟩, by kernel_rfl⟩
theorem set_EK0 {prog : Program} {w : World} {A : Around} {K : Frag} {C x L : Addr} {s : Shared} {h₀ : Heap} {m : Str → Option Value} {Q : Unit → Shared → Prop} {E : Value → Shared → Prop} {vs : Array Value} {name : Str} {v : Value} (F : Fr h₀ L s.heap m) (X₀ : K.In h₀) (N : News h₀ L s.heap [(x, { cls := .ref C, data := .fields vs })]) (Y : ExcCls K C) (ht : takerIn K C name = some none)
    (h : ∀ dx h', Fr h₀ L h' m → News h₀ L h' [(dx, dictOf [⟨PyData.keyHash w.params name, .str name (s.toks + 1), v⟩] 1), (x, { cls := .ref C, dict := some dx, data := .fields vs })] → @LT.lt Nat _ x dx → Q () { s with heap := h', toks := s.toks + 2 }) :
    wpAny (model prog w) A (setAttr (.ref x) name v) Q E s :=
  set_E0 (pre := []) (post := []) F X₀ N Y ht (fun p hp => nomatch hp) (fun p hp => nomatch hp) fun dx h' F' N' l => h dx h' F' N' (l _ (.head _))
theorem isType_E : typeOf (.type "Exception") = pure (.type "type") := by kernel_rfl
theorem init_found (P : Params) : findCls (hd.heap_1 P) (.type "Exception") (.type "type") "__init__" = some (.val (.builtin "Exception.__init__")) := by kernel_rfl
theorem cls_33 (P : Params) : ∃ nm qn N₀ bs hdct sn sub ab col dd k0 k1 k2 k3 k5, (hd.heap_1 P).lookup 33 = some (excClassObj nm qn 33 N₀ bs bmE hdct sn sub ab col dd k0 k1 k2 k3 k5 "Exception.__new__") := ⟨_, _, _, _, _, _, _, _, _, _, _, _, _, _, _, rfl⟩
theorem init_EK {prog : Program} {w : World} {A : Around} {s : Shared} {h₀ : Heap} {L x T₀ : Addr} {m : Str → Option Value} {v : Value} {Q : Value → Shared → Prop} {E : Value → Shared → Prop} (F : Fr h₀ L s.heap m) (N : News h₀ L s.heap [(x, excNew 33 T₀)]) (X₀ : (hd.heap_1 w.params).In h₀)
    (h : ∀ T h', Fr h₀ L h' m → News h₀ L h' [(x, excNew 33 T)] → Q .none { s with heap := h' }) :
    wpAny (model prog w) A (call (.builtin "Exception.__init__") [.ref x, v]) Q E s := by
  obtain ⟨nm, qn, N₀, bs, hdct, sn, sub, ab, col, dd, k0, k1, k2, k3, k5, hC⟩ := cls_33 w.params
  exact init_E (pre := []) (post := []) F N ((X₀.keeps F.keep) _ _ hC) (fun p hp => nomatch hp) (fun p hp => nomatch hp) fun T h' F' N' => h T h' F' fun p hp => N' p (.tail _ hp)
theorem kw_EX6_1 : True := by
  k_with "m:getMethod type:Exception" => (k_here; k_dflt (refine method_type (by k_asm) (by k_asm) isType_E (by decide +kernel) (init_found _) (by k_handed) ?_))
  k_with "m:call builtin:Exception.__init__" => (k_here; k_dflt (refine init_EK (by k_asm) (by k_asm) (by k_asm) ?_); intro T9 h9 F9 N9)
  k_with "m:setAttr ref" => (k_here; k_dflt (refine' set_E ?F ?X ?N (excCls_33 _) ?x ?d ?t ?l ?e ?U ?z ?_; (case F => k_asm); (case N => k_asm); (case X => k_asm); (case x => k_mem); (case d => k_mem); (case t => kernel_rfl); (case l => exact rfl); (case e => k_put); (case U => k_upd); (case z => exact Nat.le_of_ble_eq_true rfl)); intro h9 F9 N9)
  k_with "m:setAttr ref" => (k_here; k_dflt (refine' set_EK0 ?F ?X ?N (excCls_33 _) (by kernel_rfl) ?_; (case F => k_asm); (case N => k_asm); (case X => k_asm)); intro d9 h9 F9 N9 l9)
  trivial
theorem newsTwo {h₀ h : Heap} {L : Addr} {new : List (Addr × Obj)} {p q : Addr × Obj} (N : News h₀ L h new) (h1 : p ∈ new) (h2 : q ∈ new) : News h₀ L h [p, q] := fun z hz => by
  rcases List.mem_cons.mp hz with rfl | hz
  · exact N _ h1
  · rcases List.mem_singleton.mp hz with rfl
    exact N _ h2
theorem init_c {w mean mg mb} {x T₀ ec : Addr} {c : Str} {t t1 : Tok} : CbH 8 w mean mg mb 30 [(x, excNew 33 T₀)] [.ref x, .int 1 t1, .str c t, .ref ec] (RetInit x c ec) := by
  have hl : (x, excNew 33 T₀) ∈ [(x, excNew 33 T₀)] := .head _
  ((try unfold Cb); (try unfold CbE); (try unfold CbG); (try unfold CbH); k_fill; (try dsimp only [RetV, RetT]); intros; rename_i s0 Q0 E0 B0 F0 X0 N0 T0 hk0 hd0 hu0 hret; refine wpAny_call ?_; k_dflt (refine' code_defP ?k1 ?k2 ?k3 ?k4 ?k5 ?kA ?kF ?kK ?k6 ?k7 ?k8 ?k9 ?kB ?_ ?c2 ?c3 ?c4 ?c5; (case kA => exact rfl); (case kF => exact rfl); (case kK => first | exact rfl | assumption); (case k1 => k_asm); (case k2 => k_asm); (case k4 => exact newsSub N0 hl); (case k3 => k_asm); (case k5 => k_asm); (case k6 => k_is); (case k7 => k_is); (case k8 => ktr_room); (case k9 => exact BindsTo.of_defaults rfl ((Frag.In.keeps X0 F0.keep) 23 _ rfl) rfl rfl rfl); (case c5 => decide); (case kB => exact locs rfl); (case c2 => exact rfl); (case c3 => exact rfl); (case c4 => exact rfl); k_whole; intro g' L' h' HG0 FG' F' N' B' X' T'; (try dsimp only); (try k_lift B'); (try k_fold)); (replace F' : Fr g' L' h' (fun y => List.lookup y [(Str.ofString "ret", _), (Str.ofString "level", _), (Str.ofString "errorcode", _), (Str.ofString "value", _), (Str.ofString "code", _), (Str.ofString "self", _)]) := F'); (generalize Shared.toks _ + List.length _ = tk0))
  k_steps
  exact hret _ _ _ _ _ _ _ _ (by k_asm) (newsTwo (by k_asm) (by k_mem) (by k_mem)) rfl rfl rfl
/-- the exception's object -/
noncomputable abbrev excObj (d : Addr) (vs : Array Value) : Obj := { cls := .ref 33, dict := some d, data := .fields vs }
/-- a new exception of the text msg and the code ec stands, its dict in the ledger -/
noncomputable abbrev RetX (news : List (Addr × Obj)) (msg : Str) (ec : Addr) (h₀ : Heap) (L : Addr) (m : Str → Option Value) (s : Shared) (Q : Value → Shared → Prop) : Prop :=
  ∀ (e d : Addr) (es : List DictEntry) (n : Nat) (vs : Array Value) (t1 t2 : Tok) (h' : Heap) (tk' : Nat), Fr h₀ L h' m → News h₀ L h' ((d, dictOf es n) :: news) → h'.get? e = some (excObj d vs) → vs[1]? = some .none → h₀.get? e = none → (∀ q ∈ (d, dictOf es n) :: news, q.1 ≠ e) → e ≠ L →
    getL "code" es = some (some (.int 1 t1)) → getL "value" es = some (some (.str msg t2)) → getL "errorcode" es = some (some (.ref ec)) → Q (.ref e) { s with heap := h', toks := tk' }
theorem tcW {C : Addr} {vals : List Value} : (Code.builtin "type.__call__" ⟨.ref C :: vals, []⟩).weight = 1 := rfl
theorem tcU {C : Addr} {vals : List Value} : (Code.builtin "type.__call__" ⟨.ref C :: vals, []⟩).cUnits ≤ 9 := by first | exact Nat.le_of_ble_eq_true rfl | decide
theorem kw_EX6_2 : True := by
  k_with "m:call ref" => (k_here; (with_reducible show wpAny _ _ (call (Value.ref 30) _) _ _ _); k_dflt (refine' init_c  _ _ _ _ _ _ _ _ _ _ _ _ _ _ _ _ ?k1 ?k2 ?k3 ?k4 ?k5 ?kK ?kd ?ku ?_); k_extra "K5"; (case kK => first | exact rfl | assumption); (case kd => ((try simp +zetaDelta only [tcW, depth_in1, depth_deeper]); (try dsimp only [ktrTop]); omega)); (case ku => ((try have zU := tcU (C := 33) (vals := [.int 1 tk0, .str c t, .ref ec])); (try simp +zetaDelta only [units_in1, units_deeper, Around.mark_units]); (try dsimp only [ktrTop]); omega)); intro d9 T9 es9 n9 t19 t29 h9 tk9 F9 N9 g19 g29 g39; (try dsimp only); (skip); (all_goals (try k_fold)))
  trivial
theorem init_fn (P : Params) : findIn (hd.heap_1 P) (.ref 33) "__init__" = some (some (.ref 30)) ∧ typeIn (hd.heap_1 P) (.ref 30) = some (.type "function") ∧ specialIn (hd.heap_1 P) (.ref 33) "__call__" = some (some (.builtin "type.__call__")) ∧ instIn (hd.heap_1 P) (.ref 33) (.type "type") = some true := ⟨by kernel_rfl, by kernel_rfl, by kernel_rfl, by kernel_rfl⟩
theorem make_33 {prog : Program} {w : World} {A : Around} {s : Shared} {h₀ : Heap} {L : Addr} {m : Str → Option Value} {news : List (Addr × Obj)} {rest : List Value} {Q : Value → Shared → Prop} {E : Value → Shared → Prop} (F : Fr h₀ L s.heap m) (N : News h₀ L s.heap news) (X₀ : (hd.heap_1 w.params).In h₀) (hrest : rest.length ≤ sizeLine)
    (h : ∀ T x h', Fr h₀ L h' m → News h₀ L h' [(x, excNew 33 T)] →
      wpAny (model prog w) (A.under (.builtin "type.__call__" ⟨.ref 33 :: rest, []⟩)) (call (.ref 30) (.ref x :: rest)) (fun v s' => v = .none ∧ Q (.ref x) s') E { s with heap := h' }) :
    wpAny (model prog w) A (call (.ref 33) rest) Q E s := by
  obtain ⟨nm, qn, N₀, bs, hdct, sn, sub, ab, col, dd, k0, k1, k2, k3, k5, hC⟩ := cls_33 w.params
  obtain ⟨a, b, c, d⟩ := init_fn w.params
  exact make_EK F N X₀ hC a b c d hrest fun T x h' F' N' => h T x h' F' fun p hp => N' p (by rcases List.mem_singleton.mp hp with rfl; exact .head _)
theorem kw_EX6_3 : True := by
  k_with "m:call ref" => (k_here; (with_reducible show wpAny _ _ (call (Value.ref 33) _) _ _ _); k_dflt (refine' make_33 ?F ?N ?X (Nat.le_of_ble_eq_true rfl) ?_; (case F => k_asm); (case N => k_asm); (case X => k_asm)); intro T9 x9 h9 F9 N9)
  trivial
theorem error_c {w mean mg mb} {news : List (Addr × Obj)} {c : Str} {t : Tok} {ec : Addr} : CbG 100 w mean mg mb 45 news [.str c t, .ref ec] (RetX news c ec) := by
  ((try unfold Cb); (try unfold CbE); (try unfold CbG); (try unfold CbH); k_fill; (try dsimp only [RetV, RetT]); intros; rename_i s0 Q0 E0 B0 F0 X0 N0 T0 hk0 hd0 hu0 hret; refine wpAny_call ?_; k_dflt (refine' code_defP (mu := []) ?k1 ?k2 ?k3 ?k4 ?k5 ?kA ?kF ?kK ?k6 ?k7 ?k8 ?k9 ?kB ?_ ?c2 ?c3 ?c4 ?c5; (case kA => exact rfl); (case kF => exact rfl); (case kK => first | exact rfl | assumption); (case k1 => k_asm); (case k2 => k_asm); (case k4 => exact News.nil); (case k3 => k_asm); (case k5 => k_asm); (case k6 => k_is); (case k7 => k_is); (case k8 => ktr_room); (case k9 => exact BindsTo.of_defaults rfl ((Frag.In.keeps X0 F0.keep) 38 _ rfl) rfl rfl rfl); (case c5 => decide); (case kB => exact locs rfl); (case c2 => exact rfl); (case c3 => exact rfl); (case c4 => exact rfl); k_whole; intro g' L' h' HG0 FG' F' N' B' X' T'; (try dsimp only); (try k_lift B'); (try k_fold)); (replace F' : Fr g' L' h' (fun y => List.lookup y [(Str.ofString "errorcode", _), (Str.ofString "text", _)]) := F'); (generalize Shared.toks _ + List.length _ = tk0))
  k_steps
  rename_i kF kN _ _
  have hx9 := kN _ (.head _)
  refine hret _ _ _ _ _ _ _ _ _ kF (newsOne N0 HG0 (by k_asm) kN (.tail _ (.head _))) hx9.1 rfl hx9.2.2 (fun q hq => ?_) hx9.2.1 g19 g29 g39
  rcases List.mem_cons.mp hq with rfl | hq
  · intro e
    have h1 := (kN _ (.tail _ (.head _))).1
    dsimp only at e h1 hx9
    rw [e, hx9.1] at h1
    cases h1
  · exact neNew N0 News.nil HG0 N9 (.head _) (fun _ h => nomatch h) q hq
end

section
-- L1
open PySem PySem.W PyProof.Rows
theorem kwn_L1 : True := by
  k_with_none
  w_top off
  trivial
theorem kwo_L1 : True := by
  k_with "m:omega" => first | with_reducible assumption | decide | with_reducible exact Int.le_refl _ | with_reducible exact Nat.le_refl _ | with_reducible exact rm_u2 | with_reducible exact rm_d2 | with_reducible exact rm_u1 | with_reducible exact rm_d1 | with_reducible exact rm_u0 | with_reducible exact rm_d0 | with_reducible exact n_up | with_reducible exact q_o | with_reducible exact q_c1 | with_reducible exact q_c2 | with_reducible exact q_c3 | with_reducible exact q_c4 | with_reducible exact q_n1 | with_reducible exact q_n2 | with_reducible exact q_n3 | with_reducible exact q_l1 | with_reducible exact q_l2 | with_reducible exact q_t1 | with_reducible exact q_t2 | with_reducible exact q_t3 | with_reducible exact q_t4 | with_reducible exact q_t5 | ((with_reducible show _ ≠ _); first | k_extra "P" | (refine Ne.symm ?_; k_extra "P") | (refine Nat.ne_of_lt ?_; k_extra "P") | (refine Nat.ne_of_gt ?_; k_extra "P"))
  k_with "P" => first | with_reducible assumption | with_reducible exact And.left (by with_reducible assumption) | with_reducible exact And.right (by with_reducible assumption) | with_reducible exact q_r (by with_reducible assumption) | with_reducible exact q_s (by with_reducible assumption) | with_reducible exact q_t (by with_reducible assumption) | with_reducible exact q_u (by with_reducible assumption)
  k_with "dr" => first | with_reducible assumption | with_reducible exact (News.tl (by with_reducible assumption)) | with_reducible exact (News.tl (News.tl (by with_reducible assumption))) | with_reducible exact (News.tl (News.tl (News.tl (by with_reducible assumption)))) | with_reducible exact (News.tl (News.tl (News.tl (News.tl (by with_reducible assumption))))) | with_reducible exact (News.tl (News.tl (News.tl (News.tl (News.tl (by with_reducible assumption)))))) | with_reducible exact (News.tl (News.tl (News.tl (News.tl (News.tl (News.tl (by with_reducible assumption))))))) | with_reducible exact News.apl (by with_reducible assumption) | with_reducible exact News.apl (News.tl (by with_reducible assumption)) | with_reducible exact News.apl (News.tl (News.tl (by with_reducible assumption))) | with_reducible exact News.apl (News.tl (News.tl (News.tl (by with_reducible assumption)))) | with_reducible exact News.apl (News.tl (News.tl (News.tl (News.tl (by with_reducible assumption)))))
  k_with "m:eval Call" => (k_here; k_dflt (first | ((with_reducible show wpAny _ _ (eval (.Call (.Name (Str.ofString "len") _) [.Name _ _] [] _) _) _ _ _); refine len_nm (q := ?_)) | ((with_reducible show wpAny _ _ (eval (.Call (.Name (Str.ofString "len") _) [_] [] _) _) _ _ _); refine callLen (h := ?_)) | ((with_reducible show wpAny _ _ (eval (.Call (.Name (Str.ofString "str") _) [_] [] _) _) _ _ _); refine callStr (h := ?_)) | ((with_reducible show wpAny _ _ (eval (.Call (.Name _ _) [_] [] _) _) _ _ _); refine callK1 (h := ?_)) | ((with_reducible show wpAny _ _ (eval (.Call (.Name _ _) [_, _] [] _) _) _ _ _); refine callK2 (h := ?_)) | ((with_reducible show wpAny _ _ (eval (.Call (.Name _ _) [_, _, _] [] _) _) _ _ _); refine callK3 (h := ?_))); k_whole)
  k_with "m:eval Constant int" => (k_here; k_dflt (refine cInt ?_); k_whole)
  k_with "m:eval Constant str" => (k_here; k_dflt (refine cStr ?_); k_whole)
  k_with "m:storeName" => (k_here; k_dflt (refine storeS (q := ?_)); k_whole; intro h' F' N'; (try k_sweep))
  k_with "m:binaryOp Add int int" => (k_here; k_dflt (refine addS ?_); k_whole)
  k_with "m:binaryOp Sub int int" => (k_here; k_dflt (refine subS ?_); k_whole)
  k_with "m:call builtin:len" => (k_here; (with_reducible show wpAny _ _ (call _ [.str _ _]) _ _ _); k_dflt (refine lenS (q := ?_)); k_whole)
  k_with "m:newList" => (k_here; k_dflt (refine lstS (q := ?_) (by first | exact Nat.le_of_ble_eq_true rfl | size_fits)); k_whole; intro l' h' F' N' l1; (try k_lt l1); (try k_sweep))
  k_with "m:execs cons" => (k_here; k_dflt (first | ((with_reducible show wpAny _ _ (execs (.Assign [.Name _ _] _ _ :: _) _) _ _ _); refine sAsg ?_ (Eq.refl true)) | ((with_reducible show wpAny _ _ (execs (.Return (some _) _ :: _) _) _ _ _); refine sRet ?_) | ((with_reducible show wpAny _ _ (execs (.If _ [.Return (some _) _] [] _ :: _) _) _ _ _); refine sIfR ?_) | ((with_reducible show wpAny _ _ (execs (.If _ _ [] _ :: _) _) _ _ _); refine sIf1 ?_)); k_whole)
  k_with "m:eval Tuple" => (k_here; first | ((with_reducible show wpAny _ _ (eval (.Tuple [.Constant (.str _) _ _, .Constant (.str _) _ _] _ _) _) _ _ _); k_dflt (refine tupSS (q := ?_)); k_whole; intro D' h' F' N' l1; (try k_lt l1)) | ((with_reducible show wpAny _ _ (eval (.Tuple [_, _] _ _) _) _ _ _); k_dflt (refine tup2 ?_ (Eq.refl true) (Eq.refl true)); k_whole))
  k_with "m:eval List" => (k_here; k_dflt (first | ((with_reducible show wpAny _ _ (eval (.List [_] _) _) _ _ _); refine lst1 ?_ (Eq.refl true)) | ((with_reducible show wpAny _ _ (eval (.List [_, _] _) _) _ _ _); refine lst2 ?_ (Eq.refl true) (Eq.refl true)) | ((with_reducible show wpAny _ _ (eval (.List [_, _, _] _) _) _ _ _); refine lst3 ?_ (Eq.refl true) (Eq.refl true) (Eq.refl true)) | ((with_reducible show wpAny _ _ (eval (.List [_, _, _, _] _) _) _ _ _); refine lst4 ?_ (Eq.refl true) (Eq.refl true) (Eq.refl true) (Eq.refl true))); k_whole)
  k_with "m:eval BinOp" => (k_here; k_dflt (first | ((with_reducible show wpAny _ _ (eval (.BinOp (.Name _ _) _ (.Name _ _) _) _) _ _ _); refine bNN (q := ?_)) | ((with_reducible show wpAny _ _ (eval (.BinOp (.Name _ _) _ (.Constant (.int _) _ _) _) _) _ _ _); refine bNC (q := ?_)) | ((with_reducible show wpAny _ _ (eval (.BinOp (.Name _ _) _ _ _) _) _ _ _); refine bN (q := ?_))); k_whole)
  k_with "m:isTrue Compare" => (k_here; k_dflt (first | ((with_reducible show wpAny _ _ (isTrue (.Compare (.Name _ _) [_] [(.Name _ _)] _) _ _) _ _ _); refine cNN (q := ?_)) | ((with_reducible show wpAny _ _ (isTrue (.Compare (.Name _ _) [_] [(.Constant (.int _) _ _)] _) _ _) _ _ _); refine cNC (q := ?_)) | ((with_reducible show wpAny _ _ (isTrue (.Compare (.Name _ _) [_] [_] _) _ _) _ _ _); refine cN (q := ?_))); k_whole)
  k_with "m:eval Subscript" => (k_here; k_dflt (first | ((with_reducible show wpAny _ _ (eval (.Subscript (.Name _ _) (.Name _ _) _) _) _ _ _); refine gNN (q := ?_)) | ((with_reducible show wpAny _ _ (eval (.Subscript (.Name _ _) (.Constant (.int _) _ _) _) _) _ _ _); refine gNC (q := ?_)) | ((with_reducible show wpAny _ _ (eval (.Subscript (.Name _ _) _ _) _) _ _ _); refine gN (q := ?_))); k_whole)
  trivial
open PySem.Challenge
set_option maxRecDepth 100000
set_option maxHeartbeats 4000000
noncomputable def digitF (c : Str) : Int :=
  if (c.length : Int) = 1 then
    let n : Int := (c.cps.getD 0 0 : Nat)
    if 48 ≤ n ∧ n ≤ 57 then n - 48 else if 97 ≤ n ∧ n ≤ 122 then n - 87 else if 65 ≤ n ∧ n ≤ 90 then n - 55 else -1
  else -1
theorem digit_c {w mean mg mb} {news : List (Addr × Obj)} {c : Str} {t : Tok} (hc : c.length ≤ 100000) : Cb 2 w mean mg mb 73 news [.str c t] (fun t => .int (digitF c) t) := by
  ((try unfold Cb); unfold CbG; k_fill; (try dsimp only [RetV, RetT]); intros; rename_i hret; refine wpAny_call ?_; k_dflt cell_enter; (refine letA ?_); (intro kA); (rename Fr _ _ _ _ => sF); (first | replace sF : Fr _ _ _ (fun y => List.lookup y [(Str.ofString "c", _)]) := sF | replace sF : Fr _ _ _ (fun y => List.lookup y [(Str.ofString "c", _)]) := sF); (generalize Shared.toks _ + List.length _ = tk0); k_steps)
  all_goals (refine cb_retI hret ?_ (by k_asm) (by k_extra "dr"))
  all_goals (simp only [digitF]; (repeat' split) <;> first | rfl | omega)
noncomputable def isBlankF (c : Str) : Bool := [Str.ofString " ", Str.ofString "\t", Str.ofString "\n", Str.ofString "\x0b", Str.ofString "\x0c", Str.ofString "\x0d"].any (fun x => x == c)
theorem is_blank_c {w mean mg mb} {news : List (Addr × Obj)} {c : Str} {t : Tok} (hc : c.length ≤ 100000) : Cb 2 w mean mg mb 66 news [.str c t] (fun _ => .bool (isBlankF c)) := by
  ((try unfold Cb); unfold CbG; k_fill; (try dsimp only [RetV, RetT]); intros; rename_i hret; refine wpAny_call ?_; k_dflt cell_enter; (refine letA ?_); (intro kA); (rename Fr _ _ _ _ => sF); (first | replace sF : Fr _ _ _ (fun y => List.lookup y [(Str.ofString "c", _)]) := sF | replace sF : Fr _ _ _ (fun y => List.lookup y [(Str.ofString "c", _)]) := sF); (generalize Shared.toks _ + List.length _ = tk0); k_steps)
  all_goals (refine cb_retB hret ?_ (by k_asm) (by k_extra "dr"))
  all_goals rfl
end

section
-- L4
open PySem PySem.W PyProof.Rows
theorem kwn_L4 : True := by
  k_with_none
  w_top off
  trivial
theorem kwo_L4 : True := by
  k_with "m:omega" => first | with_reducible assumption | decide | with_reducible exact Int.le_refl _ | with_reducible exact Nat.le_refl _ | with_reducible exact rm_u2 | with_reducible exact rm_d2 | with_reducible exact rm_u1 | with_reducible exact rm_d1 | with_reducible exact rm_u0 | with_reducible exact rm_d0 | with_reducible exact n_up | with_reducible exact q_o | with_reducible exact q_c1 | with_reducible exact q_c2 | with_reducible exact q_c3 | with_reducible exact q_c4 | with_reducible exact q_n1 | with_reducible exact q_n2 | with_reducible exact q_n3 | with_reducible exact q_l1 | with_reducible exact q_l2 | with_reducible exact q_t1 | with_reducible exact q_t2 | with_reducible exact q_t3 | with_reducible exact q_t4 | with_reducible exact q_t5 | ((with_reducible show _ ≠ _); first | k_extra "P" | (refine Ne.symm ?_; k_extra "P") | (refine Nat.ne_of_lt ?_; k_extra "P") | (refine Nat.ne_of_gt ?_; k_extra "P"))
  k_with "P" => first | with_reducible assumption | with_reducible exact And.left (by with_reducible assumption) | with_reducible exact And.right (by with_reducible assumption) | with_reducible exact q_r (by with_reducible assumption) | with_reducible exact q_s (by with_reducible assumption) | with_reducible exact q_t (by with_reducible assumption) | with_reducible exact q_u (by with_reducible assumption)
  k_with "D" => ((try simp +zetaDelta only [depth_in1, depth_deeper]); (try dsimp only [ktrTop]); omega)
  k_with "U" => ((try simp +zetaDelta only [units_in1, units_deeper, Around.mark_units]); (try dsimp only [ktrTop]); omega)
  k_with "K5" => ((case k1 => k_asm); (case k2 => k_asm); (case k3 => k_asm); (case k4 => k_asm); (case k5 => k_asm))
  k_with "S" => first | with_reducible assumption | exact .inl rfl | exact .inr (.inl rfl) | exact .inr (.inr rfl) | exact .inr rfl | omega | k_mem | fail | (simp only [PySem.Str.length_append, KOpn.len_one]; omega) | assumption
  k_with "dr" => first | with_reducible assumption | with_reducible exact (News.tl (by with_reducible assumption)) | with_reducible exact (News.tl (News.tl (by with_reducible assumption))) | with_reducible exact (News.tl (News.tl (News.tl (by with_reducible assumption)))) | with_reducible exact (News.tl (News.tl (News.tl (News.tl (by with_reducible assumption))))) | with_reducible exact (News.tl (News.tl (News.tl (News.tl (News.tl (by with_reducible assumption)))))) | with_reducible exact (News.tl (News.tl (News.tl (News.tl (News.tl (News.tl (by with_reducible assumption))))))) | with_reducible exact News.apl (by with_reducible assumption) | with_reducible exact News.apl (News.tl (by with_reducible assumption)) | with_reducible exact News.apl (News.tl (News.tl (by with_reducible assumption))) | with_reducible exact News.apl (News.tl (News.tl (News.tl (by with_reducible assumption)))) | with_reducible exact News.apl (News.tl (News.tl (News.tl (News.tl (by with_reducible assumption)))))
  k_with "m:eval Call" => (k_here; k_dflt (first | ((with_reducible show wpAny _ _ (eval (.Call (.Name (Str.ofString "len") _) [.Name _ _] [] _) _) _ _ _); refine len_nm (q := ?_)) | ((with_reducible show wpAny _ _ (eval (.Call (.Name (Str.ofString "len") _) [_] [] _) _) _ _ _); refine callLen (h := ?_)) | ((with_reducible show wpAny _ _ (eval (.Call (.Name (Str.ofString "str") _) [_] [] _) _) _ _ _); refine callStr (h := ?_)) | ((with_reducible show wpAny _ _ (eval (.Call (.Name _ _) [_] [] _) _) _ _ _); refine callK1 (h := ?_)) | ((with_reducible show wpAny _ _ (eval (.Call (.Name _ _) [_, _] [] _) _) _ _ _); refine callK2 (h := ?_)) | ((with_reducible show wpAny _ _ (eval (.Call (.Name _ _) [_, _, _] [] _) _) _ _ _); refine callK3 (h := ?_))); k_whole)
  k_with "m:eval Constant int" => (k_here; k_dflt (refine cInt ?_); k_whole)
  k_with "m:eval Constant str" => (k_here; k_dflt (refine cStr ?_); k_whole)
  k_with "m:storeName" => (k_here; k_dflt (refine storeS (q := ?_)); k_whole; intro h' F' N'; (try k_sweep))
  k_with "m:binaryOp Add int int" => (k_here; k_dflt (refine addS ?_); k_whole)
  k_with "m:binaryOp Sub int int" => (k_here; k_dflt (refine subS ?_); k_whole)
  k_with "m:call builtin:len" => (k_here; (with_reducible show wpAny _ _ (call _ [.str _ _]) _ _ _); k_dflt (refine lenS (q := ?_)); k_whole)
  k_with "m:newList" => (k_here; k_dflt (refine lstS (q := ?_) (by first | exact Nat.le_of_ble_eq_true rfl | size_fits)); k_whole; intro l' h' F' N' l1; (try k_lt l1); (try k_sweep))
  k_with "m:execs cons" => (k_here; k_dflt (first | ((with_reducible show wpAny _ _ (execs (.Assign [.Name _ _] _ _ :: _) _) _ _ _); refine sAsg ?_ (Eq.refl true)) | ((with_reducible show wpAny _ _ (execs (.Return (some _) _ :: _) _) _ _ _); refine sRet ?_) | ((with_reducible show wpAny _ _ (execs (.If _ [.Return (some _) _] [] _ :: _) _) _ _ _); refine sIfR ?_) | ((with_reducible show wpAny _ _ (execs (.If _ _ [] _ :: _) _) _ _ _); refine sIf1 ?_)); k_whole)
  k_with "m:eval Tuple" => (k_here; first | ((with_reducible show wpAny _ _ (eval (.Tuple [.Constant (.str _) _ _, .Constant (.str _) _ _] _ _) _) _ _ _); k_dflt (refine tupSS (q := ?_)); k_whole; intro D' h' F' N' l1; (try k_lt l1)) | ((with_reducible show wpAny _ _ (eval (.Tuple [_, _] _ _) _) _ _ _); k_dflt (refine tup2 ?_ (Eq.refl true) (Eq.refl true)); k_whole))
  k_with "m:eval List" => (k_here; k_dflt (first | ((with_reducible show wpAny _ _ (eval (.List [_] _) _) _ _ _); refine lst1 ?_ (Eq.refl true)) | ((with_reducible show wpAny _ _ (eval (.List [_, _] _) _) _ _ _); refine lst2 ?_ (Eq.refl true) (Eq.refl true)) | ((with_reducible show wpAny _ _ (eval (.List [_, _, _] _) _) _ _ _); refine lst3 ?_ (Eq.refl true) (Eq.refl true) (Eq.refl true)) | ((with_reducible show wpAny _ _ (eval (.List [_, _, _, _] _) _) _ _ _); refine lst4 ?_ (Eq.refl true) (Eq.refl true) (Eq.refl true) (Eq.refl true))); k_whole)
  k_with "m:eval BinOp" => (k_here; k_dflt (first | ((with_reducible show wpAny _ _ (eval (.BinOp (.Name _ _) _ (.Name _ _) _) _) _ _ _); refine bNN (q := ?_)) | ((with_reducible show wpAny _ _ (eval (.BinOp (.Name _ _) _ (.Constant (.int _) _ _) _) _) _ _ _); refine bNC (q := ?_)) | ((with_reducible show wpAny _ _ (eval (.BinOp (.Name _ _) _ _ _) _) _ _ _); refine bN (q := ?_))); k_whole)
  k_with "m:isTrue Compare" => (k_here; k_dflt (first | ((with_reducible show wpAny _ _ (isTrue (.Compare (.Name _ _) [_] [(.Name _ _)] _) _ _) _ _ _); refine cNN (q := ?_)) | ((with_reducible show wpAny _ _ (isTrue (.Compare (.Name _ _) [_] [(.Constant (.int _) _ _)] _) _ _) _ _ _); refine cNC (q := ?_)) | ((with_reducible show wpAny _ _ (isTrue (.Compare (.Name _ _) [_] [_] _) _ _) _ _ _); refine cN (q := ?_))); k_whole)
  k_with "m:eval Subscript" => (k_here; k_dflt (first | ((with_reducible show wpAny _ _ (eval (.Subscript (.Name _ _) (.Name _ _) _) _) _ _ _); refine gNN (q := ?_)) | ((with_reducible show wpAny _ _ (eval (.Subscript (.Name _ _) (.Constant (.int _) _ _) _) _) _ _ _); refine gNC (q := ?_)) | ((with_reducible show wpAny _ _ (eval (.Subscript (.Name _ _) _ _) _) _ _ _); refine gN (q := ?_))); k_whole)
  trivial
open PySem.Challenge
set_option maxRecDepth 100000
set_option maxHeartbeats 4000000
theorem kw_L4_1 : True := by
  k_with "m:call ref" => (k_here; (with_reducible show wpAny _ _ (call (Value.ref 73) _) _ _ _); k_dflt (refine' digit_c ?hc0 _ _ _ _ _ _ _ _ _ _ _ _ _ _ _ _ _ ?k1 ?k2 ?k3 ?k4 ?k5 ?kK ?kd ?ku ?_); k_extra "K5"; (case kK => first | exact rfl | assumption); (case hc0 => k_extra "S"); (case kd => (k_extra "D")); (case ku => (k_extra "U")); intro t9 h9 tk9 F9 N9; (try dsimp only); (skip); (all_goals (try k_fold)))
  trivial
noncomputable def optI : Option Int → Tok → Value
  | some v, t => .int v t
  | none, _ => .none
theorem retI_some {o : Option Int} {v : Int} {news : List (Addr × Obj)} {h₀ h' : Heap} {L : Addr} {m : Str → Option Value} {s : Shared} {Q : Value → Shared → Prop} {t : Tok} {tk : Nat}
    (hret : ∀ (t : Tok) (h' : Heap) (tk' : Nat), Fr h₀ L h' m → News h₀ L h' news → Q (optI o t) { heap := h', gens := s.gens, drawn := s.drawn, toks := tk', os := s.os }) (h : o = some v) (F : Fr h₀ L h' m) (N : News h₀ L h' news) :
    Q (.int v t) { heap := h', gens := s.gens, drawn := s.drawn, toks := tk, os := s.os } := by
  subst h; exact hret t h' tk F N
theorem retI_none {o : Option Int} {news : List (Addr × Obj)} {h₀ h' : Heap} {L : Addr} {m : Str → Option Value} {s : Shared} {Q : Value → Shared → Prop} {tk : Nat}
    (hret : ∀ (t : Tok) (h' : Heap) (tk' : Nat), Fr h₀ L h' m → News h₀ L h' news → Q (optI o t) { heap := h', gens := s.gens, drawn := s.drawn, toks := tk', os := s.os }) (h : o = none) (F : Fr h₀ L h' m) (N : News h₀ L h' news) :
    Q .none { heap := h', gens := s.gens, drawn := s.drawn, toks := tk, os := s.os } := by
  subst h; exact hret 0 h' tk F N
noncomputable def dvStep (b : Int) (acc : Option Int) (n : Int) : Option Int := acc.bind fun v => if digitF ⟨#[n.toNat]⟩ < 0 ∨ b ≤ digitF ⟨#[n.toNat]⟩ then none else some (v * b + digitF ⟨#[n.toNat]⟩)
noncomputable def digitsValF (c : Str) (b : Int) : Option Int := if (c == Str.ofString "") = true then none else (KStt.codes c).foldl (dvStep b) (some 0)
theorem dv_turn {b v : Int} {pre : List Int} {n : Nat} (h : pre.foldl (dvStep b) (some 0) = some v) (h1 : ¬ digitF ⟨#[n]⟩ < 0) (h2 : ¬ b ≤ digitF ⟨#[n]⟩) :
    (pre ++ [(n : Int)]).foldl (dvStep b) (some 0) = some (v * b + digitF ⟨#[n]⟩) := by
  rw [List.foldl_append, h]
  simp [dvStep, h1, h2]
theorem dv_nones {b : Int} : ∀ l : List Int, l.foldl (dvStep b) none = none
  | [] => rfl
  | n :: r => dv_nones r
theorem dv_none {c : Str} {b v : Int} {pre post : List Int} {n : Nat} (e : KStt.codes c = pre ++ (n : Int) :: post) (h : pre.foldl (dvStep b) (some 0) = some v) (h1 : digitF ⟨#[n]⟩ < 0 ∨ b ≤ digitF ⟨#[n]⟩) :
    digitsValF c b = none := by
  unfold digitsValF
  split
  · rfl
  · rw [e, List.foldl_append, h, List.foldl_cons]
    have : dvStep b (some v) (n : Int) = none := by simp [dvStep, h1]
    rw [this, dv_nones]
theorem digits_value_c {w mean mg mb} {news : List (Addr × Obj)} {c : Str} {t : Tok} (hc : c.length ≤ 1000) {b : Int} {u : Tok} (hb : 2 ≤ b) (hb' : b ≤ 16) : Cb 4 w mean mg mb 80 news [.str c t, .int b u] (fun t => optI (digitsValF c b) t) := by
  k_with "pyIter str" => k_state (fun pre value => pre.foldl (dvStep b) (some 0) = some value) "value"
  k_with "state" => first | exact dv_turn (by assumption) (by assumption) (by assumption) | rfl
  ((try unfold Cb); unfold CbG; k_fill; (try dsimp only [RetV, RetT]); intros; rename_i hret; refine wpAny_call ?_; k_dflt cell_enter; (refine letA ?_); (intro kA); (rename Fr _ _ _ _ => sF); (first | replace sF : Fr _ _ _ (fun y => List.lookup y [(Str.ofString "base", _), (Str.ofString "text", _)]) := sF | replace sF : Fr _ _ _ (fun y => List.lookup y [(Str.ofString "text", _), (Str.ofString "base", _)]) := sF); (generalize Shared.toks _ + List.length _ = tk0); k_steps)
  · (refine ret_same (hret ?_ _ _ (by k_asm) (by k_extra "dr")) ?_; rotate_left); rw [show digitsValF c b = none from if_pos (by assumption)]; rfl; exact 0
  · (refine ret_same (hret ?_ _ _ (by k_asm) (by k_extra "dr")) ?_; rotate_left); rw [dv_none (by assumption) (by assumption) (.inl (by assumption))]; rfl; exact 0
  · (refine ret_same (hret ?_ _ _ (by k_asm) (by k_extra "dr")) ?_; rotate_left); rw [dv_none (by assumption) (by assumption) (.inr (by assumption))]; rfl; exact 0
  · (refine ret_same (hret ?_ _ _ (by k_asm) (by k_extra "dr")) ?_; rotate_left); rw [show digitsValF c b = (KStt.codes c).foldl (dvStep b) (some 0) from if_neg (by simp [*]), show List.foldl (dvStep b) (some 0) (KStt.codes c) = _ from by assumption]; rfl
end

section
-- L8
open PySem PySem.W PyProof.Rows
theorem kwn_L8 : True := by
  k_with_none
  w_top off
  trivial
theorem kwo_L8 : True := by
  k_with "m:omega" => first | with_reducible assumption | decide | with_reducible exact Int.le_refl _ | with_reducible exact Nat.le_refl _ | with_reducible exact rm_u2 | with_reducible exact rm_d2 | with_reducible exact rm_u1 | with_reducible exact rm_d1 | with_reducible exact rm_u0 | with_reducible exact rm_d0 | with_reducible exact n_up | with_reducible exact q_o | with_reducible exact q_c1 | with_reducible exact q_c2 | with_reducible exact q_c3 | with_reducible exact q_c4 | with_reducible exact q_n1 | with_reducible exact q_n2 | with_reducible exact q_n3 | with_reducible exact q_l1 | with_reducible exact q_l2 | with_reducible exact q_t1 | with_reducible exact q_t2 | with_reducible exact q_t3 | with_reducible exact q_t4 | with_reducible exact q_t5 | ((with_reducible show _ ≠ _); first | k_extra "P" | (refine Ne.symm ?_; k_extra "P") | (refine Nat.ne_of_lt ?_; k_extra "P") | (refine Nat.ne_of_gt ?_; k_extra "P"))
  k_with "P" => first | with_reducible assumption | with_reducible exact And.left (by with_reducible assumption) | with_reducible exact And.right (by with_reducible assumption) | with_reducible exact q_r (by with_reducible assumption) | with_reducible exact q_s (by with_reducible assumption) | with_reducible exact q_t (by with_reducible assumption) | with_reducible exact q_u (by with_reducible assumption)
  k_with "D" => ((try simp +zetaDelta only [depth_in1, depth_deeper]); (try dsimp only [ktrTop]); omega)
  k_with "U" => ((try simp +zetaDelta only [units_in1, units_deeper, Around.mark_units]); (try dsimp only [ktrTop]); omega)
  k_with "K5" => ((case k1 => k_asm); (case k2 => k_asm); (case k3 => k_asm); (case k4 => k_asm); (case k5 => k_asm))
  k_with "S" => first | with_reducible assumption | exact .inl rfl | exact .inr (.inl rfl) | exact .inr (.inr rfl) | exact .inr rfl | omega | k_mem | fail | (simp only [PySem.Str.length_append, KOpn.len_one]; omega) | assumption
  k_with "dr" => first | with_reducible assumption | with_reducible exact (News.tl (by with_reducible assumption)) | with_reducible exact (News.tl (News.tl (by with_reducible assumption))) | with_reducible exact (News.tl (News.tl (News.tl (by with_reducible assumption)))) | with_reducible exact (News.tl (News.tl (News.tl (News.tl (by with_reducible assumption))))) | with_reducible exact (News.tl (News.tl (News.tl (News.tl (News.tl (by with_reducible assumption)))))) | with_reducible exact (News.tl (News.tl (News.tl (News.tl (News.tl (News.tl (by with_reducible assumption))))))) | with_reducible exact News.apl (by with_reducible assumption) | with_reducible exact News.apl (News.tl (by with_reducible assumption)) | with_reducible exact News.apl (News.tl (News.tl (by with_reducible assumption))) | with_reducible exact News.apl (News.tl (News.tl (News.tl (by with_reducible assumption)))) | with_reducible exact News.apl (News.tl (News.tl (News.tl (News.tl (by with_reducible assumption)))))
  k_with "m:eval Call" => (k_here; k_dflt (first | ((with_reducible show wpAny _ _ (eval (.Call (.Name (Str.ofString "len") _) [.Name _ _] [] _) _) _ _ _); refine len_nm (q := ?_)) | ((with_reducible show wpAny _ _ (eval (.Call (.Name (Str.ofString "len") _) [_] [] _) _) _ _ _); refine callLen (h := ?_)) | ((with_reducible show wpAny _ _ (eval (.Call (.Name (Str.ofString "str") _) [_] [] _) _) _ _ _); refine callStr (h := ?_)) | ((with_reducible show wpAny _ _ (eval (.Call (.Name _ _) [_] [] _) _) _ _ _); refine callK1 (h := ?_)) | ((with_reducible show wpAny _ _ (eval (.Call (.Name _ _) [_, _] [] _) _) _ _ _); refine callK2 (h := ?_)) | ((with_reducible show wpAny _ _ (eval (.Call (.Name _ _) [_, _, _] [] _) _) _ _ _); refine callK3 (h := ?_))); k_whole)
  k_with "m:eval Constant int" => (k_here; k_dflt (refine cInt ?_); k_whole)
  k_with "m:eval Constant str" => (k_here; k_dflt (refine cStr ?_); k_whole)
  k_with "m:storeName" => (k_here; k_dflt (refine storeS (q := ?_)); k_whole; intro h' F' N'; (try k_sweep))
  k_with "m:binaryOp Add int int" => (k_here; k_dflt (refine addS ?_); k_whole)
  k_with "m:binaryOp Sub int int" => (k_here; k_dflt (refine subS ?_); k_whole)
  k_with "m:call builtin:len" => (k_here; (with_reducible show wpAny _ _ (call _ [.str _ _]) _ _ _); k_dflt (refine lenS (q := ?_)); k_whole)
  k_with "m:newList" => (k_here; k_dflt (refine lstS (q := ?_) (by first | exact Nat.le_of_ble_eq_true rfl | size_fits)); k_whole; intro l' h' F' N' l1; (try k_lt l1); (try k_sweep))
  k_with "m:execs cons" => (k_here; k_dflt (first | ((with_reducible show wpAny _ _ (execs (.Assign [.Name _ _] _ _ :: _) _) _ _ _); refine sAsg ?_ (Eq.refl true)) | ((with_reducible show wpAny _ _ (execs (.Return (some _) _ :: _) _) _ _ _); refine sRet ?_) | ((with_reducible show wpAny _ _ (execs (.If _ [.Return (some _) _] [] _ :: _) _) _ _ _); refine sIfR ?_) | ((with_reducible show wpAny _ _ (execs (.If _ _ [] _ :: _) _) _ _ _); refine sIf1 ?_)); k_whole)
  k_with "m:eval Tuple" => (k_here; first | ((with_reducible show wpAny _ _ (eval (.Tuple [.Constant (.str _) _ _, .Constant (.str _) _ _] _ _) _) _ _ _); k_dflt (refine tupSS (q := ?_)); k_whole; intro D' h' F' N' l1; (try k_lt l1)) | ((with_reducible show wpAny _ _ (eval (.Tuple [_, _] _ _) _) _ _ _); k_dflt (refine tup2 ?_ (Eq.refl true) (Eq.refl true)); k_whole))
  k_with "m:eval List" => (k_here; k_dflt (first | ((with_reducible show wpAny _ _ (eval (.List [_] _) _) _ _ _); refine lst1 ?_ (Eq.refl true)) | ((with_reducible show wpAny _ _ (eval (.List [_, _] _) _) _ _ _); refine lst2 ?_ (Eq.refl true) (Eq.refl true)) | ((with_reducible show wpAny _ _ (eval (.List [_, _, _] _) _) _ _ _); refine lst3 ?_ (Eq.refl true) (Eq.refl true) (Eq.refl true)) | ((with_reducible show wpAny _ _ (eval (.List [_, _, _, _] _) _) _ _ _); refine lst4 ?_ (Eq.refl true) (Eq.refl true) (Eq.refl true) (Eq.refl true))); k_whole)
  k_with "m:eval BinOp" => (k_here; k_dflt (first | ((with_reducible show wpAny _ _ (eval (.BinOp (.Name _ _) _ (.Name _ _) _) _) _ _ _); refine bNN (q := ?_)) | ((with_reducible show wpAny _ _ (eval (.BinOp (.Name _ _) _ (.Constant (.int _) _ _) _) _) _ _ _); refine bNC (q := ?_)) | ((with_reducible show wpAny _ _ (eval (.BinOp (.Name _ _) _ _ _) _) _ _ _); refine bN (q := ?_))); k_whole)
  k_with "m:isTrue Compare" => (k_here; k_dflt (first | ((with_reducible show wpAny _ _ (isTrue (.Compare (.Name _ _) [_] [(.Name _ _)] _) _ _) _ _ _); refine cNN (q := ?_)) | ((with_reducible show wpAny _ _ (isTrue (.Compare (.Name _ _) [_] [(.Constant (.int _) _ _)] _) _ _) _ _ _); refine cNC (q := ?_)) | ((with_reducible show wpAny _ _ (isTrue (.Compare (.Name _ _) [_] [_] _) _ _) _ _ _); refine cN (q := ?_))); k_whole)
  k_with "m:eval Subscript" => (k_here; k_dflt (first | ((with_reducible show wpAny _ _ (eval (.Subscript (.Name _ _) (.Name _ _) _) _) _ _ _); refine gNN (q := ?_)) | ((with_reducible show wpAny _ _ (eval (.Subscript (.Name _ _) (.Constant (.int _) _ _) _) _) _ _ _); refine gNC (q := ?_)) | ((with_reducible show wpAny _ _ (eval (.Subscript (.Name _ _) _ _) _) _ _ _); refine gN (q := ?_))); k_whole)
  trivial
open PySem.Challenge
set_option maxRecDepth 100000
set_option maxHeartbeats 4000000
theorem kw_L8_1 : True := by
  k_with "m:call ref" => (k_here; (with_reducible show wpAny _ _ (call (Value.ref 66) _) _ _ _); k_dflt (refine' is_blank_c ?hc0 _ _ _ _ _ _ _ _ _ _ _ _ _ _ _ _ _ ?k1 ?k2 ?k3 ?k4 ?k5 ?kK ?kd ?ku ?_); k_extra "K5"; (case kK => first | exact rfl | assumption); (case hc0 => k_extra "S"); (case kd => (k_extra "D")); (case ku => (k_extra "U")); intro t9 h9 tk9 F9 N9; (try dsimp only); (skip); (all_goals (try k_fold)))
  trivial
noncomputable def movedF (i : Int) (c : Str) : Option Int := match digitsValF (Txt.slice c (some 1) none) 10 with
  | none => none
  | some far => if (Txt.item c 0 == Str.ofString "+") = true then some (i + far) else if (Txt.item c 0 == Str.ofString "-") = true then some (i - far) else none
theorem dv_pos {c : Str} {v : Int} (h : digitsValF (Txt.slice c (some 1) none) 10 = some v) : 0 < c.length := by
  apply Nat.pos_of_ne_zero
  intro h0
  have h1 := Txt.slice_le c (some 1) none
  have h2 : Txt.slice c (some 1) none = Str.ofString "" := PySem.Str.ext' (Array.eq_empty_of_size_eq_zero (by have : (Txt.slice c (some 1) none).cps.size = (Txt.slice c (some 1) none).length := rfl; omega))
  rw [h2] at h
  unfold digitsValF at h
  rw [if_pos (by decide +kernel)] at h
  cases h
theorem kw_L8_2 : True := by
  k_with "m:call ref" => (k_here; (with_reducible show wpAny _ _ (call (Value.ref 80) _) _ _ _); k_dflt (refine' digits_value_c ?hc0 ?hc1 ?hc2 _ _ _ _ _ _ _ _ _ _ _ _ _ _ _ _ _ ?k1 ?k2 ?k3 ?k4 ?k5 ?kK ?kd ?ku ?_); k_extra "K5"; (case kK => first | exact rfl | assumption); (case hc0 => k_extra "S"); (case hc1 => k_extra "S"); (case hc2 => k_extra "S"); (case kd => (k_extra "D")); (case ku => (k_extra "U")); intro t9 h9 tk9 F9 N9; (try dsimp only); (generalize hDV9 : digitsValF _ _ = o9; cases o9 <;> (dsimp only [optI]; try (have hpos9 := dv_pos hDV9))); (all_goals (try k_fold)))
  trivial
theorem moved_c {w mean mg mb} {news : List (Addr × Obj)} {c : Str} {t u : Tok} {i : Int} (hc : c.length ≤ 1000) : Cb 8 w mean mg mb 115 news [.int i u, .str c t] (fun t => optI (movedF i c) t) := by
  ((try unfold Cb); unfold CbG; k_fill; (try dsimp only [RetV, RetT]); intros; rename_i hret; refine wpAny_call ?_; k_dflt cell_enter; (refine letA ?_); (intro kA); (rename Fr _ _ _ _ => sF); (first | replace sF : Fr _ _ _ (fun y => List.lookup y [(Str.ofString "text", _), (Str.ofString "base", _)]) := sF | replace sF : Fr _ _ _ (fun y => List.lookup y [(Str.ofString "base", _), (Str.ofString "text", _)]) := sF); (generalize Shared.toks _ + List.length _ = tk0); k_steps)
  · (refine ret_same (hret ?_ _ _ (by k_asm) (by k_extra "dr")) ?_; rotate_left); rw [show movedF i c = none from by unfold movedF; rw [show digitsValF _ 10 = _ from by assumption]]; rfl; exact 0
  · (refine ret_same (hret ?_ _ _ (by k_asm) (by k_extra "dr")) ?_; rotate_left); rw [show movedF i c = some _ from by unfold movedF; rw [show digitsValF _ 10 = _ from by assumption]; exact if_pos (by assumption)]; rfl
  · (refine ret_same (hret ?_ _ _ (by k_asm) (by k_extra "dr")) ?_; rotate_left); rw [show movedF i c = some _ from by unfold movedF; rw [show digitsValF _ 10 = _ from by assumption]; exact (if_neg (by simp only [*]; decide)).trans (if_pos (by assumption))]; rfl
  · (refine ret_same (hret ?_ _ _ (by k_asm) (by k_extra "dr")) ?_; rotate_left); rw [show movedF i c = none from by unfold movedF; rw [show digitsValF _ 10 = _ from by assumption]; exact (if_neg (by simp only [*]; decide)).trans (if_neg (by simp only [*]; decide))]; rfl; exact 0
end

section
-- L3
open PySem PySem.W PyProof.Rows
theorem kwn_L3 : True := by
  k_with_none
  w_top off
  trivial
theorem kwo_L3 : True := by
  k_with "m:omega" => first | with_reducible assumption | decide | with_reducible exact Int.le_refl _ | with_reducible exact Nat.le_refl _ | with_reducible exact rm_u2 | with_reducible exact rm_d2 | with_reducible exact rm_u1 | with_reducible exact rm_d1 | with_reducible exact rm_u0 | with_reducible exact rm_d0 | with_reducible exact n_up | with_reducible exact q_o | with_reducible exact q_c1 | with_reducible exact q_c2 | with_reducible exact q_c3 | with_reducible exact q_c4 | with_reducible exact q_n1 | with_reducible exact q_n2 | with_reducible exact q_n3 | with_reducible exact q_l1 | with_reducible exact q_l2 | with_reducible exact q_t1 | with_reducible exact q_t2 | with_reducible exact q_t3 | with_reducible exact q_t4 | with_reducible exact q_t5 | ((with_reducible show _ ≠ _); first | k_extra "P" | (refine Ne.symm ?_; k_extra "P") | (refine Nat.ne_of_lt ?_; k_extra "P") | (refine Nat.ne_of_gt ?_; k_extra "P"))
  k_with "P" => first | with_reducible assumption | with_reducible exact And.left (by with_reducible assumption) | with_reducible exact And.right (by with_reducible assumption) | with_reducible exact q_r (by with_reducible assumption) | with_reducible exact q_s (by with_reducible assumption) | with_reducible exact q_t (by with_reducible assumption) | with_reducible exact q_u (by with_reducible assumption)
  k_with "D" => ((try simp +zetaDelta only [depth_in1, depth_deeper]); (try dsimp only [ktrTop]); omega)
  k_with "U" => ((try simp +zetaDelta only [units_in1, units_deeper, Around.mark_units]); (try dsimp only [ktrTop]); omega)
  k_with "K5" => ((case k1 => k_asm); (case k2 => k_asm); (case k3 => k_asm); (case k4 => k_asm); (case k5 => k_asm))
  k_with "S" => first | with_reducible assumption | exact .inl rfl | exact .inr (.inl rfl) | exact .inr (.inr rfl) | exact .inr rfl | omega | k_mem | fail | (simp only [PySem.Str.length_append, KOpn.len_one]; omega) | assumption
  k_with "dr" => first | with_reducible assumption | with_reducible exact (News.tl (by with_reducible assumption)) | with_reducible exact (News.tl (News.tl (by with_reducible assumption))) | with_reducible exact (News.tl (News.tl (News.tl (by with_reducible assumption)))) | with_reducible exact (News.tl (News.tl (News.tl (News.tl (by with_reducible assumption))))) | with_reducible exact (News.tl (News.tl (News.tl (News.tl (News.tl (by with_reducible assumption)))))) | with_reducible exact (News.tl (News.tl (News.tl (News.tl (News.tl (News.tl (by with_reducible assumption))))))) | with_reducible exact News.apl (by with_reducible assumption) | with_reducible exact News.apl (News.tl (by with_reducible assumption)) | with_reducible exact News.apl (News.tl (News.tl (by with_reducible assumption))) | with_reducible exact News.apl (News.tl (News.tl (News.tl (by with_reducible assumption)))) | with_reducible exact News.apl (News.tl (News.tl (News.tl (News.tl (by with_reducible assumption)))))
  k_with "m:eval Call" => (k_here; k_dflt (first | ((with_reducible show wpAny _ _ (eval (.Call (.Name (Str.ofString "len") _) [.Name _ _] [] _) _) _ _ _); refine len_nm (q := ?_)) | ((with_reducible show wpAny _ _ (eval (.Call (.Name (Str.ofString "len") _) [_] [] _) _) _ _ _); refine callLen (h := ?_)) | ((with_reducible show wpAny _ _ (eval (.Call (.Name (Str.ofString "str") _) [_] [] _) _) _ _ _); refine callStr (h := ?_)) | ((with_reducible show wpAny _ _ (eval (.Call (.Name _ _) [_] [] _) _) _ _ _); refine callK1 (h := ?_)) | ((with_reducible show wpAny _ _ (eval (.Call (.Name _ _) [_, _] [] _) _) _ _ _); refine callK2 (h := ?_)) | ((with_reducible show wpAny _ _ (eval (.Call (.Name _ _) [_, _, _] [] _) _) _ _ _); refine callK3 (h := ?_))); k_whole)
  k_with "m:eval Constant int" => (k_here; k_dflt (refine cInt ?_); k_whole)
  k_with "m:eval Constant str" => (k_here; k_dflt (refine cStr ?_); k_whole)
  k_with "m:storeName" => (k_here; k_dflt (refine storeS (q := ?_)); k_whole; intro h' F' N'; (try k_sweep))
  k_with "m:binaryOp Add int int" => (k_here; k_dflt (refine addS ?_); k_whole)
  k_with "m:binaryOp Sub int int" => (k_here; k_dflt (refine subS ?_); k_whole)
  k_with "m:call builtin:len" => (k_here; (with_reducible show wpAny _ _ (call _ [.str _ _]) _ _ _); k_dflt (refine lenS (q := ?_)); k_whole)
  k_with "m:newList" => (k_here; k_dflt (refine lstS (q := ?_) (by first | exact Nat.le_of_ble_eq_true rfl | size_fits)); k_whole; intro l' h' F' N' l1; (try k_lt l1); (try k_sweep))
  k_with "m:execs cons" => (k_here; k_dflt (first | ((with_reducible show wpAny _ _ (execs (.Assign [.Name _ _] _ _ :: _) _) _ _ _); refine sAsg ?_ (Eq.refl true)) | ((with_reducible show wpAny _ _ (execs (.Return (some _) _ :: _) _) _ _ _); refine sRet ?_) | ((with_reducible show wpAny _ _ (execs (.If _ [.Return (some _) _] [] _ :: _) _) _ _ _); refine sIfR ?_) | ((with_reducible show wpAny _ _ (execs (.If _ _ [] _ :: _) _) _ _ _); refine sIf1 ?_)); k_whole)
  k_with "m:eval Tuple" => (k_here; first | ((with_reducible show wpAny _ _ (eval (.Tuple [.Constant (.str _) _ _, .Constant (.str _) _ _] _ _) _) _ _ _); k_dflt (refine tupSS (q := ?_)); k_whole; intro D' h' F' N' l1; (try k_lt l1)) | ((with_reducible show wpAny _ _ (eval (.Tuple [_, _] _ _) _) _ _ _); k_dflt (refine tup2 ?_ (Eq.refl true) (Eq.refl true)); k_whole))
  k_with "m:eval List" => (k_here; k_dflt (first | ((with_reducible show wpAny _ _ (eval (.List [_] _) _) _ _ _); refine lst1 ?_ (Eq.refl true)) | ((with_reducible show wpAny _ _ (eval (.List [_, _] _) _) _ _ _); refine lst2 ?_ (Eq.refl true) (Eq.refl true)) | ((with_reducible show wpAny _ _ (eval (.List [_, _, _] _) _) _ _ _); refine lst3 ?_ (Eq.refl true) (Eq.refl true) (Eq.refl true)) | ((with_reducible show wpAny _ _ (eval (.List [_, _, _, _] _) _) _ _ _); refine lst4 ?_ (Eq.refl true) (Eq.refl true) (Eq.refl true) (Eq.refl true))); k_whole)
  k_with "m:eval BinOp" => (k_here; k_dflt (first | ((with_reducible show wpAny _ _ (eval (.BinOp (.Name _ _) _ (.Name _ _) _) _) _ _ _); refine bNN (q := ?_)) | ((with_reducible show wpAny _ _ (eval (.BinOp (.Name _ _) _ (.Constant (.int _) _ _) _) _) _ _ _); refine bNC (q := ?_)) | ((with_reducible show wpAny _ _ (eval (.BinOp (.Name _ _) _ _ _) _) _ _ _); refine bN (q := ?_))); k_whole)
  k_with "m:isTrue Compare" => (k_here; k_dflt (first | ((with_reducible show wpAny _ _ (isTrue (.Compare (.Name _ _) [_] [(.Name _ _)] _) _ _) _ _ _); refine cNN (q := ?_)) | ((with_reducible show wpAny _ _ (isTrue (.Compare (.Name _ _) [_] [(.Constant (.int _) _ _)] _) _ _) _ _ _); refine cNC (q := ?_)) | ((with_reducible show wpAny _ _ (isTrue (.Compare (.Name _ _) [_] [_] _) _ _) _ _ _); refine cN (q := ?_))); k_whole)
  k_with "m:eval Subscript" => (k_here; k_dflt (first | ((with_reducible show wpAny _ _ (eval (.Subscript (.Name _ _) (.Name _ _) _) _) _ _ _); refine gNN (q := ?_)) | ((with_reducible show wpAny _ _ (eval (.Subscript (.Name _ _) (.Constant (.int _) _ _) _) _) _ _ _); refine gNC (q := ?_)) | ((with_reducible show wpAny _ _ (eval (.Subscript (.Name _ _) _ _) _) _ _ _); refine gN (q := ?_))); k_whole)
  trivial
open PySem.Challenge
set_option maxRecDepth 100000
set_option maxHeartbeats 4000000
theorem kw_L3_1 : True := by
  k_with "m:call ref" => (k_here; (with_reducible show wpAny _ _ (call (Value.ref 73) _) _ _ _); k_dflt (refine' digit_c ?hc0 _ _ _ _ _ _ _ _ _ _ _ _ _ _ _ _ _ ?k1 ?k2 ?k3 ?k4 ?k5 ?kK ?kd ?ku ?_); k_extra "K5"; (case kK => first | exact rfl | assumption); (case hc0 => k_extra "S"); (case kd => (k_extra "D")); (case ku => (k_extra "U")); intro t9 h9 tk9 F9 N9; (try dsimp only); (skip); (all_goals (try k_fold)))
  trivial
noncomputable def isLetterF (c : Str) : Bool := if 10 ≤ digitF c then true else if (Str.ofString "\x7f").cps.toList < c.cps.toList then Txt.isalpha c else false
theorem is_letter_c {w mean mg mb} {news : List (Addr × Obj)} {c : Str} {t : Tok} (hc : c.length ≤ 100000) : Cb 4 w mean mg mb 157 news [.str c t] (fun t => .bool (isLetterF c)) := by
  ((try unfold Cb); unfold CbG; k_fill; (try dsimp only [RetV, RetT]); intros; rename_i hret; refine wpAny_call ?_; k_dflt cell_enter; (refine letA ?_); (intro kA); (rename Fr _ _ _ _ => sF); (first | replace sF : Fr _ _ _ (fun y => List.lookup y [(Str.ofString "c", _)]) := sF | replace sF : Fr _ _ _ (fun y => List.lookup y [(Str.ofString "c", _)]) := sF); (generalize Shared.toks _ + List.length _ = tk0); k_steps)
  all_goals (refine cb_retB hret ?_ (by k_asm) (by k_extra "dr"))
  all_goals simp [isLetterF, *]
theorem kw_L3_2 : True := by
  k_with "m:call ref" => (k_here; (with_reducible show wpAny _ _ (call (Value.ref 157) _) _ _ _); k_dflt (refine' is_letter_c ?hc0 _ _ _ _ _ _ _ _ _ _ _ _ _ _ _ _ _ ?k1 ?k2 ?k3 ?k4 ?k5 ?kK ?kd ?ku ?_); k_extra "K5"; (case kK => first | exact rfl | assumption); (case hc0 => k_extra "S"); (case kd => (k_extra "D")); (case ku => (k_extra "U")); intro t9 h9 tk9 F9 N9; (try dsimp only); (skip); (all_goals (try k_fold)))
  trivial
noncomputable def isWordF (c : Str) : Bool := if 0 ≤ digitF c then true else if isLetterF c then true else !(Builtin.Str.occurrences (Str.ofString "_‿⁀⁔") c 0 (Str.ofString "_‿⁀⁔").length 1).isEmpty
theorem is_word_sign_c {w mean mg mb} {news : List (Addr × Obj)} {c : Str} {t : Tok} (hc : c.length ≤ 100000) : Cb 6 w mean mg mb 164 news [.str c t] (fun t => .bool (isWordF c)) := by
  ((try unfold Cb); unfold CbG; k_fill; (try dsimp only [RetV, RetT]); intros; rename_i hret; refine wpAny_call ?_; k_dflt cell_enter; (refine letA ?_); (intro kA); (rename Fr _ _ _ _ => sF); (first | replace sF : Fr _ _ _ (fun y => List.lookup y [(Str.ofString "c", _)]) := sF | replace sF : Fr _ _ _ (fun y => List.lookup y [(Str.ofString "c", _)]) := sF); (generalize Shared.toks _ + List.length _ = tk0); k_steps)
  all_goals (refine cb_retB hret ?_ (by k_asm) (by k_extra "dr"))
  all_goals simp [isWordF, *]
end

section
-- JN
open PySem PySem.W PyProof.Rows
/-! WAYS THAT MEET: a statement whose ways change names alone is walked once, and what stands behind it once -/
section
variable {M : Model} {A : Around} {env : Env} {st : Stmt} {rest : List Stmt} {Q : Flow → Shared → Prop} {E : Value → Shared → Prop} {s : Shared} {h₀ h' : Heap} {L : Addr} {m m' : Str → Option Value} {news : List (Addr × Obj)} {x y : Str} {v u : Value} {tk' : Nat}
theorem joinP {P : Shared → Prop} (h1 : wpAny M A (exec st env) (fun f s' => match f with | .next => P s' | f => Q f s') E s) (h2 : ∀ s', P s' → wpAny M A (execs rest env) Q E s') : wpAny M A (execs (st :: rest) env) Q E s :=
  wpAny_execs_cons (wpAny_mono h1 (fun f s' h => by cases f <;> first | exact h2 _ h | exact h) fun _ _ e => e)
/-- one name stored, or left as it was -/
noncomputable def Jn1 (s : Shared) (h₀ : Heap) (L : Addr) (m : Str → Option Value) (news : List (Addr × Obj)) (x : Str) (φ : Value → Prop) (s' : Shared) : Prop :=
  ∃ v h' tk', s' = ⟨h', s.gens, s.drawn, tk', s.os⟩ ∧ Fr h₀ L h' (fun z => if z = x then some v else m z) ∧ News h₀ L h' news ∧ φ v
noncomputable def Jn2 (s : Shared) (h₀ : Heap) (L : Addr) (m : Str → Option Value) (news : List (Addr × Obj)) (x y : Str) (φ : Value → Value → Prop) (s' : Shared) : Prop :=
  ∃ v u h' tk', s' = ⟨h', s.gens, s.drawn, tk', s.os⟩ ∧ Fr h₀ L h' (fun z => if z = y then some u else if z = x then some v else m z) ∧ News h₀ L h' news ∧ φ v u
theorem join1 (x : Str) (φ : Value → Prop) (F : Fr h₀ L s.heap m) (N : News h₀ L s.heap news) (h1 : wpAny M A (exec st env) (fun f s' => match f with | .next => Jn1 s h₀ L m news x φ s' | f => Q f s') E s)
    (h2 : ∀ v h' tk', Fr h₀ L h' (fun z => if z = x then some v else m z) → News h₀ L h' news → φ v → wpAny M A (execs rest env) Q E { s with heap := h', toks := tk' }) : wpAny M A (execs (st :: rest) env) Q E s :=
  joinP h1 fun s' ⟨v, h', tk', e, F', N', hv⟩ => by subst e; exact h2 v h' tk' F' N' hv
theorem join2 (x y : Str) (φ : Value → Value → Prop) (F : Fr h₀ L s.heap m) (N : News h₀ L s.heap news) (h1 : wpAny M A (exec st env) (fun f s' => match f with | .next => Jn2 s h₀ L m news x y φ s' | f => Q f s') E s)
    (h2 : ∀ v u h' tk', Fr h₀ L h' (fun z => if z = y then some u else if z = x then some v else m z) → News h₀ L h' news → φ v u → wpAny M A (execs rest env) Q E { s with heap := h', toks := tk' }) : wpAny M A (execs (st :: rest) env) Q E s :=
  joinP h1 fun s' ⟨v, u, h', tk', e, F', N', hv⟩ => by subst e; exact h2 v u h' tk' F' N' hv
theorem jn1_s {φ : Value → Prop} (F : Fr h₀ L h' (fun z => if z = x then some v else m z)) (N : News h₀ L h' news) (hv : φ v) : Jn1 s h₀ L m news x φ ⟨h', s.gens, s.drawn, tk', s.os⟩ := ⟨v, h', tk', rfl, F, N, hv⟩
theorem same1 (e : m x = some v) : (fun z => if z = x then some v else m z) = m := by
  funext z; split
  · next h => rw [h, e]
  · rfl
theorem jn1_k {φ : Value → Prop} (F : Fr h₀ L h' m) (e : m x = some v) (N : News h₀ L h' news) (hv : φ v) : Jn1 s h₀ L m news x φ ⟨h', s.gens, s.drawn, tk', s.os⟩ := ⟨v, h', tk', rfl, by rw [same1 e]; exact F, N, hv⟩
theorem jn2_s {φ : Value → Value → Prop} (F : Fr h₀ L h' (fun z => if z = y then some u else if z = x then some v else m z)) (N : News h₀ L h' news) (hv : φ v u) : Jn2 s h₀ L m news x y φ ⟨h', s.gens, s.drawn, tk', s.os⟩ := ⟨v, u, h', tk', rfl, F, N, hv⟩
theorem jn2_k {φ : Value → Value → Prop} (F : Fr h₀ L h' m) (e : m x = some v) (e' : m y = some u) (N : News h₀ L h' news) (hv : φ v u) : Jn2 s h₀ L m news x y φ ⟨h', s.gens, s.drawn, tk', s.os⟩ := ⟨v, u, h', tk', rfl, by show Fr h₀ L h' (fun z => if z = y then some u else (fun z => if z = x then some v else m z) z); rw [same1 e, same1 e']; exact F, N, hv⟩
/-- one name stored; the names in forg are forgotten -/
noncomputable def JnF (s : Shared) (h₀ : Heap) (L : Addr) (m : Str → Option Value) (news : List (Addr × Obj)) (x : Str) (forg : List Str) (φ : Value → Prop) (s' : Shared) : Prop :=
  ∃ (v : Value) (k : Str → Option Value) (h' : Heap) (tk' : Nat), s' = ⟨h', s.gens, s.drawn, tk', s.os⟩ ∧ Fr h₀ L h' (fun z => if z = x then some v else if forg.contains z then k z else m z) ∧ News h₀ L h' news ∧ φ v
theorem joinF (x : Str) (forg : List Str) (φ : Value → Prop) (F : Fr h₀ L s.heap m) (N : News h₀ L s.heap news) (h1 : wpAny M A (exec st env) (fun f s' => match f with | .next => JnF s h₀ L m news x forg φ s' | f => Q f s') E s)
    (h2 : ∀ (v : Value) (k : Str → Option Value) h' tk', Fr h₀ L h' (fun z => if z = x then some v else if forg.contains z then k z else m z) → News h₀ L h' news → φ v → wpAny M A (execs rest env) Q E { s with heap := h', toks := tk' }) : wpAny M A (execs (st :: rest) env) Q E s :=
  joinP h1 fun s' ⟨v, k, h', tk', e, F', N', hv⟩ => by subst e; exact h2 v k h' tk' F' N' hv
theorem jnF_s {forg : List Str} {φ : Value → Prop} {m1 : Str → Option Value} (F : Fr h₀ L h' m1) (e : m1 x = some v) (N : News h₀ L h' news) (hm : ∀ z, z ≠ x → forg.contains z = false → m1 z = m z) (hv : φ v) : JnF s h₀ L m news x forg φ ⟨h', s.gens, s.drawn, tk', s.os⟩ := by
  refine ⟨v, m1, h', tk', rfl, ?_, N, hv⟩
  have : (fun z => if z = x then some v else if forg.contains z then m1 z else m z) = m1 := by
    funext z
    by_cases q : z = x
    · rw [if_pos q, q, e]
    · rw [if_neg q]
      cases c : forg.contains z with
      | true => rfl
      | false => exact (hm z q c).symm
  rw [this]
  exact F
theorem ne2 {a b z : Str} (h : [a, b].contains z = false) : z ≠ a ∧ z ≠ b := by
  constructor
  · rintro rfl; simp at h
  · rintro rfl; simp at h
end
noncomputable def IntV (p : Int → Prop) (v : Value) : Prop := ∃ i t, v = .int i t ∧ p i
theorem intV {p : Int → Prop} {i : Int} {t : Tok} (h : p i) : IntV p (.int i t) := ⟨i, t, rfl, h⟩
noncomputable def BoolIntV (p : Bool → Int → Prop) (v u : Value) : Prop := ∃ b i t, v = .bool b ∧ u = .int i t ∧ p b i
theorem boolIntV {p : Bool → Int → Prop} {b : Bool} {i : Int} {t : Tok} (h : p b i) : BoolIntV p (.bool b) (.int i t) := ⟨b, i, t, rfl, rfl, h⟩
noncomputable def OptV (p : Option Int → Prop) (v : Value) : Prop := (v = .none ∧ p none) ∨ ∃ i t, v = .int i t ∧ p (some i)
theorem optS {p : Option Int → Prop} {i : Int} {t : Tok} (h : p (some i)) : OptV p (.int i t) := .inr ⟨i, t, rfl, h⟩
theorem optN {p : Option Int → Prop} (h : p none) : OptV p .none := .inl ⟨rfl, h⟩
end

section
-- L7
open PySem PySem.W PyProof.Rows
theorem kwn_L7 : True := by
  k_with_none
  w_top off
  trivial
theorem kwo_L7 : True := by
  k_with "m:omega" => first | with_reducible assumption | decide | with_reducible exact Int.le_refl _ | with_reducible exact Nat.le_refl _ | with_reducible exact rm_u2 | with_reducible exact rm_d2 | with_reducible exact rm_u1 | with_reducible exact rm_d1 | with_reducible exact rm_u0 | with_reducible exact rm_d0 | with_reducible exact n_up | with_reducible exact q_o | with_reducible exact q_c1 | with_reducible exact q_c2 | with_reducible exact q_c3 | with_reducible exact q_c4 | with_reducible exact q_n1 | with_reducible exact q_n2 | with_reducible exact q_n3 | with_reducible exact q_l1 | with_reducible exact q_l2 | with_reducible exact q_t1 | with_reducible exact q_t2 | with_reducible exact q_t3 | with_reducible exact q_t4 | with_reducible exact q_t5 | ((with_reducible show _ ≠ _); first | k_extra "P" | (refine Ne.symm ?_; k_extra "P") | (refine Nat.ne_of_lt ?_; k_extra "P") | (refine Nat.ne_of_gt ?_; k_extra "P"))
  k_with "P" => first | with_reducible assumption | with_reducible exact And.left (by with_reducible assumption) | with_reducible exact And.right (by with_reducible assumption) | with_reducible exact q_r (by with_reducible assumption) | with_reducible exact q_s (by with_reducible assumption) | with_reducible exact q_t (by with_reducible assumption) | with_reducible exact q_u (by with_reducible assumption)
  k_with "D" => ((try simp +zetaDelta only [depth_in1, depth_deeper]); (try dsimp only [ktrTop]); omega)
  k_with "U" => ((try simp +zetaDelta only [units_in1, units_deeper, Around.mark_units]); (try dsimp only [ktrTop]); omega)
  k_with "K5" => ((case k1 => k_asm); (case k2 => k_asm); (case k3 => k_asm); (case k4 => k_asm); (case k5 => k_asm))
  k_with "S" => first | with_reducible assumption | exact .inl rfl | exact .inr (.inl rfl) | exact .inr (.inr rfl) | exact .inr rfl | omega | k_mem | fail | (simp only [PySem.Str.length_append, KOpn.len_one]; omega) | assumption
  k_with "dr" => first | with_reducible assumption | with_reducible exact (News.tl (by with_reducible assumption)) | with_reducible exact (News.tl (News.tl (by with_reducible assumption))) | with_reducible exact (News.tl (News.tl (News.tl (by with_reducible assumption)))) | with_reducible exact (News.tl (News.tl (News.tl (News.tl (by with_reducible assumption))))) | with_reducible exact (News.tl (News.tl (News.tl (News.tl (News.tl (by with_reducible assumption)))))) | with_reducible exact (News.tl (News.tl (News.tl (News.tl (News.tl (News.tl (by with_reducible assumption))))))) | with_reducible exact News.apl (by with_reducible assumption) | with_reducible exact News.apl (News.tl (by with_reducible assumption)) | with_reducible exact News.apl (News.tl (News.tl (by with_reducible assumption))) | with_reducible exact News.apl (News.tl (News.tl (News.tl (by with_reducible assumption)))) | with_reducible exact News.apl (News.tl (News.tl (News.tl (News.tl (by with_reducible assumption)))))
  k_with "m:eval Call" => (k_here; k_dflt (first | ((with_reducible show wpAny _ _ (eval (.Call (.Name (Str.ofString "len") _) [.Name _ _] [] _) _) _ _ _); refine len_nm (q := ?_)) | ((with_reducible show wpAny _ _ (eval (.Call (.Name (Str.ofString "len") _) [_] [] _) _) _ _ _); refine callLen (h := ?_)) | ((with_reducible show wpAny _ _ (eval (.Call (.Name (Str.ofString "str") _) [_] [] _) _) _ _ _); refine callStr (h := ?_)) | ((with_reducible show wpAny _ _ (eval (.Call (.Name _ _) [_] [] _) _) _ _ _); refine callK1 (h := ?_)) | ((with_reducible show wpAny _ _ (eval (.Call (.Name _ _) [_, _] [] _) _) _ _ _); refine callK2 (h := ?_)) | ((with_reducible show wpAny _ _ (eval (.Call (.Name _ _) [_, _, _] [] _) _) _ _ _); refine callK3 (h := ?_))); k_whole)
  k_with "m:eval Constant int" => (k_here; k_dflt (refine cInt ?_); k_whole)
  k_with "m:eval Constant str" => (k_here; k_dflt (refine cStr ?_); k_whole)
  k_with "m:storeName" => (k_here; k_dflt (refine storeS (q := ?_)); k_whole; intro h' F' N'; (try k_sweep))
  k_with "m:binaryOp Add int int" => (k_here; k_dflt (refine addS ?_); k_whole)
  k_with "m:binaryOp Sub int int" => (k_here; k_dflt (refine subS ?_); k_whole)
  k_with "m:call builtin:len" => (k_here; (with_reducible show wpAny _ _ (call _ [.str _ _]) _ _ _); k_dflt (refine lenS (q := ?_)); k_whole)
  k_with "m:newList" => (k_here; k_dflt (refine lstS (q := ?_) (by first | exact Nat.le_of_ble_eq_true rfl | size_fits)); k_whole; intro l' h' F' N' l1; (try k_lt l1); (try k_sweep))
  k_with "m:execs cons" => (k_here; k_dflt (first | ((with_reducible show wpAny _ _ (execs (.Assign [.Name _ _] _ _ :: _) _) _ _ _); refine sAsg ?_ (Eq.refl true)) | ((with_reducible show wpAny _ _ (execs (.Return (some _) _ :: _) _) _ _ _); refine sRet ?_) | ((with_reducible show wpAny _ _ (execs (.If _ [.Return (some _) _] [] _ :: _) _) _ _ _); refine sIfR ?_) | ((with_reducible show wpAny _ _ (execs (.If _ _ [] _ :: _) _) _ _ _); refine sIf1 ?_)); k_whole)
  k_with "m:eval Tuple" => (k_here; first | ((with_reducible show wpAny _ _ (eval (.Tuple [.Constant (.str _) _ _, .Constant (.str _) _ _] _ _) _) _ _ _); k_dflt (refine tupSS (q := ?_)); k_whole; intro D' h' F' N' l1; (try k_lt l1)) | ((with_reducible show wpAny _ _ (eval (.Tuple [_, _] _ _) _) _ _ _); k_dflt (refine tup2 ?_ (Eq.refl true) (Eq.refl true)); k_whole))
  k_with "m:eval List" => (k_here; k_dflt (first | ((with_reducible show wpAny _ _ (eval (.List [_] _) _) _ _ _); refine lst1 ?_ (Eq.refl true)) | ((with_reducible show wpAny _ _ (eval (.List [_, _] _) _) _ _ _); refine lst2 ?_ (Eq.refl true) (Eq.refl true)) | ((with_reducible show wpAny _ _ (eval (.List [_, _, _] _) _) _ _ _); refine lst3 ?_ (Eq.refl true) (Eq.refl true) (Eq.refl true)) | ((with_reducible show wpAny _ _ (eval (.List [_, _, _, _] _) _) _ _ _); refine lst4 ?_ (Eq.refl true) (Eq.refl true) (Eq.refl true) (Eq.refl true))); k_whole)
  k_with "m:eval BinOp" => (k_here; k_dflt (first | ((with_reducible show wpAny _ _ (eval (.BinOp (.Name _ _) _ (.Name _ _) _) _) _ _ _); refine bNN (q := ?_)) | ((with_reducible show wpAny _ _ (eval (.BinOp (.Name _ _) _ (.Constant (.int _) _ _) _) _) _ _ _); refine bNC (q := ?_)) | ((with_reducible show wpAny _ _ (eval (.BinOp (.Name _ _) _ _ _) _) _ _ _); refine bN (q := ?_))); k_whole)
  k_with "m:isTrue Compare" => (k_here; k_dflt (first | ((with_reducible show wpAny _ _ (isTrue (.Compare (.Name _ _) [_] [(.Name _ _)] _) _ _) _ _ _); refine cNN (q := ?_)) | ((with_reducible show wpAny _ _ (isTrue (.Compare (.Name _ _) [_] [(.Constant (.int _) _ _)] _) _ _) _ _ _); refine cNC (q := ?_)) | ((with_reducible show wpAny _ _ (isTrue (.Compare (.Name _ _) [_] [_] _) _ _) _ _ _); refine cN (q := ?_))); k_whole)
  k_with "m:eval Subscript" => (k_here; k_dflt (first | ((with_reducible show wpAny _ _ (eval (.Subscript (.Name _ _) (.Name _ _) _) _) _ _ _); refine gNN (q := ?_)) | ((with_reducible show wpAny _ _ (eval (.Subscript (.Name _ _) (.Constant (.int _) _ _) _) _) _ _ _); refine gNC (q := ?_)) | ((with_reducible show wpAny _ _ (eval (.Subscript (.Name _ _) _ _) _) _ _ _); refine gN (q := ?_))); k_whole)
  trivial
open PySem.Challenge
set_option maxRecDepth 100000
set_option maxHeartbeats 4000000
theorem kw_L7_1 : True := by
  k_with "m:call ref" => (k_here; (with_reducible show wpAny _ _ (call (Value.ref 164) _) _ _ _); k_dflt (refine' is_word_sign_c ?hc0 _ _ _ _ _ _ _ _ _ _ _ _ _ _ _ _ _ ?k1 ?k2 ?k3 ?k4 ?k5 ?kK ?kd ?ku ?_); k_extra "K5"; (case kK => first | exact rfl | assumption); (case hc0 => k_extra "S"); (case kd => (k_extra "D")); (case ku => (k_extra "U")); intro t9 h9 tk9 F9 N9; (try dsimp only); (skip); (all_goals (try k_fold)))
  trivial
noncomputable def isW (c : Str) (k : Nat) : Bool := isWordF ⟨#[c.cps.getD k 0]⟩
noncomputable def backF (c : Str) : Nat → Int
  | 0 => -1
  | k + 1 => if isW c k then backF c k else k
theorem item_at {c : Str} {k : Int} (h0 : 0 ≤ k) (h1 : k < c.length) : Txt.item c k = ⟨#[c.cps.getD k.toNat 0]⟩ := by
  have h1' : k.toNat < c.cps.size := by show k.toNat < c.length; omega
  have : Txt.charAt c k = some (c.cps.getD k.toNat 0) := by
    unfold Txt.charAt
    have e : seqIndex? k c.length = some k.toNat := by
      unfold seqIndex?
      dsimp only
      rw [if_neg (show ¬ k < 0 by omega), if_pos (by simp only [Bool.and_eq_true, decide_eq_true_eq]; omega)]
    rw [e]
    show c.cps[k.toNat]? = _
    rw [Array.getElem?_eq_getElem h1', Array.getD_eq_getD_getElem?, Array.getElem?_eq_getElem h1']
    rfl
  unfold Txt.item
  rw [this]
  rfl
theorem back_step {c : Str} {k i : Int} (e : backF c (k + 1).toNat = backF c (i + 1).toNat) (hw : isWordF (Txt.item c k) = true) (h0 : 0 ≤ k) (h1 : k < c.length) : backF c (k - 1 + 1).toNat = backF c (i + 1).toNat := by
  rw [← e]
  have : (k + 1).toNat = k.toNat + 1 := by omega
  rw [this]
  rw [item_at h0 h1] at hw
  show _ = if isW c k.toNat = true then _ else _
  rw [if_pos (show isW c k.toNat = true from hw)]
  congr 1
  omega
theorem back_end1 {c : Str} {k i : Int} (e : backF c (k + 1).toNat = backF c (i + 1).toNat) (hw : isWordF (Txt.item c k) = false) (h0 : 0 ≤ k) (h1 : k < c.length) : backF c (i + 1).toNat = k := by
  rw [← e]
  have : (k + 1).toNat = k.toNat + 1 := by omega
  rw [this]
  rw [item_at h0 h1] at hw
  show (if isW c k.toNat = true then _ else _) = _
  rw [if_neg (show ¬ isW c k.toNat = true from by rw [show isW c k.toNat = false from hw]; decide)]
  omega
theorem back_end2 {c : Str} {k i : Int} (e : backF c (k + 1).toNat = backF c (i + 1).toNat) (h0 : ¬ 0 ≤ k) (h1 : -1 ≤ k) : backF c (i + 1).toNat = k := by
  rw [← e]
  have : (k + 1).toNat = 0 := by omega
  rw [this]
  show (-1 : Int) = k
  omega
noncomputable def wsJ (n i : Int) : Int := if n ≤ i then n - 1 else i
noncomputable def wsR (c : Str) (j : Int) : Int := if j ≤ 0 then 0 else if backF c (j + 1).toNat = j then backF c (j + 1).toNat else backF c (j + 1).toNat + 1
noncomputable def wstartF (c : Str) (i : Int) : Int := wsR c (wsJ c.length i)
theorem kw_L7_2 : True := by
  k_with "m:execs cons" => (k_here; (with_reducible show wpAny _ _ (execs (Stmt.If _ _ _ ⟨169, _, _, _⟩ :: _) _) _ _ _); k_dflt (refine' join1 (Str.ofString "index") (IntV fun j => j = wsJ c.length i ∧ j < c.length) ?F ?N ?_ ?_); (case F => k_asm); (case N => k_asm); (try dsimp only); rotate_left; (intro v9 h9 tk9 F9 N9 hφ9); k_dflt (obtain ⟨j9, t9, e9, hj9, hk9⟩ := hφ9); (subst e9); (try dsimp only); rotate_left)
  k_with "m:execs cons" => (k_here; (with_reducible show wpAny _ _ (execs (Stmt.While _ _ _ ⟨174, _, _, _⟩ :: _) _) _ _ _); k_dflt (refine' join1 (Str.ofString "at") (IntV fun a => -1 ≤ a ∧ a ≤ j9 ∧ backF c (j9 + 1).toNat = a) ?F ?N ?_ ?_); (case F => k_asm); (case N => k_asm); (try dsimp only); rotate_left; (intro v9 h9 tk9 F9 N9 hφ9); k_dflt (obtain ⟨a9, t9, e9, ha9, ha9', ha9''⟩ := hφ9); (subst e9); (try dsimp only); rotate_left)
  trivial
theorem word_start_c {w mean mg mb} {news : List (Addr × Obj)} {c : Str} {t u : Tok} {i : Int} (hc : c.length ≤ 1000) : Cb 8 w mean mg mb 199 news [.str c t, .int i u] (fun t => .int (wstartF c i) t) := by
  k_with "exec While" => k_while_given ["index"] (fun index script at' => -1 ≤ at' ∧ at' ≤ index ∧ backF c (at' + 1).toNat = backF c (index + 1).toNat) (fun index script at' => (at' + 1).toNat) "at"
  k_with "state" => exact ⟨by omega, by omega, back_step (by assumption) (by assumption) (by omega) (by omega)⟩
  ((try unfold Cb); unfold CbG; k_fill; (try dsimp only [RetV, RetT]); intros; rename_i hret; refine wpAny_call ?_; k_dflt cell_enter; (refine letA ?_); (intro kA); (rename Fr _ _ _ _ => sF); (first | replace sF : Fr _ _ _ (fun y => List.lookup y [(Str.ofString "index", _), (Str.ofString "text", _)]) := sF | replace sF : Fr _ _ _ (fun y => List.lookup y [(Str.ofString "text", _), (Str.ofString "index", _)]) := sF); (generalize Shared.toks _ + List.length _ = tk0); k_steps)
  all_goals (try dsimp only)
  all_goals first
    | exact jn1_s (x := Str.ofString "index") (by k_asm) (by (k_extra "dr")) (intV ⟨(if_pos (by with_reducible assumption)).symm, by omega⟩)
    | exact jn1_k (x := Str.ofString "index") (by k_asm) rfl (by (k_extra "dr")) (intV ⟨(if_neg (by with_reducible assumption)).symm, by omega⟩)
    | (refine jn1_s (x := Str.ofString "at") (by k_asm) (by (k_extra "dr")) (intV ⟨by omega, by omega, ?_⟩)
       first | exact back_end1 (by with_reducible assumption) (by with_reducible assumption) (by omega) (by omega) | exact back_end2 (by with_reducible assumption) (by omega) (by omega))
    | ((refine cb_retI hret ?_ (by k_asm) (by k_extra "dr"))
       refine Eq.trans ?_ (congrArg (wsR c) hj9)
       first
         | exact (if_pos (by with_reducible assumption)).symm
         | exact ((if_neg (by with_reducible assumption)).trans ((if_pos (ha9''.trans (by omega))).trans ha9'')).symm
         | exact ((if_neg (by with_reducible assumption)).trans ((if_neg (fun q => by omega)).trans (congrArg (· + 1) ha9''))).symm)
noncomputable def fwdP (p : Nat → Bool) (n : Nat) : Nat → Int
  | 0 => n
  | r + 1 => if p (n - (r + 1)) then fwdP p n r else ((n - (r + 1) : Nat) : Int)
theorem fwd_step {p : Nat → Bool} {n : Nat} {k i : Int} (e : fwdP p n (n - k).toNat = fwdP p n (n - i).toNat) (hw : p k.toNat = true) (h0 : 0 ≤ k) (h1 : k < n) : fwdP p n (n - (k + 1)).toNat = fwdP p n (n - i).toNat := by
  rw [← e]
  have : ((n : Int) - k).toNat = ((n : Int) - (k + 1)).toNat + 1 := by omega
  rw [this]
  have e2 : n - (((n : Int) - (k + 1)).toNat + 1) = k.toNat := by omega
  show _ = if p (n - (_ + 1)) = true then _ else _
  rw [e2, if_pos hw]
theorem fwd_end1 {p : Nat → Bool} {n : Nat} {k i : Int} (e : fwdP p n (n - k).toNat = fwdP p n (n - i).toNat) (hw : p k.toNat = false) (h0 : 0 ≤ k) (h1 : k < n) : fwdP p n (n - i).toNat = k := by
  rw [← e]
  have : ((n : Int) - k).toNat = ((n : Int) - (k + 1)).toNat + 1 := by omega
  rw [this]
  have e2 : n - (((n : Int) - (k + 1)).toNat + 1) = k.toNat := by omega
  show (if p (n - (_ + 1)) = true then _ else _) = _
  rw [e2, if_neg (by rw [hw]; decide)]
  omega
theorem fwd_end2 {p : Nat → Bool} {n : Nat} {k i : Int} (e : fwdP p n (n - k).toNat = fwdP p n (n - i).toNat) (h0 : ¬ k < n) (h1 : k ≤ n) : fwdP p n (n - i).toNat = k := by
  rw [← e]
  have : ((n : Int) - k).toNat = 0 := by omega
  rw [this]
  show (n : Int) = k
  omega
theorem isW_item {c : Str} {k : Int} {b : Bool} (h : isWordF (Txt.item c k) = b) (h0 : 0 ≤ k) (h1 : k < c.length) : isW c k.toNat = b := by
  rw [item_at h0 h1] at h
  exact h
noncomputable def weJ (i : Int) : Int := if i < 0 then 0 else i
noncomputable def weR (c : Str) (j : Int) : Int := if c.length ≤ j then c.length else if fwdP (isW c) c.length (c.length - j).toNat = j then fwdP (isW c) c.length (c.length - j).toNat + 1 else fwdP (isW c) c.length (c.length - j).toNat
noncomputable def wendF (c : Str) (i : Int) : Int := weR c (weJ i)
theorem kw_L7_3 : True := by
  k_with "m:execs cons" => (k_here; (with_reducible show wpAny _ _ (execs (Stmt.If _ _ _ ⟨180, _, _, _⟩ :: _) _) _ _ _); k_dflt (refine' join1 (Str.ofString "index") (IntV fun j => j = weJ i ∧ 0 ≤ j) ?F ?N ?_ ?_); (case F => k_asm); (case N => k_asm); (try dsimp only); rotate_left; (intro v9 h9 tk9 F9 N9 hφ9); k_dflt (obtain ⟨j9, t9, e9, hj9, hk9⟩ := hφ9); (subst e9); (try dsimp only); rotate_left)
  k_with "m:execs cons" => (k_here; (with_reducible show wpAny _ _ (execs (Stmt.While _ _ _ ⟨185, _, _, _⟩ :: _) _) _ _ _); k_dflt (refine' join1 (Str.ofString "at") (IntV fun a => 0 ≤ a ∧ a ≤ c.length ∧ j9 ≤ a ∧ fwdP (isW c) c.length (c.length - j9).toNat = a) ?F ?N ?_ ?_); (case F => k_asm); (case N => k_asm); (try dsimp only); rotate_left; (intro v9 h9 tk9 F9 N9 hφ9); k_dflt (obtain ⟨a9, t9, e9, ha9, ha9', hb9, ha9''⟩ := hφ9); (subst e9); (try dsimp only); rotate_left)
  trivial
theorem word_end_c {w mean mg mb} {news : List (Addr × Obj)} {c : Str} {t u : Tok} {i : Int} (hc : c.length ≤ 1000) : Cb 8 w mean mg mb 206 news [.str c t, .int i u] (fun t => .int (wendF c i) t) := by
  k_with "exec While" => k_while_given ["index"] (fun index script at' => 0 ≤ at' ∧ index ≤ at' ∧ at' ≤ c.length ∧ fwdP (isW c) c.length (c.length - at').toNat = fwdP (isW c) c.length (c.length - index).toNat) (fun index script at' => (c.length - at').toNat) "at"
  k_with "state" => exact ⟨by omega, by omega, by omega, fwd_step (by assumption) (isW_item (by assumption) (by omega) (by omega)) (by omega) (by omega)⟩
  ((try unfold Cb); unfold CbG; k_fill; (try dsimp only [RetV, RetT]); intros; rename_i hret; refine wpAny_call ?_; k_dflt cell_enter; (refine letA ?_); (intro kA); (rename Fr _ _ _ _ => sF); (first | replace sF : Fr _ _ _ (fun y => List.lookup y [(Str.ofString "index", _), (Str.ofString "text", _)]) := sF | replace sF : Fr _ _ _ (fun y => List.lookup y [(Str.ofString "text", _), (Str.ofString "index", _)]) := sF); (generalize Shared.toks _ + List.length _ = tk0); k_steps)
  all_goals (try dsimp only)
  all_goals first
    | exact jn1_s (x := Str.ofString "index") (by k_asm) (by (k_extra "dr")) (intV ⟨(if_pos (by with_reducible assumption)).symm, by omega⟩)
    | exact jn1_k (x := Str.ofString "index") (by k_asm) rfl (by (k_extra "dr")) (intV ⟨(if_neg (by with_reducible assumption)).symm, by omega⟩)
    | (refine jn1_s (x := Str.ofString "at") (by k_asm) (by (k_extra "dr")) (intV ⟨by omega, by omega, by omega, ?_⟩)
       first | exact fwd_end1 (by with_reducible assumption) (isW_item (by with_reducible assumption) (by omega) (by omega)) (by omega) (by omega) | exact fwd_end2 (by with_reducible assumption) (by omega) (by omega))
    | ((refine cb_retI hret ?_ (by k_asm) (by k_extra "dr"))
       refine Eq.trans ?_ (congrArg (weR c) hj9)
       first
         | exact (if_pos (by with_reducible assumption)).symm
         | exact ((if_neg (by with_reducible assumption)).trans ((if_pos (ha9''.trans (by omega))).trans (congrArg (· + 1) ha9''))).symm
         | exact ((if_neg (by with_reducible assumption)).trans ((if_neg (fun q => by omega)).trans ha9'')).symm)
end

section
-- L2
open PySem PySem.W PyProof.Rows
theorem kwn_L2 : True := by
  k_with_none
  w_top off
  trivial
theorem kwo_L2 : True := by
  k_with "m:omega" => first | with_reducible assumption | decide | with_reducible exact Int.le_refl _ | with_reducible exact Nat.le_refl _ | with_reducible exact rm_u2 | with_reducible exact rm_d2 | with_reducible exact rm_u1 | with_reducible exact rm_d1 | with_reducible exact rm_u0 | with_reducible exact rm_d0 | with_reducible exact n_up | with_reducible exact q_o | with_reducible exact q_c1 | with_reducible exact q_c2 | with_reducible exact q_c3 | with_reducible exact q_c4 | with_reducible exact q_n1 | with_reducible exact q_n2 | with_reducible exact q_n3 | with_reducible exact q_l1 | with_reducible exact q_l2 | with_reducible exact q_t1 | with_reducible exact q_t2 | with_reducible exact q_t3 | with_reducible exact q_t4 | with_reducible exact q_t5 | ((with_reducible show _ ≠ _); first | k_extra "P" | (refine Ne.symm ?_; k_extra "P") | (refine Nat.ne_of_lt ?_; k_extra "P") | (refine Nat.ne_of_gt ?_; k_extra "P"))
  k_with "P" => first | with_reducible assumption | with_reducible exact And.left (by with_reducible assumption) | with_reducible exact And.right (by with_reducible assumption) | with_reducible exact q_r (by with_reducible assumption) | with_reducible exact q_s (by with_reducible assumption) | with_reducible exact q_t (by with_reducible assumption) | with_reducible exact q_u (by with_reducible assumption)
  k_with "dr" => first | with_reducible assumption | with_reducible exact (News.tl (by with_reducible assumption)) | with_reducible exact (News.tl (News.tl (by with_reducible assumption))) | with_reducible exact (News.tl (News.tl (News.tl (by with_reducible assumption)))) | with_reducible exact (News.tl (News.tl (News.tl (News.tl (by with_reducible assumption))))) | with_reducible exact (News.tl (News.tl (News.tl (News.tl (News.tl (by with_reducible assumption)))))) | with_reducible exact (News.tl (News.tl (News.tl (News.tl (News.tl (News.tl (by with_reducible assumption))))))) | with_reducible exact News.apl (by with_reducible assumption) | with_reducible exact News.apl (News.tl (by with_reducible assumption)) | with_reducible exact News.apl (News.tl (News.tl (by with_reducible assumption))) | with_reducible exact News.apl (News.tl (News.tl (News.tl (by with_reducible assumption)))) | with_reducible exact News.apl (News.tl (News.tl (News.tl (News.tl (by with_reducible assumption)))))
  k_with "m:eval Call" => (k_here; k_dflt (first | ((with_reducible show wpAny _ _ (eval (.Call (.Name (Str.ofString "len") _) [.Name _ _] [] _) _) _ _ _); refine len_nm (q := ?_)) | ((with_reducible show wpAny _ _ (eval (.Call (.Name (Str.ofString "len") _) [_] [] _) _) _ _ _); refine callLen (h := ?_)) | ((with_reducible show wpAny _ _ (eval (.Call (.Name (Str.ofString "str") _) [_] [] _) _) _ _ _); refine callStr (h := ?_)) | ((with_reducible show wpAny _ _ (eval (.Call (.Name _ _) [_] [] _) _) _ _ _); refine callK1 (h := ?_)) | ((with_reducible show wpAny _ _ (eval (.Call (.Name _ _) [_, _] [] _) _) _ _ _); refine callK2 (h := ?_)) | ((with_reducible show wpAny _ _ (eval (.Call (.Name _ _) [_, _, _] [] _) _) _ _ _); refine callK3 (h := ?_))); k_whole)
  k_with "m:eval Constant int" => (k_here; k_dflt (refine cInt ?_); k_whole)
  k_with "m:eval Constant str" => (k_here; k_dflt (refine cStr ?_); k_whole)
  k_with "m:storeName" => (k_here; k_dflt (refine storeS (q := ?_)); k_whole; intro h' F' N'; (try k_sweep))
  k_with "m:binaryOp Add int int" => (k_here; k_dflt (refine addS ?_); k_whole)
  k_with "m:binaryOp Sub int int" => (k_here; k_dflt (refine subS ?_); k_whole)
  k_with "m:call builtin:len" => (k_here; (with_reducible show wpAny _ _ (call _ [.str _ _]) _ _ _); k_dflt (refine lenS (q := ?_)); k_whole)
  k_with "m:newList" => (k_here; k_dflt (refine lstS (q := ?_) (by first | exact Nat.le_of_ble_eq_true rfl | size_fits)); k_whole; intro l' h' F' N' l1; (try k_lt l1); (try k_sweep))
  k_with "m:execs cons" => (k_here; k_dflt (first | ((with_reducible show wpAny _ _ (execs (.Assign [.Name _ _] _ _ :: _) _) _ _ _); refine sAsg ?_ (Eq.refl true)) | ((with_reducible show wpAny _ _ (execs (.Return (some _) _ :: _) _) _ _ _); refine sRet ?_) | ((with_reducible show wpAny _ _ (execs (.If _ [.Return (some _) _] [] _ :: _) _) _ _ _); refine sIfR ?_) | ((with_reducible show wpAny _ _ (execs (.If _ _ [] _ :: _) _) _ _ _); refine sIf1 ?_)); k_whole)
  k_with "m:eval Tuple" => (k_here; first | ((with_reducible show wpAny _ _ (eval (.Tuple [.Constant (.str _) _ _, .Constant (.str _) _ _] _ _) _) _ _ _); k_dflt (refine tupSS (q := ?_)); k_whole; intro D' h' F' N' l1; (try k_lt l1)) | ((with_reducible show wpAny _ _ (eval (.Tuple [_, _] _ _) _) _ _ _); k_dflt (refine tup2 ?_ (Eq.refl true) (Eq.refl true)); k_whole))
  k_with "m:eval List" => (k_here; k_dflt (first | ((with_reducible show wpAny _ _ (eval (.List [_] _) _) _ _ _); refine lst1 ?_ (Eq.refl true)) | ((with_reducible show wpAny _ _ (eval (.List [_, _] _) _) _ _ _); refine lst2 ?_ (Eq.refl true) (Eq.refl true)) | ((with_reducible show wpAny _ _ (eval (.List [_, _, _] _) _) _ _ _); refine lst3 ?_ (Eq.refl true) (Eq.refl true) (Eq.refl true)) | ((with_reducible show wpAny _ _ (eval (.List [_, _, _, _] _) _) _ _ _); refine lst4 ?_ (Eq.refl true) (Eq.refl true) (Eq.refl true) (Eq.refl true))); k_whole)
  k_with "m:eval BinOp" => (k_here; k_dflt (first | ((with_reducible show wpAny _ _ (eval (.BinOp (.Name _ _) _ (.Name _ _) _) _) _ _ _); refine bNN (q := ?_)) | ((with_reducible show wpAny _ _ (eval (.BinOp (.Name _ _) _ (.Constant (.int _) _ _) _) _) _ _ _); refine bNC (q := ?_)) | ((with_reducible show wpAny _ _ (eval (.BinOp (.Name _ _) _ _ _) _) _ _ _); refine bN (q := ?_))); k_whole)
  k_with "m:isTrue Compare" => (k_here; k_dflt (first | ((with_reducible show wpAny _ _ (isTrue (.Compare (.Name _ _) [_] [(.Name _ _)] _) _ _) _ _ _); refine cNN (q := ?_)) | ((with_reducible show wpAny _ _ (isTrue (.Compare (.Name _ _) [_] [(.Constant (.int _) _ _)] _) _ _) _ _ _); refine cNC (q := ?_)) | ((with_reducible show wpAny _ _ (isTrue (.Compare (.Name _ _) [_] [_] _) _ _) _ _ _); refine cN (q := ?_))); k_whole)
  k_with "m:eval Subscript" => (k_here; k_dflt (first | ((with_reducible show wpAny _ _ (eval (.Subscript (.Name _ _) (.Name _ _) _) _) _ _ _); refine gNN (q := ?_)) | ((with_reducible show wpAny _ _ (eval (.Subscript (.Name _ _) (.Constant (.int _) _ _) _) _) _ _ _); refine gNC (q := ?_)) | ((with_reducible show wpAny _ _ (eval (.Subscript (.Name _ _) _ _) _) _ _ _); refine gN (q := ?_))); k_whole)
  trivial
open PySem.Challenge
set_option maxRecDepth 100000
set_option maxHeartbeats 4000000
noncomputable def oneUpperF (c : Str) : Str := if (Txt.upper c).length = 1 then Txt.upper c else c
theorem one_upper_c {w mean mg mb} {news : List (Addr × Obj)} {c : Str} {t : Tok} (hc : c.length ≤ 100000) : Cb 2 w mean mg mb 143 news [.str c t] (fun t => .str (oneUpperF c) t) := by
  ((try unfold Cb); unfold CbG; k_fill; (try dsimp only [RetV, RetT]); intros; rename_i hret; refine wpAny_call ?_; k_dflt cell_enter; (refine letA ?_); (intro kA); (rename Fr _ _ _ _ => sF); (first | replace sF : Fr _ _ _ (fun y => List.lookup y [(Str.ofString "c", _)]) := sF | replace sF : Fr _ _ _ (fun y => List.lookup y [(Str.ofString "c", _)]) := sF); (generalize Shared.toks _ + List.length _ = tk0); k_steps)
  all_goals (refine cb_retS hret ?_ (by k_asm) (by k_extra "dr"))
  all_goals (simp only [oneUpperF]; split <;> first | rfl | omega)
noncomputable def baseOfF (c : Str) : Int := if [Str.ofString "x", Str.ofString "X"].any (fun x => x == c) then 16 else if [Str.ofString "o", Str.ofString "O"].any (fun x => x == c) then 8
  else if [Str.ofString "b", Str.ofString "B"].any (fun x => x == c) then 2 else if [Str.ofString "d", Str.ofString "D"].any (fun x => x == c) then 10 else 0
theorem base_of_c {w mean mg mb} {news : List (Addr × Obj)} {c : Str} {t : Tok} (hc : c.length ≤ 100000) : Cb 2 w mean mg mb 87 news [.str c t] (fun t => .int (baseOfF c) t) := by
  ((try unfold Cb); unfold CbG; k_fill; (try dsimp only [RetV, RetT]); intros; rename_i hret; refine wpAny_call ?_; k_dflt cell_enter; (refine letA ?_); (intro kA); (rename Fr _ _ _ _ => sF); (first | replace sF : Fr _ _ _ (fun y => List.lookup y [(Str.ofString "mark", _)]) := sF | replace sF : Fr _ _ _ (fun y => List.lookup y [(Str.ofString "mark", _)]) := sF); (generalize Shared.toks _ + List.length _ = tk0); k_steps)
  all_goals (refine cb_retI hret ?_ (by k_asm) (by k_extra "dr"))
  all_goals simp [baseOfF, *]
theorem text_of_c {w mean mg mb} {news : List (Addr × Obj)} {c : Bool} : Cb 2 w mean mg mb 108 news [.bool c] (fun t => .str (if c then Str.ofString "1" else Str.ofString "0") t) := by
  ((try unfold Cb); unfold CbG; k_fill; (try dsimp only [RetV, RetT]); intros; rename_i hret; refine wpAny_call ?_; k_dflt cell_enter; (refine letA ?_); (intro kA); (rename Fr _ _ _ _ => sF); (first | replace sF : Fr _ _ _ (fun y => List.lookup y [(Str.ofString "is_so", _)]) := sF | replace sF : Fr _ _ _ (fun y => List.lookup y [(Str.ofString "is_so", _)]) := sF); (generalize Shared.toks _ + List.length _ = tk0); k_steps)
  all_goals (refine cb_retS hret ?_ (by k_asm) (by k_extra "dr"))
  all_goals simp [*]
end

section
-- L8c
open PySem PySem.W PyProof.Rows
theorem kwn_L8c : True := by
  k_with_none
  w_top off
  trivial
theorem kwo_L8c : True := by
  k_with "m:omega" => first | with_reducible assumption | decide | with_reducible exact Int.le_refl _ | with_reducible exact Nat.le_refl _ | with_reducible exact rm_u2 | with_reducible exact rm_d2 | with_reducible exact rm_u1 | with_reducible exact rm_d1 | with_reducible exact rm_u0 | with_reducible exact rm_d0 | with_reducible exact n_up | with_reducible exact q_o | with_reducible exact q_c1 | with_reducible exact q_c2 | with_reducible exact q_c3 | with_reducible exact q_c4 | with_reducible exact q_n1 | with_reducible exact q_n2 | with_reducible exact q_n3 | with_reducible exact q_l1 | with_reducible exact q_l2 | with_reducible exact q_t1 | with_reducible exact q_t2 | with_reducible exact q_t3 | with_reducible exact q_t4 | with_reducible exact q_t5 | ((with_reducible show _ ≠ _); first | k_extra "P" | (refine Ne.symm ?_; k_extra "P") | (refine Nat.ne_of_lt ?_; k_extra "P") | (refine Nat.ne_of_gt ?_; k_extra "P"))
  k_with "P" => first | with_reducible assumption | with_reducible exact And.left (by with_reducible assumption) | with_reducible exact And.right (by with_reducible assumption) | with_reducible exact q_r (by with_reducible assumption) | with_reducible exact q_s (by with_reducible assumption) | with_reducible exact q_t (by with_reducible assumption) | with_reducible exact q_u (by with_reducible assumption)
  k_with "D" => ((try simp +zetaDelta only [depth_in1, depth_deeper]); (try dsimp only [ktrTop]); omega)
  k_with "U" => ((try simp +zetaDelta only [units_in1, units_deeper, Around.mark_units]); (try dsimp only [ktrTop]); omega)
  k_with "K5" => ((case k1 => k_asm); (case k2 => k_asm); (case k3 => k_asm); (case k4 => k_asm); (case k5 => k_asm))
  k_with "S" => first | with_reducible assumption | exact .inl rfl | exact .inr (.inl rfl) | exact .inr (.inr rfl) | exact .inr rfl | omega | k_mem | fail | (simp only [PySem.Str.length_append, KOpn.len_one]; omega) | assumption
  k_with "dr" => first | with_reducible assumption | with_reducible exact (News.tl (by with_reducible assumption)) | with_reducible exact (News.tl (News.tl (by with_reducible assumption))) | with_reducible exact (News.tl (News.tl (News.tl (by with_reducible assumption)))) | with_reducible exact (News.tl (News.tl (News.tl (News.tl (by with_reducible assumption))))) | with_reducible exact (News.tl (News.tl (News.tl (News.tl (News.tl (by with_reducible assumption)))))) | with_reducible exact (News.tl (News.tl (News.tl (News.tl (News.tl (News.tl (by with_reducible assumption))))))) | with_reducible exact News.apl (by with_reducible assumption) | with_reducible exact News.apl (News.tl (by with_reducible assumption)) | with_reducible exact News.apl (News.tl (News.tl (by with_reducible assumption))) | with_reducible exact News.apl (News.tl (News.tl (News.tl (by with_reducible assumption)))) | with_reducible exact News.apl (News.tl (News.tl (News.tl (News.tl (by with_reducible assumption)))))
  k_with "m:eval Call" => (k_here; k_dflt (first | ((with_reducible show wpAny _ _ (eval (.Call (.Name (Str.ofString "len") _) [.Name _ _] [] _) _) _ _ _); refine len_nm (q := ?_)) | ((with_reducible show wpAny _ _ (eval (.Call (.Name (Str.ofString "len") _) [_] [] _) _) _ _ _); refine callLen (h := ?_)) | ((with_reducible show wpAny _ _ (eval (.Call (.Name (Str.ofString "str") _) [_] [] _) _) _ _ _); refine callStr (h := ?_)) | ((with_reducible show wpAny _ _ (eval (.Call (.Name _ _) [_] [] _) _) _ _ _); refine callK1 (h := ?_)) | ((with_reducible show wpAny _ _ (eval (.Call (.Name _ _) [_, _] [] _) _) _ _ _); refine callK2 (h := ?_)) | ((with_reducible show wpAny _ _ (eval (.Call (.Name _ _) [_, _, _] [] _) _) _ _ _); refine callK3 (h := ?_))); k_whole)
  k_with "m:eval Constant int" => (k_here; k_dflt (refine cInt ?_); k_whole)
  k_with "m:eval Constant str" => (k_here; k_dflt (refine cStr ?_); k_whole)
  k_with "m:storeName" => (k_here; k_dflt (refine storeS (q := ?_)); k_whole; intro h' F' N'; (try k_sweep))
  k_with "m:binaryOp Add int int" => (k_here; k_dflt (refine addS ?_); k_whole)
  k_with "m:binaryOp Sub int int" => (k_here; k_dflt (refine subS ?_); k_whole)
  k_with "m:call builtin:len" => (k_here; (with_reducible show wpAny _ _ (call _ [.str _ _]) _ _ _); k_dflt (refine lenS (q := ?_)); k_whole)
  k_with "m:newList" => (k_here; k_dflt (refine lstS (q := ?_) (by first | exact Nat.le_of_ble_eq_true rfl | size_fits)); k_whole; intro l' h' F' N' l1; (try k_lt l1); (try k_sweep))
  k_with "m:execs cons" => (k_here; k_dflt (first | ((with_reducible show wpAny _ _ (execs (.Assign [.Name _ _] _ _ :: _) _) _ _ _); refine sAsg ?_ (Eq.refl true)) | ((with_reducible show wpAny _ _ (execs (.Return (some _) _ :: _) _) _ _ _); refine sRet ?_) | ((with_reducible show wpAny _ _ (execs (.If _ [.Return (some _) _] [] _ :: _) _) _ _ _); refine sIfR ?_) | ((with_reducible show wpAny _ _ (execs (.If _ _ [] _ :: _) _) _ _ _); refine sIf1 ?_)); k_whole)
  k_with "m:eval Tuple" => (k_here; first | ((with_reducible show wpAny _ _ (eval (.Tuple [.Constant (.str _) _ _, .Constant (.str _) _ _] _ _) _) _ _ _); k_dflt (refine tupSS (q := ?_)); k_whole; intro D' h' F' N' l1; (try k_lt l1)) | ((with_reducible show wpAny _ _ (eval (.Tuple [_, _] _ _) _) _ _ _); k_dflt (refine tup2 ?_ (Eq.refl true) (Eq.refl true)); k_whole))
  k_with "m:eval List" => (k_here; k_dflt (first | ((with_reducible show wpAny _ _ (eval (.List [_] _) _) _ _ _); refine lst1 ?_ (Eq.refl true)) | ((with_reducible show wpAny _ _ (eval (.List [_, _] _) _) _ _ _); refine lst2 ?_ (Eq.refl true) (Eq.refl true)) | ((with_reducible show wpAny _ _ (eval (.List [_, _, _] _) _) _ _ _); refine lst3 ?_ (Eq.refl true) (Eq.refl true) (Eq.refl true)) | ((with_reducible show wpAny _ _ (eval (.List [_, _, _, _] _) _) _ _ _); refine lst4 ?_ (Eq.refl true) (Eq.refl true) (Eq.refl true) (Eq.refl true))); k_whole)
  k_with "m:eval BinOp" => (k_here; k_dflt (first | ((with_reducible show wpAny _ _ (eval (.BinOp (.Name _ _) _ (.Name _ _) _) _) _ _ _); refine bNN (q := ?_)) | ((with_reducible show wpAny _ _ (eval (.BinOp (.Name _ _) _ (.Constant (.int _) _ _) _) _) _ _ _); refine bNC (q := ?_)) | ((with_reducible show wpAny _ _ (eval (.BinOp (.Name _ _) _ _ _) _) _ _ _); refine bN (q := ?_))); k_whole)
  k_with "m:isTrue Compare" => (k_here; k_dflt (first | ((with_reducible show wpAny _ _ (isTrue (.Compare (.Name _ _) [_] [(.Name _ _)] _) _ _) _ _ _); refine cNN (q := ?_)) | ((with_reducible show wpAny _ _ (isTrue (.Compare (.Name _ _) [_] [(.Constant (.int _) _ _)] _) _ _) _ _ _); refine cNC (q := ?_)) | ((with_reducible show wpAny _ _ (isTrue (.Compare (.Name _ _) [_] [_] _) _ _) _ _ _); refine cN (q := ?_))); k_whole)
  k_with "m:eval Subscript" => (k_here; k_dflt (first | ((with_reducible show wpAny _ _ (eval (.Subscript (.Name _ _) (.Name _ _) _) _) _ _ _); refine gNN (q := ?_)) | ((with_reducible show wpAny _ _ (eval (.Subscript (.Name _ _) (.Constant (.int _) _ _) _) _) _ _ _); refine gNC (q := ?_)) | ((with_reducible show wpAny _ _ (eval (.Subscript (.Name _ _) _ _) _) _ _ _); refine gN (q := ?_))); k_whole)
  trivial
open PySem.Challenge
set_option maxRecDepth 100000
set_option maxHeartbeats 4000000

theorem kw_L8c_1 : True := by
  k_with "m:call ref" => (k_here; (with_reducible show wpAny _ _ (call (Value.ref 66) _) _ _ _); k_dflt (refine' is_blank_c ?hc0 _ _ _ _ _ _ _ _ _ _ _ _ _ _ _ _ _ ?k1 ?k2 ?k3 ?k4 ?k5 ?kK ?kd ?ku ?_); k_extra "K5"; (case kK => first | exact rfl | assumption); (case hc0 => k_extra "S"); (case kd => (k_extra "D")); (case ku => (k_extra "U")); intro t9 h9 tk9 F9 N9; (try dsimp only); (skip); (all_goals (try k_fold)))
  k_with "m:call ref" => (k_here; (with_reducible show wpAny _ _ (call (Value.ref 87) _) _ _ _); k_dflt (refine' base_of_c ?hc0 _ _ _ _ _ _ _ _ _ _ _ _ _ _ _ _ _ ?k1 ?k2 ?k3 ?k4 ?k5 ?kK ?kd ?ku ?_); k_extra "K5"; (case kK => first | exact rfl | assumption); (case hc0 => k_extra "S"); (case kd => (k_extra "D")); (case ku => (k_extra "U")); intro t9 h9 tk9 F9 N9; (try dsimp only); (skip); (all_goals (try k_fold)))
  trivial
theorem base_rng {c : Str} (h : 0 < baseOfF c) : 2 ≤ baseOfF c ∧ baseOfF c ≤ 16 := by
  unfold baseOfF at *
  (repeat' split) <;> first | omega | (simp_all)
theorem kw_L8c_2 : True := by
  k_with "m:call ref" => (k_here; (with_reducible show wpAny _ _ (call (Value.ref 80) _) _ _ _); k_dflt (refine' digits_value_c ?hc0 ?hc1 ?hc2 _ _ _ _ _ _ _ _ _ _ _ _ _ _ _ _ _ ?k1 ?k2 ?k3 ?k4 ?k5 ?kK ?kd ?ku ?_); k_extra "K5"; (case kK => first | exact rfl | assumption); (case hc0 => first | exact (base_rng (by assumption)).1 | exact (base_rng (by assumption)).2 | (k_extra "S")); (case hc1 => first | exact (base_rng (by assumption)).1 | exact (base_rng (by assumption)).2 | (k_extra "S")); (case hc2 => first | exact (base_rng (by assumption)).1 | exact (base_rng (by assumption)).2 | (k_extra "S")); (case kd => (k_extra "D")); (case ku => (k_extra "U")); intro t9 h9 tk9 F9 N9; (try dsimp only); (generalize hDV9 : digitsValF _ _ = o9; cases o9 <;> dsimp only [optI]); (all_goals (try k_fold)))
  trivial
noncomputable def wholeJ (neg : Bool) (v : Option Int) : Option Int := v.map fun x => if neg = true then -x else x
noncomputable def wholeI (c : Str) (f b : Int) (neg : Bool) (base : Int) : Option Int := if 0 < base then wholeJ neg (digitsValF (Txt.slice c (some (f + 2)) (some b)) base) else wholeJ neg (digitsValF (Txt.slice c (some f) (some b)) 10)
noncomputable def wholeH (c : Str) (f b : Int) (neg : Bool) : Option Int := if 2 < b - f then (if (Txt.item c f == Str.ofString "0") = true then wholeI c f b neg (baseOfF (Txt.item c (f + 1))) else wholeI c f b neg 0) else wholeI c f b neg 0
noncomputable def wholeG (c : Str) (f b : Int) : Option Int := if f < b then (if ([Str.ofString "+", Str.ofString "-"].any fun x => x == Txt.item c f) = true then wholeH c (f + 1) b (Txt.item c f == Str.ofString "-") else wholeH c f b false) else wholeH c f b false
theorem nt {b : Bool} (h : b = false) : ¬ b = true := by rw [h]; decide
theorem wholeI_0 {c : Str} {f b : Int} {neg : Bool} : wholeI c f b neg 0 = wholeJ neg (digitsValF (Txt.slice c (some f) (some b)) 10) := if_neg (by decide)
noncomputable def isB (c : Str) (k : Nat) : Bool := isBlankF ⟨#[c.cps.getD k 0]⟩
noncomputable def trl (c : Str) (f : Int) : Nat → Int
  | 0 => 0
  | k + 1 => if f < k + 1 ∧ isB c k = true then trl c f k else k + 1
theorem isB_item {c : Str} {k : Int} {b : Bool} (h : isBlankF (Txt.item c k) = b) (h0 : 0 ≤ k) (h1 : k < c.length) : isB c k.toNat = b := by
  rw [item_at h0 h1] at h
  exact h
theorem trl_step {c : Str} {f k : Int} {n : Int} (e : trl c f k.toNat = trl c f n.toNat) (hw : isBlankF (Txt.item c (k - 1)) = true) (h0 : 0 ≤ f) (h1 : f < k) (h2 : k ≤ c.length) : trl c f (k - 1).toNat = trl c f n.toNat := by
  rw [← e]
  have : k.toNat = (k - 1).toNat + 1 := by omega
  rw [this]
  show _ = if _ then _ else _
  rw [if_pos ⟨by omega, isB_item hw (by omega) (by omega)⟩]
theorem trl_end1 {c : Str} {f k : Int} {n : Int} (e : trl c f k.toNat = trl c f n.toNat) (hw : isBlankF (Txt.item c (k - 1)) = false) (h0 : 0 ≤ f) (h1 : f < k) (h2 : k ≤ c.length) : trl c f n.toNat = k := by
  rw [← e]
  have : k.toNat = (k - 1).toNat + 1 := by omega
  rw [this]
  show (if _ then _ else _) = _
  rw [if_neg (by rw [isB_item hw (by omega) (by omega)]; rintro ⟨_, h⟩; cases h)]
  omega
theorem trl_end2 {c : Str} {f k : Int} {n : Int} (e : trl c f k.toNat = trl c f n.toNat) (h0 : 0 ≤ f) (h1 : ¬ f < k) (h2 : f ≤ k) (h3 : 0 ≤ k) : trl c f n.toNat = k := by
  rw [← e]
  have hk : f = k := by omega
  cases q : k.toNat with
  | zero => show (0 : Int) = k; omega
  | succ r =>
    show (if _ then _ else _) = _
    rw [if_neg (by rintro ⟨h, _⟩; omega)]
    omega
noncomputable def wholeF (c : Str) : Option Int := wholeG c (fwdP (isB c) c.length (c.length - 0 : Int).toNat) (trl c (fwdP (isB c) c.length (c.length - 0 : Int).toNat) (c.length : Int).toNat)
noncomputable def ww1 (c : Str) (f : Int) : Prop := 0 ≤ f ∧ f ≤ c.length ∧ fwdP (isB c) c.length (c.length - 0 : Int).toNat = f
noncomputable def ww2 (c : Str) (f b : Int) : Prop := f ≤ b ∧ b ≤ c.length ∧ trl c f (c.length : Int).toNat = b
noncomputable def ww3 (c : Str) (f b : Int) (neg : Bool) (g : Int) : Prop := f ≤ g ∧ g ≤ f + 1 ∧ g ≤ b ∧ wholeG c f b = wholeH c g b neg
noncomputable def ww4 (c : Str) (f b : Int) (neg : Bool) (base : Int) : Prop := 0 ≤ base ∧ (0 < base → 2 ≤ base) ∧ base ≤ 16 ∧ wholeH c f b neg = wholeI c f b neg base
noncomputable def ww5 (c : Str) (f b : Int) (neg : Bool) (base : Int) (o : Option Int) : Prop := wholeI c f b neg base = wholeJ neg o
theorem kw_L8c_3 : True := by
  k_with "m:execs cons" => (k_here; (with_reducible show wpAny _ _ (execs (Stmt.While _ _ _ ⟨59, _, _, _⟩ :: _) _) _ _ _); k_dflt (refine' join1 (Str.ofString "first") (IntV (ww1 c)) ?F ?N ?_ ?_); (case F => k_asm); (case N => k_asm); (try dsimp only); rotate_left; (intro v9 h9 tk9 F9 N9 hφ9); k_dflt (obtain ⟨f9, t9, e9, hf9, hf9', hf9''⟩ := hφ9); (subst e9); (try dsimp only); rotate_left)
  k_with "m:execs cons" => (k_here; (with_reducible show wpAny _ _ (execs (Stmt.While _ _ _ ⟨61, _, _, _⟩ :: _) _) _ _ _); k_dflt (refine' join1 (Str.ofString "behind") (IntV (ww2 c f9)) ?F ?N ?_ ?_); (case F => k_asm); (case N => k_asm); (try dsimp only); rotate_left; (intro v9 h9 tk9 F9 N9 hφ9); k_dflt (obtain ⟨b9, t9, e9, hb9, hb9', hb9''⟩ := hφ9); (subst e9); (try dsimp only); rotate_left)
  k_with "m:execs cons" => (k_here; (with_reducible show wpAny _ _ (execs (Stmt.If _ _ _ ⟨64, _, _, _⟩ :: _) _) _ _ _); k_dflt (refine' join2 (Str.ofString "is_minus") (Str.ofString "first") (BoolIntV (ww3 c f9 b9)) ?F ?N ?_ ?_); (case F => k_asm); (case N => k_asm); (try dsimp only); rotate_left; (intro v9 u9 h9 tk9 F9 N9 hφ9); k_dflt (obtain ⟨n9, g9, t9, e9, e9', hg9, hg9', hg9'', hgg9⟩ := hφ9); (subst e9); (subst e9'); (try dsimp only); rotate_left)
  k_with "m:execs cons" => (k_here; (with_reducible show wpAny _ _ (execs (Stmt.If _ _ _ ⟨68, _, _, _⟩ :: _) _) _ _ _); k_dflt (refine' join1 (Str.ofString "base") (IntV (ww4 c g9 b9 n9)) ?F ?N ?_ ?_); (case F => k_asm); (case N => k_asm); (try dsimp only); rotate_left; (intro v9 h9 tk9 F9 N9 hφ9); k_dflt (obtain ⟨base9, t9, e9, hx9, hx9', hx9'', hxx9⟩ := hφ9); (subst e9); (try dsimp only); rotate_left)
  k_with "m:execs cons" => (k_here; (with_reducible show wpAny _ _ (execs (Stmt.If _ _ _ ⟨70, _, _, _⟩ :: _) _) _ _ _); k_dflt (refine' join1 (Str.ofString "value") (OptV (ww5 c g9 b9 n9 base9)) ?F ?N ?_ ?_); (case F => k_asm); (case N => k_asm); (try dsimp only); rotate_left; (intro v9 h9 tk9 F9 N9 hφ9); k_dflt (rcases hφ9 with ⟨e9, ho9⟩ | ⟨o9, t9, e9, ho9⟩); (all_goals (try subst e9)); (all_goals (try dsimp only)); rotate_right)
  trivial
theorem whole_of_c {w mean mg mb} {news : List (Addr × Obj)} {c : Str} {t : Tok} (hc : c.length ≤ 1000) : Cb 6 w mean mg mb 94 news [.str c t] (fun t => optI (wholeF c) t) := by
  k_with "exec While" => k_while_given ["behind"] (fun behind script first => 0 ≤ first ∧ first ≤ behind ∧ behind = c.length ∧ fwdP (isB c) c.length (c.length - first).toNat = fwdP (isB c) c.length (c.length - 0 : Int).toNat) (fun behind script first => (c.length - first).toNat) "first"
  k_with "exec While" => k_while_given ["first"] (fun first script behind => 0 ≤ first ∧ first ≤ behind ∧ behind ≤ c.length ∧ trl c first behind.toNat = trl c first (c.length : Int).toNat) (fun first script behind => behind.toNat) "behind"
  k_with "state" => first | exact ⟨by omega, by omega, rfl, fwd_step (by assumption) (isB_item (by assumption) (by omega) (by omega)) (by omega) (by omega)⟩ | exact ⟨by omega, by omega, by omega, trl_step (by assumption) (by assumption) (by omega) (by omega) (by omega)⟩ | exact ⟨by omega, by omega, rfl, rfl⟩ | exact ⟨by omega, by omega, by omega, rfl⟩
  ((try unfold Cb); unfold CbG; k_fill; (try dsimp only [RetV, RetT]); intros; rename_i hret; refine wpAny_call ?_; k_dflt cell_enter; (refine letA ?_); (intro kA); (rename Fr _ _ _ _ => sF); (first | replace sF : Fr _ _ _ (fun y => List.lookup y [(Str.ofString "text", _)]) := sF | replace sF : Fr _ _ _ (fun y => List.lookup y [(Str.ofString "text", _)]) := sF); (generalize Shared.toks _ + List.length _ = tk0); k_steps)
  all_goals (try dsimp only)
  all_goals first
    | (refine jn1_s (x := Str.ofString "first") (by k_asm) (by (k_extra "dr")) (intV ⟨by omega, by omega, ?_⟩)
       first | exact fwd_end1 (by with_reducible assumption) (isB_item (by with_reducible assumption) (by omega) (by omega)) (by omega) (by omega) | exact fwd_end2 (by with_reducible assumption) (by omega) (by omega))
    | (refine jn1_s (x := Str.ofString "behind") (by k_asm) (by (k_extra "dr")) (intV ⟨by omega, by omega, ?_⟩)
       first | exact trl_end1 (by with_reducible assumption) (by with_reducible assumption) (by omega) (by omega) (by omega) | exact trl_end2 (by with_reducible assumption) (by omega) (by omega) (by omega) (by omega))
    | (refine jn2_s (x := Str.ofString "is_minus") (by k_asm) (by (k_extra "dr")) (boolIntV ⟨by omega, by omega, by omega, ?_⟩)
       exact (if_pos (by with_reducible assumption)).trans (if_pos (by with_reducible assumption)))
    | (refine jn2_k (x := Str.ofString "is_minus") (by k_asm) rfl rfl (by (k_extra "dr")) (boolIntV ⟨by omega, by omega, by omega, ?_⟩)
       first | exact if_neg (by with_reducible assumption) | exact (if_pos (by with_reducible assumption)).trans (if_neg (nt (by with_reducible assumption))))
    | (refine jn1_s (x := Str.ofString "base") (by k_asm) (by (k_extra "dr")) (intV ⟨?_, ?_, ?_, ?_⟩)
       rotate_right
       exact (if_pos (by with_reducible assumption)).trans (if_pos (by with_reducible assumption))
       all_goals (unfold baseOfF; (repeat' split) <;> omega))
    | (refine jn1_k (x := Str.ofString "base") (by k_asm) rfl (by (k_extra "dr")) (intV ⟨by omega, by omega, by omega, ?_⟩)
       first | exact if_neg (by with_reducible assumption) | exact (if_pos (by with_reducible assumption)).trans (if_neg (nt (by with_reducible assumption))))
    | (refine jn1_s (x := Str.ofString "value") (by k_asm) (by (k_extra "dr")) ?_
       first | refine optS ?_ | refine optN ?_
       first | exact (if_pos (by with_reducible assumption)).trans (congrArg (wholeJ n9) (by with_reducible assumption)) | exact (if_neg (by with_reducible assumption)).trans (congrArg (wholeJ n9) (by with_reducible assumption)))
    | ((first | refine retI_some hret ?_ (by k_asm) (by (k_extra "dr")) | refine retI_none hret ?_ (by k_asm) (by (k_extra "dr")))
       refine (congr (congrArg (wholeG c) hf9'') ((congrArg (fun x => trl c x (c.length : Int).toNat) hf9'').trans hb9'')).trans (hgg9.trans (hxx9.trans (Eq.trans ho9 ?_)))
       first | rfl | exact congrArg some (if_pos (by with_reducible assumption)) | exact congrArg some (if_neg (nt (by with_reducible assumption))))
end

section
-- M1
open PySem PySem.W PyProof.Rows
theorem kwn_M1 : True := by
  k_with_none
  w_top off
  trivial
theorem kwo_M1 : True := by
  k_with "m:omega" => first | with_reducible assumption | decide | with_reducible exact Int.le_refl _ | with_reducible exact Nat.le_refl _ | with_reducible exact rm_u2 | with_reducible exact rm_d2 | with_reducible exact rm_u1 | with_reducible exact rm_d1 | with_reducible exact rm_u0 | with_reducible exact rm_d0 | with_reducible exact n_up | with_reducible exact q_o | with_reducible exact q_c1 | with_reducible exact q_c2 | with_reducible exact q_c3 | with_reducible exact q_c4 | with_reducible exact q_n1 | with_reducible exact q_n2 | with_reducible exact q_n3 | with_reducible exact q_l1 | with_reducible exact q_l2 | with_reducible exact q_t1 | with_reducible exact q_t2 | with_reducible exact q_t3 | with_reducible exact q_t4 | with_reducible exact q_t5 | ((with_reducible show _ ≠ _); first | k_extra "P" | (refine Ne.symm ?_; k_extra "P") | (refine Nat.ne_of_lt ?_; k_extra "P") | (refine Nat.ne_of_gt ?_; k_extra "P"))
  k_with "P" => first | with_reducible assumption | with_reducible exact And.left (by with_reducible assumption) | with_reducible exact And.right (by with_reducible assumption) | with_reducible exact q_r (by with_reducible assumption) | with_reducible exact q_s (by with_reducible assumption) | with_reducible exact q_t (by with_reducible assumption) | with_reducible exact q_u (by with_reducible assumption)
  k_with "D" => ((try simp +zetaDelta only [depth_in1, depth_deeper]); (try dsimp only [ktrTop]); omega)
  k_with "U" => ((try simp +zetaDelta only [units_in1, units_deeper, Around.mark_units]); (try dsimp only [ktrTop]); omega)
  k_with "K5" => ((case k1 => k_asm); (case k2 => k_asm); (case k3 => k_asm); (case k4 => k_asm); (case k5 => k_asm))
  k_with "S" => first | with_reducible assumption | exact .inl rfl | exact .inr (.inl rfl) | exact .inr (.inr rfl) | exact .inr rfl | omega | k_mem | fail | (simp only [PySem.Str.length_append, KOpn.len_one]; omega) | assumption
  k_with "dr" => first | with_reducible assumption | with_reducible exact (News.tl (by with_reducible assumption)) | with_reducible exact (News.tl (News.tl (by with_reducible assumption))) | with_reducible exact (News.tl (News.tl (News.tl (by with_reducible assumption)))) | with_reducible exact (News.tl (News.tl (News.tl (News.tl (by with_reducible assumption))))) | with_reducible exact (News.tl (News.tl (News.tl (News.tl (News.tl (by with_reducible assumption)))))) | with_reducible exact (News.tl (News.tl (News.tl (News.tl (News.tl (News.tl (by with_reducible assumption))))))) | with_reducible exact News.apl (by with_reducible assumption) | with_reducible exact News.apl (News.tl (by with_reducible assumption)) | with_reducible exact News.apl (News.tl (News.tl (by with_reducible assumption))) | with_reducible exact News.apl (News.tl (News.tl (News.tl (by with_reducible assumption)))) | with_reducible exact News.apl (News.tl (News.tl (News.tl (News.tl (by with_reducible assumption)))))
  k_with "m:eval Call" => (k_here; k_dflt (first | ((with_reducible show wpAny _ _ (eval (.Call (.Name (Str.ofString "len") _) [.Name _ _] [] _) _) _ _ _); refine len_nm (q := ?_)) | ((with_reducible show wpAny _ _ (eval (.Call (.Name (Str.ofString "len") _) [_] [] _) _) _ _ _); refine callLen (h := ?_)) | ((with_reducible show wpAny _ _ (eval (.Call (.Name (Str.ofString "str") _) [_] [] _) _) _ _ _); refine callStr (h := ?_)) | ((with_reducible show wpAny _ _ (eval (.Call (.Name _ _) [_] [] _) _) _ _ _); refine callK1 (h := ?_)) | ((with_reducible show wpAny _ _ (eval (.Call (.Name _ _) [_, _] [] _) _) _ _ _); refine callK2 (h := ?_)) | ((with_reducible show wpAny _ _ (eval (.Call (.Name _ _) [_, _, _] [] _) _) _ _ _); refine callK3 (h := ?_))); k_whole)
  k_with "m:eval Constant int" => (k_here; k_dflt (refine cInt ?_); k_whole)
  k_with "m:eval Constant str" => (k_here; k_dflt (refine cStr ?_); k_whole)
  k_with "m:storeName" => (k_here; k_dflt (refine storeS (q := ?_)); k_whole; intro h' F' N'; (try k_sweep))
  k_with "m:binaryOp Add int int" => (k_here; k_dflt (refine addS ?_); k_whole)
  k_with "m:binaryOp Sub int int" => (k_here; k_dflt (refine subS ?_); k_whole)
  k_with "m:call builtin:len" => (k_here; (with_reducible show wpAny _ _ (call _ [.str _ _]) _ _ _); k_dflt (refine lenS (q := ?_)); k_whole)
  k_with "m:newList" => (k_here; k_dflt (refine lstS (q := ?_) (by first | exact Nat.le_of_ble_eq_true rfl | size_fits)); k_whole; intro l' h' F' N' l1; (try k_lt l1); (try k_sweep))
  k_with "m:execs cons" => (k_here; k_dflt (first | ((with_reducible show wpAny _ _ (execs (.Assign [.Name _ _] _ _ :: _) _) _ _ _); refine sAsg ?_ (Eq.refl true)) | ((with_reducible show wpAny _ _ (execs (.Return (some _) _ :: _) _) _ _ _); refine sRet ?_) | ((with_reducible show wpAny _ _ (execs (.If _ [.Return (some _) _] [] _ :: _) _) _ _ _); refine sIfR ?_) | ((with_reducible show wpAny _ _ (execs (.If _ _ [] _ :: _) _) _ _ _); refine sIf1 ?_)); k_whole)
  k_with "m:eval Tuple" => (k_here; first | ((with_reducible show wpAny _ _ (eval (.Tuple [.Constant (.str _) _ _, .Constant (.str _) _ _] _ _) _) _ _ _); k_dflt (refine tupSS (q := ?_)); k_whole; intro D' h' F' N' l1; (try k_lt l1)) | ((with_reducible show wpAny _ _ (eval (.Tuple [_, _] _ _) _) _ _ _); k_dflt (refine tup2 ?_ (Eq.refl true) (Eq.refl true)); k_whole))
  k_with "m:eval List" => (k_here; k_dflt (first | ((with_reducible show wpAny _ _ (eval (.List [_] _) _) _ _ _); refine lst1 ?_ (Eq.refl true)) | ((with_reducible show wpAny _ _ (eval (.List [_, _] _) _) _ _ _); refine lst2 ?_ (Eq.refl true) (Eq.refl true)) | ((with_reducible show wpAny _ _ (eval (.List [_, _, _] _) _) _ _ _); refine lst3 ?_ (Eq.refl true) (Eq.refl true) (Eq.refl true)) | ((with_reducible show wpAny _ _ (eval (.List [_, _, _, _] _) _) _ _ _); refine lst4 ?_ (Eq.refl true) (Eq.refl true) (Eq.refl true) (Eq.refl true))); k_whole)
  k_with "m:eval BinOp" => (k_here; k_dflt (first | ((with_reducible show wpAny _ _ (eval (.BinOp (.Name _ _) _ (.Name _ _) _) _) _ _ _); refine bNN (q := ?_)) | ((with_reducible show wpAny _ _ (eval (.BinOp (.Name _ _) _ (.Constant (.int _) _ _) _) _) _ _ _); refine bNC (q := ?_)) | ((with_reducible show wpAny _ _ (eval (.BinOp (.Name _ _) _ _ _) _) _ _ _); refine bN (q := ?_))); k_whole)
  k_with "m:isTrue Compare" => (k_here; k_dflt (first | ((with_reducible show wpAny _ _ (isTrue (.Compare (.Name _ _) [_] [(.Name _ _)] _) _ _) _ _ _); refine cNN (q := ?_)) | ((with_reducible show wpAny _ _ (isTrue (.Compare (.Name _ _) [_] [(.Constant (.int _) _ _)] _) _ _) _ _ _); refine cNC (q := ?_)) | ((with_reducible show wpAny _ _ (isTrue (.Compare (.Name _ _) [_] [_] _) _ _) _ _ _); refine cN (q := ?_))); k_whole)
  k_with "m:eval Subscript" => (k_here; k_dflt (first | ((with_reducible show wpAny _ _ (eval (.Subscript (.Name _ _) (.Name _ _) _) _) _ _ _); refine gNN (q := ?_)) | ((with_reducible show wpAny _ _ (eval (.Subscript (.Name _ _) (.Constant (.int _) _ _) _) _) _ _ _); refine gNC (q := ?_)) | ((with_reducible show wpAny _ _ (eval (.Subscript (.Name _ _) _ _) _) _ _ _); refine gN (q := ?_))); k_whole)
  trivial
open PySem.Challenge
/-- a call that raises: the exception is on its way in the caller's frame -/
noncomputable abbrev ErrX (base : Heap) (news : List (Addr × Obj)) (cn : Str) (cs : Scope) (a : Addr) (ccd : Value) (outer : List Env) (msg : Str) (ecs : List Str) (h₀ : Heap) (L : Addr) (m : Str → Option Value) (s : Shared) (E : Value → Shared → Prop) : Prop :=
  ∀ (g : Heap) (e d ec : Addr) (es : List DictEntry) (n n' : Nat) (vs : Array Value) (t1 t2 : Tok) (tv : List Value) (h' : Heap) (tk' : Nat),
    Fr h₀ L g m → Exc base g (envOf cn cs L a ccd :: outer) e (excObj d vs) ((d, dictOf es n) :: (ec, { cls := .type "tuple", data := .seq tv.toArray n' }) :: news) h' → g.UpToSlots h' →
    getL "code" es = some (some (.int 1 t1)) → getL "value" es = some (some (.str msg t2)) → getL "errorcode" es = some (some (.ref ec)) → StrsAre tv ecs → E (.ref e) { s with heap := h', toks := tk' }
/-- a contract of a def that may raise -/
noncomputable abbrev CbE (d : Nat) (w : World) (mean : ExcName → Option Value) (mg mb : Str → Option Value) (f : Addr) (news : List (Addr × Obj)) (vs : List Value)
    (Ret : Heap → Addr → (Str → Option Value) → Shared → (Value → Shared → Prop) → Prop) (bad : Option (Str × List Str)) : Prop :=
  ∀ (dp un : Nat) (gd : Option (List Code)) (cn : Str) (cs : Scope) (a : Addr) (ccd : Value) (outer : List Env) (A₀ : Around) (base h₀ : Heap) (L : Addr) (m : Str → Option Value) (s : Shared) (Q E : Value → Shared → Prop),
    Below A₀ base outer h₀ → Fr h₀ L s.heap m → (hd.heap_1 w.params).In h₀ → News h₀ L s.heap news → Top view LS mean mg mb h₀ → cs.kind = .function →
    dp + d < recursionLimit → un + 8 * d < cLine → (bad = none → Ret h₀ L m s Q) → (∀ msg ecs, bad = some (msg, ecs) → ErrX base news cn cs a ccd outer msg ecs h₀ L m s E) →
      wpAny (model rw_oj0055_01.row.toRowW.prog w) (ktrTop dp un gd cn cs L a ccd [] outer) (call (.ref f) vs) Q E s
theorem Exc.drop {base G : Heap} {l : List Env} {e : Addr} {oe : Obj} {nw nw' : List (Addr × Obj)} {h : Heap} (R : Exc base G l e oe nw h) (hs : ∀ q ∈ nw', q ∈ nw) : Exc base G l e oe nw' h :=
  let ⟨B, a, b, c, r⟩ := R; ⟨B, a, b, fun q hq => c q (hs q hq), r⟩
theorem Exc.drop2 {base G : Heap} {l : List Env} {e : Addr} {oe : Obj} {p1 p2 : Addr × Obj} {nw nw' : List (Addr × Obj)} {h : Heap} (R : Exc base G l e oe (p1 :: p2 :: nw) h) (hs : ∀ q ∈ nw', q ∈ nw) : Exc base G l e oe (p1 :: p2 :: nw') h :=
  R.drop fun q hq => by
    rcases List.mem_cons.mp hq with rfl | hq
    · exact .head _
    · rcases List.mem_cons.mp hq with rfl | hq
      · exact .tail _ (.head _)
      · exact .tail _ (.tail _ (hs q hq))
theorem kw_M1_1 : True := by
  k_with "m:call ref" => (k_here; (with_reducible show wpAny _ _ (call (Value.ref 94) _) _ _ _); k_dflt (refine' whole_of_c ?hc0 _ _ _ _ _ _ _ _ _ _ _ _ _ _ _ _ _ ?k1 ?k2 ?k3 ?k4 ?k5 ?kK ?kd ?ku ?_); k_extra "K5"; (case kK => first | exact rfl | assumption); (case hc0 => k_extra "S"); (case kd => (k_extra "D")); (case ku => (k_extra "U")); intro t9 h9 tk9 F9 N9; (try dsimp only); (generalize hWF9 : wholeF _ = o9; cases o9 <;> dsimp only [optI]); (all_goals (try k_fold)))
  k_with "m:call ref" => (k_here; (with_reducible show wpAny _ _ (call (Value.ref 115) _) _ _ _); k_dflt (refine' moved_c ?hc0 _ _ _ _ _ _ _ _ _ _ _ _ _ _ _ _ _ ?k1 ?k2 ?k3 ?k4 ?k5 ?kK ?kd ?ku ?_); k_extra "K5"; (case kK => first | exact rfl | assumption); (case hc0 => k_extra "S"); (case kd => (k_extra "D")); (case ku => (k_extra "U")); intro t9 h9 tk9 F9 N9; (try dsimp only); (generalize hMF9 : movedF _ _ = o9; cases o9 <;> dsimp only [optI]); (all_goals (try k_fold)))
  k_with "m:call ref" => (k_here; (with_reducible show wpAny _ _ (call (Value.ref 66) _) _ _ _); k_dflt (refine' is_blank_c ?hc0 _ _ _ _ _ _ _ _ _ _ _ _ _ _ _ _ _ ?k1 ?k2 ?k3 ?k4 ?k5 ?kK ?kd ?ku ?_); k_extra "K5"; (case kK => first | exact rfl | assumption); (case hc0 => k_extra "S"); (case kd => (k_extra "D")); (case ku => (k_extra "U")); intro t9 h9 tk9 F9 N9; (try dsimp only); (skip); (all_goals (try k_fold)))
  k_with "m:call ref" => (k_here; (with_reducible show wpAny _ _ (call (Value.ref 45) _) _ _ _); k_dflt (refine' error_c  _ _ _ _ _ _ _ _ _ _ _ _ _ _ _ _ _ ?k1 ?k2 ?k3 ?k4 ?k5 ?kK ?kd ?ku ?_); k_extra "K5"; (case kK => first | exact rfl | assumption); (case kd => (k_extra "D")); (case ku => (k_extra "U")); intro e9 d9 es9 n9 vs9 t19 t29 h9 tk9 F9 N9 he9 hv9 hg9 hn9 hL9 g19 g29 g39; (try dsimp only); (skip); (all_goals (try k_fold)))
  k_with "m:exec Raise some none" => (k_here; refine Raise_inst rfl ?_)
  trivial
set_option maxRecDepth 100000
set_option maxHeartbeats 4000000
noncomputable def spP (c : Str) (k : Nat) : Bool := !([Str.ofString "+", Str.ofString "-"].any fun x => x == Txt.item c (k : Int)) || isBlankF (Txt.item c ((k : Int) - 1))
noncomputable def splF (c : Str) : Int := if c.length = 0 then 1 else fwdP (spP c) c.length (c.length - 1 : Int).toNat
theorem sp_t1 {c : Str} {k : Int} (h0 : 1 ≤ k) (h : ([Str.ofString "+", Str.ofString "-"].any fun x => x == Txt.item c k) = false) : spP c k.toNat = true := by
  unfold spP; rw [Int.toNat_of_nonneg (by omega), h]; rfl
theorem sp_t2 {c : Str} {k : Int} (h0 : 1 ≤ k) (h : isBlankF (Txt.item c (k - 1)) = true) : spP c k.toNat = true := by
  unfold spP; rw [Int.toNat_of_nonneg (by omega), h, Bool.or_true]
theorem sp_f {c : Str} {k : Int} (h0 : 1 ≤ k) (h1 : ([Str.ofString "+", Str.ofString "-"].any fun x => x == Txt.item c k) = true) (h : isBlankF (Txt.item c (k - 1)) = false) : spP c k.toNat = false := by
  unfold spP; rw [Int.toNat_of_nonneg (by omega), h, h1]; rfl
noncomputable def idxF (c : Str) (last : Int) : Option Int := match wholeF c with
  | some v => some v
  | none => if Txt.startswith c (Str.ofString "end") = true then (if (c == Str.ofString "end") = true then some last else movedF last (Txt.slice c (some 3) none))
    else match wholeF (Txt.slice c none (some (splF c))) with
      | none => none
      | some b => movedF b (Txt.slice c (some (splF c)) none)
noncomputable def badIdx (c : Str) : Str := Str.ofString "bad index \"" ++ c ++ Str.ofString "\": must be integer?[+-]integer? or end?[+-]integer?"
noncomputable def idxBad (c : Str) (last : Int) : Option (Str × List Str) := if idxF c last = none then some (badIdx c, [Str.ofString "TCL", Str.ofString "VALUE", Str.ofString "INDEX"]) else none
theorem spl_1 {c : Str} {k : Int} (e : fwdP (spP c) c.length (c.length - k).toNat = fwdP (spP c) c.length (c.length - 1 : Int).toNat) (h1 : 1 ≤ k) (h2 : k < c.length) (h3 : ([Str.ofString "+", Str.ofString "-"].any fun x => x == Txt.item c k) = true) (h4 : isBlankF (Txt.item c (k - 1)) = false) : splF c = k := by
  unfold splF
  rw [if_neg (by omega)]
  exact fwd_end1 e (sp_f h1 h3 h4) (by omega) h2
theorem spl_2 {c : Str} {k : Int} (e : fwdP (spP c) c.length (c.length - k).toNat = fwdP (spP c) c.length (c.length - 1 : Int).toNat) (h1 : k = 1 ∨ k ≤ c.length) (h2 : ¬ k < c.length) (h3 : 1 ≤ k) : splF c = k := by
  unfold splF
  split
  · omega
  · exact fwd_end2 e h2 (by omega)
theorem idx_val {news : List (Addr × Obj)} {c : Str} {last v : Int} {h₀ h' : Heap} {L : Addr} {m : Str → Option Value} {s : Shared} {Q : Value → Shared → Prop} {t : Tok} {tk : Nat}
    (hret : idxBad c last = none → ∀ (t : Tok) (h' : Heap) (tk' : Nat), Fr h₀ L h' m → News h₀ L h' news → Q (optI (idxF c last) t) { heap := h', gens := s.gens, drawn := s.drawn, toks := tk', os := s.os }) (h : idxF c last = some v) (F : Fr h₀ L h' m) (N : News h₀ L h' news) :
    Q (.int v t) { heap := h', gens := s.gens, drawn := s.drawn, toks := tk, os := s.os } := by
  have := hret (if_neg (by rw [h]; simp)) t h' tk F N
  rw [h] at this
  exact this
theorem kw_M1_2 : True := by
  k_with "m:execs cons" => (k_here; (with_reducible show wpAny _ _ (execs (Stmt.If _ _ _ ⟨97, _, _, _⟩ :: _) _) _ _ _); k_dflt (refine' joinF (Str.ofString "found") [Str.ofString "at", Str.ofString "base"] (OptV fun o => idxF c last = o) ?F ?N ?_ ?_); (case F => k_asm); (case N => k_asm); (try dsimp only); rotate_left; (intro v9 kf9 h9 tk9 F9 N9 hφ9); k_dflt (rcases hφ9 with ⟨e9, ho9⟩ | ⟨o9, t9, e9, ho9⟩); (all_goals (try subst e9)); (all_goals (try dsimp only)); rotate_right)
  k_with "m:execs cons" => (k_here; (with_reducible show wpAny _ _ (execs (Stmt.While _ _ _ ⟨101, _, _, _⟩ :: _) _) _ _ _); k_dflt (refine' join1 (Str.ofString "at") (IntV fun a => 1 ≤ a ∧ (a = 1 ∨ a ≤ c.length) ∧ splF c = a) ?F ?N ?_ ?_); (case F => k_asm); (case N => k_asm); (try dsimp only); rotate_left; (intro v9 h9 tk9 F9 N9 hφ9); k_dflt (obtain ⟨a9, t9, e9, ha9, ha9', ha9''⟩ := hφ9); (subst e9); (try dsimp only); rotate_left)
  trivial
theorem index_of_c {w mean mg mb} {news : List (Addr × Obj)} {c : Str} {t u : Tok} {last : Int} (hc : c.length ≤ 1000) : CbE 110 w mean mg mb 122 news [.str c t, .int last u] (RetV news fun t => optI (idxF c last) t) (idxBad c last) := by
  unfold CbE
  k_fill
  (try dsimp only [RetV])
  intros
  rename_i hret herr
  refine wpAny_call ?_
  k_dflt cell_enter
  ((rename Fr _ _ _ _ => sF); (first | replace sF : Fr _ _ _ (fun y => List.lookup y [(Str.ofString "last", _), (Str.ofString "text", _)]) := sF | replace sF : Fr _ _ _ (fun y => List.lookup y [(Str.ofString "text", _), (Str.ofString "last", _)]) := sF); (generalize Shared.toks _ + List.length _ = tk0))
  ((refine letA ?_); (intro kA))
  k_with "exec While" => k_while (fun script at' => 1 ≤ at' ∧ (at' = 1 ∨ at' ≤ c.length) ∧ fwdP (spP c) c.length (c.length - at').toNat = fwdP (spP c) c.length (c.length - 1 : Int).toNat) (fun script at' => (c.length - at' : Int).toNat) "at"
  k_with "state" => first | exact ⟨by omega, by omega, fwd_step (by assumption) (sp_t1 (by omega) (by assumption)) (by omega) (by omega)⟩ | exact ⟨by omega, by omega, fwd_step (by assumption) (sp_t2 (by omega) (by assumption)) (by omega) (by omega)⟩ | exact ⟨by omega, .inl rfl, rfl⟩
  k_steps
  all_goals (try dsimp only)
  all_goals first
    | (refine jn1_s (x := Str.ofString "at") (by k_asm) (by (k_extra "dr")) (intV ⟨by omega, by omega, ?_⟩)
       first | exact spl_1 (by with_reducible assumption) (by with_reducible assumption) (by with_reducible assumption) (by with_reducible assumption) (by with_reducible assumption) | exact spl_2 (by with_reducible assumption) (by with_reducible assumption) (by with_reducible assumption) (by with_reducible assumption))
    | (refine' jnF_s (x := Str.ofString "found") ?F ?e ?N ?hm ?hv
       case F => k_asm
       case N => (k_extra "dr")
       case e => exact rfl
       case hm => (intro z h1 h2; (try dsimp only); repeat (first | rfl | rw [if_neg h1] | rw [if_neg (ne2 h2).1] | rw [if_neg (ne2 h2).2]))
       case hv =>
         first | refine optS ?_ | refine optN ?_
         clear hret herr
         ((repeat (rename Fr _ _ _ _ => zF; clear zF)); (repeat (rename News _ _ _ _ => zN; clear zN)); (repeat (rename Frag.In _ _ => zI; clear zI)); (repeat (rename Top _ _ _ _ _ _ => zT; clear zT)); (repeat (rename Below _ _ _ _ => zB; clear zB)))
         simp only [idxF, *, if_true, if_false, Bool.false_eq_true])
    | (refine idx_val hret ?_ (by k_asm) (by (k_extra "dr"))
       first
         | exact ho9
         | (clear hret herr
            ((repeat (rename Fr _ _ _ _ => zF; clear zF)); (repeat (rename News _ _ _ _ => zN; clear zN)); (repeat (rename Frag.In _ _ => zI; clear zI)); (repeat (rename Top _ _ _ _ _ _ => zT; clear zT)); (repeat (rename Below _ _ _ _ => zB; clear zB)))
            simp only [idxF, *, if_true, if_false, Bool.false_eq_true]))
    | skip
  all_goals (
    refine ⟨_, _, _, rfl, (by with_reducible assumption), rfl, rfl, (by with_reducible assumption), Frag.In.keeps (by k_asm) (Fr.keep (by k_asm)), ?_⟩
    k_unfold
    (try dsimp only)
    refine leave_first (by k_asm) (by k_asm) (by k_asm) (by with_reducible assumption) (by with_reducible assumption) (by with_reducible assumption) rfl (by with_reducible assumption) (fun hX rX uX => ?_) rfl
    exact herr _ _ (if_pos ho9) _ _ _ _ _ _ 0 _ _ _ [_, _, _] _ _ (by k_asm) (rX.drop2 (fun q hq => by first | exact hq | exact .tail _ hq | exact .tail _ (.tail _ hq))) uX (by with_reducible assumption) (by assumption) (by with_reducible assumption) (.cons _ _ (.cons _ _ (.cons _ _ .nil))))
end

section
-- CT
open PySem PySem.W PyProof.Rows PySem.Calls PySem.Spec
open PySem.Challenge
section
variable {prog : Program} {w : World} {A₀ A : Around} {s : Shared} {base h₀ g₀ : Heap} {outer : List Env} {L a : Addr} {m : Str → Option Value} {cn : Str} {cs : Scope} {ccd : Value} {mu : List (Addr × Obj)} {K : Frag} {p : Program} {loose : List Str} {mean : ExcName → Option Value} {mg mb : Str → Option Value}
    {R : Result → Shared → Prop} {name qual : Str} {params : Arguments} {body : List Stmt} {scope : Scope} {dV kV doc pm cdv ct oc : Value} {an od : Option Addr} {osl : Array (Option Value)} {f : Addr} {args : Args} {binds : List (Str × Value)}
/-- a def entered whose frames may be turned: all that stands but mu is the ground -/
theorem code_defT (B : Below A₀ base outer h₀) (F : Fr h₀ L s.heap m) (X₀ : K.In h₀) (N : News h₀ L s.heap mu) (T : Top p loose mean mg mb h₀) (XB : K.In base) (TB : Top p loose mean mg mb base) (D : KtsDicts (frs outer) h₀)
    (T0 : KtsTurn (frs outer) g₀ h₀) (hA : A.frames = some (envOf cn cs L a ccd :: outer))
    (ho : K.lookup f = some ⟨oc, od, .func (fnOf name qual params body scope dV kV doc pm an cdv ct), osl⟩) (hcd : codeIn K cdv qual = true) (hroom : A.depth < recursionLimit)
    (hbind : BindsTo s (fnOf name qual params body scope dV kV doc pm an cdv ct) args binds) (hloc : ∀ y ∈ binds, scope.names.lookup y.1 = some .local)
    (h : ∀ g L' h₁, (∀ b o, s.heap.get? b = some o → b ∉ mu.map (·.1) → g.get? b = some o) → Fr h₀ L g m → Fr g L' h₁ (fun y => binds.reverse.lookup y) → News g L' h₁ mu → Below A base (envOf cn cs L a ccd :: outer) g → K.In g → Top p loose mean mg mb g → KtsDicts (frs (envOf cn cs L a ccd :: outer)) g →
      wpAny (model prog w) (A.deeper (envOf qual scope L' f cdv)) (execs body (envOf qual scope L' f cdv))
        (fun fl s' => LeaveS (frs (envOf cn cs L a ccd :: outer)) A₀ base outer K p loose mean mg mb g₀ h₀ L m g R (match fl with | .ret v => v | _ => .none) s')
        (fun e s' => wpAny (model prog w) (A.deeper (envOf qual scope L' f cdv)) (leaving (envOf qual scope L' f cdv) e) (fun _ s'' => R (.error e) s'') (fun e' s'' => R (.error e') s'') s')
        { s with heap := h₁, toks := s.toks + binds.length })
    (hck : cs.kind = .function) (hco : scope.isCoroutine = false) (hgen : scope.isGenerator = false) (hk : scope.kind = .function)
    (hcell : ∀ x ∈ scope.names, x.2 ≠ .cell) : codeAny (model prog w) A (.call (.ref f) args) R s := by
  have X := X₀.keeps F.keep
  refine codeAny_call_def (fd := fnOf name qual params body scope dV kV doc pm an cdv ct) (body := body) (binds := binds) hroom (X _ _ ho) rfl (T.nolimit.keeps F.keep) (codeRec_of X hcd) rfl hbind hcell hloc (fun h₁ hns hk₁ => ?_) hco hgen hk
  obtain ⟨oL, es, ep, hLg, hLd, hN, hNs, st, B₂⟩ := kts_enter B F N hA hck
  have nL : ∀ b o, h₀.get? b = some o → b ≠ L := fun b o e q => by
    have := kts_self F
    rw [q, this] at e
    cases e
  refine wpAny_mono (h _ s.heap.objs.size h₁ (fun b o e nm => hideAll_get _ e nm) ⟨hN _ hLg, st, F.above⟩ ⟨hns, fun b o e => hk₁ b o (of_hideAll _ e), Nat.le_of_eq (hideAll_size _ _)⟩
    (fun q hq => ⟨hk₁ _ _ (N q hq).1, Nat.ne_of_lt (Heap.lt_size (N q hq).1), hideAll_none _ (List.mem_map_of_mem hq)⟩) B₂ (X₀.keeps st) (T.keeps st) (fun b hb => ?_)) (fun fl s' hl => ?_) fun _ _ y => y
  · rcases kts_mem hb with rfl | hb
    · exact ⟨oL, es, ep, hLg, hLd⟩
    · obtain ⟨o, es', n', ho', hd'⟩ := D b hb
      exact ⟨o, es', n', st b o ho', hd'⟩
  · have fresh : ∀ {g' : Heap} {b : Addr}, KtsTurn (frs (envOf cn cs L a ccd :: outer)) (hideAll s.heap (mu.map (·.1))) g' → g'.get? b = none → h₀.get? b = none ∧ b ≠ L := fun {g' b} TT e => by
      refine ⟨none_back (fun b' o' q' => st b' o' q') ?_, fun q => ?_⟩
      · cases q : (hideAll s.heap (mu.map (·.1))).get? b with
        | none => rfl
        | some o =>
          obtain ⟨sl, hs⟩ := TT.up q
          rw [e] at hs; cases hs
      · obtain ⟨sl, hs⟩ := TT.up hLg
        rw [q, hs] at e; cases e
    rcases hl with ⟨L', m', news', F', N', k⟩ | ⟨g', L', m', news', T', F', N', k⟩
    · exact k ⟨hN _ (F'.keep _ _ hLg), fun b o e => F'.keep b o (st b o e), F.above⟩ fun q hq => ⟨(N' q hq).1, (fresh KtsTurn.refl (N' q hq).2.2).2, (fresh KtsTurn.refl (N' q hq).2.2).1⟩
    · obtain ⟨sl, hs⟩ := T'.up hLg
      obtain ⟨T₁, S₁⟩ := kts_turn_at (h := s'.heap) (fs := frs outer) (g := h₀) (fun b hb => by
          obtain ⟨_, o, ho', _⟩ := B.frames.mem hb
          exact ⟨o, ho'⟩)
        (fun b o e nm => F'.keep b o (T'.other b o (st b o e) fun q => (kts_mem q).elim (nL b o e) nm))
        (fun b o e _ => by
          obtain ⟨sl', hs'⟩ := T'.up (st b o e)
          exact ⟨sl', F'.keep _ _ hs'⟩)
      have B₃ : Below A₀ base outer (ktsHeap s'.heap (frs outer) h₀) := ⟨B.stack, fun b o e => T₁.other b o (B.stays b o e) (fun hm => by
        rw [(B.frames.mem hm).1] at e
        cases e), B.frames.of_keeps fun b o e _ => by
          obtain ⟨sl', hs'⟩ := T₁.up e
          exact ⟨_, hs', rfl⟩⟩
      exact k _ (T0.trans T₁) ⟨hNs sl _ (F'.keep _ _ hs), S₁, by rw [T₁.size]; exact F.above⟩ (fun q hq => ⟨(N' q hq).1, (fresh T' (N' q hq).2.2).2, T₁.none_ _ (fresh T' (N' q hq).2.2).1⟩) B₃ (XB.keeps B₃.stays) (TB.keeps B₃.stays) (D.turn T₁)
end
/-- a contract of a def that may turn the frames' slots -/
noncomputable abbrev CbT (d : Nat) (w : World) (mean : ExcName → Option Value) (mg mb : Str → Option Value) (f : Addr) (news : List (Addr × Obj)) (vs : List Value)
    (Ret : Heap → Addr → (Str → Option Value) → Shared → (Value → Shared → Prop) → Prop) : Prop :=
  ∀ (dp un : Nat) (gd : Option (List Code)) (cn : Str) (cs : Scope) (a : Addr) (ccd : Value) (outer : List Env) (A₀ : Around) (base g₀ h₀ : Heap) (L : Addr) (m : Str → Option Value) (s : Shared) (Q E : Value → Shared → Prop),
    Below A₀ base outer h₀ → Fr h₀ L s.heap m → (hd.heap_1 w.params).In h₀ → News h₀ L s.heap news → Top view LS mean mg mb h₀ → (hd.heap_1 w.params).In base → Top view LS mean mg mb base → KtsDicts (frs outer) h₀ → KtsTurn (frs outer) g₀ h₀ → cs.kind = .function →
    dp + d < recursionLimit → un + 8 * d < cLine →
    (∀ h₀', KtsTurn (frs outer) g₀ h₀' → Below A₀ base outer h₀' → (hd.heap_1 w.params).In h₀' → Top view LS mean mg mb h₀' → KtsDicts (frs outer) h₀' → Ret h₀' L m s Q) →
      wpAny (model rw_oj0055_01.row.toRowW.prog w) (ktrTop dp un gd cn cs L a ccd [] outer) (call (.ref f) vs) Q E s
theorem newsKeepT {A₀ : Around} {base h₀ h₀' g₀ g gX h h' : Heap} {L L' a : Addr} {outer : List Env} {cn : Str} {cs : Scope} {ccd : Value} {m' : Str → Option Value} {mu news : List (Addr × Obj)} (B : Below A₀ base outer h₀) (N : News h₀ L h news) (NM : News h₀ L h mu)
    (HG : ∀ b o, h.get? b = some o → b ∉ mu.map (·.1) → g.get? b = some o) (T0 : KtsTurn (frs outer) g₀ h₀) (TT : KtsTurn (frs (envOf cn cs L a ccd :: outer)) g gX) (F' : Fr gX L' h' m') (kT : KtsTurn (frs outer) g₀ h₀') (kM : News h₀' L h' mu) : News h₀' L h' news := fun q hq => by
  by_cases hm : q.1 ∈ mu.map (·.1)
  · exact kM q (newsMu N NM hq hm)
  · have hN := N q hq
    refine ⟨F'.keep _ _ (TT.other _ _ (HG _ _ hN.1 hm) fun z => ?_), hN.2.1, kT.none_ _ ?_⟩
    · rcases kts_mem z with z | z
      · exact hN.2.1 z
      · obtain ⟨_, o, ho, _⟩ := B.frames.mem z
        rw [hN.2.2] at ho
        cases ho
    · cases q1 : g₀.get? q.1 with
      | none => rfl
      | some o =>
        obtain ⟨sl, hs⟩ := T0.up q1
        rw [hN.2.2] at hs
        cases hs
theorem turnList {fs : List Addr} {g g' : Heap} {l : Addr} {vs : Array Value} (T : KtsTurn fs g g') (h : g.IsList l vs) : g'.IsList l vs := by
  obtain ⟨o, ho, hc, n, hd⟩ := h
  obtain ⟨sl, hs⟩ := T.up ho
  exact ⟨_, hs, hc, n, hd⟩
theorem turnTup {fs : List Addr} {g g' : Heap} {l : Addr} {vs : Array Value} (T : KtsTurn fs g g') (h : IsTup g l vs) : IsTup g' l vs := by
  obtain ⟨o, ho, hc, n, hd⟩ := h
  obtain ⟨sl, hs⟩ := T.up ho
  exact ⟨_, hs, hc, n, hd⟩
theorem inTurned {A₀ : Around} {base h₀ g gX h : Heap} {L a : Addr} {outer : List Env} {cn : Str} {cs : Scope} {ccd : Value} {mu news : List (Addr × Obj)} (B : Below A₀ base outer h₀) (N : News h₀ L h news)
    (HG : ∀ b o, h.get? b = some o → b ∉ mu.map (·.1) → g.get? b = some o) (TT : KtsTurn (frs (envOf cn cs L a ccd :: outer)) g gX) {q : Addr × Obj} (hq : q ∈ news) (hm : q.1 ∉ mu.map (·.1)) : gX.get? q.1 = some q.2 :=
  TT.other _ _ (HG _ _ (N q hq).1 hm) fun z => by
    rcases kts_mem z with z | z
    · exact (N q hq).2.1 z
    · obtain ⟨_, o, ho, _⟩ := B.frames.mem z
      rw [(N q hq).2.2] at ho
      cases ho
theorem neNewT {A₀ : Around} {base h₀ g gX h h' : Heap} {L L' a D : Addr} {o : Obj} {outer : List Env} {cn : Str} {cs : Scope} {ccd : Value} {mu news new : List (Addr × Obj)} (B : Below A₀ base outer h₀) (N : News h₀ L h news) (NM : News h₀ L h mu)
    (HG : ∀ b o, h.get? b = some o → b ∉ mu.map (·.1) → g.get? b = some o) (TT : KtsTurn (frs (envOf cn cs L a ccd :: outer)) g gX) (N' : News gX L' h' new) (hD : (D, o) ∈ new) (hne : ∀ q ∈ mu, q.1 ≠ D) : ∀ p ∈ news, p.1 ≠ D := fun p hp e => by
  by_cases hm : p.1 ∈ mu.map (·.1)
  · exact hne p (newsMu N NM hp hm) e
  · have h1 := inTurned B N HG TT hp hm
    have h2 := (N' _ hD).2.2
    rw [e, h2] at h1
    cases h1
theorem neObj {h₀ h : Heap} {L : Addr} {news : List (Addr × Obj)} {a b : Addr} {o o' : Obj} (N : News h₀ L h news) (ha : (a, o) ∈ news) (hb : (b, o') ∈ news) (hc : o.cls ≠ o'.cls) : a ≠ b := fun e => by
  have h1 := (N _ ha).1
  have h2 := (N _ hb).1
  dsimp only at h1 h2
  rw [e, h2] at h1
  cases h1
  exact hc rfl
theorem errEndM {A₀ : Around} {base h₀ g h' : Heap} {L a : Addr} {outer : List Env} {cn : Str} {cs : Scope} {ccd : Value} {m : Str → Option Value} {s : Shared} {E : Value → Shared → Prop} {mu news rest : List (Addr × Obj)} {msg : Str} {ecs : List Str} {e d ec : Addr} {es : List DictEntry} {n n' tk' : Nat} {vs : Array Value} {t1 t2 : Tok} {tv : List Value}
    (B : Below A₀ base outer h₀) (N : News h₀ L s.heap news) (NM : News h₀ L s.heap mu) (HG : ∀ b o, s.heap.get? b = some o → b ∉ mu.map (·.1) → g.get? b = some o) (FG : Fr h₀ L g m) (herr : ErrX base news cn cs a ccd outer msg ecs h₀ L m s E)
    (R : Exc base g (envOf cn cs L a ccd :: outer) e (excObj d vs) ((d, dictOf es n) :: (ec, { cls := .type "tuple", data := .seq tv.toArray n' }) :: rest) h') (U : g.UpToSlots h') (hmu : ∀ q ∈ mu, q ∈ rest)
    (g1 : getL "code" es = some (some (.int 1 t1))) (g2 : getL "value" es = some (some (.str msg t2))) (g3 : getL "errorcode" es = some (some (.ref ec))) (g4 : StrsAre tv ecs) : E (.ref e) { s with heap := h', toks := tk' } := by
  obtain ⟨oL, es', ep, hL, hLd, hLk, hLf⟩ := FG.ns
  have nL : L ∉ news.map (·.1) := fun q => by
    obtain ⟨p, hp, e⟩ := List.mem_map.mp q
    exact (N p hp).2.1 e
  have n0 : ∀ b o, h₀.get? b = some o → b ∉ news.map (·.1) := fun b o e q => by
    obtain ⟨p, hp, rfl⟩ := List.mem_map.mp q
    rw [(N p hp).2.2] at e; cases e
  obtain ⟨Bh, c1, c2, c3, c4, c5, c6, c7⟩ := R
  refine herr (hideAll g (news.map (·.1))) e d ec es n n' vs t1 t2 tv h' tk' ⟨⟨oL, es', ep, hideAll_get _ hL nL, hLd, hLk, hLf⟩, fun b o q => hideAll_get _ (FG.keep b o q) (n0 b o q), FG.above⟩ ?_ (fun b o q => U b o (of_hideAll _ q)) g1 g2 g3 g4
  refine ⟨Bh, c1, fun b o q nm => c2 b o (of_hideAll _ q) nm, fun q hq => ?_, c4, c5, c6, c7⟩
  have old : ∀ q ∈ ((d, dictOf es n) :: (ec, ({ cls := .type "tuple", data := .seq tv.toArray n' } : Obj)) :: rest), Bh.get? q.1 = some q.2 ∧ (hideAll g (news.map (·.1))).get? q.1 = none ∧ base.get? q.1 = none := fun q hq => ⟨(c3 q hq).1, none_back (fun b o q' => of_hideAll _ q') (c3 q hq).2.1, (c3 q hq).2.2⟩
  rcases List.mem_cons.mp hq with rfl | hq
  · exact old _ (.head _)
  rcases List.mem_cons.mp hq with rfl | hq
  · exact old _ (.tail _ (.head _))
  by_cases hm : q.1 ∈ mu.map (·.1)
  · exact old q (.tail _ (.tail _ (hmu q (newsMu N NM hq hm))))
  · refine ⟨c2 _ _ (HG _ _ (N q hq).1 hm) fun z => ?_, hideAll_none _ (List.mem_map_of_mem hq), none_back B.stays (N q hq).2.2⟩
    rcases kts_mem z with z | z
    · exact (N q hq).2.1 z
    · obtain ⟨_, o, ho, _⟩ := B.frames.mem z
      rw [(N q hq).2.2] at ho
      cases ho
theorem instE {h₀ h : Heap} {L e d : Addr} {vs : Array Value} {es : List DictEntry} {n : Nat} {news : List (Addr × Obj)} (N : News h₀ L h news) (h1 : (e, excObj d vs) ∈ news) (h2 : (d, dictOf es n) ∈ news) : InstAt h e (excObj d vs) 33 (some (dictOf es n)) :=
  ⟨(N _ h1).1, rfl, rfl, (N _ h2).1⟩
end

section
-- Q1
open PySem PySem.W PyProof.Rows
theorem kwn_Q1 : True := by
  k_with_none
  w_top off
  trivial
theorem kwo_Q1 : True := by
  k_with "m:omega" => first | with_reducible assumption | decide | with_reducible exact Int.le_refl _ | with_reducible exact Nat.le_refl _ | with_reducible exact rm_u2 | with_reducible exact rm_d2 | with_reducible exact rm_u1 | with_reducible exact rm_d1 | with_reducible exact rm_u0 | with_reducible exact rm_d0 | with_reducible exact n_up | with_reducible exact q_o | with_reducible exact q_c1 | with_reducible exact q_c2 | with_reducible exact q_c3 | with_reducible exact q_c4 | with_reducible exact q_n1 | with_reducible exact q_n2 | with_reducible exact q_n3 | with_reducible exact q_l1 | with_reducible exact q_l2 | with_reducible exact q_t1 | with_reducible exact q_t2 | with_reducible exact q_t3 | with_reducible exact q_t4 | with_reducible exact q_t5 | ((with_reducible show _ ≠ _); first | k_extra "P" | (refine Ne.symm ?_; k_extra "P") | (refine Nat.ne_of_lt ?_; k_extra "P") | (refine Nat.ne_of_gt ?_; k_extra "P"))
  k_with "P" => first | with_reducible assumption | with_reducible exact And.left (by with_reducible assumption) | with_reducible exact And.right (by with_reducible assumption) | with_reducible exact q_r (by with_reducible assumption) | with_reducible exact q_s (by with_reducible assumption) | with_reducible exact q_t (by with_reducible assumption) | with_reducible exact q_u (by with_reducible assumption)
  k_with "D" => ((try simp +zetaDelta only [depth_in1, depth_deeper]); (try dsimp only [ktrTop]); omega)
  k_with "U" => ((try simp +zetaDelta only [units_in1, units_deeper, Around.mark_units]); (try dsimp only [ktrTop]); omega)
  k_with "K5" => ((case k1 => k_asm); (case k2 => k_asm); (case k3 => k_asm); (case k4 => k_asm); (case k5 => k_asm))
  k_with "S" => first | with_reducible assumption | exact .inl rfl | exact .inr (.inl rfl) | exact .inr (.inr rfl) | exact .inr rfl | omega | k_mem | fail | (simp only [PySem.Str.length_append, KOpn.len_one]; omega) | assumption
  k_with "m:eval Call" => (k_here; k_dflt (first | ((with_reducible show wpAny _ _ (eval (.Call (.Name (Str.ofString "len") _) [.Name _ _] [] _) _) _ _ _); refine len_nm (q := ?_)) | ((with_reducible show wpAny _ _ (eval (.Call (.Name (Str.ofString "len") _) [_] [] _) _) _ _ _); refine callLen (h := ?_)) | ((with_reducible show wpAny _ _ (eval (.Call (.Name (Str.ofString "str") _) [_] [] _) _) _ _ _); refine callStr (h := ?_)) | ((with_reducible show wpAny _ _ (eval (.Call (.Name _ _) [_] [] _) _) _ _ _); refine callK1 (h := ?_)) | ((with_reducible show wpAny _ _ (eval (.Call (.Name _ _) [_, _] [] _) _) _ _ _); refine callK2 (h := ?_)) | ((with_reducible show wpAny _ _ (eval (.Call (.Name _ _) [_, _, _] [] _) _) _ _ _); refine callK3 (h := ?_))); k_whole)
  k_with "m:eval Constant int" => (k_here; k_dflt (refine cInt ?_); k_whole)
  k_with "m:eval Constant str" => (k_here; k_dflt (refine cStr ?_); k_whole)
  k_with "m:storeName" => (k_here; k_dflt (refine storeS (q := ?_)); k_whole; intro h' F' N'; (try k_sweep))
  k_with "m:binaryOp Add int int" => (k_here; k_dflt (refine addS ?_); k_whole)
  k_with "m:binaryOp Sub int int" => (k_here; k_dflt (refine subS ?_); k_whole)
  k_with "m:call builtin:len" => (k_here; (with_reducible show wpAny _ _ (call _ [.str _ _]) _ _ _); k_dflt (refine lenS (q := ?_)); k_whole)
  k_with "m:newList" => (k_here; k_dflt (refine lstS (q := ?_) (by first | exact Nat.le_of_ble_eq_true rfl | size_fits)); k_whole; intro l' h' F' N' l1; (try k_lt l1); (try k_sweep))
  k_with "m:execs cons" => (k_here; k_dflt (first | ((with_reducible show wpAny _ _ (execs (.Assign [.Name _ _] _ _ :: _) _) _ _ _); refine sAsg ?_ (Eq.refl true)) | ((with_reducible show wpAny _ _ (execs (.Return (some _) _ :: _) _) _ _ _); refine sRet ?_) | ((with_reducible show wpAny _ _ (execs (.If _ [.Return (some _) _] [] _ :: _) _) _ _ _); refine sIfR ?_) | ((with_reducible show wpAny _ _ (execs (.If _ _ [] _ :: _) _) _ _ _); refine sIf1 ?_)); k_whole)
  k_with "m:eval Tuple" => (k_here; first | ((with_reducible show wpAny _ _ (eval (.Tuple [.Constant (.str _) _ _, .Constant (.str _) _ _] _ _) _) _ _ _); k_dflt (refine tupSS (q := ?_)); k_whole; intro D' h' F' N' l1; (try k_lt l1)) | ((with_reducible show wpAny _ _ (eval (.Tuple [_, _] _ _) _) _ _ _); k_dflt (refine tup2 ?_ (Eq.refl true) (Eq.refl true)); k_whole))
  k_with "m:eval List" => (k_here; k_dflt (first | ((with_reducible show wpAny _ _ (eval (.List [_] _) _) _ _ _); refine lst1 ?_ (Eq.refl true)) | ((with_reducible show wpAny _ _ (eval (.List [_, _] _) _) _ _ _); refine lst2 ?_ (Eq.refl true) (Eq.refl true)) | ((with_reducible show wpAny _ _ (eval (.List [_, _, _] _) _) _ _ _); refine lst3 ?_ (Eq.refl true) (Eq.refl true) (Eq.refl true)) | ((with_reducible show wpAny _ _ (eval (.List [_, _, _, _] _) _) _ _ _); refine lst4 ?_ (Eq.refl true) (Eq.refl true) (Eq.refl true) (Eq.refl true))); k_whole)
  k_with "m:eval BinOp" => (k_here; k_dflt (first | ((with_reducible show wpAny _ _ (eval (.BinOp (.Name _ _) _ (.Name _ _) _) _) _ _ _); refine bNN (q := ?_)) | ((with_reducible show wpAny _ _ (eval (.BinOp (.Name _ _) _ (.Constant (.int _) _ _) _) _) _ _ _); refine bNC (q := ?_)) | ((with_reducible show wpAny _ _ (eval (.BinOp (.Name _ _) _ _ _) _) _ _ _); refine bN (q := ?_))); k_whole)
  k_with "m:isTrue Compare" => (k_here; k_dflt (first | ((with_reducible show wpAny _ _ (isTrue (.Compare (.Name _ _) [_] [(.Name _ _)] _) _ _) _ _ _); refine cNN (q := ?_)) | ((with_reducible show wpAny _ _ (isTrue (.Compare (.Name _ _) [_] [(.Constant (.int _) _ _)] _) _ _) _ _ _); refine cNC (q := ?_)) | ((with_reducible show wpAny _ _ (isTrue (.Compare (.Name _ _) [_] [_] _) _ _) _ _ _); refine cN (q := ?_))); k_whole)
  k_with "m:eval Subscript" => (k_here; k_dflt (first | ((with_reducible show wpAny _ _ (eval (.Subscript (.Name _ _) (.Name _ _) _) _) _ _ _); refine gNN (q := ?_)) | ((with_reducible show wpAny _ _ (eval (.Subscript (.Name _ _) (.Constant (.int _) _ _) _) _) _ _ _); refine gNC (q := ?_)) | ((with_reducible show wpAny _ _ (eval (.Subscript (.Name _ _) _ _) _) _ _ _); refine gN (q := ?_))); k_whole)
  trivial
open PySem.Challenge
set_option maxRecDepth 100000
set_option maxHeartbeats 4000000
/-- what a command does with the words at ws -/
noncomputable abbrev FunE (d : Nat) (w : World) (mean : ExcName → Option Value) (mg mb : Str → Option Value) (fa ws : Addr) (o : Obj) (f : Str) (bad : Option (Str × List Str)) : Prop :=
  ∀ ⦃news⦄, (ws, o) ∈ news → CbE d w mean mg mb fa news [.none, .ref ws] (RetV news fun t => .str f t) bad
theorem CbE.up {d d' : Nat} {w mean mg mb f news vs Ret bad} (h : CbE d w mean mg mb f news vs Ret bad) (hd : d ≤ d') : CbE d' w mean mg mb f news vs Ret bad :=
  fun dp un gd cn cs a ccd outer A₀ base h₀ L m s Q E B F X N T hk h1 h2 hret herr => h dp un gd cn cs a ccd outer A₀ base h₀ L m s Q E B F X N T hk (by omega) (by omega) hret herr
theorem CbE.of {d d' : Nat} {w mean mg mb f news vs Ret} (h : CbG d w mean mg mb f news vs Ret) (hd : d ≤ d') : CbE d' w mean mg mb f news vs Ret none :=
  fun dp un gd cn cs a ccd outer A₀ base h₀ L m s Q E B F X N T hk h1 h2 hret _ => h dp un gd cn cs a ccd [] outer A₀ base h₀ L m s Q E B F X N T hk (by omega) (by omega) (hret rfl)
theorem kw_Q1_1 : True := by
  k_with "m:subscriptTail" => (k_here; (with_reducible show wpAny _ _ (subscriptTail _ _ (Value.ref _) (Value.int _ _)) _ _ _); (refine item_lst (News.isList (by k_asm) (by k_mem)) (by decide) (by decide) (by with_reducible assumption) ?_))
  k_with "m:call ref" => (k_here; (with_reducible show wpAny _ _ (call (Value.ref 269) _) _ _ _); k_extra "call ref")
  trivial
theorem call_269_c {w mean mg mb} {news : List (Addr × Obj)} {ws : Addr} {vs : Array Value} {n : Nat} {t1 : Tok} {f : Str} {bad : Option (Str × List Str)}
    (hl : (ws, ({ cls := .type "list", data := .seq vs n } : Obj)) ∈ news) (h1 : vs[(1 : Int).toNat]? = some (.str (Str.ofString "tolower") t1)) (C : FunE 140 w mean mg mb 269 ws { cls := .type "list", data := .seq vs n } f bad) :
    CbE 150 w mean mg mb 339 news [.ref ws] (RetV news fun t => .str f t) bad := by
  k_with "call ref" => (k_here; (with_reducible show wpAny _ _ (call (Value.ref 269) _) _ _ _); k_dflt (refine' C ?hc0 _ _ _ _ _ _ _ _ _ _ _ _ _ _ _ _ ?k1 ?k2 ?k3 ?k4 ?k5 ?kK ?kd ?ku ?_ ?_); k_extra "K5"; (case kK => first | exact rfl | assumption); (case hc0 => k_extra "S"); (case kd => (k_extra "D")); (case ku => (k_extra "U")); all_goals (first | (intro msg9 ecs9 hb9 g9 e9 d9 ec9 es9 n9 n9' vs9 t19 t29 tv9 h9 tk9 Fg9 R9 U9 c19 c29 c39 S9; (try dsimp only)) | (intro hb9 t9 h9 tk9 F9 N9; (try dsimp only); (skip); (all_goals (try k_fold)))))
  ((try unfold Cb); (try unfold CbE); (try unfold CbG); k_fill; (try dsimp only [RetV, RetT]); intros; rename_i s0 Q0 E0 B0 F0 X0 N0 T0 hk0 hd0 hu0 hret herr; refine wpAny_call ?_; k_dflt (refine' code_defP ?k1 ?k2 ?k3 ?k4 ?k5 ?kA ?kF ?kK ?k6 ?k7 ?k8 ?k9 ?kB ?_ ?c2 ?c3 ?c4 ?c5; (case kA => exact rfl); (case kF => exact rfl); (case kK => first | exact rfl | assumption); (case k1 => k_asm); (case k2 => k_asm); (case k4 => exact newsSub N0 hl); (case k3 => k_asm); (case k5 => k_asm); (case k6 => k_is); (case k7 => k_is); (case k8 => ktr_room); (case k9 => exact BindsTo.of_eq rfl); (case c5 => decide); (case kB => exact locs rfl); (case c2 => exact rfl); (case c3 => exact rfl); (case c4 => exact rfl); k_whole; intro g' L' h' HG0 FG' F' N' B' X' T'; (try dsimp only); (try k_lift B'); (try k_fold)); (refine letA ?_); (intro kA); (replace F' : Fr g' L' h' (fun y => List.lookup y [(Str.ofString "words", _)]) := F'); (generalize Shared.toks _ + List.length _ = tk0))
  k_steps
  · exact hret hb9 _ _ _ (by k_asm) (by (exact newsKeepM N0 (newsSub N0 hl) HG0 (by k_asm) (newsSub (by k_asm) (by k_mem))))
  · ((try k_unfold); (try dsimp only); refine leave_on (by k_asm) (by k_asm) (by with_reducible assumption) (by with_reducible assumption) (fun hX rX uX => ?_); exact errEndM (s := s0) B0 N0 (newsSub N0 hl) HG0 (by k_asm) (herr _ _ (by with_reducible assumption)) rX uX (by intro q9 hq9; (rcases List.mem_singleton.mp hq9 with rfl); k_mem) (by with_reducible assumption) (by with_reducible assumption) (by with_reducible assumption) (by with_reducible assumption))
theorem kw_Q1_2 : True := by
  k_with "m:call ref" => (k_here; (with_reducible show wpAny _ _ (call (Value.ref 283) _) _ _ _); k_extra "call ref")
  trivial
theorem call_283_c {w mean mg mb} {news : List (Addr × Obj)} {ws : Addr} {vs : Array Value} {n : Nat} {t1 : Tok} {f : Str} {bad : Option (Str × List Str)}
    (hl : (ws, ({ cls := .type "list", data := .seq vs n } : Obj)) ∈ news) (h1 : vs[(1 : Int).toNat]? = some (.str (Str.ofString "toupper") t1)) (C : FunE 140 w mean mg mb 283 ws { cls := .type "list", data := .seq vs n } f bad) :
    CbE 150 w mean mg mb 339 news [.ref ws] (RetV news fun t => .str f t) bad := by
  k_with "call ref" => (k_here; (with_reducible show wpAny _ _ (call (Value.ref 283) _) _ _ _); k_dflt (refine' C ?hc0 _ _ _ _ _ _ _ _ _ _ _ _ _ _ _ _ ?k1 ?k2 ?k3 ?k4 ?k5 ?kK ?kd ?ku ?_ ?_); k_extra "K5"; (case kK => first | exact rfl | assumption); (case hc0 => k_extra "S"); (case kd => (k_extra "D")); (case ku => (k_extra "U")); all_goals (first | (intro msg9 ecs9 hb9 g9 e9 d9 ec9 es9 n9 n9' vs9 t19 t29 tv9 h9 tk9 Fg9 R9 U9 c19 c29 c39 S9; (try dsimp only)) | (intro hb9 t9 h9 tk9 F9 N9; (try dsimp only); (skip); (all_goals (try k_fold)))))
  ((try unfold Cb); (try unfold CbE); (try unfold CbG); k_fill; (try dsimp only [RetV, RetT]); intros; rename_i s0 Q0 E0 B0 F0 X0 N0 T0 hk0 hd0 hu0 hret herr; refine wpAny_call ?_; k_dflt (refine' code_defP ?k1 ?k2 ?k3 ?k4 ?k5 ?kA ?kF ?kK ?k6 ?k7 ?k8 ?k9 ?kB ?_ ?c2 ?c3 ?c4 ?c5; (case kA => exact rfl); (case kF => exact rfl); (case kK => first | exact rfl | assumption); (case k1 => k_asm); (case k2 => k_asm); (case k4 => exact newsSub N0 hl); (case k3 => k_asm); (case k5 => k_asm); (case k6 => k_is); (case k7 => k_is); (case k8 => ktr_room); (case k9 => exact BindsTo.of_eq rfl); (case c5 => decide); (case kB => exact locs rfl); (case c2 => exact rfl); (case c3 => exact rfl); (case c4 => exact rfl); k_whole; intro g' L' h' HG0 FG' F' N' B' X' T'; (try dsimp only); (try k_lift B'); (try k_fold)); (refine letA ?_); (intro kA); (replace F' : Fr g' L' h' (fun y => List.lookup y [(Str.ofString "words", _)]) := F'); (generalize Shared.toks _ + List.length _ = tk0))
  k_steps
  · exact hret hb9 _ _ _ (by k_asm) (by (exact newsKeepM N0 (newsSub N0 hl) HG0 (by k_asm) (newsSub (by k_asm) (by k_mem))))
  · ((try k_unfold); (try dsimp only); refine leave_on (by k_asm) (by k_asm) (by with_reducible assumption) (by with_reducible assumption) (fun hX rX uX => ?_); exact errEndM (s := s0) B0 N0 (newsSub N0 hl) HG0 (by k_asm) (herr _ _ (by with_reducible assumption)) rX uX (by intro q9 hq9; (rcases List.mem_singleton.mp hq9 with rfl); k_mem) (by with_reducible assumption) (by with_reducible assumption) (by with_reducible assumption) (by with_reducible assumption))
theorem kw_Q1_3 : True := by
  k_with "m:call ref" => (k_here; (with_reducible show wpAny _ _ (call (Value.ref 276) _) _ _ _); k_extra "call ref")
  trivial
theorem call_276_c {w mean mg mb} {news : List (Addr × Obj)} {ws : Addr} {vs : Array Value} {n : Nat} {t1 : Tok} {f : Str} {bad : Option (Str × List Str)}
    (hl : (ws, ({ cls := .type "list", data := .seq vs n } : Obj)) ∈ news) (h1 : vs[(1 : Int).toNat]? = some (.str (Str.ofString "totitle") t1)) (C : FunE 140 w mean mg mb 276 ws { cls := .type "list", data := .seq vs n } f bad) :
    CbE 150 w mean mg mb 339 news [.ref ws] (RetV news fun t => .str f t) bad := by
  k_with "call ref" => (k_here; (with_reducible show wpAny _ _ (call (Value.ref 276) _) _ _ _); k_dflt (refine' C ?hc0 _ _ _ _ _ _ _ _ _ _ _ _ _ _ _ _ ?k1 ?k2 ?k3 ?k4 ?k5 ?kK ?kd ?ku ?_ ?_); k_extra "K5"; (case kK => first | exact rfl | assumption); (case hc0 => k_extra "S"); (case kd => (k_extra "D")); (case ku => (k_extra "U")); all_goals (first | (intro msg9 ecs9 hb9 g9 e9 d9 ec9 es9 n9 n9' vs9 t19 t29 tv9 h9 tk9 Fg9 R9 U9 c19 c29 c39 S9; (try dsimp only)) | (intro hb9 t9 h9 tk9 F9 N9; (try dsimp only); (skip); (all_goals (try k_fold)))))
  ((try unfold Cb); (try unfold CbE); (try unfold CbG); k_fill; (try dsimp only [RetV, RetT]); intros; rename_i s0 Q0 E0 B0 F0 X0 N0 T0 hk0 hd0 hu0 hret herr; refine wpAny_call ?_; k_dflt (refine' code_defP ?k1 ?k2 ?k3 ?k4 ?k5 ?kA ?kF ?kK ?k6 ?k7 ?k8 ?k9 ?kB ?_ ?c2 ?c3 ?c4 ?c5; (case kA => exact rfl); (case kF => exact rfl); (case kK => first | exact rfl | assumption); (case k1 => k_asm); (case k2 => k_asm); (case k4 => exact newsSub N0 hl); (case k3 => k_asm); (case k5 => k_asm); (case k6 => k_is); (case k7 => k_is); (case k8 => ktr_room); (case k9 => exact BindsTo.of_eq rfl); (case c5 => decide); (case kB => exact locs rfl); (case c2 => exact rfl); (case c3 => exact rfl); (case c4 => exact rfl); k_whole; intro g' L' h' HG0 FG' F' N' B' X' T'; (try dsimp only); (try k_lift B'); (try k_fold)); (refine letA ?_); (intro kA); (replace F' : Fr g' L' h' (fun y => List.lookup y [(Str.ofString "words", _)]) := F'); (generalize Shared.toks _ + List.length _ = tk0))
  k_steps
  · exact hret hb9 _ _ _ (by k_asm) (by (exact newsKeepM N0 (newsSub N0 hl) HG0 (by k_asm) (newsSub (by k_asm) (by k_mem))))
  · ((try k_unfold); (try dsimp only); refine leave_on (by k_asm) (by k_asm) (by with_reducible assumption) (by with_reducible assumption) (fun hX rX uX => ?_); exact errEndM (s := s0) B0 N0 (newsSub N0 hl) HG0 (by k_asm) (herr _ _ (by with_reducible assumption)) rX uX (by intro q9 hq9; (rcases List.mem_singleton.mp hq9 with rfl); k_mem) (by with_reducible assumption) (by with_reducible assumption) (by with_reducible assumption) (by with_reducible assumption))
theorem kw_Q1_4 : True := by
  k_with "m:call ref" => (k_here; (with_reducible show wpAny _ _ (call (Value.ref 255) _) _ _ _); k_extra "call ref")
  trivial
theorem call_255_c {w mean mg mb} {news : List (Addr × Obj)} {ws : Addr} {vs : Array Value} {n : Nat} {t1 : Tok} {f : Str} {bad : Option (Str × List Str)}
    (hl : (ws, ({ cls := .type "list", data := .seq vs n } : Obj)) ∈ news) (h1 : vs[(1 : Int).toNat]? = some (.str (Str.ofString "wordstart") t1)) (C : FunE 140 w mean mg mb 255 ws { cls := .type "list", data := .seq vs n } f bad) :
    CbE 150 w mean mg mb 339 news [.ref ws] (RetV news fun t => .str f t) bad := by
  k_with "call ref" => (k_here; (with_reducible show wpAny _ _ (call (Value.ref 255) _) _ _ _); k_dflt (refine' C ?hc0 _ _ _ _ _ _ _ _ _ _ _ _ _ _ _ _ ?k1 ?k2 ?k3 ?k4 ?k5 ?kK ?kd ?ku ?_ ?_); k_extra "K5"; (case kK => first | exact rfl | assumption); (case hc0 => k_extra "S"); (case kd => (k_extra "D")); (case ku => (k_extra "U")); all_goals (first | (intro msg9 ecs9 hb9 g9 e9 d9 ec9 es9 n9 n9' vs9 t19 t29 tv9 h9 tk9 Fg9 R9 U9 c19 c29 c39 S9; (try dsimp only)) | (intro hb9 t9 h9 tk9 F9 N9; (try dsimp only); (skip); (all_goals (try k_fold)))))
  ((try unfold Cb); (try unfold CbE); (try unfold CbG); k_fill; (try dsimp only [RetV, RetT]); intros; rename_i s0 Q0 E0 B0 F0 X0 N0 T0 hk0 hd0 hu0 hret herr; refine wpAny_call ?_; k_dflt (refine' code_defP ?k1 ?k2 ?k3 ?k4 ?k5 ?kA ?kF ?kK ?k6 ?k7 ?k8 ?k9 ?kB ?_ ?c2 ?c3 ?c4 ?c5; (case kA => exact rfl); (case kF => exact rfl); (case kK => first | exact rfl | assumption); (case k1 => k_asm); (case k2 => k_asm); (case k4 => exact newsSub N0 hl); (case k3 => k_asm); (case k5 => k_asm); (case k6 => k_is); (case k7 => k_is); (case k8 => ktr_room); (case k9 => exact BindsTo.of_eq rfl); (case c5 => decide); (case kB => exact locs rfl); (case c2 => exact rfl); (case c3 => exact rfl); (case c4 => exact rfl); k_whole; intro g' L' h' HG0 FG' F' N' B' X' T'; (try dsimp only); (try k_lift B'); (try k_fold)); (refine letA ?_); (intro kA); (replace F' : Fr g' L' h' (fun y => List.lookup y [(Str.ofString "words", _)]) := F'); (generalize Shared.toks _ + List.length _ = tk0))
  k_steps
  · exact hret hb9 _ _ _ (by k_asm) (by (exact newsKeepM N0 (newsSub N0 hl) HG0 (by k_asm) (newsSub (by k_asm) (by k_mem))))
  · ((try k_unfold); (try dsimp only); refine leave_on (by k_asm) (by k_asm) (by with_reducible assumption) (by with_reducible assumption) (fun hX rX uX => ?_); exact errEndM (s := s0) B0 N0 (newsSub N0 hl) HG0 (by k_asm) (herr _ _ (by with_reducible assumption)) rX uX (by intro q9 hq9; (rcases List.mem_singleton.mp hq9 with rfl); k_mem) (by with_reducible assumption) (by with_reducible assumption) (by with_reducible assumption) (by with_reducible assumption))
theorem kw_Q1_5 : True := by
  k_with "m:call ref" => (k_here; (with_reducible show wpAny _ _ (call (Value.ref 248) _) _ _ _); k_extra "call ref")
  trivial
theorem call_248_c {w mean mg mb} {news : List (Addr × Obj)} {ws : Addr} {vs : Array Value} {n : Nat} {t1 : Tok} {f : Str} {bad : Option (Str × List Str)}
    (hl : (ws, ({ cls := .type "list", data := .seq vs n } : Obj)) ∈ news) (h1 : vs[(1 : Int).toNat]? = some (.str (Str.ofString "wordend") t1)) (C : FunE 140 w mean mg mb 248 ws { cls := .type "list", data := .seq vs n } f bad) :
    CbE 150 w mean mg mb 339 news [.ref ws] (RetV news fun t => .str f t) bad := by
  k_with "call ref" => (k_here; (with_reducible show wpAny _ _ (call (Value.ref 248) _) _ _ _); k_dflt (refine' C ?hc0 _ _ _ _ _ _ _ _ _ _ _ _ _ _ _ _ ?k1 ?k2 ?k3 ?k4 ?k5 ?kK ?kd ?ku ?_ ?_); k_extra "K5"; (case kK => first | exact rfl | assumption); (case hc0 => k_extra "S"); (case kd => (k_extra "D")); (case ku => (k_extra "U")); all_goals (first | (intro msg9 ecs9 hb9 g9 e9 d9 ec9 es9 n9 n9' vs9 t19 t29 tv9 h9 tk9 Fg9 R9 U9 c19 c29 c39 S9; (try dsimp only)) | (intro hb9 t9 h9 tk9 F9 N9; (try dsimp only); (skip); (all_goals (try k_fold)))))
  ((try unfold Cb); (try unfold CbE); (try unfold CbG); k_fill; (try dsimp only [RetV, RetT]); intros; rename_i s0 Q0 E0 B0 F0 X0 N0 T0 hk0 hd0 hu0 hret herr; refine wpAny_call ?_; k_dflt (refine' code_defP ?k1 ?k2 ?k3 ?k4 ?k5 ?kA ?kF ?kK ?k6 ?k7 ?k8 ?k9 ?kB ?_ ?c2 ?c3 ?c4 ?c5; (case kA => exact rfl); (case kF => exact rfl); (case kK => first | exact rfl | assumption); (case k1 => k_asm); (case k2 => k_asm); (case k4 => exact newsSub N0 hl); (case k3 => k_asm); (case k5 => k_asm); (case k6 => k_is); (case k7 => k_is); (case k8 => ktr_room); (case k9 => exact BindsTo.of_eq rfl); (case c5 => decide); (case kB => exact locs rfl); (case c2 => exact rfl); (case c3 => exact rfl); (case c4 => exact rfl); k_whole; intro g' L' h' HG0 FG' F' N' B' X' T'; (try dsimp only); (try k_lift B'); (try k_fold)); (refine letA ?_); (intro kA); (replace F' : Fr g' L' h' (fun y => List.lookup y [(Str.ofString "words", _)]) := F'); (generalize Shared.toks _ + List.length _ = tk0))
  k_steps
  · exact hret hb9 _ _ _ (by k_asm) (by (exact newsKeepM N0 (newsSub N0 hl) HG0 (by k_asm) (newsSub (by k_asm) (by k_mem))))
  · ((try k_unfold); (try dsimp only); refine leave_on (by k_asm) (by k_asm) (by with_reducible assumption) (by with_reducible assumption) (fun hX rX uX => ?_); exact errEndM (s := s0) B0 N0 (newsSub N0 hl) HG0 (by k_asm) (herr _ _ (by with_reducible assumption)) rX uX (by intro q9 hq9; (rcases List.mem_singleton.mp hq9 with rfl); k_mem) (by with_reducible assumption) (by with_reducible assumption) (by with_reducible assumption) (by with_reducible assumption))
theorem kw_Q1_6 : True := by
  k_with "m:call ref" => (k_here; (with_reducible show wpAny _ _ (call (Value.ref 234) _) _ _ _); k_extra "call ref")
  trivial
theorem call_234_c {w mean mg mb} {news : List (Addr × Obj)} {ws : Addr} {vs : Array Value} {n : Nat} {t1 : Tok} {f : Str} {bad : Option (Str × List Str)}
    (hl : (ws, ({ cls := .type "list", data := .seq vs n } : Obj)) ∈ news) (h1 : vs[(1 : Int).toNat]? = some (.str (Str.ofString "equal") t1)) (C : FunE 140 w mean mg mb 234 ws { cls := .type "list", data := .seq vs n } f bad) :
    CbE 150 w mean mg mb 339 news [.ref ws] (RetV news fun t => .str f t) bad := by
  k_with "call ref" => (k_here; (with_reducible show wpAny _ _ (call (Value.ref 234) _) _ _ _); k_dflt (refine' C ?hc0 _ _ _ _ _ _ _ _ _ _ _ _ _ _ _ _ ?k1 ?k2 ?k3 ?k4 ?k5 ?kK ?kd ?ku ?_ ?_); k_extra "K5"; (case kK => first | exact rfl | assumption); (case hc0 => k_extra "S"); (case kd => (k_extra "D")); (case ku => (k_extra "U")); all_goals (first | (intro msg9 ecs9 hb9 g9 e9 d9 ec9 es9 n9 n9' vs9 t19 t29 tv9 h9 tk9 Fg9 R9 U9 c19 c29 c39 S9; (try dsimp only)) | (intro hb9 t9 h9 tk9 F9 N9; (try dsimp only); (skip); (all_goals (try k_fold)))))
  ((try unfold Cb); (try unfold CbE); (try unfold CbG); k_fill; (try dsimp only [RetV, RetT]); intros; rename_i s0 Q0 E0 B0 F0 X0 N0 T0 hk0 hd0 hu0 hret herr; refine wpAny_call ?_; k_dflt (refine' code_defP ?k1 ?k2 ?k3 ?k4 ?k5 ?kA ?kF ?kK ?k6 ?k7 ?k8 ?k9 ?kB ?_ ?c2 ?c3 ?c4 ?c5; (case kA => exact rfl); (case kF => exact rfl); (case kK => first | exact rfl | assumption); (case k1 => k_asm); (case k2 => k_asm); (case k4 => exact newsSub N0 hl); (case k3 => k_asm); (case k5 => k_asm); (case k6 => k_is); (case k7 => k_is); (case k8 => ktr_room); (case k9 => exact BindsTo.of_eq rfl); (case c5 => decide); (case kB => exact locs rfl); (case c2 => exact rfl); (case c3 => exact rfl); (case c4 => exact rfl); k_whole; intro g' L' h' HG0 FG' F' N' B' X' T'; (try dsimp only); (try k_lift B'); (try k_fold)); (refine letA ?_); (intro kA); (replace F' : Fr g' L' h' (fun y => List.lookup y [(Str.ofString "words", _)]) := F'); (generalize Shared.toks _ + List.length _ = tk0))
  k_steps
  · exact hret hb9 _ _ _ (by k_asm) (by (exact newsKeepM N0 (newsSub N0 hl) HG0 (by k_asm) (newsSub (by k_asm) (by k_mem))))
  · ((try k_unfold); (try dsimp only); refine leave_on (by k_asm) (by k_asm) (by with_reducible assumption) (by with_reducible assumption) (fun hX rX uX => ?_); exact errEndM (s := s0) B0 N0 (newsSub N0 hl) HG0 (by k_asm) (herr _ _ (by with_reducible assumption)) rX uX (by intro q9 hq9; (rcases List.mem_singleton.mp hq9 with rfl); k_mem) (by with_reducible assumption) (by with_reducible assumption) (by with_reducible assumption) (by with_reducible assumption))
end

section
-- GE
open PySem PySem.W PyProof.Rows PySem.Calls PySem.Spec
open PySem.Challenge
set_option maxRecDepth 100000
section
variable {prog : Program} {w : World} {A : Around} {E : Value → Shared → Prop} {h : Heap} {g : Array GenState} {d : Drawn} {t : Nat} {os : OsState} {K : Frag} {x C : Addr} {ox : Obj} {od : Option Obj} {name : Str} {v : Value}
theorem getE_entry {tk : Tok} {Q : Fin → Shared → Prop} (X : K.In h) (I : InstAt h x ox C od) (hf : findObj K C od name = some (.value v)) (hq : Q (.done (.ret v)) ⟨h, g, d, t, os⟩) :
    wpAny (model prog w) A (Builtin.«object.__getattribute__» ⟨[.ref x, .str name tk], []⟩) Q E ⟨h, g, d, t, os⟩ := by
  have L0 := I.type (M := model prog w)
  have L1 := looks_find (M := model prog w) X I hf
  unfold Builtin.«object.__getattribute__»
  repeat (any_goals (first | assumption | (with_reducible refine L0.at ?_) | (with_reducible refine L1.at ?_) | wp_step))
theorem getE_check {M : Model} {nameV : Value} {Q : Unit → Shared → Prop} (X : K.In h) (I : InstAt h x ox C od) (q : ktsIn K C "BaseException" = true) (hq : Q () ⟨h, g, d, t, os⟩) :
    wpAny M A (checkBuiltinCall "BaseException.__getattribute__" ⟨[.ref x, nameV], []⟩) Q E ⟨h, g, d, t, os⟩ := by
  obtain ⟨nm, q', N, bs, bm, hdct, sn, sub, ab, col, dd, k0, k1, k2, k3, k5, newId, hC, hbase, hbT⟩ := kts_cls X q
  have L0 := I.type (M := M)
  have hk : builtinKind "BaseException.__getattribute__" = some .slot := by decide +kernel
  have hsplit : splitId "BaseException.__getattribute__" = some ("BaseException", "__getattribute__") := by decide +kernel
  have hcB : (Value.ref C :: bm).contains (.type "BaseException") = true := by rw [List.contains_cons, hbase, Bool.or_true]
  have ha := F.args_bexc_ga (.ref x) nameV
  simp only [checkBuiltinCall, hk, hsplit]
  refine wpAny_bind ?_
  unfold isInstance
  repeat (first | (with_reducible refine L0.at ?_) | (with_reducible refine wpAny_isSubtype_exc hC ?_; rw [hcB]) | wp_step)
  exact hq
theorem getE {expr : Bool} {Q : Value → Shared → Prop} (X : K.In h) (I : InstAt h x ox C od) (q : ktsIn K C "BaseException" = true)
    (hga : findIn K (.ref C) "__getattribute__" = some (some (.builtin "BaseException.__getattribute__"))) (hgt : findIn K (.ref C) "__getattr__" = some none) (hf : findObj K C od name = some (.value v)) (hh : handedIn v = true) (hq : Q v ⟨h, g, d, t + 1, os⟩) :
    wpAny (model prog w) A (getAttr (.ref x) name expr) Q E ⟨h, g, d, t, os⟩ := by
  have L0 := I.type (M := model prog w)
  have L1 := looks_findIn (M := model prog w) X hga
  have L2 := looks_findIn (M := model prog w) X hgt
  have ga : Slot "Exception" "__getattribute__" "BaseException.__getattribute__" := PySem.F.attr_Exception.ga
  have f3 := ga.bind (.ref x)
  have hx0 : (expr && onTheHeap (Value.builtin "BaseException.__getattribute__")) = false := by cases expr <;> rfl
  have hx2 : (Value.builtin "BaseException.__getattribute__" == Value.builtin "object.__getattribute__") = false := by decide +kernel
  have hx1 : (onTheHeap (Value.ref C) && Value.builtin "BaseException.__getattribute__" == Value.builtin "object.__getattribute__") = false := by rw [hx2]; rfl
  have ho := handedOut_of hh
  unfold getAttr
  repeat (any_goals (first | assumption | (with_reducible refine L0.at ?_) | (with_reducible refine L1.at ?_) | (with_reducible refine L2.at ?_) | wp_step))
  refine codeAny_call_builtin ga.plain F.entry_bexc_ga (getE_check X I q (getE_entry X I hf ?_))
  show wpAny _ _ (handedOut v) _ _ _
  rw [ho]
  exact wpAny_pure hq
end
theorem getE_own {prog : Program} {w : World} {A : Around} {E : Value → Shared → Prop} {s : Shared} {K : Frag} {x C L : Addr} {ox : Obj} {es : List DictEntry} {n : Nat} {name : Str} {v : Value} {attr : Option Value} {expr : Bool} {Q : Value → Shared → Prop} {h₀ : Heap} {m : Str → Option Value}
    (F : Fr h₀ L s.heap m) (X₀ : K.In h₀) (I : InstAt s.heap x ox C (some (dictOf es n))) (q : ktsIn K C "BaseException" = true)
    (hga : findIn K (.ref C) "__getattribute__" = some (some (.builtin "BaseException.__getattribute__"))) (hgt : findIn K (.ref C) "__getattr__" = some none) (hdi : hasDictIn K C = true) (ha : findIn K (.ref C) name = some attr) (hn : noGet K attr = true)
    (hl : getL name es = some (some v)) (hv : handedIn v = true) (h : Q v { s with toks := s.toks + 1 }) : wpAny (model prog w) A (getAttr (.ref x) name expr) Q E s :=
  getE (X₀.keeps F.keep) I q hga hgt (findObj_own hdi ha hn hl) hv h
end

section
-- Q2
open PySem PySem.W PyProof.Rows
theorem kwn_Q2 : True := by
  k_with_none
  w_top off
  trivial
theorem kwo_Q2 : True := by
  k_with "m:omega" => first | with_reducible assumption | decide | with_reducible exact Int.le_refl _ | with_reducible exact Nat.le_refl _ | with_reducible exact rm_u2 | with_reducible exact rm_d2 | with_reducible exact rm_u1 | with_reducible exact rm_d1 | with_reducible exact rm_u0 | with_reducible exact rm_d0 | with_reducible exact n_up | with_reducible exact q_o | with_reducible exact q_c1 | with_reducible exact q_c2 | with_reducible exact q_c3 | with_reducible exact q_c4 | with_reducible exact q_n1 | with_reducible exact q_n2 | with_reducible exact q_n3 | with_reducible exact q_l1 | with_reducible exact q_l2 | with_reducible exact q_t1 | with_reducible exact q_t2 | with_reducible exact q_t3 | with_reducible exact q_t4 | with_reducible exact q_t5 | ((with_reducible show _ ≠ _); first | k_extra "P" | (refine Ne.symm ?_; k_extra "P") | (refine Nat.ne_of_lt ?_; k_extra "P") | (refine Nat.ne_of_gt ?_; k_extra "P"))
  k_with "P" => first | with_reducible assumption | with_reducible exact And.left (by with_reducible assumption) | with_reducible exact And.right (by with_reducible assumption) | with_reducible exact q_r (by with_reducible assumption) | with_reducible exact q_s (by with_reducible assumption) | with_reducible exact q_t (by with_reducible assumption) | with_reducible exact q_u (by with_reducible assumption)
  k_with "D" => ((try simp +zetaDelta only [depth_in1, depth_deeper]); (try dsimp only [ktrTop]); omega)
  k_with "U" => ((try simp +zetaDelta only [units_in1, units_deeper, Around.mark_units]); (try dsimp only [ktrTop]); omega)
  k_with "K5" => ((case k1 => k_asm); (case k2 => k_asm); (case k3 => k_asm); (case k4 => k_asm); (case k5 => k_asm))
  k_with "S" => first | with_reducible assumption | exact .inl rfl | exact .inr (.inl rfl) | exact .inr (.inr rfl) | exact .inr rfl | omega | k_mem | fail | (simp only [PySem.Str.length_append, KOpn.len_one]; omega) | assumption
  k_with "m:eval Call" => (k_here; k_dflt (first | ((with_reducible show wpAny _ _ (eval (.Call (.Name (Str.ofString "len") _) [.Name _ _] [] _) _) _ _ _); refine len_nm (q := ?_)) | ((with_reducible show wpAny _ _ (eval (.Call (.Name (Str.ofString "len") _) [_] [] _) _) _ _ _); refine callLen (h := ?_)) | ((with_reducible show wpAny _ _ (eval (.Call (.Name (Str.ofString "str") _) [_] [] _) _) _ _ _); refine callStr (h := ?_)) | ((with_reducible show wpAny _ _ (eval (.Call (.Name _ _) [_] [] _) _) _ _ _); refine callK1 (h := ?_)) | ((with_reducible show wpAny _ _ (eval (.Call (.Name _ _) [_, _] [] _) _) _ _ _); refine callK2 (h := ?_)) | ((with_reducible show wpAny _ _ (eval (.Call (.Name _ _) [_, _, _] [] _) _) _ _ _); refine callK3 (h := ?_))); k_whole)
  k_with "m:eval Constant int" => (k_here; k_dflt (refine cInt ?_); k_whole)
  k_with "m:eval Constant str" => (k_here; k_dflt (refine cStr ?_); k_whole)
  k_with "m:storeName" => (k_here; k_dflt (refine storeS (q := ?_)); k_whole; intro h' F' N'; (try k_sweep))
  k_with "m:binaryOp Add int int" => (k_here; k_dflt (refine addS ?_); k_whole)
  k_with "m:binaryOp Sub int int" => (k_here; k_dflt (refine subS ?_); k_whole)
  k_with "m:call builtin:len" => (k_here; (with_reducible show wpAny _ _ (call _ [.str _ _]) _ _ _); k_dflt (refine lenS (q := ?_)); k_whole)
  k_with "m:newList" => (k_here; k_dflt (refine lstS (q := ?_) (by first | exact Nat.le_of_ble_eq_true rfl | size_fits)); k_whole; intro l' h' F' N' l1; (try k_lt l1); (try k_sweep))
  k_with "m:execs cons" => (k_here; k_dflt (first | ((with_reducible show wpAny _ _ (execs (.Assign [.Name _ _] _ _ :: _) _) _ _ _); refine sAsg ?_ (Eq.refl true)) | ((with_reducible show wpAny _ _ (execs (.Return (some _) _ :: _) _) _ _ _); refine sRet ?_) | ((with_reducible show wpAny _ _ (execs (.If _ [.Return (some _) _] [] _ :: _) _) _ _ _); refine sIfR ?_) | ((with_reducible show wpAny _ _ (execs (.If _ _ [] _ :: _) _) _ _ _); refine sIf1 ?_)); k_whole)
  k_with "m:eval Tuple" => (k_here; first | ((with_reducible show wpAny _ _ (eval (.Tuple [.Constant (.str _) _ _, .Constant (.str _) _ _] _ _) _) _ _ _); k_dflt (refine tupSS (q := ?_)); k_whole; intro D' h' F' N' l1; (try k_lt l1)) | ((with_reducible show wpAny _ _ (eval (.Tuple [_, _] _ _) _) _ _ _); k_dflt (refine tup2 ?_ (Eq.refl true) (Eq.refl true)); k_whole))
  k_with "m:eval List" => (k_here; k_dflt (first | ((with_reducible show wpAny _ _ (eval (.List [_] _) _) _ _ _); refine lst1 ?_ (Eq.refl true)) | ((with_reducible show wpAny _ _ (eval (.List [_, _] _) _) _ _ _); refine lst2 ?_ (Eq.refl true) (Eq.refl true)) | ((with_reducible show wpAny _ _ (eval (.List [_, _, _] _) _) _ _ _); refine lst3 ?_ (Eq.refl true) (Eq.refl true) (Eq.refl true)) | ((with_reducible show wpAny _ _ (eval (.List [_, _, _, _] _) _) _ _ _); refine lst4 ?_ (Eq.refl true) (Eq.refl true) (Eq.refl true) (Eq.refl true))); k_whole)
  k_with "m:eval BinOp" => (k_here; k_dflt (first | ((with_reducible show wpAny _ _ (eval (.BinOp (.Name _ _) _ (.Name _ _) _) _) _ _ _); refine bNN (q := ?_)) | ((with_reducible show wpAny _ _ (eval (.BinOp (.Name _ _) _ (.Constant (.int _) _ _) _) _) _ _ _); refine bNC (q := ?_)) | ((with_reducible show wpAny _ _ (eval (.BinOp (.Name _ _) _ _ _) _) _ _ _); refine bN (q := ?_))); k_whole)
  k_with "m:isTrue Compare" => (k_here; k_dflt (first | ((with_reducible show wpAny _ _ (isTrue (.Compare (.Name _ _) [_] [(.Name _ _)] _) _ _) _ _ _); refine cNN (q := ?_)) | ((with_reducible show wpAny _ _ (isTrue (.Compare (.Name _ _) [_] [(.Constant (.int _) _ _)] _) _ _) _ _ _); refine cNC (q := ?_)) | ((with_reducible show wpAny _ _ (isTrue (.Compare (.Name _ _) [_] [_] _) _ _) _ _ _); refine cN (q := ?_))); k_whole)
  k_with "m:eval Subscript" => (k_here; k_dflt (first | ((with_reducible show wpAny _ _ (eval (.Subscript (.Name _ _) (.Name _ _) _) _) _ _ _); refine gNN (q := ?_)) | ((with_reducible show wpAny _ _ (eval (.Subscript (.Name _ _) (.Constant (.int _) _ _) _) _) _ _ _); refine gNC (q := ?_)) | ((with_reducible show wpAny _ _ (eval (.Subscript (.Name _ _) _ _) _) _ _ _); refine gN (q := ?_))); k_whole)
  trivial
open PySem.Challenge
set_option maxRecDepth 100000
set_option maxHeartbeats 4000000
noncomputable abbrev tupO (vs : List Value) : Obj := { cls := .type "tuple", data := .seq vs.toArray }
/-- a new tuple comes back -/
noncomputable abbrev RetN (news : List (Addr × Obj)) (vs : Tok → Tok → List Value) (h₀ : Heap) (L : Addr) (m : Str → Option Value) (s : Shared) (Q : Value → Shared → Prop) : Prop :=
  ∀ (D : Addr) (t t' : Tok) (h' : Heap) (tk' : Nat), Fr h₀ L h' m → News h₀ L h' ((D, tupO (vs t t')) :: news) → (∀ p ∈ news, p.1 ≠ D) → Q (.ref D) { s with heap := h', toks := tk' }
noncomputable abbrev FunC (d : Nat) (w : World) (mean : ExcName → Option Value) (mg mb : Str → Option Value) (ws : Addr) (o : Obj) (f : Str) (bad : Option (Str × List Str)) : Prop :=
  ∀ ⦃news⦄, (ws, o) ∈ news → CbE d w mean mg mb 339 news [.ref ws] (RetV news fun t => .str f t) bad
theorem kw_Q2_1 : True := by
  k_with "m:call ref" => (k_here; (with_reducible show wpAny _ _ (call (Value.ref 339) _) _ _ _); k_extra "call ref")
  trivial
theorem heard_good_c {w mean mg mb} {news : List (Addr × Obj)} {ws : Addr} {vs : Array Value} {n : Nat} {f : Str} {bad : Option (Str × List Str)}
    (hl : (ws, ({ cls := .type "list", data := .seq vs n } : Obj)) ∈ news) (C : FunC 150 w mean mg mb ws { cls := .type "list", data := .seq vs n } f bad) (hb : bad = none) :
    CbH 160 w mean mg mb 346 news [.ref ws] (RetN news fun t t' => [.str (Str.ofString "gave") t, .str f t']) := by
  k_with "call ref" => (k_here; (with_reducible show wpAny _ _ (call (Value.ref 339) _) _ _ _); k_dflt (refine' C ?hc0 _ _ _ _ _ _ _ _ _ _ _ _ _ _ _ _ ?k1 ?k2 ?k3 ?k4 ?k5 ?kK ?kd ?ku ?_ ?_); k_extra "K5"; (case kK => first | exact rfl | assumption); (case hc0 => k_extra "S"); (case kd => (k_extra "D")); (case ku => (k_extra "U")); all_goals (first | (intro msg9 ecs9 hb9 g9 e9 d9 ec9 es9 n9 n9' vs9 t19 t29 tv9 h9 tk9 Fg9 R9 U9 c19 c29 c39 S9; (try dsimp only)) | (intro hb9 t9 h9 tk9 F9 N9; (try dsimp only); (skip); (all_goals (try k_fold)))))
  ((try unfold Cb); (try unfold CbE); (try unfold CbG); (try unfold CbH); k_fill; (try dsimp only [RetV, RetT]); intros; rename_i s0 Q0 E0 B0 F0 X0 N0 T0 hk0 hd0 hu0 hret; refine wpAny_call ?_; k_dflt (refine' code_defP ?k1 ?k2 ?k3 ?k4 ?k5 ?kA ?kF ?kK ?k6 ?k7 ?k8 ?k9 ?kB ?_ ?c2 ?c3 ?c4 ?c5; (case kA => exact rfl); (case kF => exact rfl); (case kK => first | exact rfl | assumption); (case k1 => k_asm); (case k2 => k_asm); (case k4 => exact newsSub N0 hl); (case k3 => k_asm); (case k5 => k_asm); (case k6 => k_is); (case k7 => k_is); (case k8 => ktr_room); (case k9 => exact BindsTo.of_eq rfl); (case c5 => decide); (case kB => exact locs rfl); (case c2 => exact rfl); (case c3 => exact rfl); (case c4 => exact rfl); k_whole; intro g' L' h' HG0 FG' F' N' B' X' T'; (try dsimp only); (try k_lift B'); (try k_fold)); (refine letA ?_); (intro kA); (replace F' : Fr g' L' h' (fun y => List.lookup y [(Str.ofString "words", _)]) := F'); (generalize Shared.toks _ + List.length _ = tk0))
  k_steps
  · exact hret _ _ _ _ _ (by k_asm) (newsOneM N0 (newsSub N0 hl) HG0 (by k_asm) (by k_asm) (by k_mem) (oneIn (by k_mem))) (neNew N0 (newsSub N0 hl) HG0 (by k_asm) (by k_mem) (oneNe (Nat.ne_of_lt (by k_asm))))
  · rw [hb] at hb9; cases hb9
/-- a raised fault's tuple comes back -/
noncomputable abbrev RetB (news : List (Addr × Obj)) (msg : Str) (ecs : List Str) (h₀ : Heap) (L : Addr) (m : Str → Option Value) (s : Shared) (Q : Value → Shared → Prop) : Prop :=
  ∀ (D ec : Addr) (t1 t2 t3 : Tok) (tv : List Value) (n' : Nat) (h' : Heap) (tk' : Nat), Fr h₀ L h' m → News h₀ L h' ((D, tupO [.str (Str.ofString "raised") t1, .int 1 t2, .str msg t3, .ref ec]) :: (ec, { cls := .type "tuple", data := .seq tv.toArray n' }) :: news) → StrsAre tv ecs → (∀ p ∈ news, p.1 ≠ D) → (∀ p ∈ news, p.1 ≠ ec) → ec ≠ D → Q (.ref D) { s with heap := h', toks := tk' }
theorem kw_Q2_2 : True := by
  k_with "m:noteFrame ref" => (k_here; k_dflt (refine' caughtD ?R ?hoc ?F ?K ?U ?XB ?TB ?D ?T0 ?ex ?q ?_ ?hk ?hlo ?hx ?hd; (case R => k_asm); (case hoc => exact rfl); (case F => assumption); (case K => assumption); (case U => assumption); (case XB => assumption); (case TB => assumption); (case D => assumption); (case T0 => exact KtsTurn.refl); (case ex => k_is); (case q => kts_isx); (case hk => exact rfl); (case hlo => exact rfl); (case hx => exact rfl); (case hd => decide); k_whole); intro h' g' tk' vs' T' F' N' K' X' P' D'; (try k_lift K'))
  k_with "m:getAttr ref" => (k_here; k_dflt (refine' getE_own ?k1 ?k2 ?k3 ?k0 ?ka ?kb ?k5 ?k6 ?k7 ?k8 ?k9 ?_; (case k1 => k_asm); (case k2 => k_asm); (case k3 => exact instE (by k_asm) (by k_mem) (by k_mem)); (case k0 => kts_isx); (case ka => k_is); (case kb => k_is); (case k5 => k_is); (case k6 => k_is); (case k7 => k_is); (case k8 => with_reducible assumption); (case k9 => k_handed); k_whole))
  trivial
theorem heard_bad_c {w mean mg mb} {news : List (Addr × Obj)} {ws : Addr} {vs : Array Value} {n : Nat} {f : Str} {bad : Option (Str × List Str)} {msg : Str} {ecs : List Str}
    (hl : (ws, ({ cls := .type "list", data := .seq vs n } : Obj)) ∈ news) (C : FunC 150 w mean mg mb ws { cls := .type "list", data := .seq vs n } f bad) (hb : bad = some (msg, ecs)) :
    CbT 160 w mean mg mb 346 news [.ref ws] (RetB news msg ecs) := by
  k_with "call ref" => (k_here; (with_reducible show wpAny _ _ (call (Value.ref 339) _) _ _ _); k_dflt (refine' C ?hc0 _ _ _ _ _ _ _ _ _ _ _ _ _ _ _ _ ?k1 ?k2 ?k3 ?k4 ?k5 ?kK ?kd ?ku ?_ ?_); k_extra "K5"; (case kK => first | exact rfl | assumption); (case hc0 => k_extra "S"); (case kd => (k_extra "D")); (case ku => (k_extra "U")); all_goals (first | (intro msg9 ecs9 hb9 g9 e9 d9 ec9 es9 n9 n9' vs9 t19 t29 tv9 h9 tk9 Fg9 R9 U9 c19 c29 c39 S9; (try dsimp only)) | (intro hb9 t9 h9 tk9 F9 N9; (try dsimp only); (skip); (all_goals (try k_fold)))))
  ((try unfold CbT); k_fill; intros; rename_i s0 Q0 E0 B0 F0 X0 N0 T0 XB0 TB0 KD0 KT0 hk0 hd0 hu0 hret; refine wpAny_call ?_; k_dflt (refine' code_defT ?k1 ?k2 ?k3 ?k4 ?k5 ?XB ?TB ?D ?T0 ?kA ?k6 ?k7 ?k8 ?k9 ?kB ?_ ?cK ?c2 ?c3 ?c4 ?c5; (case kA => exact rfl); (case k2 => k_asm); (case k1 => k_asm); (case XB => assumption); (case TB => assumption); (case D => assumption); (case T0 => assumption); (case k3 => k_asm); (case k4 => exact newsSub N0 hl); (case k5 => k_asm); (case k6 => k_is); (case k7 => k_is); (case k8 => ktr_room); (case k9 => exact BindsTo.of_eq rfl); (case kB => exact locs rfl); (case cK => first | exact rfl | assumption); (case c2 => exact rfl); (case c3 => exact rfl); (case c4 => exact rfl); (case c5 => decide); k_whole; intro g' L' h' HG0 FG' F' N' B' X' T' D'; (try dsimp only); (try k_lift B'); (try k_fold)); (refine letA ?_); (intro kA); (replace F' : Fr g' L' h' (fun y => List.lookup y [(Str.ofString "words", _)]) := F'); (generalize Shared.toks _ + List.length _ = tk0))
  k_steps
  · rw [hb] at hb9; cases hb9
  · rename_i kg kT kF kN kB kX0 kP kD kX
    rw [hb] at hb9
    cases hb9
    have kM := newsSub kN (show (ws, ({ cls := .type "list", data := .seq vs n } : Obj)) ∈ _ from by k_mem)
    have kK := newsKeepT B0 N0 (newsSub N0 hl) HG0 KT0 (by k_asm) (by k_asm) kT kM
    have kE := neObj kN (show (ws, ({ cls := .type "list", data := .seq vs n } : Obj)) ∈ _ from by k_mem) (show (ec9, ({ cls := .type "tuple", data := .seq tv9.toArray n9' } : Obj)) ∈ _ from by k_mem) (by simp)
    have kO := neNewT (D := ec9) (o := { cls := .type "tuple", data := .seq tv9.toArray n9' }) B0 N0 (newsSub N0 hl) HG0 (by k_asm) (by with_reducible assumption) (by k_mem) (oneNe kE)
    exact hret kg kT kB kX0 kP kD _ _ _ _ _ _ _ _ _ kF (fun q hq => by
      rcases List.mem_cons.mp hq with rfl | hq
      · exact kN _ (by k_mem)
      rcases List.mem_cons.mp hq with rfl | hq
      · exact kN _ (by k_mem)
      exact kK q hq) (by with_reducible assumption) (neNewT B0 N0 (newsSub N0 hl) HG0 (by k_asm) (by with_reducible assumption) (List.Mem.head _) (oneNe (neN (by dsimp only; omega)))) kO (neN (by omega))
end

section
-- L5
open PySem PySem.W PyProof.Rows
theorem kwn_L5 : True := by
  k_with_none
  w_top off
  trivial
theorem kwo_L5 : True := by
  k_with "m:omega" => first | with_reducible assumption | decide | with_reducible exact Int.le_refl _ | with_reducible exact Nat.le_refl _ | with_reducible exact rm_u2 | with_reducible exact rm_d2 | with_reducible exact rm_u1 | with_reducible exact rm_d1 | with_reducible exact rm_u0 | with_reducible exact rm_d0 | with_reducible exact n_up | with_reducible exact q_o | with_reducible exact q_c1 | with_reducible exact q_c2 | with_reducible exact q_c3 | with_reducible exact q_c4 | with_reducible exact q_n1 | with_reducible exact q_n2 | with_reducible exact q_n3 | with_reducible exact q_l1 | with_reducible exact q_l2 | with_reducible exact q_t1 | with_reducible exact q_t2 | with_reducible exact q_t3 | with_reducible exact q_t4 | with_reducible exact q_t5 | ((with_reducible show _ ≠ _); first | k_extra "P" | (refine Ne.symm ?_; k_extra "P") | (refine Nat.ne_of_lt ?_; k_extra "P") | (refine Nat.ne_of_gt ?_; k_extra "P"))
  k_with "P" => first | with_reducible assumption | with_reducible exact And.left (by with_reducible assumption) | with_reducible exact And.right (by with_reducible assumption) | with_reducible exact q_r (by with_reducible assumption) | with_reducible exact q_s (by with_reducible assumption) | with_reducible exact q_t (by with_reducible assumption) | with_reducible exact q_u (by with_reducible assumption)
  k_with "dr" => first | with_reducible assumption | with_reducible exact (News.tl (by with_reducible assumption)) | with_reducible exact (News.tl (News.tl (by with_reducible assumption))) | with_reducible exact (News.tl (News.tl (News.tl (by with_reducible assumption)))) | with_reducible exact (News.tl (News.tl (News.tl (News.tl (by with_reducible assumption))))) | with_reducible exact (News.tl (News.tl (News.tl (News.tl (News.tl (by with_reducible assumption)))))) | with_reducible exact (News.tl (News.tl (News.tl (News.tl (News.tl (News.tl (by with_reducible assumption))))))) | with_reducible exact News.apl (by with_reducible assumption) | with_reducible exact News.apl (News.tl (by with_reducible assumption)) | with_reducible exact News.apl (News.tl (News.tl (by with_reducible assumption))) | with_reducible exact News.apl (News.tl (News.tl (News.tl (by with_reducible assumption)))) | with_reducible exact News.apl (News.tl (News.tl (News.tl (News.tl (by with_reducible assumption)))))
  k_with "m:eval Call" => (k_here; k_dflt (first | ((with_reducible show wpAny _ _ (eval (.Call (.Name (Str.ofString "len") _) [.Name _ _] [] _) _) _ _ _); refine len_nm (q := ?_)) | ((with_reducible show wpAny _ _ (eval (.Call (.Name (Str.ofString "len") _) [_] [] _) _) _ _ _); refine callLen (h := ?_)) | ((with_reducible show wpAny _ _ (eval (.Call (.Name (Str.ofString "str") _) [_] [] _) _) _ _ _); refine callStr (h := ?_)) | ((with_reducible show wpAny _ _ (eval (.Call (.Name _ _) [_] [] _) _) _ _ _); refine callK1 (h := ?_)) | ((with_reducible show wpAny _ _ (eval (.Call (.Name _ _) [_, _] [] _) _) _ _ _); refine callK2 (h := ?_)) | ((with_reducible show wpAny _ _ (eval (.Call (.Name _ _) [_, _, _] [] _) _) _ _ _); refine callK3 (h := ?_))); k_whole)
  k_with "m:eval Constant int" => (k_here; k_dflt (refine cInt ?_); k_whole)
  k_with "m:eval Constant str" => (k_here; k_dflt (refine cStr ?_); k_whole)
  k_with "m:storeName" => (k_here; k_dflt (refine storeS (q := ?_)); k_whole; intro h' F' N'; (try k_sweep))
  k_with "m:binaryOp Add int int" => (k_here; k_dflt (refine addS ?_); k_whole)
  k_with "m:binaryOp Sub int int" => (k_here; k_dflt (refine subS ?_); k_whole)
  k_with "m:call builtin:len" => (k_here; (with_reducible show wpAny _ _ (call _ [.str _ _]) _ _ _); k_dflt (refine lenS (q := ?_)); k_whole)
  k_with "m:newList" => (k_here; k_dflt (refine lstS (q := ?_) (by first | exact Nat.le_of_ble_eq_true rfl | size_fits)); k_whole; intro l' h' F' N' l1; (try k_lt l1); (try k_sweep))
  k_with "m:execs cons" => (k_here; k_dflt (first | ((with_reducible show wpAny _ _ (execs (.Assign [.Name _ _] _ _ :: _) _) _ _ _); refine sAsg ?_ (Eq.refl true)) | ((with_reducible show wpAny _ _ (execs (.Return (some _) _ :: _) _) _ _ _); refine sRet ?_) | ((with_reducible show wpAny _ _ (execs (.If _ [.Return (some _) _] [] _ :: _) _) _ _ _); refine sIfR ?_) | ((with_reducible show wpAny _ _ (execs (.If _ _ [] _ :: _) _) _ _ _); refine sIf1 ?_)); k_whole)
  k_with "m:eval Tuple" => (k_here; first | ((with_reducible show wpAny _ _ (eval (.Tuple [.Constant (.str _) _ _, .Constant (.str _) _ _] _ _) _) _ _ _); k_dflt (refine tupSS (q := ?_)); k_whole; intro D' h' F' N' l1; (try k_lt l1)) | ((with_reducible show wpAny _ _ (eval (.Tuple [_, _] _ _) _) _ _ _); k_dflt (refine tup2 ?_ (Eq.refl true) (Eq.refl true)); k_whole))
  k_with "m:eval List" => (k_here; k_dflt (first | ((with_reducible show wpAny _ _ (eval (.List [_] _) _) _ _ _); refine lst1 ?_ (Eq.refl true)) | ((with_reducible show wpAny _ _ (eval (.List [_, _] _) _) _ _ _); refine lst2 ?_ (Eq.refl true) (Eq.refl true)) | ((with_reducible show wpAny _ _ (eval (.List [_, _, _] _) _) _ _ _); refine lst3 ?_ (Eq.refl true) (Eq.refl true) (Eq.refl true)) | ((with_reducible show wpAny _ _ (eval (.List [_, _, _, _] _) _) _ _ _); refine lst4 ?_ (Eq.refl true) (Eq.refl true) (Eq.refl true) (Eq.refl true))); k_whole)
  k_with "m:eval BinOp" => (k_here; k_dflt (first | ((with_reducible show wpAny _ _ (eval (.BinOp (.Name _ _) _ (.Name _ _) _) _) _ _ _); refine bNN (q := ?_)) | ((with_reducible show wpAny _ _ (eval (.BinOp (.Name _ _) _ (.Constant (.int _) _ _) _) _) _ _ _); refine bNC (q := ?_)) | ((with_reducible show wpAny _ _ (eval (.BinOp (.Name _ _) _ _ _) _) _ _ _); refine bN (q := ?_))); k_whole)
  k_with "m:isTrue Compare" => (k_here; k_dflt (first | ((with_reducible show wpAny _ _ (isTrue (.Compare (.Name _ _) [_] [(.Name _ _)] _) _ _) _ _ _); refine cNN (q := ?_)) | ((with_reducible show wpAny _ _ (isTrue (.Compare (.Name _ _) [_] [(.Constant (.int _) _ _)] _) _ _) _ _ _); refine cNC (q := ?_)) | ((with_reducible show wpAny _ _ (isTrue (.Compare (.Name _ _) [_] [_] _) _ _) _ _ _); refine cN (q := ?_))); k_whole)
  k_with "m:eval Subscript" => (k_here; k_dflt (first | ((with_reducible show wpAny _ _ (eval (.Subscript (.Name _ _) (.Name _ _) _) _) _ _ _); refine gNN (q := ?_)) | ((with_reducible show wpAny _ _ (eval (.Subscript (.Name _ _) (.Constant (.int _) _ _) _) _) _ _ _); refine gNC (q := ?_)) | ((with_reducible show wpAny _ _ (eval (.Subscript (.Name _ _) _ _) _) _ _ _); refine gN (q := ?_))); k_whole)
  trivial
open PySem.Challenge
set_option maxRecDepth 100000
set_option maxHeartbeats 4000000
noncomputable def lowOne (n : Int) : Str := if (Txt.lower ⟨#[n.toNat]⟩).length = 1 then Txt.lower ⟨#[n.toNat]⟩ else ⟨#[n.toNat]⟩
noncomputable def foldI (l : List Int) : Str := l.foldl (fun a n => a ++ lowOne n) (Str.ofString "")
noncomputable def foldF (c : Str) : Str := foldI (KStt.codes c)
theorem lowOne_len (n : Int) : (lowOne n).length = 1 := by
  unfold lowOne
  split
  · assumption
  · rfl
theorem fold_t1 {pre : List Int} {n : Nat} {made : Str} (h : made.length = pre.length ∧ made = foldI pre) (h1 : ((Txt.lower ⟨#[n]⟩).length : Int) = 1) :
    (made ++ Txt.lower ⟨#[n]⟩).length = (pre ++ [(n : Int)]).length ∧ made ++ Txt.lower ⟨#[n]⟩ = foldI (pre ++ [(n : Int)]) := by
  have e : lowOne (n : Int) = Txt.lower ⟨#[n]⟩ := by unfold lowOne; rw [Int.toNat_natCast, if_pos (by omega)]
  refine ⟨?_, ?_⟩
  · rw [PySem.Str.length_append, List.length_append, h.1, List.length_singleton]; omega
  · rw [h.2]; unfold foldI; rw [List.foldl_append]; show _ = _ ++ lowOne n; rw [e]
theorem fold_t2 {pre : List Int} {n : Nat} {made : Str} (h : made.length = pre.length ∧ made = foldI pre) (h1 : ¬ ((Txt.lower ⟨#[n]⟩).length : Int) = 1) :
    (made ++ ⟨#[n]⟩).length = (pre ++ [(n : Int)]).length ∧ made ++ ⟨#[n]⟩ = foldI (pre ++ [(n : Int)]) := by
  have e : lowOne (n : Int) = ⟨#[n]⟩ := by unfold lowOne; rw [Int.toNat_natCast, if_neg (by omega)]
  refine ⟨?_, ?_⟩
  · rw [PySem.Str.length_append, List.length_append, h.1, List.length_singleton]; rfl
  · rw [h.2]; unfold foldI; rw [List.foldl_append]; show _ = _ ++ lowOne n; rw [e]
theorem kw_L5_1 : True := by
  k_with "m:last call builtin:len" => (k_here; (with_reducible show wpAny _ _ (call (Value.builtin "len") [Value.str (Txt.lower { cps := #[_] }) _]) _ _ _); (rename (Txt.lower _).length ≤ 3 * _ => hLow); (simp only [KOpn.len_one] at hLow); (refine P.len_str (by omega) ?_))
  trivial
theorem folded_c {w mean mg mb} {news : List (Addr × Obj)} {c : Str} {t : Tok} (hc : c.length ≤ 1000) : Cb 2 w mean mg mb 136 news [.str c t] (fun t => .str (foldF c) t) := by
  k_with "pyIter str" => k_state (fun pre made => made.length = pre.length ∧ made = foldI pre) "made"
  k_with "state" => first | with_reducible exact fold_t1 ⟨by assumption, by assumption⟩ (by assumption) | with_reducible exact fold_t2 ⟨by assumption, by assumption⟩ (by assumption) | exact ⟨rfl, rfl⟩
  ((try unfold Cb); unfold CbG; k_fill; (try dsimp only [RetV, RetT]); intros; rename_i hret; refine wpAny_call ?_; k_dflt cell_enter; (refine letA ?_); (intro kA); (rename Fr _ _ _ _ => sF); (first | replace sF : Fr _ _ _ (fun y => List.lookup y [(Str.ofString "text", _)]) := sF | replace sF : Fr _ _ _ (fun y => List.lookup y [(Str.ofString "text", _)]) := sF); (generalize Shared.toks _ + List.length _ = tk0); k_steps)
  all_goals (refine cb_retS hret ?_ (by k_asm) (by k_extra "dr"))
  all_goals (first | assumption)
theorem foldI_len (l : List Int) : (foldI l).length = l.length := by
  suffices h : ∀ (l : List Int) (a : Str), (l.foldl (fun a n => a ++ lowOne n) a).length = a.length + l.length by
    have := h l (Str.ofString ""); rw [show (Str.ofString "").length = 0 from rfl, Nat.zero_add] at this; exact this
  intro l
  induction l with
  | nil => intro a; rfl
  | cons n r ih => intro a; rw [List.foldl_cons, ih, PySem.Str.length_append, lowOne_len, List.length_cons]; omega
theorem foldF_len (c : Str) : (foldF c).length = c.length := by rw [foldF, foldI_len, KStt.codes_length]
end

section
-- L6
open PySem PySem.W PyProof.Rows
theorem kwn_L6 : True := by
  k_with_none
  w_top off
  trivial
theorem kwo_L6 : True := by
  k_with "m:omega" => first | with_reducible assumption | decide | with_reducible exact Int.le_refl _ | with_reducible exact Nat.le_refl _ | with_reducible exact rm_u2 | with_reducible exact rm_d2 | with_reducible exact rm_u1 | with_reducible exact rm_d1 | with_reducible exact rm_u0 | with_reducible exact rm_d0 | with_reducible exact n_up | with_reducible exact q_o | with_reducible exact q_c1 | with_reducible exact q_c2 | with_reducible exact q_c3 | with_reducible exact q_c4 | with_reducible exact q_n1 | with_reducible exact q_n2 | with_reducible exact q_n3 | with_reducible exact q_l1 | with_reducible exact q_l2 | with_reducible exact q_t1 | with_reducible exact q_t2 | with_reducible exact q_t3 | with_reducible exact q_t4 | with_reducible exact q_t5 | ((with_reducible show _ ≠ _); first | k_extra "P" | (refine Ne.symm ?_; k_extra "P") | (refine Nat.ne_of_lt ?_; k_extra "P") | (refine Nat.ne_of_gt ?_; k_extra "P"))
  k_with "P" => first | with_reducible assumption | with_reducible exact And.left (by with_reducible assumption) | with_reducible exact And.right (by with_reducible assumption) | with_reducible exact q_r (by with_reducible assumption) | with_reducible exact q_s (by with_reducible assumption) | with_reducible exact q_t (by with_reducible assumption) | with_reducible exact q_u (by with_reducible assumption)
  k_with "D" => ((try simp +zetaDelta only [depth_in1, depth_deeper]); (try dsimp only [ktrTop]); omega)
  k_with "U" => ((try simp +zetaDelta only [units_in1, units_deeper, Around.mark_units]); (try dsimp only [ktrTop]); omega)
  k_with "K5" => ((case k1 => k_asm); (case k2 => k_asm); (case k3 => k_asm); (case k4 => k_asm); (case k5 => k_asm))
  k_with "S" => first | with_reducible assumption | exact .inl rfl | exact .inr (.inl rfl) | exact .inr (.inr rfl) | exact .inr rfl | omega | k_mem | fail | (simp only [PySem.Str.length_append, KOpn.len_one]; omega) | assumption
  k_with "dr" => first | with_reducible assumption | with_reducible exact (News.tl (by with_reducible assumption)) | with_reducible exact (News.tl (News.tl (by with_reducible assumption))) | with_reducible exact (News.tl (News.tl (News.tl (by with_reducible assumption)))) | with_reducible exact (News.tl (News.tl (News.tl (News.tl (by with_reducible assumption))))) | with_reducible exact (News.tl (News.tl (News.tl (News.tl (News.tl (by with_reducible assumption)))))) | with_reducible exact (News.tl (News.tl (News.tl (News.tl (News.tl (News.tl (by with_reducible assumption))))))) | with_reducible exact News.apl (by with_reducible assumption) | with_reducible exact News.apl (News.tl (by with_reducible assumption)) | with_reducible exact News.apl (News.tl (News.tl (by with_reducible assumption))) | with_reducible exact News.apl (News.tl (News.tl (News.tl (by with_reducible assumption)))) | with_reducible exact News.apl (News.tl (News.tl (News.tl (News.tl (by with_reducible assumption)))))
  k_with "m:eval Call" => (k_here; k_dflt (first | ((with_reducible show wpAny _ _ (eval (.Call (.Name (Str.ofString "len") _) [.Name _ _] [] _) _) _ _ _); refine len_nm (q := ?_)) | ((with_reducible show wpAny _ _ (eval (.Call (.Name (Str.ofString "len") _) [_] [] _) _) _ _ _); refine callLen (h := ?_)) | ((with_reducible show wpAny _ _ (eval (.Call (.Name (Str.ofString "str") _) [_] [] _) _) _ _ _); refine callStr (h := ?_)) | ((with_reducible show wpAny _ _ (eval (.Call (.Name _ _) [_] [] _) _) _ _ _); refine callK1 (h := ?_)) | ((with_reducible show wpAny _ _ (eval (.Call (.Name _ _) [_, _] [] _) _) _ _ _); refine callK2 (h := ?_)) | ((with_reducible show wpAny _ _ (eval (.Call (.Name _ _) [_, _, _] [] _) _) _ _ _); refine callK3 (h := ?_))); k_whole)
  k_with "m:eval Constant int" => (k_here; k_dflt (refine cInt ?_); k_whole)
  k_with "m:eval Constant str" => (k_here; k_dflt (refine cStr ?_); k_whole)
  k_with "m:storeName" => (k_here; k_dflt (refine storeS (q := ?_)); k_whole; intro h' F' N'; (try k_sweep))
  k_with "m:binaryOp Add int int" => (k_here; k_dflt (refine addS ?_); k_whole)
  k_with "m:binaryOp Sub int int" => (k_here; k_dflt (refine subS ?_); k_whole)
  k_with "m:call builtin:len" => (k_here; (with_reducible show wpAny _ _ (call _ [.str _ _]) _ _ _); k_dflt (refine lenS (q := ?_)); k_whole)
  k_with "m:newList" => (k_here; k_dflt (refine lstS (q := ?_) (by first | exact Nat.le_of_ble_eq_true rfl | size_fits)); k_whole; intro l' h' F' N' l1; (try k_lt l1); (try k_sweep))
  k_with "m:execs cons" => (k_here; k_dflt (first | ((with_reducible show wpAny _ _ (execs (.Assign [.Name _ _] _ _ :: _) _) _ _ _); refine sAsg ?_ (Eq.refl true)) | ((with_reducible show wpAny _ _ (execs (.Return (some _) _ :: _) _) _ _ _); refine sRet ?_) | ((with_reducible show wpAny _ _ (execs (.If _ [.Return (some _) _] [] _ :: _) _) _ _ _); refine sIfR ?_) | ((with_reducible show wpAny _ _ (execs (.If _ _ [] _ :: _) _) _ _ _); refine sIf1 ?_)); k_whole)
  k_with "m:eval Tuple" => (k_here; first | ((with_reducible show wpAny _ _ (eval (.Tuple [.Constant (.str _) _ _, .Constant (.str _) _ _] _ _) _) _ _ _); k_dflt (refine tupSS (q := ?_)); k_whole; intro D' h' F' N' l1; (try k_lt l1)) | ((with_reducible show wpAny _ _ (eval (.Tuple [_, _] _ _) _) _ _ _); k_dflt (refine tup2 ?_ (Eq.refl true) (Eq.refl true)); k_whole))
  k_with "m:eval List" => (k_here; k_dflt (first | ((with_reducible show wpAny _ _ (eval (.List [_] _) _) _ _ _); refine lst1 ?_ (Eq.refl true)) | ((with_reducible show wpAny _ _ (eval (.List [_, _] _) _) _ _ _); refine lst2 ?_ (Eq.refl true) (Eq.refl true)) | ((with_reducible show wpAny _ _ (eval (.List [_, _, _] _) _) _ _ _); refine lst3 ?_ (Eq.refl true) (Eq.refl true) (Eq.refl true)) | ((with_reducible show wpAny _ _ (eval (.List [_, _, _, _] _) _) _ _ _); refine lst4 ?_ (Eq.refl true) (Eq.refl true) (Eq.refl true) (Eq.refl true))); k_whole)
  k_with "m:eval BinOp" => (k_here; k_dflt (first | ((with_reducible show wpAny _ _ (eval (.BinOp (.Name _ _) _ (.Name _ _) _) _) _ _ _); refine bNN (q := ?_)) | ((with_reducible show wpAny _ _ (eval (.BinOp (.Name _ _) _ (.Constant (.int _) _ _) _) _) _ _ _); refine bNC (q := ?_)) | ((with_reducible show wpAny _ _ (eval (.BinOp (.Name _ _) _ _ _) _) _ _ _); refine bN (q := ?_))); k_whole)
  k_with "m:isTrue Compare" => (k_here; k_dflt (first | ((with_reducible show wpAny _ _ (isTrue (.Compare (.Name _ _) [_] [(.Name _ _)] _) _ _) _ _ _); refine cNN (q := ?_)) | ((with_reducible show wpAny _ _ (isTrue (.Compare (.Name _ _) [_] [(.Constant (.int _) _ _)] _) _ _) _ _ _); refine cNC (q := ?_)) | ((with_reducible show wpAny _ _ (isTrue (.Compare (.Name _ _) [_] [_] _) _ _) _ _ _); refine cN (q := ?_))); k_whole)
  k_with "m:eval Subscript" => (k_here; k_dflt (first | ((with_reducible show wpAny _ _ (eval (.Subscript (.Name _ _) (.Name _ _) _) _) _ _ _); refine gNN (q := ?_)) | ((with_reducible show wpAny _ _ (eval (.Subscript (.Name _ _) (.Constant (.int _) _ _) _) _) _ _ _); refine gNC (q := ?_)) | ((with_reducible show wpAny _ _ (eval (.Subscript (.Name _ _) _ _) _) _ _ _); refine gN (q := ?_))); k_whole)
  trivial
open PySem.Challenge
set_option maxRecDepth 100000
set_option maxHeartbeats 4000000

noncomputable def cutA (n f l : Int) : Int := if (if n ≤ l then n - 1 else l) < (if f < 0 then 0 else f) then 0 else if f < 0 then 0 else f
noncomputable def cutB (n f l : Int) : Int := if (if n ≤ l then n - 1 else l) < (if f < 0 then 0 else f) then -1 else if n ≤ l then n - 1 else l
theorem cut_span_c {w mean mg mb} {news : List (Addr × Obj)} {c : Str} {t u v : Tok} {f l : Int} (hc : c.length ≤ 1000) : CbG 2 w mean mg mb 171 news [.str c t, .int f u, .int l v]
    (RetT news fun t t' => [.int (cutA c.length f l) t, .int (cutB c.length f l) t']) := by
  ((try unfold Cb); unfold CbG; k_fill; (try dsimp only [RetV, RetT]); intros; rename_i hret; refine wpAny_call ?_; k_dflt cell_enter; (refine letA ?_); (intro kA); (rename Fr _ _ _ _ => sF); (first | replace sF : Fr _ _ _ (fun y => List.lookup y [(Str.ofString "last", _), (Str.ofString "first", _), (Str.ofString "text", _)]) := sF | replace sF : Fr _ _ _ (fun y => List.lookup y [(Str.ofString "text", _), (Str.ofString "first", _), (Str.ofString "last", _)]) := sF); (generalize Shared.toks _ + List.length _ = tk0); k_steps)
  all_goals (apply retT_end hret (by k_asm) (by k_asm) (by with_reducible assumption); apply tup_ii)
  all_goals (simp only [cutA, cutB]; (repeat' split) <;> omega)
theorem kw_L6_1 : True := by
  k_with "m:call ref" => (k_here; (with_reducible show wpAny _ _ (call (Value.ref 171) _) _ _ _); k_dflt (refine' cut_span_c ?hc0 _ _ _ _ _ _ _ _ _ _ _ _ _ _ _ _ _ ?k1 ?k2 ?k3 ?k4 ?k5 ?kK ?kd ?ku ?_); k_extra "K5"; (case kK => first | exact rfl | assumption); (case hc0 => k_extra "S"); (case kd => (k_extra "D")); (case ku => (k_extra "U")); intro D9 t9 u9 h9 tk9 F9 N9 L9; (try dsimp only); (skip); (all_goals (try k_fold)))
  k_with "m:call ref" => (k_here; (with_reducible show wpAny _ _ (call (Value.ref 136) _) _ _ _); k_dflt (refine' folded_c ?hc0 _ _ _ _ _ _ _ _ _ _ _ _ _ _ _ _ _ ?k1 ?k2 ?k3 ?k4 ?k5 ?kK ?kd ?ku ?_); k_extra "K5"; (case kK => first | exact rfl | assumption); (case hc0 => k_extra "S"); (case kd => (k_extra "D")); (case ku => (k_extra "U")); intro t9 h9 tk9 F9 N9; (try dsimp only); (skip); (all_goals (try k_fold)))
  trivial
theorem cut_in {n f l : Int} (h : ¬ cutB n f l < cutA n f l) (hn : 0 ≤ n) : 0 ≤ cutA n f l ∧ cutA n f l < n ∧ cutB n f l < n := by
  unfold cutA cutB at *
  (repeat' split at h) <;> (repeat' split) <;> omega
theorem cutA_nn (n f l : Int) : 0 ≤ cutA n f l := by
  unfold cutA
  (repeat' split) <;> omega
theorem cutB_nn (n f l : Int) : -1 ≤ cutB n f l := by
  unfold cutB
  (repeat' split) <;> omega
theorem kw_L6_2 : True := by
  k_with "m:binaryOp Add str str" => (k_here; (with_reducible show wpAny _ _ (binaryOp Operator.Add (Value.str _ _) (Value.str _ _)) _ _ _); (refine KOpn.add (by (try simp only [PySem.Str.length_append, foldF_len]); omega) ?_); intro _ _ _)
  trivial
noncomputable def lowerF (c : Str) (f l : Int) : Str := Txt.slice c none (some (cutA c.length f l)) ++ foldF (Txt.slice c (some (cutA c.length f l)) (some (cutB c.length f l + 1))) ++ Txt.slice c (some (cutB c.length f l + 1)) none
theorem lower_c {w mean mg mb} {news : List (Addr × Obj)} {c : Str} {t u v : Tok} {f l : Int} (hc : c.length ≤ 1000) : Cb 6 w mean mg mb 178 news [.str c t, .int f u, .int l v] (fun t => .str (lowerF c f l) t) := by
  ((try unfold Cb); unfold CbG; k_fill; (try dsimp only [RetV, RetT]); intros; rename_i hret; refine wpAny_call ?_; k_dflt cell_enter; (refine letA ?_); (intro kA); (rename Fr _ _ _ _ => sF); (first | replace sF : Fr _ _ _ (fun y => List.lookup y [(Str.ofString "last", _), (Str.ofString "first", _), (Str.ofString "text", _)]) := sF | replace sF : Fr _ _ _ (fun y => List.lookup y [(Str.ofString "text", _), (Str.ofString "first", _), (Str.ofString "last", _)]) := sF); (generalize Shared.toks _ + List.length _ = tk0); k_steps)
  all_goals (refine cb_retS hret ?_ (by k_asm) (by k_extra "dr"))
  all_goals rfl
theorem kw_L6_3 : True := by
  k_with "m:call ref" => (k_here; (with_reducible show wpAny _ _ (call (Value.ref 143) _) _ _ _); k_dflt (refine' one_upper_c ?hc0 _ _ _ _ _ _ _ _ _ _ _ _ _ _ _ _ _ ?k1 ?k2 ?k3 ?k4 ?k5 ?kK ?kd ?ku ?_); k_extra "K5"; (case kK => first | exact rfl | assumption); (case hc0 => k_extra "S"); (case kd => (k_extra "D")); (case ku => (k_extra "U")); intro t9 h9 tk9 F9 N9; (try dsimp only); (skip); (all_goals (try k_fold)))
  k_with "m:binaryOp Add str str" => (k_here; (with_reducible show wpAny _ _ (binaryOp Operator.Add (Value.str _ _) (Value.str _ _)) _ _ _); (refine KOpn.add (by (try simp only [PySem.Str.length_append, foldF_len]); (have := oneUpper_le (Txt.item c (cutA c.length f l))); omega) ?_); intro _ _ _)
  trivial
end

section
-- M2
open PySem PySem.W PyProof.Rows
theorem kwn_M2 : True := by
  k_with_none
  w_top off
  trivial
theorem kwo_M2 : True := by
  k_with "m:omega" => first | with_reducible assumption | decide | with_reducible exact Int.le_refl _ | with_reducible exact Nat.le_refl _ | with_reducible exact rm_u2 | with_reducible exact rm_d2 | with_reducible exact rm_u1 | with_reducible exact rm_d1 | with_reducible exact rm_u0 | with_reducible exact rm_d0 | with_reducible exact n_up | with_reducible exact q_o | with_reducible exact q_c1 | with_reducible exact q_c2 | with_reducible exact q_c3 | with_reducible exact q_c4 | with_reducible exact q_n1 | with_reducible exact q_n2 | with_reducible exact q_n3 | with_reducible exact q_l1 | with_reducible exact q_l2 | with_reducible exact q_t1 | with_reducible exact q_t2 | with_reducible exact q_t3 | with_reducible exact q_t4 | with_reducible exact q_t5 | ((with_reducible show _ ≠ _); first | k_extra "P" | (refine Ne.symm ?_; k_extra "P") | (refine Nat.ne_of_lt ?_; k_extra "P") | (refine Nat.ne_of_gt ?_; k_extra "P"))
  k_with "P" => first | with_reducible assumption | with_reducible exact And.left (by with_reducible assumption) | with_reducible exact And.right (by with_reducible assumption) | with_reducible exact q_r (by with_reducible assumption) | with_reducible exact q_s (by with_reducible assumption) | with_reducible exact q_t (by with_reducible assumption) | with_reducible exact q_u (by with_reducible assumption)
  k_with "D" => ((try simp +zetaDelta only [depth_in1, depth_deeper]); (try dsimp only [ktrTop]); omega)
  k_with "U" => ((try simp +zetaDelta only [units_in1, units_deeper, Around.mark_units]); (try dsimp only [ktrTop]); omega)
  k_with "K5" => ((case k1 => k_asm); (case k2 => k_asm); (case k3 => k_asm); (case k4 => k_asm); (case k5 => k_asm))
  k_with "S" => first | with_reducible assumption | exact .inl rfl | exact .inr (.inl rfl) | exact .inr (.inr rfl) | exact .inr rfl | omega | k_mem | fail | (simp only [PySem.Str.length_append, KOpn.len_one]; omega) | assumption
  k_with "dr" => first | with_reducible assumption | with_reducible exact (News.tl (by with_reducible assumption)) | with_reducible exact (News.tl (News.tl (by with_reducible assumption))) | with_reducible exact (News.tl (News.tl (News.tl (by with_reducible assumption)))) | with_reducible exact (News.tl (News.tl (News.tl (News.tl (by with_reducible assumption))))) | with_reducible exact (News.tl (News.tl (News.tl (News.tl (News.tl (by with_reducible assumption)))))) | with_reducible exact (News.tl (News.tl (News.tl (News.tl (News.tl (News.tl (by with_reducible assumption))))))) | with_reducible exact News.apl (by with_reducible assumption) | with_reducible exact News.apl (News.tl (by with_reducible assumption)) | with_reducible exact News.apl (News.tl (News.tl (by with_reducible assumption))) | with_reducible exact News.apl (News.tl (News.tl (News.tl (by with_reducible assumption)))) | with_reducible exact News.apl (News.tl (News.tl (News.tl (News.tl (by with_reducible assumption)))))
  k_with "m:eval Call" => (k_here; k_dflt (first | ((with_reducible show wpAny _ _ (eval (.Call (.Name (Str.ofString "len") _) [.Name _ _] [] _) _) _ _ _); refine len_nm (q := ?_)) | ((with_reducible show wpAny _ _ (eval (.Call (.Name (Str.ofString "len") _) [_] [] _) _) _ _ _); refine callLen (h := ?_)) | ((with_reducible show wpAny _ _ (eval (.Call (.Name (Str.ofString "str") _) [_] [] _) _) _ _ _); refine callStr (h := ?_)) | ((with_reducible show wpAny _ _ (eval (.Call (.Name _ _) [_] [] _) _) _ _ _); refine callK1 (h := ?_)) | ((with_reducible show wpAny _ _ (eval (.Call (.Name _ _) [_, _] [] _) _) _ _ _); refine callK2 (h := ?_)) | ((with_reducible show wpAny _ _ (eval (.Call (.Name _ _) [_, _, _] [] _) _) _ _ _); refine callK3 (h := ?_))); k_whole)
  k_with "m:eval Constant int" => (k_here; k_dflt (refine cInt ?_); k_whole)
  k_with "m:eval Constant str" => (k_here; k_dflt (refine cStr ?_); k_whole)
  k_with "m:storeName" => (k_here; k_dflt (refine storeS (q := ?_)); k_whole; intro h' F' N'; (try k_sweep))
  k_with "m:binaryOp Add int int" => (k_here; k_dflt (refine addS ?_); k_whole)
  k_with "m:binaryOp Sub int int" => (k_here; k_dflt (refine subS ?_); k_whole)
  k_with "m:call builtin:len" => (k_here; (with_reducible show wpAny _ _ (call _ [.str _ _]) _ _ _); k_dflt (refine lenS (q := ?_)); k_whole)
  k_with "m:newList" => (k_here; k_dflt (refine lstS (q := ?_) (by first | exact Nat.le_of_ble_eq_true rfl | size_fits)); k_whole; intro l' h' F' N' l1; (try k_lt l1); (try k_sweep))
  k_with "m:execs cons" => (k_here; k_dflt (first | ((with_reducible show wpAny _ _ (execs (.Assign [.Name _ _] _ _ :: _) _) _ _ _); refine sAsg ?_ (Eq.refl true)) | ((with_reducible show wpAny _ _ (execs (.Return (some _) _ :: _) _) _ _ _); refine sRet ?_) | ((with_reducible show wpAny _ _ (execs (.If _ [.Return (some _) _] [] _ :: _) _) _ _ _); refine sIfR ?_) | ((with_reducible show wpAny _ _ (execs (.If _ _ [] _ :: _) _) _ _ _); refine sIf1 ?_)); k_whole)
  k_with "m:eval Tuple" => (k_here; first | ((with_reducible show wpAny _ _ (eval (.Tuple [.Constant (.str _) _ _, .Constant (.str _) _ _] _ _) _) _ _ _); k_dflt (refine tupSS (q := ?_)); k_whole; intro D' h' F' N' l1; (try k_lt l1)) | ((with_reducible show wpAny _ _ (eval (.Tuple [_, _] _ _) _) _ _ _); k_dflt (refine tup2 ?_ (Eq.refl true) (Eq.refl true)); k_whole))
  k_with "m:eval List" => (k_here; k_dflt (first | ((with_reducible show wpAny _ _ (eval (.List [_] _) _) _ _ _); refine lst1 ?_ (Eq.refl true)) | ((with_reducible show wpAny _ _ (eval (.List [_, _] _) _) _ _ _); refine lst2 ?_ (Eq.refl true) (Eq.refl true)) | ((with_reducible show wpAny _ _ (eval (.List [_, _, _] _) _) _ _ _); refine lst3 ?_ (Eq.refl true) (Eq.refl true) (Eq.refl true)) | ((with_reducible show wpAny _ _ (eval (.List [_, _, _, _] _) _) _ _ _); refine lst4 ?_ (Eq.refl true) (Eq.refl true) (Eq.refl true) (Eq.refl true))); k_whole)
  k_with "m:eval BinOp" => (k_here; k_dflt (first | ((with_reducible show wpAny _ _ (eval (.BinOp (.Name _ _) _ (.Name _ _) _) _) _ _ _); refine bNN (q := ?_)) | ((with_reducible show wpAny _ _ (eval (.BinOp (.Name _ _) _ (.Constant (.int _) _ _) _) _) _ _ _); refine bNC (q := ?_)) | ((with_reducible show wpAny _ _ (eval (.BinOp (.Name _ _) _ _ _) _) _ _ _); refine bN (q := ?_))); k_whole)
  k_with "m:isTrue Compare" => (k_here; k_dflt (first | ((with_reducible show wpAny _ _ (isTrue (.Compare (.Name _ _) [_] [(.Name _ _)] _) _ _) _ _ _); refine cNN (q := ?_)) | ((with_reducible show wpAny _ _ (isTrue (.Compare (.Name _ _) [_] [(.Constant (.int _) _ _)] _) _ _) _ _ _); refine cNC (q := ?_)) | ((with_reducible show wpAny _ _ (isTrue (.Compare (.Name _ _) [_] [_] _) _ _) _ _ _); refine cN (q := ?_))); k_whole)
  k_with "m:eval Subscript" => (k_here; k_dflt (first | ((with_reducible show wpAny _ _ (eval (.Subscript (.Name _ _) (.Name _ _) _) _) _ _ _); refine gNN (q := ?_)) | ((with_reducible show wpAny _ _ (eval (.Subscript (.Name _ _) (.Constant (.int _) _ _) _) _) _ _ _); refine gNC (q := ?_)) | ((with_reducible show wpAny _ _ (eval (.Subscript (.Name _ _) _ _) _) _ _ _); refine gN (q := ?_))); k_whole)
  trivial
open PySem.Challenge
set_option maxRecDepth 100000
set_option maxHeartbeats 4000000
theorem kw_M2_1 : True := by
  k_with "m:subscriptTail" => (k_here; (with_reducible show wpAny _ _ (subscriptTail _ _ (Value.ref _) (Value.int _ _)) _ _ _); (refine item_lst (News.isList (by k_asm) (by with_reducible assumption)) (by decide) (by decide) (by first | exact (rfl : _ = some (Value.str _ _)) | exact (rfl : _ = some (Value.int _ _)) | exact (rfl : _ = some (Value.ref _)) | exact rfl) ?_))
  trivial
theorem idx_ne {c : Str} {l : Int} (h : idxF c l = none) : idxBad c l ≠ none := by unfold idxBad; rw [if_pos h]; simp
theorem kw_M2_2 : True := by
  k_with "m:call ref" => (k_here; (with_reducible show wpAny _ _ (call (Value.ref 122) _) _ _ _); k_dflt (refine' index_of_c ?hc0 _ _ _ _ _ _ _ _ _ _ _ _ _ _ _ _ ?k1 ?k2 ?k3 ?k4 ?k5 ?kK ?kd ?ku ?_ ?_); k_extra "K5"; (case kK => first | exact rfl | assumption); (case hc0 => k_extra "S"); (case kd => (k_extra "D")); (case ku => (k_extra "U")); all_goals (first | (intro msg9 ecs9 hb9 g9 e9 d9 ec9 es9 n9 n9' vs9 t19 t29 tv9 h9 tk9 Fg9 R9 U9 c19 c29 c39 S9; (try dsimp only)) | (intro hb9 t9 h9 tk9 F9 N9; (try dsimp only); (generalize hIF9 : idxF _ _ = o9; cases o9 <;> first | exact absurd (by with_reducible assumption) (idx_ne hIF9) | dsimp only [optI]); (all_goals (try k_fold)))))
  k_with "m:call ref" => (k_here; (with_reducible show wpAny _ _ (call (Value.ref 199) _) _ _ _); k_dflt (refine' word_start_c ?hc0 _ _ _ _ _ _ _ _ _ _ _ _ _ _ _ _ _ ?k1 ?k2 ?k3 ?k4 ?k5 ?kK ?kd ?ku ?_); k_extra "K5"; (case kK => first | exact rfl | assumption); (case hc0 => k_extra "S"); (case kd => (k_extra "D")); (case ku => (k_extra "U")); intro t9 h9 tk9 F9 N9; (try dsimp only); (skip); (all_goals (try k_fold)))
  k_with "m:call ref" => (k_here; (with_reducible show wpAny _ _ (call (Value.ref 206) _) _ _ _); k_dflt (refine' word_end_c ?hc0 _ _ _ _ _ _ _ _ _ _ _ _ _ _ _ _ _ ?k1 ?k2 ?k3 ?k4 ?k5 ?kK ?kd ?ku ?_); k_extra "K5"; (case kK => first | exact rfl | assumption); (case hc0 => k_extra "S"); (case kd => (k_extra "D")); (case ku => (k_extra "U")); intro t9 h9 tk9 F9 N9; (try dsimp only); (skip); (all_goals (try k_fold)))
  trivial
theorem back_rng (c : Str) : ∀ k, -1 ≤ backF c k ∧ backF c k ≤ (k : Int) - 1
  | 0 => ⟨by show (-1 : Int) ≤ -1; omega, by show (-1 : Int) ≤ _; omega⟩
  | k + 1 => by
    have ih := back_rng c k
    show -1 ≤ (if isW c k = true then backF c k else (k : Int)) ∧ (if isW c k = true then backF c k else (k : Int)) ≤ _
    split <;> omega
theorem wstart_rng (c : Str) (i : Int) : 0 ≤ wstartF c i ∧ wstartF c i ≤ c.length := by
  unfold wstartF wsR
  have h := back_rng c (wsJ c.length i + 1).toNat
  have hj : wsJ c.length i ≤ c.length := by unfold wsJ; split <;> omega
  (repeat' split) <;> omega
theorem fwd_rng (p : Nat → Bool) (n : Nat) : ∀ r, 0 ≤ fwdP p n r ∧ fwdP p n r ≤ n
  | 0 => ⟨by show (0 : Int) ≤ n; omega, by show (n : Int) ≤ n; omega⟩
  | r + 1 => by
    have ih := fwd_rng p n r
    show 0 ≤ (if p (n - (r + 1)) = true then fwdP p n r else ((n - (r + 1) : Nat) : Int)) ∧ (if p (n - (r + 1)) = true then fwdP p n r else ((n - (r + 1) : Nat) : Int)) ≤ _
    split <;> omega
theorem wend_rng (c : Str) (i : Int) : 0 ≤ wendF c i ∧ wendF c i ≤ c.length + 1 := by
  unfold wendF weR
  have h := fwd_rng (isW c) c.length (c.length - weJ i).toNat
  (repeat' split) <;> omega
theorem small_lo {n : Int} (h : 0 ≤ n) : -(2 ^ 1920 : Int) < n := Int.lt_of_lt_of_le (by decide) h
theorem small_hi {n : Int} {k : Nat} (h : n ≤ k + 1) (hk : k ≤ 100) : n < (2 ^ 1920 : Int) := Int.lt_of_le_of_lt (Int.le_trans h (by omega : (k : Int) + 1 ≤ 101)) (by decide)
theorem kw_M2_3 : True := by
  k_with "m:call type:str" => (k_here; first | refine P.str_of_int (shown (N := 2 ^ 1920) (small_lo (wstart_rng _ _).1) (small_hi (Int.le_trans (wstart_rng _ _).2 (Int.le_add_one (Int.le_refl _))) (by assumption)) (Int.le_refl _)) ?_ | refine P.str_of_int (shown (N := 2 ^ 1920) (small_lo (wend_rng _ _).1) (small_hi (wend_rng _ _).2 (by assumption)) (Int.le_refl _)) ?_)
  trivial
noncomputable def wsT (c : Str) (v : Int) : Str := Str.ofString (toString (wstartF c v))
noncomputable def weT (c : Str) (v : Int) : Str := Str.ofString (toString (wendF c v))
theorem idxS_val {f : Int → Str} {i : Str} {l v : Int} {news : List (Addr × Obj)} {h₀ h' : Heap} {L : Addr} {m : Str → Option Value} {s : Shared} {Q : Value → Shared → Prop} {t : Tok} {tk : Nat}
    (hret : idxBad i l = none → ∀ (t : Tok) (h' : Heap) (tk' : Nat), Fr h₀ L h' m → News h₀ L h' news → Q (.str (f ((idxF i l).getD 0)) t) { heap := h', gens := s.gens, drawn := s.drawn, toks := tk', os := s.os }) (hb : idxBad i l = none) (h : idxF i l = some v) (F : Fr h₀ L h' m) (N : News h₀ L h' news) :
    Q (.str (f v) t) { heap := h', gens := s.gens, drawn := s.drawn, toks := tk, os := s.os } := by
  have := hret hb t h' tk F N
  rw [h] at this
  exact this
theorem wordstart_c {w mean mg mb} {news : List (Addr × Obj)} {ws : Addr} {n : Nat} {v0 v1 : Value} {c i : Str} {t u : Tok}
    (hl : (ws, ({ cls := .type "list", data := .seq #[v0, v1, .str c t, .str i u] n } : Obj)) ∈ news) (hc : c.length ≤ 100) (hi : i.length ≤ 100) :
    CbE 130 w mean mg mb 255 news [.none, .ref ws] (RetV news fun t => .str (wsT c ((idxF i (c.length - 1)).getD 0)) t) (idxBad i (c.length - 1)) := by
  unfold CbE
  k_fill
  (try dsimp only [RetV])
  intros
  rename_i hret herr
  refine wpAny_call ?_
  k_dflt cell_enter
  ((rename Fr _ _ _ _ => sF); (first | replace sF : Fr _ _ _ (fun y => List.lookup y [(Str.ofString "words", _), (Str.ofString "host", _)]) := sF | replace sF : Fr _ _ _ (fun y => List.lookup y [(Str.ofString "host", _), (Str.ofString "words", _)]) := sF); (generalize Shared.toks _ + List.length _ = tk0))
  ((refine letA ?_); (intro kA))
  k_steps
  · exact idxS_val (f := wsT c) hret (by with_reducible assumption) (by with_reducible assumption) (by k_asm) (by (k_extra "dr"))
  · ((try k_unfold); (try dsimp only); refine leave_on (by k_asm) (by k_asm) (by with_reducible assumption) (by with_reducible assumption) (fun hX rX uX => ?_); exact herr _ _ (by with_reducible assumption) _ _ _ _ _ _ _ _ _ _ _ _ _ (by k_asm) (rX.drop2 (fun q hq => by first | exact hq | exact .tail _ hq | exact .tail _ (.tail _ hq) | exact .tail _ (.tail _ (.tail _ hq)))) uX (by with_reducible assumption) (by with_reducible assumption) (by with_reducible assumption) (by with_reducible assumption))
theorem wordend_c {w mean mg mb} {news : List (Addr × Obj)} {ws : Addr} {n : Nat} {v0 v1 : Value} {c i : Str} {t u : Tok}
    (hl : (ws, ({ cls := .type "list", data := .seq #[v0, v1, .str c t, .str i u] n } : Obj)) ∈ news) (hc : c.length ≤ 100) (hi : i.length ≤ 100) :
    CbE 130 w mean mg mb 248 news [.none, .ref ws] (RetV news fun t => .str (weT c ((idxF i (c.length - 1)).getD 0)) t) (idxBad i (c.length - 1)) := by
  unfold CbE
  k_fill
  (try dsimp only [RetV])
  intros
  rename_i hret herr
  refine wpAny_call ?_
  k_dflt cell_enter
  ((rename Fr _ _ _ _ => sF); (first | replace sF : Fr _ _ _ (fun y => List.lookup y [(Str.ofString "words", _), (Str.ofString "host", _)]) := sF | replace sF : Fr _ _ _ (fun y => List.lookup y [(Str.ofString "host", _), (Str.ofString "words", _)]) := sF); (generalize Shared.toks _ + List.length _ = tk0))
  ((refine letA ?_); (intro kA))
  k_steps
  · exact idxS_val (f := weT c) hret (by with_reducible assumption) (by with_reducible assumption) (by k_asm) (by (k_extra "dr"))
  · ((try k_unfold); (try dsimp only); refine leave_on (by k_asm) (by k_asm) (by with_reducible assumption) (by with_reducible assumption) (fun hX rX uX => ?_); exact herr _ _ (by with_reducible assumption) _ _ _ _ _ _ _ _ _ _ _ _ _ (by k_asm) (rX.drop2 (fun q hq => by first | exact hq | exact .tail _ hq | exact .tail _ (.tail _ hq) | exact .tail _ (.tail _ (.tail _ hq)))) uX (by with_reducible assumption) (by with_reducible assumption) (by with_reducible assumption) (by with_reducible assumption))
end

section
-- M7
open PySem PySem.W PyProof.Rows
theorem kwn_M7 : True := by
  k_with_none
  w_top off
  trivial
theorem kwo_M7 : True := by
  k_with "m:omega" => first | with_reducible assumption | decide | with_reducible exact Int.le_refl _ | with_reducible exact Nat.le_refl _ | with_reducible exact rm_u2 | with_reducible exact rm_d2 | with_reducible exact rm_u1 | with_reducible exact rm_d1 | with_reducible exact rm_u0 | with_reducible exact rm_d0 | with_reducible exact n_up | with_reducible exact q_o | with_reducible exact q_c1 | with_reducible exact q_c2 | with_reducible exact q_c3 | with_reducible exact q_c4 | with_reducible exact q_n1 | with_reducible exact q_n2 | with_reducible exact q_n3 | with_reducible exact q_l1 | with_reducible exact q_l2 | with_reducible exact q_t1 | with_reducible exact q_t2 | with_reducible exact q_t3 | with_reducible exact q_t4 | with_reducible exact q_t5 | ((with_reducible show _ ≠ _); first | k_extra "P" | (refine Ne.symm ?_; k_extra "P") | (refine Nat.ne_of_lt ?_; k_extra "P") | (refine Nat.ne_of_gt ?_; k_extra "P"))
  k_with "P" => first | with_reducible assumption | with_reducible exact And.left (by with_reducible assumption) | with_reducible exact And.right (by with_reducible assumption) | with_reducible exact q_r (by with_reducible assumption) | with_reducible exact q_s (by with_reducible assumption) | with_reducible exact q_t (by with_reducible assumption) | with_reducible exact q_u (by with_reducible assumption)
  k_with "D" => ((try simp +zetaDelta only [depth_in1, depth_deeper]); (try dsimp only [ktrTop]); omega)
  k_with "U" => ((try simp +zetaDelta only [units_in1, units_deeper, Around.mark_units]); (try dsimp only [ktrTop]); omega)
  k_with "K5" => ((case k1 => k_asm); (case k2 => k_asm); (case k3 => k_asm); (case k4 => k_asm); (case k5 => k_asm))
  k_with "S" => first | with_reducible assumption | exact .inl rfl | exact .inr (.inl rfl) | exact .inr (.inr rfl) | exact .inr rfl | omega | k_mem | fail | (simp only [PySem.Str.length_append, KOpn.len_one]; omega) | assumption
  k_with "m:eval Call" => (k_here; k_dflt (first | ((with_reducible show wpAny _ _ (eval (.Call (.Name (Str.ofString "len") _) [.Name _ _] [] _) _) _ _ _); refine len_nm (q := ?_)) | ((with_reducible show wpAny _ _ (eval (.Call (.Name (Str.ofString "len") _) [_] [] _) _) _ _ _); refine callLen (h := ?_)) | ((with_reducible show wpAny _ _ (eval (.Call (.Name (Str.ofString "str") _) [_] [] _) _) _ _ _); refine callStr (h := ?_)) | ((with_reducible show wpAny _ _ (eval (.Call (.Name _ _) [_] [] _) _) _ _ _); refine callK1 (h := ?_)) | ((with_reducible show wpAny _ _ (eval (.Call (.Name _ _) [_, _] [] _) _) _ _ _); refine callK2 (h := ?_)) | ((with_reducible show wpAny _ _ (eval (.Call (.Name _ _) [_, _, _] [] _) _) _ _ _); refine callK3 (h := ?_))); k_whole)
  k_with "m:eval Constant int" => (k_here; k_dflt (refine cInt ?_); k_whole)
  k_with "m:eval Constant str" => (k_here; k_dflt (refine cStr ?_); k_whole)
  k_with "m:storeName" => (k_here; k_dflt (refine storeS (q := ?_)); k_whole; intro h' F' N'; (try k_sweep))
  k_with "m:binaryOp Add int int" => (k_here; k_dflt (refine addS ?_); k_whole)
  k_with "m:binaryOp Sub int int" => (k_here; k_dflt (refine subS ?_); k_whole)
  k_with "m:call builtin:len" => (k_here; (with_reducible show wpAny _ _ (call _ [.str _ _]) _ _ _); k_dflt (refine lenS (q := ?_)); k_whole)
  k_with "m:newList" => (k_here; k_dflt (refine lstS (q := ?_) (by first | exact Nat.le_of_ble_eq_true rfl | size_fits)); k_whole; intro l' h' F' N' l1; (try k_lt l1); (try k_sweep))
  k_with "m:execs cons" => (k_here; k_dflt (first | ((with_reducible show wpAny _ _ (execs (.Assign [.Name _ _] _ _ :: _) _) _ _ _); refine sAsg ?_ (Eq.refl true)) | ((with_reducible show wpAny _ _ (execs (.Return (some _) _ :: _) _) _ _ _); refine sRet ?_) | ((with_reducible show wpAny _ _ (execs (.If _ [.Return (some _) _] [] _ :: _) _) _ _ _); refine sIfR ?_) | ((with_reducible show wpAny _ _ (execs (.If _ _ [] _ :: _) _) _ _ _); refine sIf1 ?_)); k_whole)
  k_with "m:eval Tuple" => (k_here; first | ((with_reducible show wpAny _ _ (eval (.Tuple [.Constant (.str _) _ _, .Constant (.str _) _ _] _ _) _) _ _ _); k_dflt (refine tupSS (q := ?_)); k_whole; intro D' h' F' N' l1; (try k_lt l1)) | ((with_reducible show wpAny _ _ (eval (.Tuple [_, _] _ _) _) _ _ _); k_dflt (refine tup2 ?_ (Eq.refl true) (Eq.refl true)); k_whole))
  k_with "m:eval List" => (k_here; k_dflt (first | ((with_reducible show wpAny _ _ (eval (.List [_] _) _) _ _ _); refine lst1 ?_ (Eq.refl true)) | ((with_reducible show wpAny _ _ (eval (.List [_, _] _) _) _ _ _); refine lst2 ?_ (Eq.refl true) (Eq.refl true)) | ((with_reducible show wpAny _ _ (eval (.List [_, _, _] _) _) _ _ _); refine lst3 ?_ (Eq.refl true) (Eq.refl true) (Eq.refl true)) | ((with_reducible show wpAny _ _ (eval (.List [_, _, _, _] _) _) _ _ _); refine lst4 ?_ (Eq.refl true) (Eq.refl true) (Eq.refl true) (Eq.refl true))); k_whole)
  k_with "m:eval BinOp" => (k_here; k_dflt (first | ((with_reducible show wpAny _ _ (eval (.BinOp (.Name _ _) _ (.Name _ _) _) _) _ _ _); refine bNN (q := ?_)) | ((with_reducible show wpAny _ _ (eval (.BinOp (.Name _ _) _ (.Constant (.int _) _ _) _) _) _ _ _); refine bNC (q := ?_)) | ((with_reducible show wpAny _ _ (eval (.BinOp (.Name _ _) _ _ _) _) _ _ _); refine bN (q := ?_))); k_whole)
  k_with "m:isTrue Compare" => (k_here; k_dflt (first | ((with_reducible show wpAny _ _ (isTrue (.Compare (.Name _ _) [_] [(.Name _ _)] _) _ _) _ _ _); refine cNN (q := ?_)) | ((with_reducible show wpAny _ _ (isTrue (.Compare (.Name _ _) [_] [(.Constant (.int _) _ _)] _) _ _) _ _ _); refine cNC (q := ?_)) | ((with_reducible show wpAny _ _ (isTrue (.Compare (.Name _ _) [_] [_] _) _ _) _ _ _); refine cN (q := ?_))); k_whole)
  k_with "m:eval Subscript" => (k_here; k_dflt (first | ((with_reducible show wpAny _ _ (eval (.Subscript (.Name _ _) (.Name _ _) _) _) _ _ _); refine gNN (q := ?_)) | ((with_reducible show wpAny _ _ (eval (.Subscript (.Name _ _) (.Constant (.int _) _ _) _) _) _ _ _); refine gNC (q := ?_)) | ((with_reducible show wpAny _ _ (eval (.Subscript (.Name _ _) _ _) _) _ _ _); refine gN (q := ?_))); k_whole)
  trivial
open PySem.Challenge
set_option maxRecDepth 100000
set_option maxHeartbeats 4000000
theorem idx_good {c : Str} {l v : Int} (h : idxF c l = some v) : idxBad c l = none := if_neg (by rw [h]; simp)
theorem index_is_c {w mean mg mb} {news : List (Addr × Obj)} {c : Str} {t u : Tok} {last v : Int} (hv : idxF c last = some v) (hc : c.length ≤ 1000) : CbH 110 w mean mg mb 122 news [.str c t, .int last u] (RetV news fun t => .int v t) := by
  intro dp un gd cn cs a ccd outer A₀ base h₀ L m s Q E B F X N T hk hdp hun hret
  refine index_of_c hc dp un gd cn cs a ccd outer A₀ base h₀ L m s Q E B F X N T hk hdp hun (fun _ => ?_) (fun msg ecs hb => ?_)
  · intro t h' tk' F' N'
    rw [hv]
    exact hret t h' tk' F' N'
  · rw [idx_good hv] at hb
    cases hb
theorem kw_M7_1 : True := by
  k_with "m:call ref" => (k_here; (with_reducible show wpAny _ _ (call (Value.ref 122) _) _ _ _); k_dflt (refine' index_is_c ?hc0 ?hc1 _ _ _ _ _ _ _ _ _ _ _ _ _ _ _ _ ?k1 ?k2 ?k3 ?k4 ?k5 ?kK ?kd ?ku ?_); k_extra "K5"; (case kK => first | exact rfl | assumption); (case hc0 => k_extra "S"); (case hc1 => k_extra "S"); (case kd => (k_extra "D")); (case ku => (k_extra "U")); intro t9 h9 tk9 F9 N9; (try dsimp only); (skip); (all_goals (try k_fold)))
  k_with "m:subscriptTail Name Constant ref int" => (k_here; (with_reducible show wpAny _ _ (subscriptTail _ _ (Value.ref _) (Value.int _ _)) _ _ _); (refine item_lst (by is_list) (by decide) (by decide) (by first | exact (rfl : _ = some (Value.str _ _)) | exact (rfl : _ = some (Value.int _ _)) | exact (rfl : _ = some (Value.ref _)) | exact rfl) ?_))
  k_with "m:call builtin:len" => (k_here; (with_reducible show wpAny _ _ (call (Value.builtin "len") [Value.ref _]) _ _ _); k_dflt (refine' kun_lenL ?k1 ?k2 ?k3 ?_; (case k1 => is_list); (case k2 => kun_count); (case k3 => decide); k_whole))
  trivial
noncomputable def rangeF (c : Str) (f l : Int) : Str := if l < max0 f then Str.ofString "" else Txt.slice c (some (max0 f)) (some (l + 1))
theorem range_c {w mean mg mb} {news : List (Addr × Obj)} {ws : Addr} {n : Nat} {v0 v1 : Value} {c i j : Str} {t u v : Tok} {f l : Int}
    (hl : (ws, ({ cls := .type "list", data := .seq #[v0, v1, .str c t, .str i u, .str j v] n } : Obj)) ∈ news) (hc : c.length ≤ 100) (hi : i.length ≤ 100) (hj : j.length ≤ 100) (hf : idxF i (c.length - 1) = some f) (he : idxF j (c.length - 1) = some l) :
    CbH 130 w mean mg mb 241 news [.none, .ref ws] (RetV news fun t => .str (rangeF c f l) t) := by
  ((try unfold Cb); (try unfold CbE); (try unfold CbG); (try unfold CbH); k_fill; (try dsimp only [RetV, RetT]); intros; rename_i s0 Q0 E0 B0 F0 X0 N0 T0 hk0 hd0 hu0 hret; refine wpAny_call ?_; k_dflt (refine' code_defP (mu := []) ?k1 ?k2 ?k3 ?k4 ?k5 ?kA ?kF ?kK ?k6 ?k7 ?k8 ?k9 ?kB ?_ ?c2 ?c3 ?c4 ?c5; (case kA => exact rfl); (case kF => exact rfl); (case kK => first | exact rfl | assumption); (case k1 => k_asm); (case k2 => k_asm); (case k4 => exact News.nil); (case k3 => k_asm); (case k5 => k_asm); (case k6 => k_is); (case k7 => k_is); (case k8 => ktr_room); (case k9 => exact BindsTo.of_eq rfl); (case c5 => decide); (case kB => exact locs rfl); (case c2 => exact rfl); (case c3 => exact rfl); (case c4 => exact rfl); k_whole; intro g' L' h' HG0 FG' F' N' B' X' T'; (try dsimp only); (try k_lift B'); (try k_fold)); (refine letA ?_); (intro kA); (replace F' : Fr g' L' h' (fun y => List.lookup y [(Str.ofString "words", _), (Str.ofString "host", _)]) := F'); (generalize Shared.toks _ + List.length _ = tk0))
  have hlG := listG N0 HG0 hl
  k_steps
  all_goals first
   | ((refine cb_retS hret ?_ (by k_asm) (by exact newsKeep N0 HG0 (by k_asm))); (try simp only [rangeF, max0]); (repeat' split) <;> first | rfl | omega)
end

section
-- Q3
open PySem PySem.W PyProof.Rows
theorem kwn_Q3 : True := by
  k_with_none
  w_top off
  trivial
theorem kwo_Q3 : True := by
  k_with "m:omega" => first | with_reducible assumption | decide | with_reducible exact Int.le_refl _ | with_reducible exact Nat.le_refl _ | with_reducible exact rm_u2 | with_reducible exact rm_d2 | with_reducible exact rm_u1 | with_reducible exact rm_d1 | with_reducible exact rm_u0 | with_reducible exact rm_d0 | with_reducible exact n_up | with_reducible exact q_o | with_reducible exact q_c1 | with_reducible exact q_c2 | with_reducible exact q_c3 | with_reducible exact q_c4 | with_reducible exact q_n1 | with_reducible exact q_n2 | with_reducible exact q_n3 | with_reducible exact q_l1 | with_reducible exact q_l2 | with_reducible exact q_t1 | with_reducible exact q_t2 | with_reducible exact q_t3 | with_reducible exact q_t4 | with_reducible exact q_t5 | ((with_reducible show _ ≠ _); first | k_extra "P" | (refine Ne.symm ?_; k_extra "P") | (refine Nat.ne_of_lt ?_; k_extra "P") | (refine Nat.ne_of_gt ?_; k_extra "P"))
  k_with "P" => first | with_reducible assumption | with_reducible exact And.left (by with_reducible assumption) | with_reducible exact And.right (by with_reducible assumption) | with_reducible exact q_r (by with_reducible assumption) | with_reducible exact q_s (by with_reducible assumption) | with_reducible exact q_t (by with_reducible assumption) | with_reducible exact q_u (by with_reducible assumption)
  k_with "D" => ((try simp +zetaDelta only [depth_in1, depth_deeper]); (try dsimp only [ktrTop]); omega)
  k_with "U" => ((try simp +zetaDelta only [units_in1, units_deeper, Around.mark_units]); (try dsimp only [ktrTop]); omega)
  k_with "K5" => ((case k1 => k_asm); (case k2 => k_asm); (case k3 => k_asm); (case k4 => k_asm); (case k5 => k_asm))
  k_with "S" => first | with_reducible assumption | exact .inl rfl | exact .inr (.inl rfl) | exact .inr (.inr rfl) | exact .inr rfl | omega | k_mem | fail | (simp only [PySem.Str.length_append, KOpn.len_one]; omega) | assumption
  k_with "m:eval Call" => (k_here; k_dflt (first | ((with_reducible show wpAny _ _ (eval (.Call (.Name (Str.ofString "len") _) [.Name _ _] [] _) _) _ _ _); refine len_nm (q := ?_)) | ((with_reducible show wpAny _ _ (eval (.Call (.Name (Str.ofString "len") _) [_] [] _) _) _ _ _); refine callLen (h := ?_)) | ((with_reducible show wpAny _ _ (eval (.Call (.Name (Str.ofString "str") _) [_] [] _) _) _ _ _); refine callStr (h := ?_)) | ((with_reducible show wpAny _ _ (eval (.Call (.Name _ _) [_] [] _) _) _ _ _); refine callK1 (h := ?_)) | ((with_reducible show wpAny _ _ (eval (.Call (.Name _ _) [_, _] [] _) _) _ _ _); refine callK2 (h := ?_)) | ((with_reducible show wpAny _ _ (eval (.Call (.Name _ _) [_, _, _] [] _) _) _ _ _); refine callK3 (h := ?_))); k_whole)
  k_with "m:eval Constant int" => (k_here; k_dflt (refine cInt ?_); k_whole)
  k_with "m:eval Constant str" => (k_here; k_dflt (refine cStr ?_); k_whole)
  k_with "m:storeName" => (k_here; k_dflt (refine storeS (q := ?_)); k_whole; intro h' F' N'; (try k_sweep))
  k_with "m:binaryOp Add int int" => (k_here; k_dflt (refine addS ?_); k_whole)
  k_with "m:binaryOp Sub int int" => (k_here; k_dflt (refine subS ?_); k_whole)
  k_with "m:call builtin:len" => (k_here; (with_reducible show wpAny _ _ (call _ [.str _ _]) _ _ _); k_dflt (refine lenS (q := ?_)); k_whole)
  k_with "m:newList" => (k_here; k_dflt (refine lstS (q := ?_) (by first | exact Nat.le_of_ble_eq_true rfl | size_fits)); k_whole; intro l' h' F' N' l1; (try k_lt l1); (try k_sweep))
  k_with "m:execs cons" => (k_here; k_dflt (first | ((with_reducible show wpAny _ _ (execs (.Assign [.Name _ _] _ _ :: _) _) _ _ _); refine sAsg ?_ (Eq.refl true)) | ((with_reducible show wpAny _ _ (execs (.Return (some _) _ :: _) _) _ _ _); refine sRet ?_) | ((with_reducible show wpAny _ _ (execs (.If _ [.Return (some _) _] [] _ :: _) _) _ _ _); refine sIfR ?_) | ((with_reducible show wpAny _ _ (execs (.If _ _ [] _ :: _) _) _ _ _); refine sIf1 ?_)); k_whole)
  k_with "m:eval Tuple" => (k_here; first | ((with_reducible show wpAny _ _ (eval (.Tuple [.Constant (.str _) _ _, .Constant (.str _) _ _] _ _) _) _ _ _); k_dflt (refine tupSS (q := ?_)); k_whole; intro D' h' F' N' l1; (try k_lt l1)) | ((with_reducible show wpAny _ _ (eval (.Tuple [_, _] _ _) _) _ _ _); k_dflt (refine tup2 ?_ (Eq.refl true) (Eq.refl true)); k_whole))
  k_with "m:eval List" => (k_here; k_dflt (first | ((with_reducible show wpAny _ _ (eval (.List [_] _) _) _ _ _); refine lst1 ?_ (Eq.refl true)) | ((with_reducible show wpAny _ _ (eval (.List [_, _] _) _) _ _ _); refine lst2 ?_ (Eq.refl true) (Eq.refl true)) | ((with_reducible show wpAny _ _ (eval (.List [_, _, _] _) _) _ _ _); refine lst3 ?_ (Eq.refl true) (Eq.refl true) (Eq.refl true)) | ((with_reducible show wpAny _ _ (eval (.List [_, _, _, _] _) _) _ _ _); refine lst4 ?_ (Eq.refl true) (Eq.refl true) (Eq.refl true) (Eq.refl true))); k_whole)
  k_with "m:eval BinOp" => (k_here; k_dflt (first | ((with_reducible show wpAny _ _ (eval (.BinOp (.Name _ _) _ (.Name _ _) _) _) _ _ _); refine bNN (q := ?_)) | ((with_reducible show wpAny _ _ (eval (.BinOp (.Name _ _) _ (.Constant (.int _) _ _) _) _) _ _ _); refine bNC (q := ?_)) | ((with_reducible show wpAny _ _ (eval (.BinOp (.Name _ _) _ _ _) _) _ _ _); refine bN (q := ?_))); k_whole)
  k_with "m:isTrue Compare" => (k_here; k_dflt (first | ((with_reducible show wpAny _ _ (isTrue (.Compare (.Name _ _) [_] [(.Name _ _)] _) _ _) _ _ _); refine cNN (q := ?_)) | ((with_reducible show wpAny _ _ (isTrue (.Compare (.Name _ _) [_] [(.Constant (.int _) _ _)] _) _ _) _ _ _); refine cNC (q := ?_)) | ((with_reducible show wpAny _ _ (isTrue (.Compare (.Name _ _) [_] [_] _) _ _) _ _ _); refine cN (q := ?_))); k_whole)
  k_with "m:eval Subscript" => (k_here; k_dflt (first | ((with_reducible show wpAny _ _ (eval (.Subscript (.Name _ _) (.Name _ _) _) _) _ _ _); refine gNN (q := ?_)) | ((with_reducible show wpAny _ _ (eval (.Subscript (.Name _ _) (.Constant (.int _) _ _) _) _) _ _ _); refine gNC (q := ?_)) | ((with_reducible show wpAny _ _ (eval (.Subscript (.Name _ _) _ _) _) _ _ _); refine gN (q := ?_))); k_whole)
  trivial
open PySem.Challenge
set_option maxRecDepth 100000
set_option maxHeartbeats 4000000
theorem kw_Q3_1 : True := by
  k_with "m:call ref" => (k_here; (with_reducible show wpAny _ _ (call (Value.ref 122) _) _ _ _); k_dflt (refine' index_is_c ?hc0 ?hc1 _ _ _ _ _ _ _ _ _ _ _ _ _ _ _ _ ?k1 ?k2 ?k3 ?k4 ?k5 ?kK ?kd ?ku ?_); k_extra "K5"; (case kK => first | exact rfl | assumption); (case hc0 => k_extra "S"); (case hc1 => k_extra "S"); (case kd => (k_extra "D")); (case ku => (k_extra "U")); intro t9 h9 tk9 F9 N9; (try dsimp only); (skip); (all_goals (try k_fold)))
  trivial
/-- an index that stands: (v, ()) comes back -/
noncomputable abbrev RetIG (news : List (Addr × Obj)) (v : Int) (h₀ : Heap) (L : Addr) (m : Str → Option Value) (s : Shared) (Q : Value → Shared → Prop) : Prop :=
  ∀ (D U : Addr) (t : Tok) (h' : Heap) (tk' : Nat), Fr h₀ L h' m → News h₀ L h' ((D, tupO [.int v t, .ref U]) :: (U, tupO []) :: news) → (∀ p ∈ news, p.1 ≠ D) → (∀ p ∈ news, p.1 ≠ U) → U ≠ D → Q (.ref D) { s with heap := h', toks := tk' }
/-- a fault: (0, ('raised', ..)) comes back -/
noncomputable abbrev RetIB (news : List (Addr × Obj)) (msg : Str) (ecs : List Str) (h₀ : Heap) (L : Addr) (m : Str → Option Value) (s : Shared) (Q : Value → Shared → Prop) : Prop :=
  ∀ (D U ec : Addr) (t t1 t2 t3 : Tok) (tv : List Value) (n' : Nat) (h' : Heap) (tk' : Nat), Fr h₀ L h' m → News h₀ L h' ((D, tupO [.int 0 t, .ref U]) :: (U, tupO [.str (Str.ofString "raised") t1, .int 1 t2, .str msg t3, .ref ec]) :: (ec, { cls := .type "tuple", data := .seq tv.toArray n' }) :: news) → StrsAre tv ecs →
    (∀ p ∈ news, p.1 ≠ D) → (∀ p ∈ news, p.1 ≠ U) → (∀ p ∈ news, p.1 ≠ ec) → U ≠ D → ec ≠ D → ec ≠ U → Q (.ref D) { s with heap := h', toks := tk' }
theorem lawindex_good_c {w mean mg mb} {news : List (Addr × Obj)} {c : Str} {t u : Tok} {last v : Int} (hv : idxF c last = some v) (hc : c.length ≤ 1000) :
    CbH 120 w mean mg mb 353 news [.str c t, .int last u] (RetIG news v) := by
  ((try unfold Cb); (try unfold CbE); (try unfold CbG); (try unfold CbH); k_fill; (try dsimp only [RetV, RetT]); intros; rename_i s0 Q0 E0 B0 F0 X0 N0 T0 hk0 hd0 hu0 hret; refine wpAny_call ?_; k_dflt (refine' code_defP (mu := []) ?k1 ?k2 ?k3 ?k4 ?k5 ?kA ?kF ?kK ?k6 ?k7 ?k8 ?k9 ?kB ?_ ?c2 ?c3 ?c4 ?c5; (case kA => exact rfl); (case kF => exact rfl); (case kK => first | exact rfl | assumption); (case k1 => k_asm); (case k2 => k_asm); (case k4 => exact News.nil); (case k3 => k_asm); (case k5 => k_asm); (case k6 => k_is); (case k7 => k_is); (case k8 => ktr_room); (case k9 => exact BindsTo.of_eq rfl); (case c5 => decide); (case kB => exact locs rfl); (case c2 => exact rfl); (case c3 => exact rfl); (case c4 => exact rfl); k_whole; intro g' L' h' HG0 FG' F' N' B' X' T'; (try dsimp only); (try k_lift B'); (try k_fold)); (refine letA ?_); (intro kA); (replace F' : Fr g' L' h' (fun y => List.lookup y [(Str.ofString "last", _), (Str.ofString "index", _)]) := F'); (generalize Shared.toks _ + List.length _ = tk0))
  k_steps
  rename_i kF kN kT kX
  exact hret _ _ _ _ _ kF (fun q hq => by
      rcases List.mem_cons.mp hq with rfl | hq
      · exact kN _ (by k_mem)
      rcases List.mem_cons.mp hq with rfl | hq
      · exact kN _ (by k_mem)
      exact newsKeep N0 HG0 (by k_asm) q hq) (neNew N0 News.nil HG0 (by with_reducible assumption) (List.Mem.head _) (fun _ h => nomatch h)) (neNew N0 News.nil HG0 (by with_reducible assumption) (List.Mem.tail _ (List.Mem.head _)) (fun _ h => nomatch h)) (neN (by omega))
theorem kw_Q3_2 : True := by
  k_with "m:noteFrame ref" => (k_here; k_dflt (refine' caughtD ?R ?hoc ?F ?K ?U ?XB ?TB ?D ?T0 ?ex ?q ?_ ?hk ?hlo ?hx ?hd; (case R => k_asm); (case hoc => exact rfl); (case F => assumption); (case K => assumption); (case U => assumption); (case XB => assumption); (case TB => assumption); (case D => assumption); (case T0 => exact KtsTurn.refl); (case ex => k_is); (case q => kts_isx); (case hk => exact rfl); (case hlo => exact rfl); (case hx => exact rfl); (case hd => decide); k_whole); intro h' g' tk' vs' T' F' N' K' X' P' D'; (try k_lift K'))
  k_with "m:getAttr ref" => (k_here; k_dflt (refine' getE_own ?k1 ?k2 ?k3 ?k0 ?ka ?kb ?k5 ?k6 ?k7 ?k8 ?k9 ?_; (case k1 => k_asm); (case k2 => k_asm); (case k3 => exact instE (by k_asm) (by k_mem) (by k_mem)); (case k0 => kts_isx); (case ka => k_is); (case kb => k_is); (case k5 => k_is); (case k6 => k_is); (case k7 => k_is); (case k8 => with_reducible assumption); (case k9 => k_handed); k_whole))
  trivial

theorem kw_Q3_3 : True := by
  k_with "m:call ref" => (k_here; (with_reducible show wpAny _ _ (call (Value.ref 122) _) _ _ _); k_dflt (refine' index_of_c ?hc0 _ _ _ _ _ _ _ _ _ _ _ _ _ _ _ _ ?k1 ?k2 ?k3 ?k4 ?k5 ?kK ?kd ?ku ?_ ?_); k_extra "K5"; (case kK => first | exact rfl | assumption); (case hc0 => k_extra "S"); (case kd => (k_extra "D")); (case ku => (k_extra "U")); all_goals (first | (intro msg9 ecs9 hb9 g9 e9 d9 ec9 es9 n9 n9' vs9 t19 t29 tv9 h9 tk9 Fg9 R9 U9 c19 c29 c39 S9; (try dsimp only)) | (intro hb9 t9 h9 tk9 F9 N9; (try dsimp only); (skip); (all_goals (try k_fold)))))
  trivial
theorem lawindex_bad_c {w mean mg mb} {news : List (Addr × Obj)} {c : Str} {t u : Tok} {last : Int} {msg : Str} {ecs : List Str} (hb : idxBad c last = some (msg, ecs)) (hc : c.length ≤ 1000) :
    CbT 120 w mean mg mb 353 news [.str c t, .int last u] (RetIB news msg ecs) := by
  ((try unfold CbT); k_fill; intros; rename_i s0 Q0 E0 B0 F0 X0 N0 T0 XB0 TB0 KD0 KT0 hk0 hd0 hu0 hret; refine wpAny_call ?_; k_dflt (refine' code_defT (mu := []) ?k1 ?k2 ?k3 ?k4 ?k5 ?XB ?TB ?D ?T0 ?kA ?k6 ?k7 ?k8 ?k9 ?kB ?_ ?cK ?c2 ?c3 ?c4 ?c5; (case kA => exact rfl); (case k2 => k_asm); (case k1 => k_asm); (case XB => assumption); (case TB => assumption); (case D => assumption); (case T0 => assumption); (case k3 => k_asm); (case k4 => exact News.nil); (case k5 => k_asm); (case k6 => k_is); (case k7 => k_is); (case k8 => ktr_room); (case k9 => exact BindsTo.of_eq rfl); (case kB => exact locs rfl); (case cK => first | exact rfl | assumption); (case c2 => exact rfl); (case c3 => exact rfl); (case c4 => exact rfl); (case c5 => decide); k_whole; intro g' L' h' HG0 FG' F' N' B' X' T' D'; (try dsimp only); (try k_lift B'); (try k_fold)); (refine letA ?_); (intro kA); (replace F' : Fr g' L' h' (fun y => List.lookup y [(Str.ofString "last", _), (Str.ofString "index", _)]) := F'); (generalize Shared.toks _ + List.length _ = tk0))
  k_steps
  · rename idxBad c last = none => hb9; rw [hb] at hb9; cases hb9
  · rename_i kg kT kF kN kB kX0 kP kD kX
    rename idxBad c last = some (_, _) => hb9
    rw [hb] at hb9
    cases hb9
    have kK := newsKeepT B0 N0 News.nil HG0 KT0 (by k_asm) (by k_asm) kT News.nil
    exact hret kg kT kB kX0 kP kD _ _ _ _ _ _ _ _ _ _ _ kF (fun q hq => by
      rcases List.mem_cons.mp hq with rfl | hq
      · exact kN _ (by k_mem)
      rcases List.mem_cons.mp hq with rfl | hq
      · exact kN _ (by k_mem)
      rcases List.mem_cons.mp hq with rfl | hq
      · exact kN _ (by k_mem)
      exact kK q hq) (by with_reducible assumption) (neNewT B0 N0 News.nil HG0 (by k_asm) (by with_reducible assumption) (List.Mem.head _) (fun _ h => nomatch h))
      (neNewT B0 N0 News.nil HG0 (by k_asm) (by with_reducible assumption) (List.Mem.tail _ (List.Mem.head _)) (fun _ h => nomatch h))
      (neNewT B0 N0 News.nil HG0 (by k_asm) (by with_reducible assumption) (by k_mem) (fun _ h => nomatch h)) (neN (by omega)) (neN (by omega)) (neN (by omega))
end

section
-- S1
open PySem PySem.W PyProof.Rows PySem.Calls PyProof.V PySem.Spec
theorem kwn_S1 : True := by
  k_with_none
  w_top off
  trivial
theorem kwo_S1 : True := by
  k_with "m:omega" => first | with_reducible assumption | decide | with_reducible exact Int.le_refl _ | with_reducible exact Nat.le_refl _ | with_reducible exact rm_u2 | with_reducible exact rm_d2 | with_reducible exact rm_u1 | with_reducible exact rm_d1 | with_reducible exact rm_u0 | with_reducible exact rm_d0 | with_reducible exact n_up | with_reducible exact q_o | with_reducible exact q_c1 | with_reducible exact q_c2 | with_reducible exact q_c3 | with_reducible exact q_c4 | with_reducible exact q_n1 | with_reducible exact q_n2 | with_reducible exact q_n3 | with_reducible exact q_l1 | with_reducible exact q_l2 | with_reducible exact q_t1 | with_reducible exact q_t2 | with_reducible exact q_t3 | with_reducible exact q_t4 | with_reducible exact q_t5 | ((with_reducible show _ ≠ _); first | k_extra "P" | (refine Ne.symm ?_; k_extra "P") | (refine Nat.ne_of_lt ?_; k_extra "P") | (refine Nat.ne_of_gt ?_; k_extra "P"))
  k_with "P" => first | with_reducible assumption | with_reducible exact And.left (by with_reducible assumption) | with_reducible exact And.right (by with_reducible assumption) | with_reducible exact q_r (by with_reducible assumption) | with_reducible exact q_s (by with_reducible assumption) | with_reducible exact q_t (by with_reducible assumption) | with_reducible exact q_u (by with_reducible assumption)
  k_with "K5" => ((case k1 => k_asm); (case k2 => k_asm); (case k3 => k_asm); (case k4 => k_asm); (case k5 => k_asm))
  k_with "m:eval Call" => (k_here; k_dflt (first | ((with_reducible show wpAny _ _ (eval (.Call (.Name (Str.ofString "len") _) [.Name _ _] [] _) _) _ _ _); refine len_nm (q := ?_)) | ((with_reducible show wpAny _ _ (eval (.Call (.Name (Str.ofString "len") _) [_] [] _) _) _ _ _); refine callLen (h := ?_)) | ((with_reducible show wpAny _ _ (eval (.Call (.Name (Str.ofString "str") _) [_] [] _) _) _ _ _); refine callStr (h := ?_)) | ((with_reducible show wpAny _ _ (eval (.Call (.Name _ _) [_] [] _) _) _ _ _); refine callK1 (h := ?_)) | ((with_reducible show wpAny _ _ (eval (.Call (.Name _ _) [_, _] [] _) _) _ _ _); refine callK2 (h := ?_)) | ((with_reducible show wpAny _ _ (eval (.Call (.Name _ _) [_, _, _] [] _) _) _ _ _); refine callK3 (h := ?_))); k_whole)
  k_with "m:eval Constant int" => (k_here; k_dflt (refine cInt ?_); k_whole)
  k_with "m:eval Constant str" => (k_here; k_dflt (refine cStr ?_); k_whole)
  k_with "m:storeName" => (k_here; k_dflt (refine storeS (q := ?_)); k_whole; intro h' F' N'; (try k_sweep))
  k_with "m:binaryOp Add int int" => (k_here; k_dflt (refine addS ?_); k_whole)
  k_with "m:binaryOp Sub int int" => (k_here; k_dflt (refine subS ?_); k_whole)
  k_with "m:call builtin:len" => (k_here; (with_reducible show wpAny _ _ (call _ [.str _ _]) _ _ _); k_dflt (refine lenS (q := ?_)); k_whole)
  k_with "m:newList" => (k_here; k_dflt (refine lstS (q := ?_) (by first | exact Nat.le_of_ble_eq_true rfl | size_fits)); k_whole; intro l' h' F' N' l1; (try k_lt l1); (try k_sweep))
  k_with "m:execs cons" => (k_here; k_dflt (first | ((with_reducible show wpAny _ _ (execs (.Assign [.Name _ _] _ _ :: _) _) _ _ _); refine sAsg ?_ (Eq.refl true)) | ((with_reducible show wpAny _ _ (execs (.Return (some _) _ :: _) _) _ _ _); refine sRet ?_) | ((with_reducible show wpAny _ _ (execs (.If _ [.Return (some _) _] [] _ :: _) _) _ _ _); refine sIfR ?_) | ((with_reducible show wpAny _ _ (execs (.If _ _ [] _ :: _) _) _ _ _); refine sIf1 ?_)); k_whole)
  k_with "m:eval Tuple" => (k_here; first | ((with_reducible show wpAny _ _ (eval (.Tuple [.Constant (.str _) _ _, .Constant (.str _) _ _] _ _) _) _ _ _); k_dflt (refine tupSS (q := ?_)); k_whole; intro D' h' F' N' l1; (try k_lt l1)) | ((with_reducible show wpAny _ _ (eval (.Tuple [_, _] _ _) _) _ _ _); k_dflt (refine tup2 ?_ (Eq.refl true) (Eq.refl true)); k_whole))
  k_with "m:eval List" => (k_here; k_dflt (first | ((with_reducible show wpAny _ _ (eval (.List [_] _) _) _ _ _); refine lst1 ?_ (Eq.refl true)) | ((with_reducible show wpAny _ _ (eval (.List [_, _] _) _) _ _ _); refine lst2 ?_ (Eq.refl true) (Eq.refl true)) | ((with_reducible show wpAny _ _ (eval (.List [_, _, _] _) _) _ _ _); refine lst3 ?_ (Eq.refl true) (Eq.refl true) (Eq.refl true)) | ((with_reducible show wpAny _ _ (eval (.List [_, _, _, _] _) _) _ _ _); refine lst4 ?_ (Eq.refl true) (Eq.refl true) (Eq.refl true) (Eq.refl true))); k_whole)
  k_with "m:eval BinOp" => (k_here; k_dflt (first | ((with_reducible show wpAny _ _ (eval (.BinOp (.Name _ _) _ (.Name _ _) _) _) _ _ _); refine bNN (q := ?_)) | ((with_reducible show wpAny _ _ (eval (.BinOp (.Name _ _) _ (.Constant (.int _) _ _) _) _) _ _ _); refine bNC (q := ?_)) | ((with_reducible show wpAny _ _ (eval (.BinOp (.Name _ _) _ _ _) _) _ _ _); refine bN (q := ?_))); k_whole)
  k_with "m:isTrue Compare" => (k_here; k_dflt (first | ((with_reducible show wpAny _ _ (isTrue (.Compare (.Name _ _) [_] [(.Name _ _)] _) _ _) _ _ _); refine cNN (q := ?_)) | ((with_reducible show wpAny _ _ (isTrue (.Compare (.Name _ _) [_] [(.Constant (.int _) _ _)] _) _ _) _ _ _); refine cNC (q := ?_)) | ((with_reducible show wpAny _ _ (isTrue (.Compare (.Name _ _) [_] [_] _) _ _) _ _ _); refine cN (q := ?_))); k_whole)
  k_with "m:eval Subscript" => (k_here; k_dflt (first | ((with_reducible show wpAny _ _ (eval (.Subscript (.Name _ _) (.Name _ _) _) _) _ _ _); refine gNN (q := ?_)) | ((with_reducible show wpAny _ _ (eval (.Subscript (.Name _ _) (.Constant (.int _) _ _) _) _) _ _ _); refine gNC (q := ?_)) | ((with_reducible show wpAny _ _ (eval (.Subscript (.Name _ _) _ _) _) _ _ _); refine gN (q := ?_))); k_whole)
  trivial
open PySem.Challenge
set_option maxRecDepth 100000
set_option maxHeartbeats 4000000
noncomputable def signsS : Str := Str.ofString "abZ7_- \néÉßΣσ中"
theorem signs_c {w mean mg mb} {news : List (Addr × Obj)} : CbH 2 w mean mg mb 297 news [] (RetV news fun t => .str signsS t) := by
  ((try unfold Cb); (try unfold CbE); (try unfold CbG); (try unfold CbH); k_fill; (try dsimp only [RetV, RetT]); intros; rename_i s0 Q0 E0 B0 F0 X0 N0 T0 hk0 hd0 hu0 hret; refine wpAny_call ?_; k_dflt (refine' code_defP (mu := []) ?k1 ?k2 ?k3 ?k4 ?k5 ?kA ?kF ?kK ?k6 ?k7 ?k8 ?k9 ?kB ?_ ?c2 ?c3 ?c4 ?c5; (case kA => exact rfl); (case kF => exact rfl); (case kK => first | exact rfl | assumption); (case k1 => k_asm); (case k2 => k_asm); (case k4 => exact News.nil); (case k3 => k_asm); (case k5 => k_asm); (case k6 => k_is); (case k7 => k_is); (case k8 => ktr_room); (case k9 => exact BindsTo.of_eq rfl); (case c5 => decide); (case kB => exact locs rfl); (case c2 => exact rfl); (case c3 => exact rfl); (case c4 => exact rfl); k_whole; intro g' L' h' HG0 FG' F' N' B' X' T'; (try dsimp only); (try k_lift B'); (try k_fold)); (refine letA ?_); (intro kA))
  k_steps
  all_goals (refine cb_retS hret ?_ (by k_asm) (by exact newsKeep N0 HG0 (by k_asm)))
  all_goals rfl
noncomputable def casesL : List (Str × (Str × Str)) := [(Str.ofString "a", (Str.ofString "a", Str.ofString "A")), (Str.ofString "b", (Str.ofString "b", Str.ofString "B")), (Str.ofString "Z", (Str.ofString "z", Str.ofString "Z")), (Str.ofString "A", (Str.ofString "a", Str.ofString "A")), (Str.ofString "B", (Str.ofString "b", Str.ofString "B")), (Str.ofString "z", (Str.ofString "z", Str.ofString "Z")), (Str.ofString "é", (Str.ofString "é", Str.ofString "É")), (Str.ofString "É", (Str.ofString "é", Str.ofString "É")), (Str.ofString "Σ", (Str.ofString "σ", Str.ofString "Σ")), (Str.ofString "σ", (Str.ofString "σ", Str.ofString "Σ"))]
inductive CasesAre (news : List (Addr × Obj)) : List (Value × Value) → List (Str × (Str × Str)) → Prop
  | nil : CasesAre news [] []
  | cons {k lo up : Str} {t t1 t2 : Tok} {D : Addr} {n : Nat} {vs l} : (D, ({ cls := .type "tuple", data := .seq #[.str lo t1, .str up t2] n } : Obj)) ∈ news → CasesAre news vs l → CasesAre news ((.str k t, .ref D) :: vs) ((k, (lo, up)) :: l)
theorem CasesAre.look {news : List (Addr × Obj)} {c : Str} {vs l} (h : CasesAre news vs l) : (valueAt (strPairs vs) c = none ∧ l.lookup c = none) ∨ ∃ D lo up t1 t2 n, valueAt (strPairs vs) c = some (.ref D) ∧ (D, ({ cls := .type "tuple", data := .seq #[.str lo t1, .str up t2] n } : Obj)) ∈ news ∧ l.lookup c = some (lo, up) := by
  induction h with
  | nil => exact .inl ⟨rfl, rfl⟩
  | @cons k lo up t t1 t2 D n vs l hm _ ih =>
    by_cases e : k = c
    · subst e
      exact .inr ⟨D, lo, up, t1, t2, n, by simp [valueAt, strPairs], hm, List.lookup_cons_self⟩
    · have e1 : valueAt (strPairs ((.str k t, .ref D) :: vs)) c = valueAt (strPairs vs) c := by simp [valueAt, strPairs, e]
      have e2 : List.lookup c ((k, (lo, up)) :: l) = l.lookup c := by rw [List.lookup_cons, beq_eq_false_iff_ne.mpr (Ne.symm e)]
      rw [e1, e2]
      exact ih
section
variable {prog : Program} {w : World} {A : Around} {E : Value → Shared → Prop} {s : Shared} {h₀ : Heap} {L : Addr} {news : List (Addr × Obj)} {d : Addr} {o : Obj} {vs : List (Value × Value)} {c : Str} {t : Tok} {l : List (Str × (Str × Str))}
theorem notin_cases {Q : Value → Shared → Prop} (N : News h₀ L s.heap news) (hp : (d, o) ∈ news) (hd : o.IsDictOf (PySem.strKind prog w) (strPairs vs)) (lo : (d == sysModules) = false) (hc : CasesAre news vs l)
    (h0 : l.lookup c = none → Q (.bool true) { s with toks := s.toks + 1 }) (h1 : ∀ D lo up t1 t2 n, valueAt (strPairs vs) c = some (.ref D) → (D, ({ cls := .type "tuple", data := .seq #[.str lo t1, .str up t2] n } : Obj)) ∈ news → l.lookup c = some (lo, up) → Q (.bool false) { s with toks := s.toks + 1 }) :
    wpAny (model prog w) A (compareOp .NotIn (.str c t) (.ref d)) Q E s := by
  rcases hc.look (c := c) with ⟨a, b⟩ | ⟨D, lo', up, t1, t2, n, a, b, e⟩
  · exact kdg_notin (knd := PySem.strKind prog w) N hp hd lo (strKind_is _ _ _ _) false (by rw [a]; rfl) (h0 b)
  · exact kdg_notin (knd := PySem.strKind prog w) N hp hd lo (strKind_is _ _ _ _) true (by rw [a]; rfl) (h1 D lo' up t1 t2 n a b e)
end
noncomputable def upF (cmd : Str) (b : Bool) : Bool := if (cmd == Str.ofString "toupper") = true then true else if (cmd == Str.ofString "totitle") = true then b else false
noncomputable def signF (up : Bool) (c : Str) : Str := match casesL.lookup c with
  | none => c
  | some p => if up = true then p.2 else p.1
theorem kw_S1_1 : True := by
  k_with "m:newTuple" => (k_here; k_dflt (refine' kup_newTuple ?F ?N ?_ ?z; (case F => k_asm); (case N => k_asm); (case z => kmk_size)); intro D' h' F' N' l1; (try k_lt l1); (try k_sweep))
  k_with "m:eval Dict" => (k_here; k_dflt (refine' kdn_str ?q ?F ?N ?b ?a ?l ?e ?n ?_; (case q => rfl); (case F => k_asm); (case N => first | k_asm | exact News.nil); (case b => exact Top.nolimit (by k_asm)); (case a => rfl); (case l => rfl); (case e => exact List.cons_ne_nil _ _); (case n => exact Nat.le_of_ble_eq_true rfl)); intro d' h' o' F' N' l1 lo' hd'; (try k_lt l1))
  k_with "m:compareOp NotIn str ref" => (k_here; k_dflt (refine notin_cases (l := casesL) (by k_asm) (by k_mem) (by with_reducible assumption) (by with_reducible assumption) (by repeat (first | exact CasesAre.nil | refine CasesAre.cons (by k_mem) ?_)) ?_ ?_); (case' _ => skip); all_goals (intros; try k_fold))
  k_with "m:subscriptTail Subscript" => (k_here; (with_reducible show wpAny _ _ (subscriptTail _ _ (Value.ref _) (Value.int _ _)) _ _ _); k_dflt (refine item_tupleT (News.isTup (by k_asm) (by with_reducible assumption)) (by decide) (by decide) (by first | exact (rfl : _ = some 0) | exact (rfl : _ = some 1)) rfl ?_))
  k_with "m:subscriptTail Name Name ref str" => (k_here; (with_reducible show wpAny _ _ (subscriptTail _ _ (Value.ref _) (Value.str _ _)) _ _ _); k_dflt (refine kda_item (knd := PySem.strKind _ _) (by k_asm) (by k_mem) (by with_reducible assumption) (strKind_is _ _ _ _) (by with_reducible assumption) ?_))
  k_with "m:call ref" => (k_here; (with_reducible show wpAny _ _ (call (Value.ref 304) _) _ _ _); k_dflt (refine wpAny_call ?_); k_dflt (refine' code_def ?k1 ?k2 ?k3 ?k4 ?k5 ?kA ?kF ?kK ?k6 ?k7 ?k8 ?k9 ?kB ?_ ?c2 ?c3 ?c4 ?c5; (case kA => exact rfl); (case kF => exact rfl); (case kK => first | exact rfl | assumption); k_extra "K5"; (case k6 => k_is); (case k7 => k_is); (case k8 => ktr_room); (case k9 => exact BindsTo.of_eq rfl); (case c5 => decide); (case kB => exact locs rfl); (case c2 => exact rfl); (case c3 => exact rfl); (case c4 => exact rfl); k_whole; intro g9 L9 h9 FG9 F9 N9 B9 X9 T9; (try dsimp only); (try k_lift B9); (try k_fold)))
  trivial
theorem sign_c {w mean mg mb} {news : List (Addr × Obj)} {cmd c : Str} {t u : Tok} {b : Bool} : CbH 4 w mean mg mb 360 news [.str cmd t, .str c u, .bool b] (RetV news fun t => .str (signF (upF cmd b) c) t) := by
  ((try unfold Cb); (try unfold CbE); (try unfold CbG); (try unfold CbH); k_fill; (try dsimp only [RetV, RetT]); intros; rename_i s0 Q0 E0 B0 F0 X0 N0 T0 hk0 hd0 hu0 hret; refine wpAny_call ?_; k_dflt (refine' code_defP (mu := []) ?k1 ?k2 ?k3 ?k4 ?k5 ?kA ?kF ?kK ?k6 ?k7 ?k8 ?k9 ?kB ?_ ?c2 ?c3 ?c4 ?c5; (case kA => exact rfl); (case kF => exact rfl); (case kK => first | exact rfl | assumption); (case k1 => k_asm); (case k2 => k_asm); (case k4 => exact News.nil); (case k3 => k_asm); (case k5 => k_asm); (case k6 => k_is); (case k7 => k_is); (case k8 => ktr_room); (case k9 => exact BindsTo.of_eq rfl); (case c5 => decide); (case kB => exact locs rfl); (case c2 => exact rfl); (case c3 => exact rfl); (case c4 => exact rfl); k_whole; intro g' L' h' HG0 FG' F' N' B' X' T'; (try dsimp only); (try k_lift B'); (try k_fold)); (replace F' : Fr g' L' h' (fun y => List.lookup y [(Str.ofString "is_first", _), (Str.ofString "c", _), (Str.ofString "command", _)]) := F'); (generalize Shared.toks _ + List.length _ = tk0))
  k_steps
  all_goals first | ((refine cb_retS hret ?_ (by k_asm) (by exact newsKeep N0 HG0 (by k_asm))); (simp only [signF, upF, *, if_true, if_false, Bool.false_eq_true]; done))
end

section
-- Q4
open PySem PySem.W PyProof.Rows
open PySem.Challenge
set_option maxRecDepth 100000
set_option maxHeartbeats 4000000

theorem signF_len {up : Bool} {c : Str} (h : c.length = 1) : (signF up c).length = 1 := by
  unfold signF
  split
  · exact h
  · rename_i p hp
    have : p.1.length = 1 ∧ p.2.length = 1 := by
      unfold casesL at hp
      simp only [List.lookup_cons, List.lookup_nil] at hp
      repeat' split at hp
      all_goals first | (cases hp; decide +kernel) | (cases hp)
    split
    · exact this.2
    · exact this.1
theorem item_len {c : Str} {k : Int} (h0 : 0 ≤ k) (h1 : k < c.length) : (Txt.item c k).length = 1 := by rw [item_at h0 h1]; rfl
noncomputable def pieceF (cmd c : Str) (f l at' : Int) : Str := if f ≤ at' ∧ at' ≤ l then signF (upF cmd (at' == f)) (Txt.item c at') else Txt.item c at'
noncomputable def casedI (cmd c : Str) (f l : Int) (pre : List Int) : Str := pre.foldl (fun a k => a ++ pieceF cmd c f l k) (Str.ofString "")
noncomputable def casedF (cmd c : Str) (f l : Int) : Str := casedI cmd c f l (rangeKs 0 ((c.length : Int) - 0).toNat)
theorem piece_len {cmd c : Str} {f l k : Int} (h0 : 0 ≤ k) (h1 : k < c.length) : (pieceF cmd c f l k).length = 1 := by
  unfold pieceF
  split
  · exact signF_len (item_len h0 h1)
  · exact item_len h0 h1
theorem cased_in {cmd c made : Str} {f l k : Int} {pre : List Int} (a : made.length = pre.length) (b : made = casedI cmd c f l pre) (h0 : 0 ≤ k) (hk : k < c.length) (h1 : f ≤ k) (h2 : k ≤ l) :
    (made ++ signF (upF cmd (k == f)) (Txt.item c k)).length = (pre ++ [k]).length ∧ made ++ signF (upF cmd (k == f)) (Txt.item c k) = casedI cmd c f l (pre ++ [k]) := by
  refine ⟨?_, ?_⟩
  · rw [PySem.Str.length_append, signF_len (item_len h0 hk), List.length_append, a]; rfl
  · rw [b]; unfold casedI; rw [List.foldl_append]; show _ = _ ++ pieceF cmd c f l k; rw [pieceF, if_pos ⟨h1, h2⟩]
theorem cased_out {cmd c made : Str} {f l k : Int} {pre : List Int} (a : made.length = pre.length) (b : made = casedI cmd c f l pre) (h0 : 0 ≤ k) (hk : k < c.length) (h1 : ¬ (f ≤ k ∧ k ≤ l)) :
    (made ++ Txt.item c k).length = (pre ++ [k]).length ∧ made ++ Txt.item c k = casedI cmd c f l (pre ++ [k]) := by
  refine ⟨?_, ?_⟩
  · rw [PySem.Str.length_append, item_len h0 hk, List.length_append, a]; rfl
  · rw [b]; unfold casedI; rw [List.foldl_append]; show _ = _ ++ pieceF cmd c f l k; rw [pieceF, if_neg h1]
theorem signF_le (up : Bool) {c : Str} {n : Nat} (h : 1 ≤ c.length ∧ c.length ≤ 1) (hn : n ≤ 1000) : n + (signF up c).length ≤ 16777216 := by rw [signF_len (by omega)]; omega
end

section
-- L6u
open PySem PySem.W PyProof.Rows PySem.Calls
theorem kwn_L6u : True := by
  k_with_none
  w_top off
  trivial
theorem kwo_L6u : True := by
  k_with "m:omega" => first | with_reducible assumption | decide | with_reducible exact Int.le_refl _ | with_reducible exact Nat.le_refl _ | with_reducible exact rm_u2 | with_reducible exact rm_d2 | with_reducible exact rm_u1 | with_reducible exact rm_d1 | with_reducible exact rm_u0 | with_reducible exact rm_d0 | with_reducible exact n_up | with_reducible exact q_o | with_reducible exact q_c1 | with_reducible exact q_c2 | with_reducible exact q_c3 | with_reducible exact q_c4 | with_reducible exact q_n1 | with_reducible exact q_n2 | with_reducible exact q_n3 | with_reducible exact q_l1 | with_reducible exact q_l2 | with_reducible exact q_t1 | with_reducible exact q_t2 | with_reducible exact q_t3 | with_reducible exact q_t4 | with_reducible exact q_t5 | ((with_reducible show _ ≠ _); first | k_extra "P" | (refine Ne.symm ?_; k_extra "P") | (refine Nat.ne_of_lt ?_; k_extra "P") | (refine Nat.ne_of_gt ?_; k_extra "P"))
  k_with "P" => first | with_reducible assumption | with_reducible exact And.left (by with_reducible assumption) | with_reducible exact And.right (by with_reducible assumption) | with_reducible exact q_r (by with_reducible assumption) | with_reducible exact q_s (by with_reducible assumption) | with_reducible exact q_t (by with_reducible assumption) | with_reducible exact q_u (by with_reducible assumption)
  k_with "D" => ((try simp +zetaDelta only [depth_in1, depth_deeper]); (try dsimp only [ktrTop]); omega)
  k_with "U" => ((try simp +zetaDelta only [units_in1, units_deeper, Around.mark_units]); (try dsimp only [ktrTop]); omega)
  k_with "K5" => ((case k1 => k_asm); (case k2 => k_asm); (case k3 => k_asm); (case k4 => k_asm); (case k5 => k_asm))
  k_with "S" => first | with_reducible assumption | exact .inl rfl | exact .inr (.inl rfl) | exact .inr (.inr rfl) | exact .inr rfl | omega | k_mem | fail | (simp only [PySem.Str.length_append, KOpn.len_one]; omega) | assumption
  k_with "dr" => first | with_reducible assumption | with_reducible exact (News.tl (by with_reducible assumption)) | with_reducible exact (News.tl (News.tl (by with_reducible assumption))) | with_reducible exact (News.tl (News.tl (News.tl (by with_reducible assumption)))) | with_reducible exact (News.tl (News.tl (News.tl (News.tl (by with_reducible assumption))))) | with_reducible exact (News.tl (News.tl (News.tl (News.tl (News.tl (by with_reducible assumption)))))) | with_reducible exact (News.tl (News.tl (News.tl (News.tl (News.tl (News.tl (by with_reducible assumption))))))) | with_reducible exact News.apl (by with_reducible assumption) | with_reducible exact News.apl (News.tl (by with_reducible assumption)) | with_reducible exact News.apl (News.tl (News.tl (by with_reducible assumption))) | with_reducible exact News.apl (News.tl (News.tl (News.tl (by with_reducible assumption)))) | with_reducible exact News.apl (News.tl (News.tl (News.tl (News.tl (by with_reducible assumption)))))
  k_with "m:eval Call" => (k_here; k_dflt (first | ((with_reducible show wpAny _ _ (eval (.Call (.Name (Str.ofString "len") _) [.Name _ _] [] _) _) _ _ _); refine len_nm (q := ?_)) | ((with_reducible show wpAny _ _ (eval (.Call (.Name (Str.ofString "len") _) [_] [] _) _) _ _ _); refine callLen (h := ?_)) | ((with_reducible show wpAny _ _ (eval (.Call (.Name (Str.ofString "str") _) [_] [] _) _) _ _ _); refine callStr (h := ?_)) | ((with_reducible show wpAny _ _ (eval (.Call (.Name _ _) [_] [] _) _) _ _ _); refine callK1 (h := ?_)) | ((with_reducible show wpAny _ _ (eval (.Call (.Name _ _) [_, _] [] _) _) _ _ _); refine callK2 (h := ?_)) | ((with_reducible show wpAny _ _ (eval (.Call (.Name _ _) [_, _, _] [] _) _) _ _ _); refine callK3 (h := ?_))); k_whole)
  k_with "m:eval Constant int" => (k_here; k_dflt (refine cInt ?_); k_whole)
  k_with "m:eval Constant str" => (k_here; k_dflt (refine cStr ?_); k_whole)
  k_with "m:storeName" => (k_here; k_dflt (refine storeS (q := ?_)); k_whole; intro h' F' N'; (try k_sweep))
  k_with "m:binaryOp Add int int" => (k_here; k_dflt (refine addS ?_); k_whole)
  k_with "m:binaryOp Sub int int" => (k_here; k_dflt (refine subS ?_); k_whole)
  k_with "m:call builtin:len" => (k_here; (with_reducible show wpAny _ _ (call _ [.str _ _]) _ _ _); k_dflt (refine lenS (q := ?_)); k_whole)
  k_with "m:newList" => (k_here; k_dflt (refine lstS (q := ?_) (by first | exact Nat.le_of_ble_eq_true rfl | size_fits)); k_whole; intro l' h' F' N' l1; (try k_lt l1); (try k_sweep))
  k_with "m:execs cons" => (k_here; k_dflt (first | ((with_reducible show wpAny _ _ (execs (.Assign [.Name _ _] _ _ :: _) _) _ _ _); refine sAsg ?_ (Eq.refl true)) | ((with_reducible show wpAny _ _ (execs (.Return (some _) _ :: _) _) _ _ _); refine sRet ?_) | ((with_reducible show wpAny _ _ (execs (.If _ [.Return (some _) _] [] _ :: _) _) _ _ _); refine sIfR ?_) | ((with_reducible show wpAny _ _ (execs (.If _ _ [] _ :: _) _) _ _ _); refine sIf1 ?_)); k_whole)
  k_with "m:eval Tuple" => (k_here; first | ((with_reducible show wpAny _ _ (eval (.Tuple [.Constant (.str _) _ _, .Constant (.str _) _ _] _ _) _) _ _ _); k_dflt (refine tupSS (q := ?_)); k_whole; intro D' h' F' N' l1; (try k_lt l1)) | ((with_reducible show wpAny _ _ (eval (.Tuple [_, _] _ _) _) _ _ _); k_dflt (refine tup2 ?_ (Eq.refl true) (Eq.refl true)); k_whole))
  k_with "m:eval List" => (k_here; k_dflt (first | ((with_reducible show wpAny _ _ (eval (.List [_] _) _) _ _ _); refine lst1 ?_ (Eq.refl true)) | ((with_reducible show wpAny _ _ (eval (.List [_, _] _) _) _ _ _); refine lst2 ?_ (Eq.refl true) (Eq.refl true)) | ((with_reducible show wpAny _ _ (eval (.List [_, _, _] _) _) _ _ _); refine lst3 ?_ (Eq.refl true) (Eq.refl true) (Eq.refl true)) | ((with_reducible show wpAny _ _ (eval (.List [_, _, _, _] _) _) _ _ _); refine lst4 ?_ (Eq.refl true) (Eq.refl true) (Eq.refl true) (Eq.refl true))); k_whole)
  k_with "m:eval BinOp" => (k_here; k_dflt (first | ((with_reducible show wpAny _ _ (eval (.BinOp (.Name _ _) _ (.Name _ _) _) _) _ _ _); refine bNN (q := ?_)) | ((with_reducible show wpAny _ _ (eval (.BinOp (.Name _ _) _ (.Constant (.int _) _ _) _) _) _ _ _); refine bNC (q := ?_)) | ((with_reducible show wpAny _ _ (eval (.BinOp (.Name _ _) _ _ _) _) _ _ _); refine bN (q := ?_))); k_whole)
  k_with "m:isTrue Compare" => (k_here; k_dflt (first | ((with_reducible show wpAny _ _ (isTrue (.Compare (.Name _ _) [_] [(.Name _ _)] _) _ _) _ _ _); refine cNN (q := ?_)) | ((with_reducible show wpAny _ _ (isTrue (.Compare (.Name _ _) [_] [(.Constant (.int _) _ _)] _) _ _) _ _ _); refine cNC (q := ?_)) | ((with_reducible show wpAny _ _ (isTrue (.Compare (.Name _ _) [_] [_] _) _ _) _ _ _); refine cN (q := ?_))); k_whole)
  k_with "m:eval Subscript" => (k_here; k_dflt (first | ((with_reducible show wpAny _ _ (eval (.Subscript (.Name _ _) (.Name _ _) _) _) _ _ _); refine gNN (q := ?_)) | ((with_reducible show wpAny _ _ (eval (.Subscript (.Name _ _) (.Constant (.int _) _ _) _) _) _ _ _); refine gNC (q := ?_)) | ((with_reducible show wpAny _ _ (eval (.Subscript (.Name _ _) _ _) _) _ _ _); refine gN (q := ?_))); k_whole)
  trivial
open PySem.Challenge
set_option maxRecDepth 100000
set_option maxHeartbeats 4000000
theorem allLt_ne {d : Nat} : ∀ {l : List (Addr × Obj)}, AllLt d l → ∀ p ∈ l, p.1 ≠ d
  | [], _ => fun _ h => nomatch h
  | p :: r, h => fun q hq => by
    rcases List.mem_cons.mp hq with rfl | hq
    · exact Nat.ne_of_lt h.1
    · exact allLt_ne h.2 q hq
theorem all_app {l r : List (Addr × Obj)} {P : Addr × Obj → Prop} (h1 : ∀ p ∈ l, P p) (h2 : ∀ p ∈ r, P p) : ∀ p ∈ l ++ r, P p := fun p hp => (List.mem_append.mp hp).elim (h1 p) (h2 p)
theorem outs_snoc {g : Int → Str} {n : Nat} {x : Str} {t : Tok} (e : x = g n) {us : List Value} {pre : List Int} (h : CarriedAll us (pre.map fun a => PyData.str (g a))) : CarriedAll (us ++ [.str x t]) ((pre ++ [(n : Int)]).map fun a => PyData.str (g a)) := by
  subst e; rw [List.map_append]; exact h.appendLM (.cons (.str _ _) .nil)
noncomputable abbrev outsLed (l : Addr) (rest : List (Addr × Obj)) (c : List Value × Nat) : List (Addr × Obj) := (l, listOf c.1.toArray c.2) :: rest
noncomputable abbrev outsP (g : Int → Str) (pre : List Int) (c : List Value × Nat) : Prop := CarriedAll c.1 (pre.map fun a => PyData.str (g a))
noncomputable abbrev noPs (_ : List Value × Nat) : List (Str × Value) := []
noncomputable abbrev noFacts (_ : List Value × Nat) : Prop := True
theorem kw_L6u_1 : True := by
  k_with "m:call ref" => (k_here; (with_reducible show wpAny _ _ (call (Value.ref 171) _) _ _ _); k_dflt (refine' cut_span_c ?hc0 _ _ _ _ _ _ _ _ _ _ _ _ _ _ _ _ _ ?k1 ?k2 ?k3 ?k4 ?k5 ?kK ?kd ?ku ?_); k_extra "K5"; (case kK => first | exact rfl | assumption); (case hc0 => k_extra "S"); (case kd => (k_extra "D")); (case ku => (k_extra "U")); intro D9 t9 u9 h9 tk9 F9 N9 L9; (try dsimp only); (skip); (all_goals (try k_fold)))
  k_with "m:call ref" => (k_here; (with_reducible show wpAny _ _ (call (Value.ref 136) _) _ _ _); k_dflt (refine' folded_c ?hc0 _ _ _ _ _ _ _ _ _ _ _ _ _ _ _ _ _ ?k1 ?k2 ?k3 ?k4 ?k5 ?kK ?kd ?ku ?_); k_extra "K5"; (case kK => first | exact rfl | assumption); (case hc0 => k_extra "S"); (case kd => (k_extra "D")); (case ku => (k_extra "U")); intro t9 h9 tk9 F9 N9; (try dsimp only); (skip); (all_goals (try k_fold)))
  k_with "m:call ref" => (k_here; (with_reducible show wpAny _ _ (call (Value.ref 143) _) _ _ _); k_dflt (refine' one_upper_c ?hc0 _ _ _ _ _ _ _ _ _ _ _ _ _ _ _ _ _ ?k1 ?k2 ?k3 ?k4 ?k5 ?kK ?kd ?ku ?_); k_extra "K5"; (case kK => first | exact rfl | assumption); (case hc0 => k_extra "S"); (case kd => (k_extra "D")); (case ku => (k_extra "U")); intro t9 h9 tk9 F9 N9; (try dsimp only); (skip); (all_goals (try k_fold)))
  k_with "m:exec For Name Subscript cons nil" => (k_here; (rename Fr _ _ _ _ => lF'); (with_unfolding_all refine' For_invVF lF' ?k1 ?k2 ?_; (case k1 => exact rfl); (case k2 => exact rfl); k_whole))
  trivial
local macro_rules | `(tactic| k_all) => `(tactic| k_extra "m:k_all")
theorem kwall : True := by
  k_with "m:k_all" => first | exact allLt_ne (by with_reducible assumption) | exact allLt_ne (And.right (by with_reducible assumption)) | exact allLt_ne (And.right (And.right (by with_reducible assumption))) | (refine all_app ?_ ?_ <;> k_all) | exact OwnOff.ne (by with_reducible assumption) (List.mem_cons_self ..)
  trivial
noncomputable def upOne (n : Int) : Str := oneUpperF ⟨#[n.toNat]⟩
noncomputable def upperF (c : Str) (f l : Int) : Str := Txt.slice c none (some (cutA c.length f l)) ++ Txt.join (Str.ofString "") ((KStt.codes (Txt.slice c (some (cutA c.length f l)) (some (cutB c.length f l + 1)))).map upOne) ++ Txt.slice c (some (cutB c.length f l + 1)) none
theorem upOne_len (n : Int) : (upOne n).length = 1 := by
  unfold upOne oneUpperF
  split
  · assumption
  · rfl
theorem outs_end {g : Int → Str} {x : Str} {l : Addr} {rest own news' : List (Addr × Obj)} {h₀ h' : Heap} {L : Addr} {m₀ m' : Str → Option Value} {s₁ : Shared} {tk : Nat} {us : List Value} {k n : Nat} {v : Str} {t : Tok} {pre : List Int} {adr : List Addr}
    (F : Fr h₀ L h' m') (N : News h₀ L h' news') (hp : outsP g pre (us, k)) (hv : v = g n) (hl : (l, listOf (us ++ [Value.str v t]).toArray (k + 1)) ∈ news') (hr : ∀ p ∈ rest, p ∈ news') (ho : ∀ p ∈ own, p ∈ news') (ha : l :: rest.map (·.1) = adr) (hm : ∀ z, z ≠ x → m' z = m₀ z) :
    InvEndN h₀ L (KstS (outsLed l rest) noPs noFacts x [] m₀ (outsP g) (pre ++ [(n : Int)])) own adr s₁ { s₁ with heap := h', toks := tk } :=
  kst_end (us ++ [Value.str v t], k + 1) F N (fun p hp => by
    rcases List.mem_cons.mp hp with rfl | hp
    · exact hl
    · exact hr p hp) ho ha trivial (fun _ h => nomatch h) (fun z h1 _ _ => hm z h1) (outs_snoc hv hp)
theorem kw_L6u_2 : True := by
  k_with "m:InvEndN" => (k_here; (rename News _ _ _ _ => nE'); (try simp only [List.push_toArray] at nE'); (refine outs_end (by k_asm) nE' (by with_reducible assumption) rfl (List.Mem.head _) (fun p hp => List.Mem.tail _ (List.mem_append_left (as := _ :: _) _ hp)) (fun p hp => List.Mem.tail _ (List.mem_append_right (_ :: _) hp)) rfl (fun z hz => if_neg hz)))
  k_with "m:call builtin:str.join" => (k_here; (with_reducible show wpAny _ _ (call (Value.builtin "str.join") [Value.str _ _, Value.ref _]) _ _ _); (refine KT.join_1 (News.isList (by k_asm) (by k_mem)) (by with_reducible assumption) (fun a _ => upOne_len a) (by rw [KStt.codes_length]; omega) ?_); intro _ _ ktE; (try simp only [KStt.codes_length] at ktE))
  trivial
theorem upper_c {w mean mg mb} {news : List (Addr × Obj)} {c : Str} {t u v : Tok} {f l : Int} (hc : c.length ≤ 1000) : Cb 6 w mean mg mb 185 news [.str c t, .int f u, .int l v] (fun t => .str (upperF c f l) t) := by
  k_with "pyIter str" => ((rename Fr _ _ _ _ => lF'); (rename News _ _ _ _ => lN'); (refine' KStt.kst_text (outsLed _ _) noPs noFacts [] (outsP upOne) ([], _) rfl lF' lN' trivial (fun _ h => nomatch h) .nil ?_ ?_); (all_goals clear lF' lN'); (intro c9 pre post n9 t9 u9 h9 tk9 own9 hc9 ho9 hf9 hp9 F9 N9; obtain ⟨us9, k9⟩ := c9; dsimp only [outsLed, List.map, List.cons_append] at ho9 hp9 N9; (have hl9 := CarriedAll.length_eq hp9); (simp only [List.length_map] at hl9); (have hl8 := congrArg List.length hc9); (simp only [KStt.codes_length, List.length_append, List.length_cons] at hl8)); rotate_left; (intro c9 u9 h9 tk9 hf9 hp9 F9 N9; obtain ⟨us9, k9⟩ := c9; dsimp only [outsLed] at hp9 N9); rotate_left; all_goals (try k_fold))
  ((try unfold Cb); unfold CbG; k_fill; (try dsimp only [RetV, RetT]); intros; rename_i hret; refine wpAny_call ?_; k_dflt cell_enter; (refine letA ?_); (intro kA); (rename Fr _ _ _ _ => sF); (first | replace sF : Fr _ _ _ (fun y => List.lookup y [(Str.ofString "last", _), (Str.ofString "first", _), (Str.ofString "text", _)]) := sF | replace sF : Fr _ _ _ (fun y => List.lookup y [(Str.ofString "text", _), (Str.ofString "first", _), (Str.ofString "last", _)]) := sF); (generalize Shared.toks _ + List.length _ = tk0); k_steps)
  all_goals first | ((refine cb_retS hret ?_ (by k_asm) (by k_extra "dr")); rfl)
end

section
-- L6t
open PySem PySem.W PyProof.Rows
theorem kwn_L6t : True := by
  k_with_none
  w_top off
  trivial
theorem kwo_L6t : True := by
  k_with "m:omega" => first | with_reducible assumption | decide | with_reducible exact Int.le_refl _ | with_reducible exact Nat.le_refl _ | with_reducible exact rm_u2 | with_reducible exact rm_d2 | with_reducible exact rm_u1 | with_reducible exact rm_d1 | with_reducible exact rm_u0 | with_reducible exact rm_d0 | with_reducible exact n_up | with_reducible exact q_o | with_reducible exact q_c1 | with_reducible exact q_c2 | with_reducible exact q_c3 | with_reducible exact q_c4 | with_reducible exact q_n1 | with_reducible exact q_n2 | with_reducible exact q_n3 | with_reducible exact q_l1 | with_reducible exact q_l2 | with_reducible exact q_t1 | with_reducible exact q_t2 | with_reducible exact q_t3 | with_reducible exact q_t4 | with_reducible exact q_t5 | ((with_reducible show _ ≠ _); first | k_extra "P" | (refine Ne.symm ?_; k_extra "P") | (refine Nat.ne_of_lt ?_; k_extra "P") | (refine Nat.ne_of_gt ?_; k_extra "P"))
  k_with "P" => first | with_reducible assumption | with_reducible exact And.left (by with_reducible assumption) | with_reducible exact And.right (by with_reducible assumption) | with_reducible exact q_r (by with_reducible assumption) | with_reducible exact q_s (by with_reducible assumption) | with_reducible exact q_t (by with_reducible assumption) | with_reducible exact q_u (by with_reducible assumption)
  k_with "D" => ((try simp +zetaDelta only [depth_in1, depth_deeper]); (try dsimp only [ktrTop]); omega)
  k_with "U" => ((try simp +zetaDelta only [units_in1, units_deeper, Around.mark_units]); (try dsimp only [ktrTop]); omega)
  k_with "K5" => ((case k1 => k_asm); (case k2 => k_asm); (case k3 => k_asm); (case k4 => k_asm); (case k5 => k_asm))
  k_with "S" => first | with_reducible assumption | exact .inl rfl | exact .inr (.inl rfl) | exact .inr (.inr rfl) | exact .inr rfl | omega | k_mem | fail | (simp only [PySem.Str.length_append, KOpn.len_one]; omega) | assumption
  k_with "dr" => first | with_reducible assumption | with_reducible exact (News.tl (by with_reducible assumption)) | with_reducible exact (News.tl (News.tl (by with_reducible assumption))) | with_reducible exact (News.tl (News.tl (News.tl (by with_reducible assumption)))) | with_reducible exact (News.tl (News.tl (News.tl (News.tl (by with_reducible assumption))))) | with_reducible exact (News.tl (News.tl (News.tl (News.tl (News.tl (by with_reducible assumption)))))) | with_reducible exact (News.tl (News.tl (News.tl (News.tl (News.tl (News.tl (by with_reducible assumption))))))) | with_reducible exact News.apl (by with_reducible assumption) | with_reducible exact News.apl (News.tl (by with_reducible assumption)) | with_reducible exact News.apl (News.tl (News.tl (by with_reducible assumption))) | with_reducible exact News.apl (News.tl (News.tl (News.tl (by with_reducible assumption)))) | with_reducible exact News.apl (News.tl (News.tl (News.tl (News.tl (by with_reducible assumption)))))
  k_with "m:eval Call" => (k_here; k_dflt (first | ((with_reducible show wpAny _ _ (eval (.Call (.Name (Str.ofString "len") _) [.Name _ _] [] _) _) _ _ _); refine len_nm (q := ?_)) | ((with_reducible show wpAny _ _ (eval (.Call (.Name (Str.ofString "len") _) [_] [] _) _) _ _ _); refine callLen (h := ?_)) | ((with_reducible show wpAny _ _ (eval (.Call (.Name (Str.ofString "str") _) [_] [] _) _) _ _ _); refine callStr (h := ?_)) | ((with_reducible show wpAny _ _ (eval (.Call (.Name _ _) [_] [] _) _) _ _ _); refine callK1 (h := ?_)) | ((with_reducible show wpAny _ _ (eval (.Call (.Name _ _) [_, _] [] _) _) _ _ _); refine callK2 (h := ?_)) | ((with_reducible show wpAny _ _ (eval (.Call (.Name _ _) [_, _, _] [] _) _) _ _ _); refine callK3 (h := ?_))); k_whole)
  k_with "m:eval Constant int" => (k_here; k_dflt (refine cInt ?_); k_whole)
  k_with "m:eval Constant str" => (k_here; k_dflt (refine cStr ?_); k_whole)
  k_with "m:storeName" => (k_here; k_dflt (refine storeS (q := ?_)); k_whole; intro h' F' N'; (try k_sweep))
  k_with "m:binaryOp Add int int" => (k_here; k_dflt (refine addS ?_); k_whole)
  k_with "m:binaryOp Sub int int" => (k_here; k_dflt (refine subS ?_); k_whole)
  k_with "m:call builtin:len" => (k_here; (with_reducible show wpAny _ _ (call _ [.str _ _]) _ _ _); k_dflt (refine lenS (q := ?_)); k_whole)
  k_with "m:newList" => (k_here; k_dflt (refine lstS (q := ?_) (by first | exact Nat.le_of_ble_eq_true rfl | size_fits)); k_whole; intro l' h' F' N' l1; (try k_lt l1); (try k_sweep))
  k_with "m:execs cons" => (k_here; k_dflt (first | ((with_reducible show wpAny _ _ (execs (.Assign [.Name _ _] _ _ :: _) _) _ _ _); refine sAsg ?_ (Eq.refl true)) | ((with_reducible show wpAny _ _ (execs (.Return (some _) _ :: _) _) _ _ _); refine sRet ?_) | ((with_reducible show wpAny _ _ (execs (.If _ [.Return (some _) _] [] _ :: _) _) _ _ _); refine sIfR ?_) | ((with_reducible show wpAny _ _ (execs (.If _ _ [] _ :: _) _) _ _ _); refine sIf1 ?_)); k_whole)
  k_with "m:eval Tuple" => (k_here; first | ((with_reducible show wpAny _ _ (eval (.Tuple [.Constant (.str _) _ _, .Constant (.str _) _ _] _ _) _) _ _ _); k_dflt (refine tupSS (q := ?_)); k_whole; intro D' h' F' N' l1; (try k_lt l1)) | ((with_reducible show wpAny _ _ (eval (.Tuple [_, _] _ _) _) _ _ _); k_dflt (refine tup2 ?_ (Eq.refl true) (Eq.refl true)); k_whole))
  k_with "m:eval List" => (k_here; k_dflt (first | ((with_reducible show wpAny _ _ (eval (.List [_] _) _) _ _ _); refine lst1 ?_ (Eq.refl true)) | ((with_reducible show wpAny _ _ (eval (.List [_, _] _) _) _ _ _); refine lst2 ?_ (Eq.refl true) (Eq.refl true)) | ((with_reducible show wpAny _ _ (eval (.List [_, _, _] _) _) _ _ _); refine lst3 ?_ (Eq.refl true) (Eq.refl true) (Eq.refl true)) | ((with_reducible show wpAny _ _ (eval (.List [_, _, _, _] _) _) _ _ _); refine lst4 ?_ (Eq.refl true) (Eq.refl true) (Eq.refl true) (Eq.refl true))); k_whole)
  k_with "m:eval BinOp" => (k_here; k_dflt (first | ((with_reducible show wpAny _ _ (eval (.BinOp (.Name _ _) _ (.Name _ _) _) _) _ _ _); refine bNN (q := ?_)) | ((with_reducible show wpAny _ _ (eval (.BinOp (.Name _ _) _ (.Constant (.int _) _ _) _) _) _ _ _); refine bNC (q := ?_)) | ((with_reducible show wpAny _ _ (eval (.BinOp (.Name _ _) _ _ _) _) _ _ _); refine bN (q := ?_))); k_whole)
  k_with "m:isTrue Compare" => (k_here; k_dflt (first | ((with_reducible show wpAny _ _ (isTrue (.Compare (.Name _ _) [_] [(.Name _ _)] _) _ _) _ _ _); refine cNN (q := ?_)) | ((with_reducible show wpAny _ _ (isTrue (.Compare (.Name _ _) [_] [(.Constant (.int _) _ _)] _) _ _) _ _ _); refine cNC (q := ?_)) | ((with_reducible show wpAny _ _ (isTrue (.Compare (.Name _ _) [_] [_] _) _ _) _ _ _); refine cN (q := ?_))); k_whole)
  k_with "m:eval Subscript" => (k_here; k_dflt (first | ((with_reducible show wpAny _ _ (eval (.Subscript (.Name _ _) (.Name _ _) _) _) _ _ _); refine gNN (q := ?_)) | ((with_reducible show wpAny _ _ (eval (.Subscript (.Name _ _) (.Constant (.int _) _ _) _) _) _ _ _); refine gNC (q := ?_)) | ((with_reducible show wpAny _ _ (eval (.Subscript (.Name _ _) _ _) _) _ _ _); refine gN (q := ?_))); k_whole)
  trivial
open PySem.Challenge
set_option maxRecDepth 100000
set_option maxHeartbeats 4000000
theorem kw_L6t_1 : True := by
  k_with "m:call ref" => (k_here; (with_reducible show wpAny _ _ (call (Value.ref 171) _) _ _ _); k_dflt (refine' cut_span_c ?hc0 _ _ _ _ _ _ _ _ _ _ _ _ _ _ _ _ _ ?k1 ?k2 ?k3 ?k4 ?k5 ?kK ?kd ?ku ?_); k_extra "K5"; (case kK => first | exact rfl | assumption); (case hc0 => k_extra "S"); (case kd => (k_extra "D")); (case ku => (k_extra "U")); intro D9 t9 u9 h9 tk9 F9 N9 L9; (try dsimp only); (skip); (all_goals (try k_fold)))
  k_with "m:call ref" => (k_here; (with_reducible show wpAny _ _ (call (Value.ref 136) _) _ _ _); k_dflt (refine' folded_c ?hc0 _ _ _ _ _ _ _ _ _ _ _ _ _ _ _ _ _ ?k1 ?k2 ?k3 ?k4 ?k5 ?kK ?kd ?ku ?_); k_extra "K5"; (case kK => first | exact rfl | assumption); (case hc0 => k_extra "S"); (case kd => (k_extra "D")); (case ku => (k_extra "U")); intro t9 h9 tk9 F9 N9; (try dsimp only); (skip); (all_goals (try k_fold)))
  k_with "m:call ref" => (k_here; (with_reducible show wpAny _ _ (call (Value.ref 143) _) _ _ _); k_dflt (refine' one_upper_c ?hc0 _ _ _ _ _ _ _ _ _ _ _ _ _ _ _ _ _ ?k1 ?k2 ?k3 ?k4 ?k5 ?kK ?kd ?ku ?_); k_extra "K5"; (case kK => first | exact rfl | assumption); (case hc0 => k_extra "S"); (case kd => (k_extra "D")); (case ku => (k_extra "U")); intro t9 h9 tk9 F9 N9; (try dsimp only); (skip); (all_goals (try k_fold)))
  trivial
theorem oneUpper_le (c : Str) : (oneUpperF c).length ≤ c.length + 1 := by
  unfold oneUpperF
  split <;> omega
theorem cut_or (n f l : Int) (hn : 0 ≤ n) : cutB n f l < cutA n f l ∨ (0 ≤ cutA n f l ∧ cutA n f l < n ∧ cutB n f l < n) := by
  by_cases h : cutB n f l < cutA n f l
  · exact .inl h
  · exact .inr (cut_in h hn)
theorem kw_L6t_2 : True := by
  k_with "m:binaryOp Add str str" => (k_here; (with_reducible show wpAny _ _ (binaryOp Operator.Add (Value.str _ _) (Value.str _ _)) _ _ _); (refine KOpn.add (Nat.le_trans (Nat.add_le_add (Nat.le_refl _) (Nat.le_refl _)) (by (try simp only [PySem.Str.length_append, foldF_len]); omega)) ?_); intro _ _ _)
  trivial
noncomputable def titleF (c : Str) (f l : Int) : Str := if cutB c.length f l < cutA c.length f l then c else
  Txt.slice c none (some (cutA c.length f l)) ++ oneUpperF (Txt.item c (cutA c.length f l)) ++ foldF (Txt.slice c (some (cutA c.length f l + 1)) (some (cutB c.length f l + 1))) ++ Txt.slice c (some (cutB c.length f l + 1)) none
theorem title_c {w mean mg mb} {news : List (Addr × Obj)} {c : Str} {t u v : Tok} {f l : Int} (hc : c.length ≤ 1000) : Cb 6 w mean mg mb 192 news [.str c t, .int f u, .int l v] (fun t => .str (titleF c f l) t) := by
  have hcut := cut_or c.length f l (by omega)
  have hup := oneUpper_le (Txt.item c (cutA c.length f l))
  ((try unfold Cb); unfold CbG; k_fill; (try dsimp only [RetV, RetT]); intros; rename_i hret; refine wpAny_call ?_; k_dflt cell_enter; (refine letA ?_); (intro kA); (rename Fr _ _ _ _ => sF); (first | replace sF : Fr _ _ _ (fun y => List.lookup y [(Str.ofString "last", _), (Str.ofString "first", _), (Str.ofString "text", _)]) := sF | replace sF : Fr _ _ _ (fun y => List.lookup y [(Str.ofString "text", _), (Str.ofString "first", _), (Str.ofString "last", _)]) := sF); (generalize Shared.toks _ + List.length _ = tk0); k_steps)
  all_goals first
    | ((refine cb_retS hret ?_ (by k_asm) (by k_extra "dr")); first | exact (if_pos (by with_reducible assumption)).symm | exact (if_neg (by with_reducible assumption)).symm)
end

section
-- P1
open PySem PySem.W PyProof.Rows
open PySem.Challenge
set_option maxRecDepth 100000
set_option maxHeartbeats 4000000
noncomputable def sg : List Nat := [97, 98, 90, 55, 95, 45, 32, 10, 233, 201, 223, 931, 963, 20013]
noncomputable def OkT (c : Str) : Prop := c.length ≤ 8 ∧ ∀ n ∈ c.cps.toList, n ∈ sg
noncomputable abbrev sLow : Str := Str.ofString "tolower"
noncomputable abbrev sUp : Str := Str.ofString "toupper"
noncomputable abbrev sTi : Str := Str.ofString "totitle"
theorem casedI_len (cmd c : Str) (f l : Int) : ∀ n : Nat, n ≤ c.length → (casedI cmd c f l (rangeKs 0 n)).length = n
  | 0, _ => rfl
  | n + 1, h => by
    have e : rangeKs 0 (n + 1) = rangeKs 0 n ++ [(n : Int)] := by simp [rangeKs, List.range_succ]
    rw [e]
    unfold casedI
    rw [List.foldl_append]
    show (_ ++ pieceF cmd c f l n).length = _
    rw [PySem.Str.length_append, piece_len (by omega) (by omega)]
    have := casedI_len cmd c f l n (by omega)
    unfold casedI at this
    rw [this]
theorem cased_len (cmd c : Str) (f l : Int) : (casedF cmd c f l).length = c.length := by
  unfold casedF
  rw [casedI_len _ _ _ _ _ (by omega)]
  omega
noncomputable def lowSign (n : Int) : Str := signF (upF sLow false) ⟨#[n.toNat]⟩
theorem lowSign_len (n : Int) : (lowSign n).length = 1 := signF_len rfl
theorem max0_nn (v : Int) : 0 ≤ max0 v := by unfold max0; split <;> omega
theorem OkT.len {c : Str} (h : OkT c) : c.length ≤ 100 := Nat.le_trans h.1 (by decide)
end

section
-- P2
open PySem PySem.W PyProof.Rows
set_option maxRecDepth 100000
theorem str1 {c : Str} (h : c.length = 1) : c = ⟨#[c.cps.getD 0 0]⟩ := by
  obtain ⟨⟨l⟩⟩ := c
  match l, h with
  | [a], _ => rfl
noncomputable def pieceN (up : Bool) (n : Nat) : Nat := (signF up ⟨#[n]⟩).cps.getD 0 0
theorem signF_1 (up : Bool) (n : Nat) : signF up ⟨#[n]⟩ = ⟨#[pieceN up n]⟩ := str1 (signF_len rfl)
noncomputable def atN (c : Str) (k : Nat) : Nat := c.cps.getD k 0
noncomputable def casedN (cmd c : Str) (f l : Int) (k : Nat) : Nat := if f ≤ (k : Int) ∧ (k : Int) ≤ l then pieceN (upF cmd ((k : Int) == f)) (atN c k) else atN c k
theorem piece_N {cmd c : Str} {f l : Int} {k : Nat} (hk : k < c.length) : pieceF cmd c f l k = ⟨#[casedN cmd c f l k]⟩ := by
  unfold pieceF casedN
  rw [item_at (by omega) (by omega), Int.toNat_natCast]
  split
  · exact signF_1 _ _
  · rfl
theorem casedI_list (cmd c : Str) (f l : Int) : ∀ n : Nat, n ≤ c.length → (casedI cmd c f l (rangeKs 0 n)).cps.toList = (List.range n).map (casedN cmd c f l)
  | 0, _ => rfl
  | n + 1, h => by
    have e : rangeKs 0 (n + 1) = rangeKs 0 n ++ [(n : Int)] := by simp [rangeKs, List.range_succ]
    have ih := casedI_list cmd c f l n (by omega)
    rw [e]
    unfold casedI at ih ⊢
    rw [List.foldl_append, List.range_succ, List.map_append, ← ih]
    show (_ ++ pieceF cmd c f l n).cps.toList = _
    rw [piece_N (by omega), KT.app_list]
    rfl
theorem cased_list (cmd c : Str) (f l : Int) : (casedF cmd c f l).cps.toList = (List.range c.length).map (casedN cmd c f l) := by
  unfold casedF
  rw [casedI_list _ _ _ _ _ (by omega)]
  congr 2
noncomputable def lowNat (n : Nat) : Nat := (lowOne n).cps.getD 0 0
noncomputable def upNat (n : Nat) : Nat := (upOne n).cps.getD 0 0
theorem lowOne_1 (n : Nat) : lowOne n = ⟨#[lowNat n]⟩ := str1 (lowOne_len _)
theorem upOne_1 (n : Nat) : upOne n = ⟨#[upNat n]⟩ := str1 (upOne_len _)
theorem foldI_list : ∀ (l : List Nat) (a : Str), ((l.map fun (n : Nat) => (n : Int)).foldl (fun a n => a ++ lowOne n) a).cps.toList = a.cps.toList ++ l.map lowNat
  | [], a => by simp
  | n :: r, a => by
    rw [List.map_cons, List.foldl_cons, foldI_list r, KT.app_list, lowOne_1]
    simp
theorem foldF_list (c : Str) : (foldF c).cps.toList = c.cps.toList.map lowNat := by
  have := foldI_list c.cps.toList (Str.ofString "")
  exact this.trans (by rw [show (Str.ofString "").cps.toList = [] from rfl, List.nil_append])
theorem sg_low : ∀ n ∈ sg, pieceN false n = lowNat n := by decide +kernel
theorem sg_up : ∀ n ∈ sg, pieceN true n = upNat n := by decide +kernel
theorem sg_fold : ∀ n ∈ sg, lowNat (pieceN true n) = lowNat n ∧ lowNat (pieceN false n) = lowNat n := by decide +kernel
theorem sg_up2 : ∀ n ∈ sg, upNat (pieceN true n) = pieceN true n := by decide +kernel
theorem up_low : upF sLow true = false ∧ upF sLow false = false := by decide +kernel
theorem up_up : upF sUp true = true ∧ upF sUp false = true := by decide +kernel
theorem up_ti : upF sTi true = true ∧ upF sTi false = false := by decide +kernel
theorem strExt {a b : Str} (h : a.cps.toList = b.cps.toList) : a = b := PySem.Str.ext' (Array.toList_inj.mp h)
theorem list_at (c : Str) : c.cps.toList = (List.range c.length).map (atN c) := by
  apply List.ext_getElem
  · simp [PySem.Str.length]
  · intro i h1 h2
    have h3 : i < c.cps.size := by simpa using h1
    simp [atN, Array.getD_eq_getD_getElem?, Array.getElem?_eq_getElem h3]
theorem at_sg {c : Str} (h : OkT c) {k : Nat} (hk : k < c.length) : atN c k ∈ sg := by
  apply h.2
  rw [list_at c]
  exact List.mem_map.mpr ⟨k, List.mem_range.mpr hk, rfl⟩
theorem fold_cased {c : Str} (h : OkT c) (cmd : Str) (f l : Int) : foldF (casedF cmd c f l) = foldF c := by
  apply strExt
  rw [foldF_list, foldF_list, cased_list, list_at c, List.map_map, List.map_map]
  refine List.map_congr_left fun k hk => ?_
  have hs := sg_fold _ (at_sg h (List.mem_range.mp hk))
  show lowNat (casedN cmd c f l k) = lowNat (atN c k)
  unfold casedN
  split
  · cases upF cmd ((k : Int) == f)
    · exact hs.2
    · exact hs.1
  · rfl
theorem join_ones (l : List Nat) : (Txt.join (Str.ofString "") (l.map fun n => (⟨#[n]⟩ : Str))).cps.toList = l := by
  show (Builtin.Str.glued (Str.ofString "") _).cps.toList = l
  rw [StrLaws.glued_eq_join]
  induction l with
  | nil => rfl
  | cons a r ih =>
    cases r with
    | nil => rfl
    | cons b r =>
      show ((⟨#[a]⟩ : Str) ++ Str.ofString "" ++ PySem.Str.join (Str.ofString "") ((b :: r).map fun n => (⟨#[n]⟩ : Str))).cps.toList = _
      rw [KT.app_list, ih, KT.app_list]
      rfl
theorem fold_join {c : Str} (h : OkT c) : (foldF c == Txt.join (Str.ofString "") ((KStt.codes c).map lowSign)) = true := by
  have e : (KStt.codes c).map lowSign = (c.cps.toList.map lowNat).map fun n => (⟨#[n]⟩ : Str) := by
    unfold KStt.codes
    rw [List.map_map, List.map_map]
    refine List.map_congr_left fun n hn => ?_
    show signF (upF sLow false) ⟨#[n]⟩ = _
    rw [up_low.2, signF_1, sg_low n (h.2 n hn)]
    rfl
  rw [e, beq_iff_eq]
  apply strExt
  rw [join_ones, foldF_list]
end

section
-- P3
open PySem PySem.W PyProof.Rows
theorem three (xs : List Nat) (g : Nat → Nat) {a b : Nat} (h1 : a ≤ b) (h2 : b ≤ xs.length) : xs.take a ++ ((xs.drop a).take (b - a)).map g ++ xs.drop b = (List.range xs.length).map fun k => if a ≤ k ∧ k < b then g (xs.getD k 0) else xs.getD k 0 := by
  have la : (xs.take a).length = a := List.length_take_of_le (Nat.le_trans h1 h2)
  have lb : (((xs.drop a).take (b - a)).map g).length = b - a := (List.length_map ..).trans (List.length_take_of_le (by rw [List.length_drop]; exact Nat.sub_le_sub_right h2 a))
  have lab : (xs.take a ++ ((xs.drop a).take (b - a)).map g).length = b := by rw [List.length_append, la, lb]; exact Nat.add_sub_cancel' h1
  apply List.ext_getElem
  · rw [List.length_append, lab, List.length_drop, List.length_map, List.length_range]; exact Nat.add_sub_cancel' h2
  · intro i h3 h4
    have hi : i < xs.length := by simpa using h4
    have e : xs.getD i 0 = xs[i] := by simp [List.getD_eq_getElem?_getD, List.getElem?_eq_getElem hi]
    rw [List.getElem_map, List.getElem_range, e]
    by_cases c2 : i < b
    · rw [List.getElem_append_left (lab.symm ▸ c2)]
      by_cases c1 : i < a
      · rw [if_neg (fun q => Nat.not_lt.mpr q.1 c1), List.getElem_append_left (la.symm ▸ c1), List.getElem_take]
      · have c1 := Nat.not_lt.mp c1
        rw [if_pos ⟨c1, c2⟩, List.getElem_append_right (la.symm ▸ c1), List.getElem_map, List.getElem_take, List.getElem_drop]
        congr 2
        rw [la]; exact Nat.add_sub_cancel' c1
    · have c2 := Nat.not_lt.mp c2
      rw [if_neg (fun q => Nat.not_lt.mpr c2 q.2), List.getElem_append_right (lab.symm ▸ c2), List.getElem_drop]
      congr 1
      rw [lab]; exact Nat.add_sub_cancel' c2
theorem sl_to {c : Str} {j : Int} (h0 : 0 ≤ j) (h1 : j ≤ c.length) : (Txt.slice c none (some j)).cps.toList = c.cps.toList.take j.toNat := by
  have := beq_iff_eq.mp (slice_closes_to (x := c) (j := j) ⟨h0, by simpa [PySem.Str.length] using h1⟩)
  rw [this]; simp
theorem sl_mid {c : Str} {i j : Int} (h0 : 0 ≤ i) (h1 : i ≤ j) (h2 : j ≤ c.length) : (Txt.slice c (some i) (some j)).cps.toList = (c.cps.toList.drop i.toNat).take (j.toNat - i.toNat) := by
  have := beq_iff_eq.mp (slice_closes (x := c) (i := i) (j := j) ⟨h0, h1, by simpa [PySem.Str.length] using h2⟩)
  rw [this]
  simp
  congr 1
  omega
theorem sl_from {c : Str} {i : Int} (h0 : 0 ≤ i) (h2 : i ≤ c.length) : (Txt.slice c (some i) none).cps.toList = c.cps.toList.drop i.toNat := by
  rw [slice_from_eq h0 h2 rfl]
  show (_ : List Nat) = _
  rw [List.toList_toArray] <;> (apply List.take_of_length_le; simp [PySem.Str.length]; omega)
theorem cut_ok {n f l : Int} (hf : 0 ≤ f) (hn : 0 ≤ n) : 0 ≤ cutA n f l ∧ cutA n f l ≤ cutB n f l + 1 ∧ cutB n f l + 1 ≤ n ∧ ∀ k : Int, 0 ≤ k → k < n → ((cutA n f l ≤ k ∧ k < cutB n f l + 1) ↔ (f ≤ k ∧ k ≤ l)) := by
  unfold cutA cutB
  rw [if_neg (show ¬ f < 0 by omega)]
  refine ⟨?_, ?_, ?_, fun k h0 h1 => ?_⟩
  all_goals (repeat' split)
  all_goals omega
theorem cut_n {n : Nat} {f l : Int} (hf : 0 ≤ f) : ∃ a b : Nat, cutA n f l = a ∧ cutB n f l + 1 = b ∧ a ≤ b ∧ b ≤ n ∧ ∀ k : Nat, k < n → ((a ≤ k ∧ k < b) ↔ (f ≤ (k : Int) ∧ (k : Int) ≤ l)) := by
  obtain ⟨h0, h1, h2, hk⟩ := cut_ok (l := l) hf (Int.natCast_nonneg n)
  obtain ⟨a, ea⟩ := Int.eq_ofNat_of_zero_le h0
  obtain ⟨b, eb⟩ := Int.eq_ofNat_of_zero_le (Int.le_trans h0 h1)
  refine ⟨a, b, ea, eb, Int.ofNat_le.mp (ea ▸ eb ▸ h1), Int.ofNat_le.mp (eb ▸ h2), fun k hk' => ?_⟩
  have := hk k (Int.natCast_nonneg k) (Int.ofNat_lt.mpr hk')
  rw [ea, eb, Int.ofNat_le, Int.ofNat_lt] at this
  exact this
theorem lower_list {c : Str} {f l : Int} (hf : 0 ≤ f) : (lowerF c f l).cps.toList = (List.range c.length).map fun (k : Nat) => if f ≤ (k : Int) ∧ (k : Int) ≤ l then lowNat (atN c k) else atN c k := by
  obtain ⟨a, b, ea, eb, h1, h2, hk⟩ := cut_n (n := c.length) (l := l) hf
  have hlen : c.cps.toList.length = c.length := by simp [PySem.Str.length]
  unfold lowerF
  rw [ea, eb, KT.app_list, KT.app_list, foldF_list, sl_to (Int.natCast_nonneg a) (Int.ofNat_le.mpr (Nat.le_trans h1 h2)), sl_mid (Int.natCast_nonneg a) (Int.ofNat_le.mpr h1) (Int.ofNat_le.mpr h2), sl_from (Int.natCast_nonneg b) (Int.ofNat_le.mpr h2), Int.toNat_natCast, Int.toNat_natCast, three _ _ h1 (hlen ▸ h2), hlen]
  refine List.map_congr_left fun k hk' => ?_
  have hk2 := hk k (List.mem_range.mp hk')
  have e : c.cps.toList.getD k 0 = atN c k := by simp [atN, Array.getD_eq_getD_getElem?]
  rw [e]
  by_cases q : f ≤ (k : Int) ∧ (k : Int) ≤ l
  · rw [if_pos q, if_pos (hk2.mpr q)]
  · rw [if_neg q, if_neg (fun z => q (hk2.mp z))]
theorem low_cased {c : Str} (h : OkT c) {f l : Int} (hf : 0 ≤ f) : lowerF c f l = casedF sLow c f l := by
  apply strExt
  rw [lower_list hf, cased_list]
  refine List.map_congr_left fun k hk => ?_
  unfold casedN
  split
  · rw [show upF sLow ((k : Int) == f) = false from by
      cases ((k : Int) == f)
      · exact up_low.2
      · exact up_low.1]
    rw [sg_low _ (at_sg h (List.mem_range.mp hk))]
  · rfl
theorem at_cased (cmd c : Str) (f l : Int) {k : Nat} (hk : k < c.length) : atN (casedF cmd c f l) k = casedN cmd c f l k := by
  have h1 : (casedF cmd c f l).cps.toList.getD k 0 = atN (casedF cmd c f l) k := by simp [atN, Array.getD_eq_getD_getElem?]
  rw [← h1, cased_list]
  simp [List.getD_eq_getElem?_getD, hk]
theorem upL {b : Bool} : upF sLow b = false := by cases b; exact up_low.2; exact up_low.1
theorem upU {b : Bool} : upF sUp b = true := by cases b; exact up_up.2; exact up_up.1
theorem low_again {c : Str} (h : OkT c) {f l : Int} (hf : 0 ≤ f) : lowerF (casedF sLow c f l) f l = casedF sLow c f l := by
  apply strExt
  rw [lower_list hf, cased_list, cased_len]
  refine List.map_congr_left fun k hk => ?_
  have hk := List.mem_range.mp hk
  have hs := at_sg h hk
  rw [at_cased _ _ _ _ hk]
  unfold casedN
  split
  · rw [upL, (sg_fold _ hs).2, sg_low _ hs]
  · rfl
theorem upper_list {c : Str} {f l : Int} (hf : 0 ≤ f) : (upperF c f l).cps.toList = (List.range c.length).map fun (k : Nat) => if f ≤ (k : Int) ∧ (k : Int) ≤ l then upNat (atN c k) else atN c k := by
  obtain ⟨a, b, ea, eb, h1, h2, hk⟩ := cut_n (n := c.length) (l := l) hf
  have hlen : c.cps.toList.length = c.length := by simp [PySem.Str.length]
  have hj : ∀ x : Str, (Txt.join (Str.ofString "") ((KStt.codes x).map upOne)).cps.toList = x.cps.toList.map upNat := fun x => by
    have e : (KStt.codes x).map upOne = (x.cps.toList.map upNat).map fun n => (⟨#[n]⟩ : Str) := by
      unfold KStt.codes
      rw [List.map_map, List.map_map]
      exact List.map_congr_left fun n _ => upOne_1 n
    rw [e, join_ones]
  unfold upperF
  rw [ea, eb, KT.app_list, KT.app_list, hj, sl_to (Int.natCast_nonneg a) (Int.ofNat_le.mpr (Nat.le_trans h1 h2)), sl_mid (Int.natCast_nonneg a) (Int.ofNat_le.mpr h1) (Int.ofNat_le.mpr h2), sl_from (Int.natCast_nonneg b) (Int.ofNat_le.mpr h2), Int.toNat_natCast, Int.toNat_natCast, three _ _ h1 (hlen ▸ h2), hlen]
  refine List.map_congr_left fun k hk' => ?_
  have hk2 := hk k (List.mem_range.mp hk')
  have e : c.cps.toList.getD k 0 = atN c k := by simp [atN, Array.getD_eq_getD_getElem?]
  rw [e]
  by_cases q : f ≤ (k : Int) ∧ (k : Int) ≤ l
  · rw [if_pos q, if_pos (hk2.mpr q)]
  · rw [if_neg q, if_neg (fun z => q (hk2.mp z))]
theorem up_cased {c : Str} (h : OkT c) {f l : Int} (hf : 0 ≤ f) : upperF c f l = casedF sUp c f l := by
  apply strExt
  rw [upper_list hf, cased_list]
  refine List.map_congr_left fun k hk => ?_
  unfold casedN
  split
  · rw [upU, sg_up _ (at_sg h (List.mem_range.mp hk))]
  · rfl
theorem up_again {c : Str} (h : OkT c) {f l : Int} (hf : 0 ≤ f) : upperF (casedF sUp c f l) f l = casedF sUp c f l := by
  apply strExt
  rw [upper_list hf, cased_list, cased_len]
  refine List.map_congr_left fun k hk => ?_
  have hk := List.mem_range.mp hk
  have hs := at_sg h hk
  rw [at_cased _ _ _ _ hk]
  unfold casedN
  split
  · rw [upU, sg_up2 _ hs]
  · rfl
theorem four (xs : List Nat) (u : Nat) (g : Nat → Nat) {a b : Nat} (h1 : a < b) (h2 : b ≤ xs.length) : xs.take a ++ [u] ++ ((xs.drop (a + 1)).take (b - (a + 1))).map g ++ xs.drop b = (List.range xs.length).map fun k => if k = a then u else if a < k ∧ k < b then g (xs.getD k 0) else xs.getD k 0 := by
  have e := three (xs.set a u) g (a := a + 1) (b := b) (by omega) (by simpa using h2)
  have e1 : (xs.set a u).take (a + 1) = xs.take a ++ [u] := by
    rw [List.take_succ_eq_append_getElem (by rw [List.length_set]; omega), List.take_set_of_le (Nat.le_refl a), List.getElem_set_self]
  have e2 : (xs.set a u).drop (a + 1) = xs.drop (a + 1) := List.drop_set_of_lt (by omega)
  have e3 : (xs.set a u).drop b = xs.drop b := List.drop_set_of_lt (by omega)
  rw [e1, e2, e3, List.length_set] at e
  rw [e]
  refine List.map_congr_left fun k hk => ?_
  have hk := List.mem_range.mp hk
  have e4 : (xs.set a u).getD k 0 = if k = a then u else xs.getD k 0 := by
    rw [List.getD_eq_getElem?_getD, List.getElem?_set]
    by_cases q : a = k
    · subst q; simp [hk]
    · rw [if_neg q, if_neg (Ne.symm q), List.getD_eq_getElem?_getD]
  rw [e4]
  by_cases q : k = a
  · rw [if_pos q, if_pos q, if_neg (by omega)]
  · rw [if_neg q, if_neg q]
    by_cases q2 : a < k ∧ k < b
    · rw [if_pos q2, if_pos (by omega)]
    · rw [if_neg q2, if_neg (by omega)]
theorem upT {b : Bool} : upF sTi b = b := by cases b; exact up_ti.2; exact up_ti.1
theorem cut_ti {n f l : Int} (hf : 0 ≤ f) (hn : 0 ≤ n) : (cutB n f l < cutA n f l ∧ ∀ k : Int, 0 ≤ k → k < n → ¬ (f ≤ k ∧ k ≤ l)) ∨ (¬ cutB n f l < cutA n f l ∧ cutA n f l = f ∧ cutB n f l < n ∧ ∀ k : Int, 0 ≤ k → k < n → ((f ≤ k ∧ k < cutB n f l + 1) ↔ (f ≤ k ∧ k ≤ l))) := by
  unfold cutA cutB
  rw [if_neg (show ¬ f < 0 by omega)]
  by_cases q : (if n ≤ l then n - 1 else l) < f
  · left
    rw [if_pos q, if_pos q]
    refine ⟨by omega, fun k h0 h1 z => ?_⟩
    split at q <;> omega
  · right
    rw [if_neg q, if_neg q]
    refine ⟨q, rfl, by split <;> omega, fun k h0 h1 => ?_⟩
    split <;> omega
theorem ti_cased {c : Str} (h : OkT c) {f l : Int} (hf : 0 ≤ f) : titleF c f l = casedF sTi c f l := by
  apply strExt
  rw [cased_list]
  have hlen : c.cps.toList.length = c.length := by simp [PySem.Str.length]
  have ge : ∀ k, c.cps.toList.getD k 0 = atN c k := fun k => by simp [atN, Array.getD_eq_getD_getElem?]
  unfold titleF
  rcases cut_ti (l := l) hf (show (0 : Int) ≤ c.length by omega) with ⟨q, hk⟩ | ⟨q, hA, hB, hk⟩
  · rw [if_pos q, list_at c]
    refine List.map_congr_left fun k hk' => ?_
    have hk' := List.mem_range.mp hk'
    unfold casedN
    rw [if_neg (hk k (by omega) (by omega))]
  · rw [if_neg q, hA]
    obtain ⟨a, rfl⟩ := Int.eq_ofNat_of_zero_le hf
    have hAB : (a : Int) ≤ cutB c.length a l := by rw [hA] at q; exact Int.not_lt.mp q
    obtain ⟨b, eb⟩ := Int.eq_ofNat_of_zero_le (Int.le_trans hf hAB)
    rw [eb] at hAB hB hk ⊢
    have ab : a ≤ b := Int.ofNat_le.mp hAB
    have bn : b + 1 ≤ c.length := Int.ofNat_lt.mp hB
    have e1 : ((a : Int) + 1) = ((a + 1 : Nat) : Int) := rfl
    have e2 : ((b : Int) + 1) = ((b + 1 : Nat) : Int) := rfl
    have hu : oneUpperF (Txt.item c a) = ⟨#[upNat (atN c a)]⟩ := by
      rw [item_at hf (Int.ofNat_lt.mpr (Nat.lt_of_lt_of_le (Nat.lt_succ_of_le ab) bn)), Int.toNat_natCast]
      exact upOne_1 _
    rw [e1, e2, KT.app_list, KT.app_list, KT.app_list, foldF_list, hu, sl_to hf (Int.ofNat_le.mpr (Nat.le_trans (Nat.le_succ_of_le ab) bn)), sl_mid (Int.natCast_nonneg _) (Int.ofNat_le.mpr (Nat.succ_le_succ ab)) (Int.ofNat_le.mpr bn), sl_from (Int.natCast_nonneg _) (Int.ofNat_le.mpr bn), Int.toNat_natCast, Int.toNat_natCast, Int.toNat_natCast]
    show c.cps.toList.take a ++ [upNat (atN c a)] ++ _ ++ _ = _
    rw [four _ _ _ (Nat.lt_succ_of_le ab) (hlen ▸ bn), hlen]
    refine List.map_congr_left fun k hk' => ?_
    have hk' := List.mem_range.mp hk'
    have hs := at_sg h hk'
    have hk2 := hk k (Int.natCast_nonneg k) (Int.ofNat_lt.mpr hk')
    rw [e2, Int.ofNat_le, Int.ofNat_lt] at hk2
    rw [ge]
    unfold casedN
    rw [upT]
    by_cases q1 : k = a
    · have q2 := hk2.mp ⟨Nat.le_of_eq q1.symm, q1 ▸ Nat.lt_succ_of_le ab⟩
      rw [if_pos q1, if_pos ⟨Int.ofNat_le.mpr q2.1, q2.2⟩]
      have : ((k : Int) == (a : Int)) = true := by rw [beq_iff_eq, q1]
      rw [this, sg_up _ hs, q1]
    · rw [if_neg q1]
      have : ((k : Int) == (a : Int)) = false := by rw [beq_eq_false_iff_ne]; exact fun z => q1 (Int.ofNat_inj.mp z)
      rw [this]
      by_cases q2 : (a : Int) ≤ (k : Int) ∧ (k : Int) ≤ l
      · have z := hk2.mpr ⟨Int.ofNat_le.mp q2.1, q2.2⟩
        rw [if_pos q2, if_pos ⟨Nat.lt_of_le_of_ne z.1 (Ne.symm q1), z.2⟩, sg_low _ hs]
      · rw [if_neg q2, if_neg (fun z => q2 (by have y := hk2.mp ⟨Nat.le_of_lt z.1, z.2⟩; exact ⟨Int.ofNat_le.mpr y.1, y.2⟩))]
end

section
-- EQ
open PySem PySem.W PyProof.Rows PySem.SeqAt
open PySem.Challenge
noncomputable def EqL (A : Around) (s : Shared) (xs ys : List Value) : Prop := xs.length = ys.length ∧ ∀ (j : Nat) (x y : Value), xs[j]? = some x → ys[j]? = some y → EqAt A s x y true
theorem EqL.nil {A s} : EqL A s [] [] := ⟨rfl, fun _ _ _ h => nomatch h⟩
theorem EqL.cons {A s} {x y : Value} {xs ys : List Value} (h : EqAt A s x y true) (r : EqL A s xs ys) : EqL A s (x :: xs) (y :: ys) := ⟨congrArg (· + 1) r.1, fun j _ _ h1 h2 => match j with
  | 0 => by cases h1; cases h2; exact h
  | j + 1 => r.2 j _ _ h1 h2⟩
theorem EqL.len {A s xs ys} (h : EqL A s xs ys) : xs.length = ys.length := h.1
theorem EqL.at {A s xs ys} (h : EqL A s xs ys) (j : Nat) (h1 : j < xs.length) (h2 : j < ys.length) : EqAt A s xs[j] ys[j] true := h.2 j _ _ (List.getElem?_eq_getElem h1) (List.getElem?_eq_getElem h2)
theorem eqStr {A s} {x : Str} {t u : Tok} : EqAt A s (.str x t) (.str x u) true := by
  have := (eqGives_str x x t u).at A s
  rwa [beq_self_eq_true] at this
theorem eqInt {A s} {x : Int} {t u : Tok} : EqAt A s (.int x t) (.int x u) true := by
  have := (PySem.MeetsSeq.EqGives.int x x t u).at A s
  rwa [beq_self_eq_true] at this
section
variable {prog : Program} {w : World} {A : Around} {E : Value → Shared → Prop} {s : Shared} {D D' : Addr} {xs ys : List Value} {Q : Value → Shared → Prop}
theorem neOf {news : List (Addr × Obj)} {a b : Addr} {o : Obj} (h : ∀ p ∈ news, p.1 ≠ b) (hm : (a, o) ∈ news) : b ≠ a := fun e => h _ hm e.symm
theorem allT (l : List Nat) : (l.all fun _ => true) = true := by induction l <;> simp_all
theorem rc_same (hl : IsTup s.heap D xs.toArray) (hb : IsTup s.heap D' ys.toArray) (hu : A.units < cLine) (h : EqL A.in1 s xs ys) : RcAt A s (.ref D) (.ref D') true := by
  have := RcAt.tuples (A := A) (e := fun _ => true) hl hb hu (fun j h1 h2 => h.at j (by simpa using h1) (by simpa using h2))
  simpa [h.len, allT] using this
theorem ne_same (hl : IsTup s.heap D xs.toArray) (hb : IsTup s.heap D' ys.toArray) (hu : A.units < cLine) (h : EqL A.in1 s xs ys) (hq : Q (.bool false) s) : wpAny (model prog w) A (compareOp .NotEq (.ref D) (.ref D')) Q E s := by
  have := RcNeAt.tuples (A := A) (e := fun _ => true) hl hb hu (fun j h1 h2 => h.at j (by simpa using h1) (by simpa using h2))
  have : RcNeAt A s (.ref D) (.ref D') false := by simpa [h.len, allT] using this
  exact this prog w E Q hq
theorem eq_same (hl : IsTup s.heap D xs.toArray) (hb : IsTup s.heap D' ys.toArray) (hu : A.units < cLine) (h : EqL A.in1 s xs ys) (hq : Q (.bool true) s) : wpAny (model prog w) A (compareOp .Eq (.ref D) (.ref D')) Q E s :=
  rc_same hl hb hu h prog w E Q hq
theorem ne_nil (hl : IsTup s.heap D xs.toArray) (hb : IsTup s.heap D' (#[] : Array Value)) (hn : xs ≠ []) (hu : A.units < cLine) (hq : Q (.bool true) s) : wpAny (model prog w) A (compareOp .NotEq (.ref D) (.ref D')) Q E s := by
  have := RcNeAt.tuples (A := A) (e := fun _ => true) hl hb hu (fun j h1 h2 => by simp at h2)
  have : RcNeAt A s (.ref D) (.ref D') true := by
    have e : (xs.length == 0) = false := by simpa using hn
    simpa [e] using this
  exact this prog w E Q hq
theorem nn_nil (hl : IsTup s.heap D (#[] : Array Value)) (hb : IsTup s.heap D' (#[] : Array Value)) (hu : A.units < cLine) (hq : Q (.bool false) s) : wpAny (model prog w) A (compareOp .NotEq (.ref D) (.ref D')) Q E s :=
  ne_same (xs := []) (ys := []) hl hb hu EqL.nil hq
theorem eqStrs {tv tw : List Value} {ecs : List Str} (h : StrsAre tv ecs) (h' : StrsAre tw ecs) : EqL A s tv tw := ⟨h.len_eq.trans h'.len_eq.symm, fun j x y e e' => by
  obtain ⟨z, t, rfl, q⟩ := StrsAre.item h j x e
  obtain ⟨z', t', rfl, q'⟩ := StrsAre.item h' j y e'
  cases q.symm.trans q'
  exact eqStr⟩
theorem ne_gave {x : Str} {t t' u u' : Tok} (hl : IsTup s.heap D #[.str (Str.ofString "gave") t, .str x t']) (hb : IsTup s.heap D' #[.str (Str.ofString "gave") u, .str x u']) (hu : A.units < cLine) (hq : Q (.bool false) s) :
    wpAny (model prog w) A (compareOp .NotEq (.ref D) (.ref D')) Q E s := ne_same (xs := [_, _]) (ys := [_, _]) hl hb hu (.cons eqStr (.cons eqStr .nil)) hq
theorem eq_gave {x : Str} {t t' u u' : Tok} (hl : IsTup s.heap D #[.str (Str.ofString "gave") t, .str x t']) (hb : IsTup s.heap D' #[.str (Str.ofString "gave") u, .str x u']) (hu : A.units < cLine) (hq : Q (.bool true) s) :
    wpAny (model prog w) A (compareOp .Eq (.ref D) (.ref D')) Q E s := eq_same (xs := [_, _]) (ys := [_, _]) hl hb hu (.cons eqStr (.cons eqStr .nil)) hq
theorem ne_fault {x : Str} {t1 t2 t3 u1 u2 u3 : Tok} {ec ec' : Addr} {tv tw : List Value} {ecs : List Str} (hl : IsTup s.heap D #[.str (Str.ofString "raised") t1, .int 1 t2, .str x t3, .ref ec]) (hb : IsTup s.heap D' #[.str (Str.ofString "raised") u1, .int 1 u2, .str x u3, .ref ec'])
    (he : IsTup s.heap ec tv.toArray) (he' : IsTup s.heap ec' tw.toArray) (hS : StrsAre tv ecs) (hS' : StrsAre tw ecs) (hu : A.units + 2 < cLine) (hne : ec ≠ ec') (hq : Q (.bool false) s) :
    wpAny (model prog w) A (compareOp .NotEq (.ref D) (.ref D')) Q E s :=
  ne_same (xs := [_, _, _, _]) (ys := [_, _, _, _]) hl hb (by omega) (.cons eqStr (.cons eqInt (.cons eqStr (.cons (EqAt.of_refs hne (rc_same he he' (by show A.units + 1 < cLine; omega) (eqStrs hS hS'))) .nil)))) hq
end
theorem endB {w : World} {mean mg mb} {A₀ : Around} {base h₀ kg g₀ g gX h' : Heap} {L L' a U ec : Addr} {outer : List Env} {cn : Str} {cs : Scope} {ccd : Value} {m m' : Str → Option Value} {news new : List (Addr × Obj)} {msg : Str} {ecs : List Str} {s : Shared} {Q : Value → Shared → Prop} {t1 t2 t3 : Tok} {tv : List Value} {n' tk : Nat}
    (hret : ∀ h₀', KtsTurn (frs outer) g₀ h₀' → Below A₀ base outer h₀' → (hd.heap_1 w.params).In h₀' → Top view LS mean mg mb h₀' → KtsDicts (frs outer) h₀' → RetB news msg ecs h₀' L m s Q)
    (B : Below A₀ base outer h₀) (N : News h₀ L s.heap news) (HG : ∀ b o, s.heap.get? b = some o → b ∉ ([] : List (Addr × Obj)).map (·.1) → g.get? b = some o) (T0 : KtsTurn (frs outer) g₀ h₀) (TT : KtsTurn (frs (envOf cn cs L a ccd :: outer)) g gX) (F' : Fr gX L' h' m') (N' : News gX L' h' new)
    (kT : KtsTurn (frs outer) g₀ kg) (kB : Below A₀ base outer kg) (kX : (hd.heap_1 w.params).In kg) (kP : Top view LS mean mg mb kg) (kD : KtsDicts (frs outer) kg) (kF : Fr kg L h' m) (kN : News kg L h' new)
    (hU : (U, tupO [.str (Str.ofString "raised") t1, .int 1 t2, .str msg t3, .ref ec]) ∈ new) (hE : (ec, ({ cls := .type "tuple", data := .seq tv.toArray n' } : Obj)) ∈ new) (S : StrsAre tv ecs) (hne : ec ≠ U) : Q (.ref U) { s with heap := h', toks := tk } := by
  have kK := newsKeepT B N News.nil HG T0 TT F' kT News.nil
  exact hret kg kT kB kX kP kD _ _ _ _ _ _ _ _ _ kF (fun q hq => by
      rcases List.mem_cons.mp hq with rfl | hq
      · exact kN _ hU
      rcases List.mem_cons.mp hq with rfl | hq
      · exact kN _ hE
      exact kK q hq) S (neNewT B N News.nil HG TT N' hU (fun _ h => nomatch h)) (neNewT B N News.nil HG TT N' hE (fun _ h => nomatch h)) hne
end

section
-- M3
open PySem PySem.W PyProof.Rows
theorem kwn_M3 : True := by
  k_with_none
  w_top off
  trivial
theorem kwo_M3 : True := by
  k_with "m:omega" => first | with_reducible assumption | decide | with_reducible exact Int.le_refl _ | with_reducible exact Nat.le_refl _ | with_reducible exact rm_u2 | with_reducible exact rm_d2 | with_reducible exact rm_u1 | with_reducible exact rm_d1 | with_reducible exact rm_u0 | with_reducible exact rm_d0 | with_reducible exact n_up | with_reducible exact q_o | with_reducible exact q_c1 | with_reducible exact q_c2 | with_reducible exact q_c3 | with_reducible exact q_c4 | with_reducible exact q_n1 | with_reducible exact q_n2 | with_reducible exact q_n3 | with_reducible exact q_l1 | with_reducible exact q_l2 | with_reducible exact q_t1 | with_reducible exact q_t2 | with_reducible exact q_t3 | with_reducible exact q_t4 | with_reducible exact q_t5 | ((with_reducible show _ ≠ _); first | k_extra "P" | (refine Ne.symm ?_; k_extra "P") | (refine Nat.ne_of_lt ?_; k_extra "P") | (refine Nat.ne_of_gt ?_; k_extra "P"))
  k_with "P" => first | with_reducible assumption | with_reducible exact And.left (by with_reducible assumption) | with_reducible exact And.right (by with_reducible assumption) | with_reducible exact q_r (by with_reducible assumption) | with_reducible exact q_s (by with_reducible assumption) | with_reducible exact q_t (by with_reducible assumption) | with_reducible exact q_u (by with_reducible assumption)
  k_with "D" => ((try simp +zetaDelta only [depth_in1, depth_deeper]); (try dsimp only [ktrTop]); omega)
  k_with "U" => ((try simp +zetaDelta only [units_in1, units_deeper, Around.mark_units]); (try dsimp only [ktrTop]); omega)
  k_with "K5" => ((case k1 => k_asm); (case k2 => k_asm); (case k3 => k_asm); (case k4 => k_asm); (case k5 => k_asm))
  k_with "S" => first | with_reducible assumption | exact .inl rfl | exact .inr (.inl rfl) | exact .inr (.inr rfl) | exact .inr rfl | omega | k_mem | fail | (simp only [PySem.Str.length_append, KOpn.len_one]; omega) | assumption
  k_with "m:eval Call" => (k_here; k_dflt (first | ((with_reducible show wpAny _ _ (eval (.Call (.Name (Str.ofString "len") _) [.Name _ _] [] _) _) _ _ _); refine len_nm (q := ?_)) | ((with_reducible show wpAny _ _ (eval (.Call (.Name (Str.ofString "len") _) [_] [] _) _) _ _ _); refine callLen (h := ?_)) | ((with_reducible show wpAny _ _ (eval (.Call (.Name (Str.ofString "str") _) [_] [] _) _) _ _ _); refine callStr (h := ?_)) | ((with_reducible show wpAny _ _ (eval (.Call (.Name _ _) [_] [] _) _) _ _ _); refine callK1 (h := ?_)) | ((with_reducible show wpAny _ _ (eval (.Call (.Name _ _) [_, _] [] _) _) _ _ _); refine callK2 (h := ?_)) | ((with_reducible show wpAny _ _ (eval (.Call (.Name _ _) [_, _, _] [] _) _) _ _ _); refine callK3 (h := ?_))); k_whole)
  k_with "m:eval Constant int" => (k_here; k_dflt (refine cInt ?_); k_whole)
  k_with "m:eval Constant str" => (k_here; k_dflt (refine cStr ?_); k_whole)
  k_with "m:storeName" => (k_here; k_dflt (refine storeS (q := ?_)); k_whole; intro h' F' N'; (try k_sweep))
  k_with "m:binaryOp Add int int" => (k_here; k_dflt (refine addS ?_); k_whole)
  k_with "m:binaryOp Sub int int" => (k_here; k_dflt (refine subS ?_); k_whole)
  k_with "m:call builtin:len" => (k_here; (with_reducible show wpAny _ _ (call _ [.str _ _]) _ _ _); k_dflt (refine lenS (q := ?_)); k_whole)
  k_with "m:newList" => (k_here; k_dflt (refine lstS (q := ?_) (by first | exact Nat.le_of_ble_eq_true rfl | size_fits)); k_whole; intro l' h' F' N' l1; (try k_lt l1); (try k_sweep))
  k_with "m:execs cons" => (k_here; k_dflt (first | ((with_reducible show wpAny _ _ (execs (.Assign [.Name _ _] _ _ :: _) _) _ _ _); refine sAsg ?_ (Eq.refl true)) | ((with_reducible show wpAny _ _ (execs (.Return (some _) _ :: _) _) _ _ _); refine sRet ?_) | ((with_reducible show wpAny _ _ (execs (.If _ [.Return (some _) _] [] _ :: _) _) _ _ _); refine sIfR ?_) | ((with_reducible show wpAny _ _ (execs (.If _ _ [] _ :: _) _) _ _ _); refine sIf1 ?_)); k_whole)
  k_with "m:eval Tuple" => (k_here; first | ((with_reducible show wpAny _ _ (eval (.Tuple [.Constant (.str _) _ _, .Constant (.str _) _ _] _ _) _) _ _ _); k_dflt (refine tupSS (q := ?_)); k_whole; intro D' h' F' N' l1; (try k_lt l1)) | ((with_reducible show wpAny _ _ (eval (.Tuple [_, _] _ _) _) _ _ _); k_dflt (refine tup2 ?_ (Eq.refl true) (Eq.refl true)); k_whole))
  k_with "m:eval List" => (k_here; k_dflt (first | ((with_reducible show wpAny _ _ (eval (.List [_] _) _) _ _ _); refine lst1 ?_ (Eq.refl true)) | ((with_reducible show wpAny _ _ (eval (.List [_, _] _) _) _ _ _); refine lst2 ?_ (Eq.refl true) (Eq.refl true)) | ((with_reducible show wpAny _ _ (eval (.List [_, _, _] _) _) _ _ _); refine lst3 ?_ (Eq.refl true) (Eq.refl true) (Eq.refl true)) | ((with_reducible show wpAny _ _ (eval (.List [_, _, _, _] _) _) _ _ _); refine lst4 ?_ (Eq.refl true) (Eq.refl true) (Eq.refl true) (Eq.refl true))); k_whole)
  k_with "m:eval BinOp" => (k_here; k_dflt (first | ((with_reducible show wpAny _ _ (eval (.BinOp (.Name _ _) _ (.Name _ _) _) _) _ _ _); refine bNN (q := ?_)) | ((with_reducible show wpAny _ _ (eval (.BinOp (.Name _ _) _ (.Constant (.int _) _ _) _) _) _ _ _); refine bNC (q := ?_)) | ((with_reducible show wpAny _ _ (eval (.BinOp (.Name _ _) _ _ _) _) _ _ _); refine bN (q := ?_))); k_whole)
  k_with "m:isTrue Compare" => (k_here; k_dflt (first | ((with_reducible show wpAny _ _ (isTrue (.Compare (.Name _ _) [_] [(.Name _ _)] _) _ _) _ _ _); refine cNN (q := ?_)) | ((with_reducible show wpAny _ _ (isTrue (.Compare (.Name _ _) [_] [(.Constant (.int _) _ _)] _) _ _) _ _ _); refine cNC (q := ?_)) | ((with_reducible show wpAny _ _ (isTrue (.Compare (.Name _ _) [_] [_] _) _ _) _ _ _); refine cN (q := ?_))); k_whole)
  k_with "m:eval Subscript" => (k_here; k_dflt (first | ((with_reducible show wpAny _ _ (eval (.Subscript (.Name _ _) (.Name _ _) _) _) _ _ _); refine gNN (q := ?_)) | ((with_reducible show wpAny _ _ (eval (.Subscript (.Name _ _) (.Constant (.int _) _ _) _) _) _ _ _); refine gNC (q := ?_)) | ((with_reducible show wpAny _ _ (eval (.Subscript (.Name _ _) _ _) _) _ _ _); refine gN (q := ?_))); k_whole)
  trivial
open PySem.Challenge
set_option maxRecDepth 100000
set_option maxHeartbeats 4000000
theorem kw_M3_1 : True := by
  k_with "m:subscriptTail" => (k_here; (with_reducible show wpAny _ _ (subscriptTail _ _ (Value.ref _) (Value.int _ _)) _ _ _); (refine item_lst (News.isList (by k_asm) (by with_reducible assumption)) (by decide) (by decide) (by first | exact (rfl : _ = some (Value.str _ _)) | exact (rfl : _ = some (Value.int _ _)) | exact (rfl : _ = some (Value.ref _)) | exact rfl) ?_))
  k_with "m:call ref" => (k_here; (with_reducible show wpAny _ _ (call (Value.ref 122) _) _ _ _); k_dflt (refine' index_of_c ?hc0 _ _ _ _ _ _ _ _ _ _ _ _ _ _ _ _ ?k1 ?k2 ?k3 ?k4 ?k5 ?kK ?kd ?ku ?_ ?_); k_extra "K5"; (case kK => first | exact rfl | assumption); (case hc0 => k_extra "S"); (case kd => (k_extra "D")); (case ku => (k_extra "U")); all_goals (first | (intro msg9 ecs9 hb9 g9 e9 d9 ec9 es9 n9 n9' vs9 t19 t29 tv9 h9 tk9 Fg9 R9 U9 c19 c29 c39 S9; (try dsimp only)) | (intro hb9 t9 h9 tk9 F9 N9; (try dsimp only); (generalize hIF9 : idxF _ _ = o9; cases o9 <;> first | exact absurd (by with_reducible assumption) (idx_ne hIF9) | dsimp only [optI]); (all_goals (try k_fold)))))
  trivial
theorem span0_c {w mean mg mb} {news : List (Addr × Obj)} {ws : Addr} {n : Nat} {v0 v1 : Value} {c us : Str} {t tu : Tok}
    (hl : (ws, ({ cls := .type "list", data := .seq #[v0, v1, .str c t] n } : Obj)) ∈ news) (hc : c.length ≤ 100) :
    CbG 130 w mean mg mb 262 news [.ref ws, .str us tu] (RetT news fun t t' => [.int 0 t, .int (c.length - 1) t']) := by
  ((try unfold Cb); unfold CbG; k_fill; (try dsimp only [RetV, RetT]); intros; rename_i hret; refine wpAny_call ?_; k_dflt cell_enter; (refine letA ?_); (intro kA); (rename Fr _ _ _ _ => sF); (first | replace sF : Fr _ _ _ (fun y => List.lookup y [(Str.ofString "usage", _), (Str.ofString "words", _)]) := sF | replace sF : Fr _ _ _ (fun y => List.lookup y [(Str.ofString "words", _), (Str.ofString "usage", _)]) := sF); (generalize Shared.toks _ + List.length _ = tk0); k_steps)
  all_goals (refine retT_end (t := ?_) (t' := ?_) hret (by k_asm) (by k_asm) (by with_reducible assumption) ?_; rotate_left; rotate_left; rfl)
theorem max0_neg {i : Str} {l v : Int} (h : idxF i l = some v) (hv : v < 0) : 0 = max0 ((idxF i l).getD 0) := by rw [h]; exact (if_pos hv).symm
theorem max0_pos {i : Str} {l v : Int} (h : idxF i l = some v) (hv : ¬ v < 0) : v = max0 ((idxF i l).getD 0) := by rw [h]; exact (if_neg hv).symm
theorem get_of {i : Str} {l v : Int} (h : idxF i l = some v) : v = (idxF i l).getD 0 := by rw [h]; rfl
noncomputable def bad2 (a b : Option (Str × List Str)) : Option (Str × List Str) := match a with | some x => some x | none => b
theorem bad2_l {a b : Option (Str × List Str)} {x : Str × List Str} (h : a = some x) : bad2 a b = some x := by rw [h]; rfl
theorem bad2_r {a b : Option (Str × List Str)} {x : Str × List Str} (h : a = none) (h2 : b = some x) : bad2 a b = some x := by rw [h]; exact h2
theorem bad2_n {a b : Option (Str × List Str)} (h : a = none) (h2 : b = none) : bad2 a b = none := by rw [h]; exact h2
theorem span1_c {w mean mg mb} {news : List (Addr × Obj)} {ws : Addr} {n : Nat} {v0 v1 : Value} {c i us : Str} {t u tu : Tok}
    (hl : (ws, ({ cls := .type "list", data := .seq #[v0, v1, .str c t, .str i u] n } : Obj)) ∈ news) (hc : c.length ≤ 100) (hi : i.length ≤ 100) :
    CbE 130 w mean mg mb 262 news [.ref ws, .str us tu] (RetT news fun t t' => [.int (max0 ((idxF i (c.length - 1)).getD 0)) t, .int (max0 ((idxF i (c.length - 1)).getD 0)) t']) (idxBad i (c.length - 1)) := by
  unfold CbE
  k_fill
  intros
  rename_i hret herr
  refine wpAny_call ?_
  k_dflt cell_enter
  ((rename Fr _ _ _ _ => sF); (first | replace sF : Fr _ _ _ (fun y => List.lookup y [(Str.ofString "usage", _), (Str.ofString "words", _)]) := sF | replace sF : Fr _ _ _ (fun y => List.lookup y [(Str.ofString "words", _), (Str.ofString "usage", _)]) := sF); (generalize Shared.toks _ + List.length _ = tk0))
  ((refine letA ?_); (intro kA))
  k_steps
  all_goals first
    | (refine retT_end (t := ?_) (t' := ?_) (hret (by with_reducible assumption)) (by k_asm) (by k_asm) (by with_reducible assumption) ?_; rotate_left; rotate_left
       refine tup_ii ?_ ?_ <;> first | exact max0_neg (by with_reducible assumption) (by with_reducible assumption) | exact max0_pos (by with_reducible assumption) (by with_reducible assumption))
    | (((try k_unfold); (try dsimp only); refine leave_on (by k_asm) (by k_asm) (by with_reducible assumption) (by with_reducible assumption) (fun hX rX uX => ?_); exact herr _ _ (by with_reducible assumption) _ _ _ _ _ _ _ _ _ _ _ _ _ (by k_asm) (rX.drop2 (fun q hq => by first | exact hq | exact .tail _ hq | exact .tail _ (.tail _ hq) | exact .tail _ (.tail _ (.tail _ hq)))) uX (by with_reducible assumption) (by with_reducible assumption) (by with_reducible assumption) (by with_reducible assumption)))
theorem span2_c {w mean mg mb} {news : List (Addr × Obj)} {ws : Addr} {n : Nat} {v0 v1 : Value} {c i j us : Str} {t u v tu : Tok}
    (hl : (ws, ({ cls := .type "list", data := .seq #[v0, v1, .str c t, .str i u, .str j v] n } : Obj)) ∈ news) (hc : c.length ≤ 100) (hi : i.length ≤ 100) (hj : j.length ≤ 100) :
    CbE 130 w mean mg mb 262 news [.ref ws, .str us tu] (RetT news fun t t' => [.int (max0 ((idxF i (c.length - 1)).getD 0)) t, .int ((idxF j (c.length - 1)).getD 0) t']) (bad2 (idxBad i (c.length - 1)) (idxBad j (c.length - 1))) := by
  unfold CbE
  k_fill
  intros
  rename_i hret herr
  refine wpAny_call ?_
  k_dflt cell_enter
  ((rename Fr _ _ _ _ => sF); (first | replace sF : Fr _ _ _ (fun y => List.lookup y [(Str.ofString "usage", _), (Str.ofString "words", _)]) := sF | replace sF : Fr _ _ _ (fun y => List.lookup y [(Str.ofString "words", _), (Str.ofString "usage", _)]) := sF); (generalize Shared.toks _ + List.length _ = tk0))
  ((refine letA ?_); (intro kA))
  k_steps
  all_goals first
    | (refine retT_end (t := ?_) (t' := ?_) (hret (bad2_n (by with_reducible assumption) (by with_reducible assumption))) (by k_asm) (by k_asm) (by with_reducible assumption) ?_; rotate_left; rotate_left
       refine tup_ii ?_ ?_ <;> first | exact max0_neg (by with_reducible assumption) (by with_reducible assumption) | exact max0_pos (by with_reducible assumption) (by with_reducible assumption) | exact get_of (by with_reducible assumption))
    | (((try k_unfold); (try dsimp only); refine leave_on (by k_asm) (by k_asm) (by with_reducible assumption) (by with_reducible assumption) (fun hX rX uX => ?_); exact herr _ _ (by first | exact bad2_l (by with_reducible assumption) | exact bad2_r (by with_reducible assumption) (by with_reducible assumption)) _ _ _ _ _ _ _ _ _ _ _ _ _ (by k_asm) (rX.drop2 (fun q hq => by first | exact hq | exact .tail _ hq | exact .tail _ (.tail _ hq) | exact .tail _ (.tail _ (.tail _ hq)))) uX (by with_reducible assumption) (by with_reducible assumption) (by with_reducible assumption) (by with_reducible assumption)))
end

section
-- M4
open PySem PySem.W PyProof.Rows
theorem kwn_M4 : True := by
  k_with_none
  w_top off
  trivial
theorem kwo_M4 : True := by
  k_with "m:omega" => first | with_reducible assumption | decide | with_reducible exact Int.le_refl _ | with_reducible exact Nat.le_refl _ | with_reducible exact rm_u2 | with_reducible exact rm_d2 | with_reducible exact rm_u1 | with_reducible exact rm_d1 | with_reducible exact rm_u0 | with_reducible exact rm_d0 | with_reducible exact n_up | with_reducible exact q_o | with_reducible exact q_c1 | with_reducible exact q_c2 | with_reducible exact q_c3 | with_reducible exact q_c4 | with_reducible exact q_n1 | with_reducible exact q_n2 | with_reducible exact q_n3 | with_reducible exact q_l1 | with_reducible exact q_l2 | with_reducible exact q_t1 | with_reducible exact q_t2 | with_reducible exact q_t3 | with_reducible exact q_t4 | with_reducible exact q_t5 | ((with_reducible show _ ≠ _); first | k_extra "P" | (refine Ne.symm ?_; k_extra "P") | (refine Nat.ne_of_lt ?_; k_extra "P") | (refine Nat.ne_of_gt ?_; k_extra "P"))
  k_with "P" => first | with_reducible assumption | with_reducible exact And.left (by with_reducible assumption) | with_reducible exact And.right (by with_reducible assumption) | with_reducible exact q_r (by with_reducible assumption) | with_reducible exact q_s (by with_reducible assumption) | with_reducible exact q_t (by with_reducible assumption) | with_reducible exact q_u (by with_reducible assumption)
  k_with "D" => ((try simp +zetaDelta only [depth_in1, depth_deeper]); (try dsimp only [ktrTop]); omega)
  k_with "U" => ((try simp +zetaDelta only [units_in1, units_deeper, Around.mark_units]); (try dsimp only [ktrTop]); omega)
  k_with "K5" => ((case k1 => k_asm); (case k2 => k_asm); (case k3 => k_asm); (case k4 => k_asm); (case k5 => k_asm))
  k_with "S" => first | with_reducible assumption | exact .inl rfl | exact .inr (.inl rfl) | exact .inr (.inr rfl) | exact .inr rfl | omega | k_mem | fail | (simp only [PySem.Str.length_append, KOpn.len_one]; omega) | assumption
  k_with "dr" => first | with_reducible assumption | with_reducible exact (News.tl (by with_reducible assumption)) | with_reducible exact (News.tl (News.tl (by with_reducible assumption))) | with_reducible exact (News.tl (News.tl (News.tl (by with_reducible assumption)))) | with_reducible exact (News.tl (News.tl (News.tl (News.tl (by with_reducible assumption))))) | with_reducible exact (News.tl (News.tl (News.tl (News.tl (News.tl (by with_reducible assumption)))))) | with_reducible exact (News.tl (News.tl (News.tl (News.tl (News.tl (News.tl (by with_reducible assumption))))))) | with_reducible exact News.apl (by with_reducible assumption) | with_reducible exact News.apl (News.tl (by with_reducible assumption)) | with_reducible exact News.apl (News.tl (News.tl (by with_reducible assumption))) | with_reducible exact News.apl (News.tl (News.tl (News.tl (by with_reducible assumption)))) | with_reducible exact News.apl (News.tl (News.tl (News.tl (News.tl (by with_reducible assumption)))))
  k_with "m:eval Call" => (k_here; k_dflt (first | ((with_reducible show wpAny _ _ (eval (.Call (.Name (Str.ofString "len") _) [.Name _ _] [] _) _) _ _ _); refine len_nm (q := ?_)) | ((with_reducible show wpAny _ _ (eval (.Call (.Name (Str.ofString "len") _) [_] [] _) _) _ _ _); refine callLen (h := ?_)) | ((with_reducible show wpAny _ _ (eval (.Call (.Name (Str.ofString "str") _) [_] [] _) _) _ _ _); refine callStr (h := ?_)) | ((with_reducible show wpAny _ _ (eval (.Call (.Name _ _) [_] [] _) _) _ _ _); refine callK1 (h := ?_)) | ((with_reducible show wpAny _ _ (eval (.Call (.Name _ _) [_, _] [] _) _) _ _ _); refine callK2 (h := ?_)) | ((with_reducible show wpAny _ _ (eval (.Call (.Name _ _) [_, _, _] [] _) _) _ _ _); refine callK3 (h := ?_))); k_whole)
  k_with "m:eval Constant int" => (k_here; k_dflt (refine cInt ?_); k_whole)
  k_with "m:eval Constant str" => (k_here; k_dflt (refine cStr ?_); k_whole)
  k_with "m:storeName" => (k_here; k_dflt (refine storeS (q := ?_)); k_whole; intro h' F' N'; (try k_sweep))
  k_with "m:binaryOp Add int int" => (k_here; k_dflt (refine addS ?_); k_whole)
  k_with "m:binaryOp Sub int int" => (k_here; k_dflt (refine subS ?_); k_whole)
  k_with "m:call builtin:len" => (k_here; (with_reducible show wpAny _ _ (call _ [.str _ _]) _ _ _); k_dflt (refine lenS (q := ?_)); k_whole)
  k_with "m:newList" => (k_here; k_dflt (refine lstS (q := ?_) (by first | exact Nat.le_of_ble_eq_true rfl | size_fits)); k_whole; intro l' h' F' N' l1; (try k_lt l1); (try k_sweep))
  k_with "m:execs cons" => (k_here; k_dflt (first | ((with_reducible show wpAny _ _ (execs (.Assign [.Name _ _] _ _ :: _) _) _ _ _); refine sAsg ?_ (Eq.refl true)) | ((with_reducible show wpAny _ _ (execs (.Return (some _) _ :: _) _) _ _ _); refine sRet ?_) | ((with_reducible show wpAny _ _ (execs (.If _ [.Return (some _) _] [] _ :: _) _) _ _ _); refine sIfR ?_) | ((with_reducible show wpAny _ _ (execs (.If _ _ [] _ :: _) _) _ _ _); refine sIf1 ?_)); k_whole)
  k_with "m:eval Tuple" => (k_here; first | ((with_reducible show wpAny _ _ (eval (.Tuple [.Constant (.str _) _ _, .Constant (.str _) _ _] _ _) _) _ _ _); k_dflt (refine tupSS (q := ?_)); k_whole; intro D' h' F' N' l1; (try k_lt l1)) | ((with_reducible show wpAny _ _ (eval (.Tuple [_, _] _ _) _) _ _ _); k_dflt (refine tup2 ?_ (Eq.refl true) (Eq.refl true)); k_whole))
  k_with "m:eval List" => (k_here; k_dflt (first | ((with_reducible show wpAny _ _ (eval (.List [_] _) _) _ _ _); refine lst1 ?_ (Eq.refl true)) | ((with_reducible show wpAny _ _ (eval (.List [_, _] _) _) _ _ _); refine lst2 ?_ (Eq.refl true) (Eq.refl true)) | ((with_reducible show wpAny _ _ (eval (.List [_, _, _] _) _) _ _ _); refine lst3 ?_ (Eq.refl true) (Eq.refl true) (Eq.refl true)) | ((with_reducible show wpAny _ _ (eval (.List [_, _, _, _] _) _) _ _ _); refine lst4 ?_ (Eq.refl true) (Eq.refl true) (Eq.refl true) (Eq.refl true))); k_whole)
  k_with "m:eval BinOp" => (k_here; k_dflt (first | ((with_reducible show wpAny _ _ (eval (.BinOp (.Name _ _) _ (.Name _ _) _) _) _ _ _); refine bNN (q := ?_)) | ((with_reducible show wpAny _ _ (eval (.BinOp (.Name _ _) _ (.Constant (.int _) _ _) _) _) _ _ _); refine bNC (q := ?_)) | ((with_reducible show wpAny _ _ (eval (.BinOp (.Name _ _) _ _ _) _) _ _ _); refine bN (q := ?_))); k_whole)
  k_with "m:isTrue Compare" => (k_here; k_dflt (first | ((with_reducible show wpAny _ _ (isTrue (.Compare (.Name _ _) [_] [(.Name _ _)] _) _ _) _ _ _); refine cNN (q := ?_)) | ((with_reducible show wpAny _ _ (isTrue (.Compare (.Name _ _) [_] [(.Constant (.int _) _ _)] _) _ _) _ _ _); refine cNC (q := ?_)) | ((with_reducible show wpAny _ _ (isTrue (.Compare (.Name _ _) [_] [_] _) _ _) _ _ _); refine cN (q := ?_))); k_whole)
  k_with "m:eval Subscript" => (k_here; k_dflt (first | ((with_reducible show wpAny _ _ (eval (.Subscript (.Name _ _) (.Name _ _) _) _) _ _ _); refine gNN (q := ?_)) | ((with_reducible show wpAny _ _ (eval (.Subscript (.Name _ _) (.Constant (.int _) _ _) _) _) _ _ _); refine gNC (q := ?_)) | ((with_reducible show wpAny _ _ (eval (.Subscript (.Name _ _) _ _) _) _ _ _); refine gN (q := ?_))); k_whole)
  trivial
open PySem.Challenge
set_option maxRecDepth 100000
set_option maxHeartbeats 4000000
theorem kw_M4_1 : True := by
  k_with "m:subscriptTail" => (k_here; (with_reducible show wpAny _ _ (subscriptTail _ _ (Value.ref _) (Value.int _ _)) _ _ _); (refine item_lst (News.isList (by k_asm) (by first | with_reducible assumption | exact List.mem_cons_of_mem _ (by with_reducible assumption) | exact List.mem_cons_of_mem _ (List.mem_cons_of_mem _ (by with_reducible assumption)))) (by decide) (by decide) (by first | exact (rfl : _ = some (Value.str _ _)) | exact (rfl : _ = some (Value.int _ _)) | exact (rfl : _ = some (Value.ref _)) | exact rfl) ?_))
  k_with "m:call ref" => (k_here; (with_reducible show wpAny _ _ (call (Value.ref 262) _) _ _ _); k_dflt (refine' span0_c ?hc0 ?hc1 _ _ _ _ _ _ _ _ _ _ _ _ _ _ _ _ _ ?k1 ?k2 ?k3 ?k4 ?k5 ?kK ?kd ?ku ?_); k_extra "K5"; (case kK => first | exact rfl | assumption); (case hc0 => k_extra "S"); (case hc1 => k_extra "S"); (case kd => (k_extra "D")); (case ku => (k_extra "U")); intro D9 t9 u9 h9 tk9 F9 N9 L9; (try dsimp only); (skip); (all_goals (try k_fold)))
  k_with "m:call ref" => (k_here; (with_reducible show wpAny _ _ (call (Value.ref 262) _) _ _ _); k_dflt (refine' span1_c ?hc0 ?hc1 ?hc2 _ _ _ _ _ _ _ _ _ _ _ _ _ _ _ _ ?k1 ?k2 ?k3 ?k4 ?k5 ?kK ?kd ?ku ?_ ?_); k_extra "K5"; (case kK => first | exact rfl | assumption); (case hc0 => k_extra "S"); (case hc1 => k_extra "S"); (case hc2 => k_extra "S"); (case kd => (k_extra "D")); (case ku => (k_extra "U")); all_goals (first | (intro msg9 ecs9 hb9 g9 e9 d9 ec9 es9 n9 n9' vs9 t19 t29 tv9 h9 tk9 Fg9 R9 U9 c19 c29 c39 S9; (try dsimp only)) | (intro hb9 D9 t9 u9 h9 tk9 F9 N9 L9; (try dsimp only); (skip); (all_goals (try k_fold)))))
  k_with "m:call ref" => (k_here; (with_reducible show wpAny _ _ (call (Value.ref 262) _) _ _ _); k_dflt (refine' span2_c ?hc0 ?hc1 ?hc2 ?hc3 _ _ _ _ _ _ _ _ _ _ _ _ _ _ _ _ ?k1 ?k2 ?k3 ?k4 ?k5 ?kK ?kd ?ku ?_ ?_); k_extra "K5"; (case kK => first | exact rfl | assumption); (case hc0 => k_extra "S"); (case hc1 => k_extra "S"); (case hc2 => k_extra "S"); (case hc3 => k_extra "S"); (case kd => (k_extra "D")); (case ku => (k_extra "U")); all_goals (first | (intro msg9 ecs9 hb9 g9 e9 d9 ec9 es9 n9 n9' vs9 t19 t29 tv9 h9 tk9 Fg9 R9 U9 c19 c29 c39 S9; (try dsimp only)) | (intro hb9 D9 t9 u9 h9 tk9 F9 N9 L9; (try dsimp only); (skip); (all_goals (try k_fold)))))
  k_with "m:call ref" => (k_here; (with_reducible show wpAny _ _ (call (Value.ref 178) _) _ _ _); k_dflt (refine' lower_c ?hc0 _ _ _ _ _ _ _ _ _ _ _ _ _ _ _ _ _ ?k1 ?k2 ?k3 ?k4 ?k5 ?kK ?kd ?ku ?_); k_extra "K5"; (case kK => first | exact rfl | assumption); (case hc0 => k_extra "S"); (case kd => (k_extra "D")); (case ku => (k_extra "U")); intro t9 h9 tk9 F9 N9; (try dsimp only); (skip); (all_goals (try k_fold)))
  trivial
theorem tolower0_c {w mean mg mb} {news : List (Addr × Obj)} {ws : Addr} {n : Nat} {v0 v1 : Value} {c : Str} {t : Tok}
    (hl : (ws, ({ cls := .type "list", data := .seq #[v0, v1, .str c t] n } : Obj)) ∈ news) (hc : c.length ≤ 100) :
    Cb 140 w mean mg mb 269 news [.none, .ref ws] (fun t => .str (lowerF c 0 (c.length - 1)) t) := by
  ((try unfold Cb); unfold CbG; k_fill; (try dsimp only [RetV, RetT]); intros; rename_i hret; refine wpAny_call ?_; k_dflt cell_enter; (refine letA ?_); (intro kA); (rename Fr _ _ _ _ => sF); (first | replace sF : Fr _ _ _ (fun y => List.lookup y [(Str.ofString "words", _), (Str.ofString "host", _)]) := sF | replace sF : Fr _ _ _ (fun y => List.lookup y [(Str.ofString "host", _), (Str.ofString "words", _)]) := sF); (generalize Shared.toks _ + List.length _ = tk0); k_steps)
  all_goals first | ((refine cb_retS hret ?_ (by k_asm) (by k_extra "dr")); rfl)
theorem tolower1_c {w mean mg mb} {news : List (Addr × Obj)} {ws : Addr} {n : Nat} {v0 v1 : Value} {c i : Str} {t u : Tok}
    (hl : (ws, ({ cls := .type "list", data := .seq #[v0, v1, .str c t, .str i u] n } : Obj)) ∈ news) (hc : c.length ≤ 100) (hi : i.length ≤ 100) :
    CbE 140 w mean mg mb 269 news [.none, .ref ws] (RetV news fun t => .str (lowerF c (max0 ((idxF i (c.length - 1)).getD 0)) (max0 ((idxF i (c.length - 1)).getD 0))) t) (idxBad i (c.length - 1)) := by
  unfold CbE
  k_fill
  intros
  rename_i hret herr
  refine wpAny_call ?_
  k_dflt cell_enter
  ((rename Fr _ _ _ _ => sF); (first | replace sF : Fr _ _ _ (fun y => List.lookup y [(Str.ofString "words", _), (Str.ofString "host", _)]) := sF | replace sF : Fr _ _ _ (fun y => List.lookup y [(Str.ofString "host", _), (Str.ofString "words", _)]) := sF); (generalize Shared.toks _ + List.length _ = tk0))
  ((refine letA ?_); (intro kA))
  k_steps
  all_goals first
    | (exact hret (by with_reducible assumption) _ _ _ (by k_asm) (by (k_extra "dr")))
    | (((try k_unfold); (try dsimp only); refine leave_on (by k_asm) (by k_asm) (by with_reducible assumption) (by with_reducible assumption) (fun hX rX uX => ?_); exact herr _ _ (by with_reducible assumption) _ _ _ _ _ _ _ _ _ _ _ _ _ (by k_asm) (rX.drop2 (fun q hq => by first | exact hq | exact .tail _ hq | exact .tail _ (.tail _ hq) | exact .tail _ (.tail _ (.tail _ hq)))) uX (by with_reducible assumption) (by with_reducible assumption) (by with_reducible assumption) (by with_reducible assumption)))
theorem tolower2_c {w mean mg mb} {news : List (Addr × Obj)} {ws : Addr} {n : Nat} {v0 v1 : Value} {c i j : Str} {t u v : Tok}
    (hl : (ws, ({ cls := .type "list", data := .seq #[v0, v1, .str c t, .str i u, .str j v] n } : Obj)) ∈ news) (hc : c.length ≤ 100) (hi : i.length ≤ 100) (hj : j.length ≤ 100) :
    CbE 140 w mean mg mb 269 news [.none, .ref ws] (RetV news fun t => .str (lowerF c (max0 ((idxF i (c.length - 1)).getD 0)) ((idxF j (c.length - 1)).getD 0)) t) (bad2 (idxBad i (c.length - 1)) (idxBad j (c.length - 1))) := by
  unfold CbE
  k_fill
  intros
  rename_i hret herr
  refine wpAny_call ?_
  k_dflt cell_enter
  ((rename Fr _ _ _ _ => sF); (first | replace sF : Fr _ _ _ (fun y => List.lookup y [(Str.ofString "words", _), (Str.ofString "host", _)]) := sF | replace sF : Fr _ _ _ (fun y => List.lookup y [(Str.ofString "host", _), (Str.ofString "words", _)]) := sF); (generalize Shared.toks _ + List.length _ = tk0))
  ((refine letA ?_); (intro kA))
  k_steps
  all_goals first
    | (exact hret (by with_reducible assumption) _ _ _ (by k_asm) (by (k_extra "dr")))
    | (((try k_unfold); (try dsimp only); refine leave_on (by k_asm) (by k_asm) (by with_reducible assumption) (by with_reducible assumption) (fun hX rX uX => ?_); exact herr _ _ (by with_reducible assumption) _ _ _ _ _ _ _ _ _ _ _ _ _ (by k_asm) (rX.drop2 (fun q hq => by first | exact hq | exact .tail _ hq | exact .tail _ (.tail _ hq) | exact .tail _ (.tail _ (.tail _ hq)))) uX (by with_reducible assumption) (by with_reducible assumption) (by with_reducible assumption) (by with_reducible assumption)))
end

section
-- M5
open PySem PySem.W PyProof.Rows
open PySem.Challenge
set_option maxRecDepth 100000
set_option maxHeartbeats 4000000
theorem kw_M5_1 : True := by
  k_with "m:subscriptTail" => (k_here; (with_reducible show wpAny _ _ (subscriptTail _ _ (Value.ref _) (Value.int _ _)) _ _ _); (refine item_lst (News.isList (by k_asm) (by first | with_reducible assumption | exact List.mem_cons_of_mem _ (by with_reducible assumption) | exact List.mem_cons_of_mem _ (List.mem_cons_of_mem _ (by with_reducible assumption)))) (by decide) (by decide) (by first | exact (rfl : _ = some (Value.str _ _)) | exact (rfl : _ = some (Value.int _ _)) | exact (rfl : _ = some (Value.ref _)) | exact rfl) ?_))
  k_with "m:call ref" => (k_here; (with_reducible show wpAny _ _ (call (Value.ref 262) _) _ _ _); k_dflt (refine' span0_c ?hc0 ?hc1 _ _ _ _ _ _ _ _ _ _ _ _ _ _ _ _ _ ?k1 ?k2 ?k3 ?k4 ?k5 ?kK ?kd ?ku ?_); k_extra "K5"; (case kK => first | exact rfl | assumption); (case hc0 => k_extra "S"); (case hc1 => k_extra "S"); (case kd => (k_extra "D")); (case ku => (k_extra "U")); intro D9 t9 u9 h9 tk9 F9 N9 L9; (try dsimp only); (skip); (all_goals (try k_fold)))
  k_with "m:call ref" => (k_here; (with_reducible show wpAny _ _ (call (Value.ref 262) _) _ _ _); k_dflt (refine' span1_c ?hc0 ?hc1 ?hc2 _ _ _ _ _ _ _ _ _ _ _ _ _ _ _ _ ?k1 ?k2 ?k3 ?k4 ?k5 ?kK ?kd ?ku ?_ ?_); k_extra "K5"; (case kK => first | exact rfl | assumption); (case hc0 => k_extra "S"); (case hc1 => k_extra "S"); (case hc2 => k_extra "S"); (case kd => (k_extra "D")); (case ku => (k_extra "U")); all_goals (first | (intro msg9 ecs9 hb9 g9 e9 d9 ec9 es9 n9 n9' vs9 t19 t29 tv9 h9 tk9 Fg9 R9 U9 c19 c29 c39 S9; (try dsimp only)) | (intro hb9 D9 t9 u9 h9 tk9 F9 N9 L9; (try dsimp only); (skip); (all_goals (try k_fold)))))
  k_with "m:call ref" => (k_here; (with_reducible show wpAny _ _ (call (Value.ref 262) _) _ _ _); k_dflt (refine' span2_c ?hc0 ?hc1 ?hc2 ?hc3 _ _ _ _ _ _ _ _ _ _ _ _ _ _ _ _ ?k1 ?k2 ?k3 ?k4 ?k5 ?kK ?kd ?ku ?_ ?_); k_extra "K5"; (case kK => first | exact rfl | assumption); (case hc0 => k_extra "S"); (case hc1 => k_extra "S"); (case hc2 => k_extra "S"); (case hc3 => k_extra "S"); (case kd => (k_extra "D")); (case ku => (k_extra "U")); all_goals (first | (intro msg9 ecs9 hb9 g9 e9 d9 ec9 es9 n9 n9' vs9 t19 t29 tv9 h9 tk9 Fg9 R9 U9 c19 c29 c39 S9; (try dsimp only)) | (intro hb9 D9 t9 u9 h9 tk9 F9 N9 L9; (try dsimp only); (skip); (all_goals (try k_fold)))))
  k_with "m:call ref" => (k_here; (with_reducible show wpAny _ _ (call (Value.ref 192) _) _ _ _); k_dflt (refine' title_c ?hc0 _ _ _ _ _ _ _ _ _ _ _ _ _ _ _ _ _ ?k1 ?k2 ?k3 ?k4 ?k5 ?kK ?kd ?ku ?_); k_extra "K5"; (case kK => first | exact rfl | assumption); (case hc0 => k_extra "S"); (case kd => (k_extra "D")); (case ku => (k_extra "U")); intro t9 h9 tk9 F9 N9; (try dsimp only); (skip); (all_goals (try k_fold)))
  trivial
theorem totitle0_c {w mean mg mb} {news : List (Addr × Obj)} {ws : Addr} {n : Nat} {v0 v1 : Value} {c : Str} {t : Tok}
    (hl : (ws, ({ cls := .type "list", data := .seq #[v0, v1, .str c t] n } : Obj)) ∈ news) (hc : c.length ≤ 100) :
    Cb 140 w mean mg mb 276 news [.none, .ref ws] (fun t => .str (titleF c 0 (c.length - 1)) t) := by
  ((try unfold Cb); unfold CbG; k_fill; (try dsimp only [RetV, RetT]); intros; rename_i hret; refine wpAny_call ?_; k_dflt cell_enter; (refine letA ?_); (intro kA); (rename Fr _ _ _ _ => sF); (first | replace sF : Fr _ _ _ (fun y => List.lookup y [(Str.ofString "words", _), (Str.ofString "host", _)]) := sF | replace sF : Fr _ _ _ (fun y => List.lookup y [(Str.ofString "host", _), (Str.ofString "words", _)]) := sF); (generalize Shared.toks _ + List.length _ = tk0); k_steps)
  all_goals first | ((refine cb_retS hret ?_ (by k_asm) (by k_extra "dr")); rfl)
theorem totitle1_c {w mean mg mb} {news : List (Addr × Obj)} {ws : Addr} {n : Nat} {v0 v1 : Value} {c i : Str} {t u : Tok}
    (hl : (ws, ({ cls := .type "list", data := .seq #[v0, v1, .str c t, .str i u] n } : Obj)) ∈ news) (hc : c.length ≤ 100) (hi : i.length ≤ 100) :
    CbE 140 w mean mg mb 276 news [.none, .ref ws] (RetV news fun t => .str (titleF c (max0 ((idxF i (c.length - 1)).getD 0)) (max0 ((idxF i (c.length - 1)).getD 0))) t) (idxBad i (c.length - 1)) := by
  unfold CbE
  k_fill
  intros
  rename_i hret herr
  refine wpAny_call ?_
  k_dflt cell_enter
  ((rename Fr _ _ _ _ => sF); (first | replace sF : Fr _ _ _ (fun y => List.lookup y [(Str.ofString "words", _), (Str.ofString "host", _)]) := sF | replace sF : Fr _ _ _ (fun y => List.lookup y [(Str.ofString "host", _), (Str.ofString "words", _)]) := sF); (generalize Shared.toks _ + List.length _ = tk0))
  ((refine letA ?_); (intro kA))
  k_steps
  all_goals first
    | (exact hret (by with_reducible assumption) _ _ _ (by k_asm) (by (k_extra "dr")))
    | (((try k_unfold); (try dsimp only); refine leave_on (by k_asm) (by k_asm) (by with_reducible assumption) (by with_reducible assumption) (fun hX rX uX => ?_); exact herr _ _ (by with_reducible assumption) _ _ _ _ _ _ _ _ _ _ _ _ _ (by k_asm) (rX.drop2 (fun q hq => by first | exact hq | exact .tail _ hq | exact .tail _ (.tail _ hq) | exact .tail _ (.tail _ (.tail _ hq)))) uX (by with_reducible assumption) (by with_reducible assumption) (by with_reducible assumption) (by with_reducible assumption)))
theorem totitle2_c {w mean mg mb} {news : List (Addr × Obj)} {ws : Addr} {n : Nat} {v0 v1 : Value} {c i j : Str} {t u v : Tok}
    (hl : (ws, ({ cls := .type "list", data := .seq #[v0, v1, .str c t, .str i u, .str j v] n } : Obj)) ∈ news) (hc : c.length ≤ 100) (hi : i.length ≤ 100) (hj : j.length ≤ 100) :
    CbE 140 w mean mg mb 276 news [.none, .ref ws] (RetV news fun t => .str (titleF c (max0 ((idxF i (c.length - 1)).getD 0)) ((idxF j (c.length - 1)).getD 0)) t) (bad2 (idxBad i (c.length - 1)) (idxBad j (c.length - 1))) := by
  unfold CbE
  k_fill
  intros
  rename_i hret herr
  refine wpAny_call ?_
  k_dflt cell_enter
  ((rename Fr _ _ _ _ => sF); (first | replace sF : Fr _ _ _ (fun y => List.lookup y [(Str.ofString "words", _), (Str.ofString "host", _)]) := sF | replace sF : Fr _ _ _ (fun y => List.lookup y [(Str.ofString "host", _), (Str.ofString "words", _)]) := sF); (generalize Shared.toks _ + List.length _ = tk0))
  ((refine letA ?_); (intro kA))
  k_steps
  all_goals first
    | (exact hret (by with_reducible assumption) _ _ _ (by k_asm) (by (k_extra "dr")))
    | (((try k_unfold); (try dsimp only); refine leave_on (by k_asm) (by k_asm) (by with_reducible assumption) (by with_reducible assumption) (fun hX rX uX => ?_); exact herr _ _ (by with_reducible assumption) _ _ _ _ _ _ _ _ _ _ _ _ _ (by k_asm) (rX.drop2 (fun q hq => by first | exact hq | exact .tail _ hq | exact .tail _ (.tail _ hq) | exact .tail _ (.tail _ (.tail _ hq)))) uX (by with_reducible assumption) (by with_reducible assumption) (by with_reducible assumption) (by with_reducible assumption)))
end

section
-- M6
open PySem PySem.W PyProof.Rows
open PySem.Challenge
set_option maxRecDepth 100000
set_option maxHeartbeats 4000000
theorem kw_M6_1 : True := by
  k_with "m:subscriptTail" => (k_here; (with_reducible show wpAny _ _ (subscriptTail _ _ (Value.ref _) (Value.int _ _)) _ _ _); (refine item_lst (News.isList (by k_asm) (by first | with_reducible assumption | exact List.mem_cons_of_mem _ (by with_reducible assumption) | exact List.mem_cons_of_mem _ (List.mem_cons_of_mem _ (by with_reducible assumption)))) (by decide) (by decide) (by first | exact (rfl : _ = some (Value.str _ _)) | exact (rfl : _ = some (Value.int _ _)) | exact (rfl : _ = some (Value.ref _)) | exact rfl) ?_))
  k_with "m:call ref" => (k_here; (with_reducible show wpAny _ _ (call (Value.ref 262) _) _ _ _); k_dflt (refine' span0_c ?hc0 ?hc1 _ _ _ _ _ _ _ _ _ _ _ _ _ _ _ _ _ ?k1 ?k2 ?k3 ?k4 ?k5 ?kK ?kd ?ku ?_); k_extra "K5"; (case kK => first | exact rfl | assumption); (case hc0 => k_extra "S"); (case hc1 => k_extra "S"); (case kd => (k_extra "D")); (case ku => (k_extra "U")); intro D9 t9 u9 h9 tk9 F9 N9 L9; (try dsimp only); (skip); (all_goals (try k_fold)))
  k_with "m:call ref" => (k_here; (with_reducible show wpAny _ _ (call (Value.ref 262) _) _ _ _); k_dflt (refine' span1_c ?hc0 ?hc1 ?hc2 _ _ _ _ _ _ _ _ _ _ _ _ _ _ _ _ ?k1 ?k2 ?k3 ?k4 ?k5 ?kK ?kd ?ku ?_ ?_); k_extra "K5"; (case kK => first | exact rfl | assumption); (case hc0 => k_extra "S"); (case hc1 => k_extra "S"); (case hc2 => k_extra "S"); (case kd => (k_extra "D")); (case ku => (k_extra "U")); all_goals (first | (intro msg9 ecs9 hb9 g9 e9 d9 ec9 es9 n9 n9' vs9 t19 t29 tv9 h9 tk9 Fg9 R9 U9 c19 c29 c39 S9; (try dsimp only)) | (intro hb9 D9 t9 u9 h9 tk9 F9 N9 L9; (try dsimp only); (skip); (all_goals (try k_fold)))))
  k_with "m:call ref" => (k_here; (with_reducible show wpAny _ _ (call (Value.ref 262) _) _ _ _); k_dflt (refine' span2_c ?hc0 ?hc1 ?hc2 ?hc3 _ _ _ _ _ _ _ _ _ _ _ _ _ _ _ _ ?k1 ?k2 ?k3 ?k4 ?k5 ?kK ?kd ?ku ?_ ?_); k_extra "K5"; (case kK => first | exact rfl | assumption); (case hc0 => k_extra "S"); (case hc1 => k_extra "S"); (case hc2 => k_extra "S"); (case hc3 => k_extra "S"); (case kd => (k_extra "D")); (case ku => (k_extra "U")); all_goals (first | (intro msg9 ecs9 hb9 g9 e9 d9 ec9 es9 n9 n9' vs9 t19 t29 tv9 h9 tk9 Fg9 R9 U9 c19 c29 c39 S9; (try dsimp only)) | (intro hb9 D9 t9 u9 h9 tk9 F9 N9 L9; (try dsimp only); (skip); (all_goals (try k_fold)))))
  k_with "m:call ref" => (k_here; (with_reducible show wpAny _ _ (call (Value.ref 185) _) _ _ _); k_dflt (refine' upper_c ?hc0 _ _ _ _ _ _ _ _ _ _ _ _ _ _ _ _ _ ?k1 ?k2 ?k3 ?k4 ?k5 ?kK ?kd ?ku ?_); k_extra "K5"; (case kK => first | exact rfl | assumption); (case hc0 => k_extra "S"); (case kd => (k_extra "D")); (case ku => (k_extra "U")); intro t9 h9 tk9 F9 N9; (try dsimp only); (skip); (all_goals (try k_fold)))
  trivial
theorem toupper0_c {w mean mg mb} {news : List (Addr × Obj)} {ws : Addr} {n : Nat} {v0 v1 : Value} {c : Str} {t : Tok}
    (hl : (ws, ({ cls := .type "list", data := .seq #[v0, v1, .str c t] n } : Obj)) ∈ news) (hc : c.length ≤ 100) :
    Cb 140 w mean mg mb 283 news [.none, .ref ws] (fun t => .str (upperF c 0 (c.length - 1)) t) := by
  ((try unfold Cb); unfold CbG; k_fill; (try dsimp only [RetV, RetT]); intros; rename_i hret; refine wpAny_call ?_; k_dflt cell_enter; (refine letA ?_); (intro kA); (rename Fr _ _ _ _ => sF); (first | replace sF : Fr _ _ _ (fun y => List.lookup y [(Str.ofString "words", _), (Str.ofString "host", _)]) := sF | replace sF : Fr _ _ _ (fun y => List.lookup y [(Str.ofString "host", _), (Str.ofString "words", _)]) := sF); (generalize Shared.toks _ + List.length _ = tk0); k_steps)
  all_goals first | ((refine cb_retS hret ?_ (by k_asm) (by k_extra "dr")); rfl)
theorem toupper1_c {w mean mg mb} {news : List (Addr × Obj)} {ws : Addr} {n : Nat} {v0 v1 : Value} {c i : Str} {t u : Tok}
    (hl : (ws, ({ cls := .type "list", data := .seq #[v0, v1, .str c t, .str i u] n } : Obj)) ∈ news) (hc : c.length ≤ 100) (hi : i.length ≤ 100) :
    CbE 140 w mean mg mb 283 news [.none, .ref ws] (RetV news fun t => .str (upperF c (max0 ((idxF i (c.length - 1)).getD 0)) (max0 ((idxF i (c.length - 1)).getD 0))) t) (idxBad i (c.length - 1)) := by
  unfold CbE
  k_fill
  intros
  rename_i hret herr
  refine wpAny_call ?_
  k_dflt cell_enter
  ((rename Fr _ _ _ _ => sF); (first | replace sF : Fr _ _ _ (fun y => List.lookup y [(Str.ofString "words", _), (Str.ofString "host", _)]) := sF | replace sF : Fr _ _ _ (fun y => List.lookup y [(Str.ofString "host", _), (Str.ofString "words", _)]) := sF); (generalize Shared.toks _ + List.length _ = tk0))
  ((refine letA ?_); (intro kA))
  k_steps
  all_goals first
    | (exact hret (by with_reducible assumption) _ _ _ (by k_asm) (by (k_extra "dr")))
    | (((try k_unfold); (try dsimp only); refine leave_on (by k_asm) (by k_asm) (by with_reducible assumption) (by with_reducible assumption) (fun hX rX uX => ?_); exact herr _ _ (by with_reducible assumption) _ _ _ _ _ _ _ _ _ _ _ _ _ (by k_asm) (rX.drop2 (fun q hq => by first | exact hq | exact .tail _ hq | exact .tail _ (.tail _ hq) | exact .tail _ (.tail _ (.tail _ hq)))) uX (by with_reducible assumption) (by with_reducible assumption) (by with_reducible assumption) (by with_reducible assumption)))
theorem toupper2_c {w mean mg mb} {news : List (Addr × Obj)} {ws : Addr} {n : Nat} {v0 v1 : Value} {c i j : Str} {t u v : Tok}
    (hl : (ws, ({ cls := .type "list", data := .seq #[v0, v1, .str c t, .str i u, .str j v] n } : Obj)) ∈ news) (hc : c.length ≤ 100) (hi : i.length ≤ 100) (hj : j.length ≤ 100) :
    CbE 140 w mean mg mb 283 news [.none, .ref ws] (RetV news fun t => .str (upperF c (max0 ((idxF i (c.length - 1)).getD 0)) ((idxF j (c.length - 1)).getD 0)) t) (bad2 (idxBad i (c.length - 1)) (idxBad j (c.length - 1))) := by
  unfold CbE
  k_fill
  intros
  rename_i hret herr
  refine wpAny_call ?_
  k_dflt cell_enter
  ((rename Fr _ _ _ _ => sF); (first | replace sF : Fr _ _ _ (fun y => List.lookup y [(Str.ofString "words", _), (Str.ofString "host", _)]) := sF | replace sF : Fr _ _ _ (fun y => List.lookup y [(Str.ofString "host", _), (Str.ofString "words", _)]) := sF); (generalize Shared.toks _ + List.length _ = tk0))
  ((refine letA ?_); (intro kA))
  k_steps
  all_goals first
    | (exact hret (by with_reducible assumption) _ _ _ (by k_asm) (by (k_extra "dr")))
    | (((try k_unfold); (try dsimp only); refine leave_on (by k_asm) (by k_asm) (by with_reducible assumption) (by with_reducible assumption) (fun hX rX uX => ?_); exact herr _ _ (by with_reducible assumption) _ _ _ _ _ _ _ _ _ _ _ _ _ (by k_asm) (rX.drop2 (fun q hq => by first | exact hq | exact .tail _ hq | exact .tail _ (.tail _ hq) | exact .tail _ (.tail _ (.tail _ hq)))) uX (by with_reducible assumption) (by with_reducible assumption) (by with_reducible assumption) (by with_reducible assumption)))
end

section
-- L9
open PySem PySem.W PyProof.Rows
theorem kwn_L9 : True := by
  k_with_none
  w_top off
  trivial
theorem kwo_L9 : True := by
  k_with "m:omega" => first | with_reducible assumption | decide | with_reducible exact Int.le_refl _ | with_reducible exact Nat.le_refl _ | with_reducible exact rm_u2 | with_reducible exact rm_d2 | with_reducible exact rm_u1 | with_reducible exact rm_d1 | with_reducible exact rm_u0 | with_reducible exact rm_d0 | with_reducible exact n_up | with_reducible exact q_o | with_reducible exact q_c1 | with_reducible exact q_c2 | with_reducible exact q_c3 | with_reducible exact q_c4 | with_reducible exact q_n1 | with_reducible exact q_n2 | with_reducible exact q_n3 | with_reducible exact q_l1 | with_reducible exact q_l2 | with_reducible exact q_t1 | with_reducible exact q_t2 | with_reducible exact q_t3 | with_reducible exact q_t4 | with_reducible exact q_t5 | ((with_reducible show _ ≠ _); first | k_extra "P" | (refine Ne.symm ?_; k_extra "P") | (refine Nat.ne_of_lt ?_; k_extra "P") | (refine Nat.ne_of_gt ?_; k_extra "P"))
  k_with "P" => first | with_reducible assumption | with_reducible exact And.left (by with_reducible assumption) | with_reducible exact And.right (by with_reducible assumption) | with_reducible exact q_r (by with_reducible assumption) | with_reducible exact q_s (by with_reducible assumption) | with_reducible exact q_t (by with_reducible assumption) | with_reducible exact q_u (by with_reducible assumption)
  k_with "D" => ((try simp +zetaDelta only [depth_in1, depth_deeper]); (try dsimp only [ktrTop]); omega)
  k_with "U" => ((try simp +zetaDelta only [units_in1, units_deeper, Around.mark_units]); (try dsimp only [ktrTop]); omega)
  k_with "K5" => ((case k1 => k_asm); (case k2 => k_asm); (case k3 => k_asm); (case k4 => k_asm); (case k5 => k_asm))
  k_with "S" => first | with_reducible assumption | exact .inl rfl | exact .inr (.inl rfl) | exact .inr (.inr rfl) | exact .inr rfl | omega | k_mem | fail | (simp only [PySem.Str.length_append, KOpn.len_one]; omega) | assumption
  k_with "dr" => first | with_reducible assumption | with_reducible exact (News.tl (by with_reducible assumption)) | with_reducible exact (News.tl (News.tl (by with_reducible assumption))) | with_reducible exact (News.tl (News.tl (News.tl (by with_reducible assumption)))) | with_reducible exact (News.tl (News.tl (News.tl (News.tl (by with_reducible assumption))))) | with_reducible exact (News.tl (News.tl (News.tl (News.tl (News.tl (by with_reducible assumption)))))) | with_reducible exact (News.tl (News.tl (News.tl (News.tl (News.tl (News.tl (by with_reducible assumption))))))) | with_reducible exact News.apl (by with_reducible assumption) | with_reducible exact News.apl (News.tl (by with_reducible assumption)) | with_reducible exact News.apl (News.tl (News.tl (by with_reducible assumption))) | with_reducible exact News.apl (News.tl (News.tl (News.tl (by with_reducible assumption)))) | with_reducible exact News.apl (News.tl (News.tl (News.tl (News.tl (by with_reducible assumption)))))
  k_with "m:eval Call" => (k_here; k_dflt (first | ((with_reducible show wpAny _ _ (eval (.Call (.Name (Str.ofString "len") _) [.Name _ _] [] _) _) _ _ _); refine len_nm (q := ?_)) | ((with_reducible show wpAny _ _ (eval (.Call (.Name (Str.ofString "len") _) [_] [] _) _) _ _ _); refine callLen (h := ?_)) | ((with_reducible show wpAny _ _ (eval (.Call (.Name (Str.ofString "str") _) [_] [] _) _) _ _ _); refine callStr (h := ?_)) | ((with_reducible show wpAny _ _ (eval (.Call (.Name _ _) [_] [] _) _) _ _ _); refine callK1 (h := ?_)) | ((with_reducible show wpAny _ _ (eval (.Call (.Name _ _) [_, _] [] _) _) _ _ _); refine callK2 (h := ?_)) | ((with_reducible show wpAny _ _ (eval (.Call (.Name _ _) [_, _, _] [] _) _) _ _ _); refine callK3 (h := ?_))); k_whole)
  k_with "m:eval Constant int" => (k_here; k_dflt (refine cInt ?_); k_whole)
  k_with "m:eval Constant str" => (k_here; k_dflt (refine cStr ?_); k_whole)
  k_with "m:storeName" => (k_here; k_dflt (refine storeS (q := ?_)); k_whole; intro h' F' N'; (try k_sweep))
  k_with "m:binaryOp Add int int" => (k_here; k_dflt (refine addS ?_); k_whole)
  k_with "m:binaryOp Sub int int" => (k_here; k_dflt (refine subS ?_); k_whole)
  k_with "m:call builtin:len" => (k_here; (with_reducible show wpAny _ _ (call _ [.str _ _]) _ _ _); k_dflt (refine lenS (q := ?_)); k_whole)
  k_with "m:newList" => (k_here; k_dflt (refine lstS (q := ?_) (by first | exact Nat.le_of_ble_eq_true rfl | size_fits)); k_whole; intro l' h' F' N' l1; (try k_lt l1); (try k_sweep))
  k_with "m:execs cons" => (k_here; k_dflt (first | ((with_reducible show wpAny _ _ (execs (.Assign [.Name _ _] _ _ :: _) _) _ _ _); refine sAsg ?_ (Eq.refl true)) | ((with_reducible show wpAny _ _ (execs (.Return (some _) _ :: _) _) _ _ _); refine sRet ?_) | ((with_reducible show wpAny _ _ (execs (.If _ [.Return (some _) _] [] _ :: _) _) _ _ _); refine sIfR ?_) | ((with_reducible show wpAny _ _ (execs (.If _ _ [] _ :: _) _) _ _ _); refine sIf1 ?_)); k_whole)
  k_with "m:eval Tuple" => (k_here; first | ((with_reducible show wpAny _ _ (eval (.Tuple [.Constant (.str _) _ _, .Constant (.str _) _ _] _ _) _) _ _ _); k_dflt (refine tupSS (q := ?_)); k_whole; intro D' h' F' N' l1; (try k_lt l1)) | ((with_reducible show wpAny _ _ (eval (.Tuple [_, _] _ _) _) _ _ _); k_dflt (refine tup2 ?_ (Eq.refl true) (Eq.refl true)); k_whole))
  k_with "m:eval List" => (k_here; k_dflt (first | ((with_reducible show wpAny _ _ (eval (.List [_] _) _) _ _ _); refine lst1 ?_ (Eq.refl true)) | ((with_reducible show wpAny _ _ (eval (.List [_, _] _) _) _ _ _); refine lst2 ?_ (Eq.refl true) (Eq.refl true)) | ((with_reducible show wpAny _ _ (eval (.List [_, _, _] _) _) _ _ _); refine lst3 ?_ (Eq.refl true) (Eq.refl true) (Eq.refl true)) | ((with_reducible show wpAny _ _ (eval (.List [_, _, _, _] _) _) _ _ _); refine lst4 ?_ (Eq.refl true) (Eq.refl true) (Eq.refl true) (Eq.refl true))); k_whole)
  k_with "m:eval BinOp" => (k_here; k_dflt (first | ((with_reducible show wpAny _ _ (eval (.BinOp (.Name _ _) _ (.Name _ _) _) _) _ _ _); refine bNN (q := ?_)) | ((with_reducible show wpAny _ _ (eval (.BinOp (.Name _ _) _ (.Constant (.int _) _ _) _) _) _ _ _); refine bNC (q := ?_)) | ((with_reducible show wpAny _ _ (eval (.BinOp (.Name _ _) _ _ _) _) _ _ _); refine bN (q := ?_))); k_whole)
  k_with "m:isTrue Compare" => (k_here; k_dflt (first | ((with_reducible show wpAny _ _ (isTrue (.Compare (.Name _ _) [_] [(.Name _ _)] _) _ _) _ _ _); refine cNN (q := ?_)) | ((with_reducible show wpAny _ _ (isTrue (.Compare (.Name _ _) [_] [(.Constant (.int _) _ _)] _) _ _) _ _ _); refine cNC (q := ?_)) | ((with_reducible show wpAny _ _ (isTrue (.Compare (.Name _ _) [_] [_] _) _ _) _ _ _); refine cN (q := ?_))); k_whole)
  k_with "m:eval Subscript" => (k_here; k_dflt (first | ((with_reducible show wpAny _ _ (eval (.Subscript (.Name _ _) (.Name _ _) _) _) _ _ _); refine gNN (q := ?_)) | ((with_reducible show wpAny _ _ (eval (.Subscript (.Name _ _) (.Constant (.int _) _ _) _) _) _ _ _); refine gNC (q := ?_)) | ((with_reducible show wpAny _ _ (eval (.Subscript (.Name _ _) _ _) _) _ _ _); refine gN (q := ?_))); k_whole)
  trivial
open PySem.Challenge
set_option maxRecDepth 100000
set_option maxHeartbeats 4000000
theorem kw_L9_1 : True := by
  k_with "m:call ref" => (k_here; (with_reducible show wpAny _ _ (call (Value.ref 136) _) _ _ _); k_dflt (refine' folded_c ?hc0 _ _ _ _ _ _ _ _ _ _ _ _ _ _ _ _ _ ?k1 ?k2 ?k3 ?k4 ?k5 ?kK ?kd ?ku ?_); k_extra "K5"; (case kK => first | exact rfl | assumption); (case hc0 => k_extra "S"); (case kd => (k_extra "D")); (case ku => (k_extra "U")); intro t9 h9 tk9 F9 N9; (try dsimp only); (skip); (all_goals (try k_fold)))
  trivial
noncomputable def cmpF (a b : Str) : Int := if foldF a = foldF b then 0 else if (foldF a).cps.toList < (foldF b).cps.toList then -1 else 1
theorem compare_c {w mean mg mb} {news : List (Addr × Obj)} {a b : Str} {t u v : Tok} (ha : a.length ≤ 1000) (hb : b.length ≤ 1000) : Cb 4 w mean mg mb 150 news [.str a t, .str b u, .bool true, .int (-1) v] (fun t => .int (cmpF a b) t) := by
  ((try unfold Cb); unfold CbG; k_fill; (try dsimp only [RetV, RetT]); intros; rename_i hret; refine wpAny_call ?_; k_dflt cell_enter; (refine letA ?_); (intro kA); (rename Fr _ _ _ _ => sF); (first | replace sF : Fr _ _ _ (fun y => List.lookup y [(Str.ofString "length", _), (Str.ofString "is_nocase", _), (Str.ofString "b", _), (Str.ofString "a", _)]) := sF | replace sF : Fr _ _ _ (fun y => List.lookup y [(Str.ofString "a", _), (Str.ofString "b", _), (Str.ofString "is_nocase", _), (Str.ofString "length", _)]) := sF); (generalize Shared.toks _ + List.length _ = tk0); k_steps)
  all_goals (refine cb_retI hret ?_ (by k_asm) (by k_extra "dr"))
  all_goals (simp_all [cmpF])
theorem kw_L9_2 : True := by
  k_with "m:call ref" => (k_here; (with_reducible show wpAny _ _ (call (Value.ref 150) _) _ _ _); k_dflt (refine' compare_c ?hc0 ?hc1 _ _ _ _ _ _ _ _ _ _ _ _ _ _ _ _ _ ?k1 ?k2 ?k3 ?k4 ?k5 ?kK ?kd ?ku ?_); k_extra "K5"; (case kK => first | exact rfl | assumption); (case hc0 => k_extra "S"); (case hc1 => k_extra "S"); (case kd => (k_extra "D")); (case ku => (k_extra "U")); intro t9 h9 tk9 F9 N9; (try dsimp only); (skip); (all_goals (try k_fold)))
  k_with "m:call ref" => (k_here; (with_reducible show wpAny _ _ (call (Value.ref 213) _) _ _ _); k_dflt (refine wpAny_call ?_); k_dflt (refine' code_def ?k1 ?k2 ?k3 ?k4 ?k5 ?kA ?kF ?kK ?k6 ?k7 ?k8 ?k9 ?kB ?_ ?c2 ?c3 ?c4 ?c5; (case kA => exact rfl); (case kF => exact rfl); (case kK => first | exact rfl | assumption); k_extra "K5"; (case k6 => k_is); (case k7 => k_is); (case k8 => ktr_room); (case k9 => exact BindsTo.of_eq rfl); (case c5 => decide); (case kB => exact locs rfl); (case c2 => exact rfl); (case c3 => exact rfl); (case c4 => exact rfl); k_whole; intro g9 L9 h9 FG9 F9 N9 B9 X9 T9; (try dsimp only); (try k_lift B9); (try k_fold)))
  k_with "m:subscriptTail Name Constant ref int" => (k_here; (with_reducible show wpAny _ _ (subscriptTail _ _ (Value.ref _) (Value.int _ _)) _ _ _); (refine item_lst (by is_list) (by decide) (by decide) (by first | exact (rfl : _ = some (Value.str _ _)) | exact (rfl : _ = some (Value.int _ _)) | exact (rfl : _ = some (Value.ref _)) | exact rfl) ?_))
  k_with "m:call builtin:len" => (k_here; (with_reducible show wpAny _ _ (call (Value.builtin "len") [Value.ref _]) _ _ _); k_dflt (refine' kun_lenL ?k1 ?k2 ?k3 ?_; (case k1 => is_list); (case k2 => kun_count); (case k3 => decide); k_whole))
  trivial
theorem stand_c {w mean mg mb} {news : List (Addr × Obj)} {a b : Str} {t u t1 t2 t3 : Tok} {ws : Addr} {n : Nat} {us : Str} {tu : Tok}
    (hl : (ws, ({ cls := .type "list", data := .seq #[.str (Str.ofString "string") t1, .str (Str.ofString "equal") t2, .str (Str.ofString "-nocase") t3, .str a t, .str b u] n } : Obj)) ∈ news) (ha : a.length ≤ 1000) (hb : b.length ≤ 1000) : Cb 8 w mean mg mb 227 news [.ref ws, .str us tu] (fun t => .int (cmpF a b) t) := by
  ((try unfold Cb); (try unfold CbE); (try unfold CbG); (try unfold CbH); k_fill; (try dsimp only [RetV, RetT]); intros; rename_i s0 Q0 E0 B0 F0 X0 N0 T0 hk0 hd0 hu0 hret; refine wpAny_call ?_; k_dflt (refine' code_defP (mu := []) ?k1 ?k2 ?k3 ?k4 ?k5 ?kA ?kF ?kK ?k6 ?k7 ?k8 ?k9 ?kB ?_ ?c2 ?c3 ?c4 ?c5; (case kA => exact rfl); (case kF => exact rfl); (case kK => first | exact rfl | assumption); (case k1 => k_asm); (case k2 => k_asm); (case k4 => exact News.nil); (case k3 => k_asm); (case k5 => k_asm); (case k6 => k_is); (case k7 => k_is); (case k8 => ktr_room); (case k9 => exact BindsTo.of_eq rfl); (case c5 => decide); (case kB => exact locs rfl); (case c2 => exact rfl); (case c3 => exact rfl); (case c4 => exact rfl); k_whole; intro g' L' h' HG0 FG' F' N' B' X' T'; (try dsimp only); (try k_lift B'); (try k_fold)); (replace F' : Fr g' L' h' (fun y => List.lookup y [(Str.ofString "usage", _), (Str.ofString "words", _)]) := F'); (generalize Shared.toks _ + List.length _ = tk0))
  have hlG := listG N0 HG0 hl
  k_steps
  all_goals first | ((refine cb_retI hret ?_ (by k_asm) (by exact newsKeep N0 HG0 (by k_asm))); rfl)
theorem kw_L9_3 : True := by
  k_with "m:call ref" => (k_here; (with_reducible show wpAny _ _ (call (Value.ref 227) _) _ _ _); k_dflt (refine' stand_c ?hc0 ?hc1 ?hc2 _ _ _ _ _ _ _ _ _ _ _ _ _ _ _ _ _ ?k1 ?k2 ?k3 ?k4 ?k5 ?kK ?kd ?ku ?_); k_extra "K5"; (case kK => first | exact rfl | assumption); (case hc0 => k_extra "S"); (case hc1 => k_extra "S"); (case hc2 => k_extra "S"); (case kd => (k_extra "D")); (case ku => (k_extra "U")); intro t9 h9 tk9 F9 N9; (try dsimp only); (skip); (all_goals (try k_fold)))
  k_with "m:call ref" => (k_here; (with_reducible show wpAny _ _ (call (Value.ref 108) _) _ _ _); k_dflt (refine' text_of_c  _ _ _ _ _ _ _ _ _ _ _ _ _ _ _ _ _ ?k1 ?k2 ?k3 ?k4 ?k5 ?kK ?kd ?ku ?_); k_extra "K5"; (case kK => first | exact rfl | assumption); (case kd => (k_extra "D")); (case ku => (k_extra "U")); intro t9 h9 tk9 F9 N9; (try dsimp only); (skip); (all_goals (try k_fold)))
  trivial
theorem string_equal_c {w mean mg mb} {news : List (Addr × Obj)} {a b : Str} {t u t1 t2 t3 : Tok} {ws : Addr} {n : Nat}
    (hl : (ws, ({ cls := .type "list", data := .seq #[.str (Str.ofString "string") t1, .str (Str.ofString "equal") t2, .str (Str.ofString "-nocase") t3, .str a t, .str b u] n } : Obj)) ∈ news) (ha : a.length ≤ 1000) (hb : b.length ≤ 1000) : Cb 10 w mean mg mb 234 news [.none, .ref ws] (fun t => .str (if cmpF a b = 0 then Str.ofString "1" else Str.ofString "0") t) := by
  ((try unfold Cb); unfold CbG; k_fill; (try dsimp only [RetV, RetT]); intros; rename_i hret; refine wpAny_call ?_; k_dflt cell_enter; (refine letA ?_); (intro kA); (rename Fr _ _ _ _ => sF); (first | replace sF : Fr _ _ _ (fun y => List.lookup y [(Str.ofString "words", _), (Str.ofString "host", _)]) := sF | replace sF : Fr _ _ _ (fun y => List.lookup y [(Str.ofString "host", _), (Str.ofString "words", _)]) := sF); (generalize Shared.toks _ + List.length _ = tk0); k_steps)
  all_goals first | ((refine cb_retS hret ?_ (by k_asm) (by k_extra "dr")); first | rfl | simp only [*] | simp [*])
end

section
-- W0
open PySem PySem.W PyProof.Rows
open PySem.Challenge
set_option maxRecDepth 100000
set_option maxHeartbeats 4000000
theorem FunE.with {d : Nat} {w : World} {mean mg mb fa ws o f f' bad bad'} (h : FunE d w mean mg mb fa ws o f bad) (e : f = f') (e' : bad = bad') : FunE d w mean mg mb fa ws o f' bad' := by subst e; subst e'; exact h
theorem heard_low0 {w mean mg mb} {news : List (Addr × Obj)} {ws : Addr} {n : Nat} {v0 : Value} {c : Str} {t t1 : Tok} (hl : (ws, ({ cls := .type "list", data := .seq #[v0, .str sLow t1, .str c t] n } : Obj)) ∈ news) (h : OkT c) :
    CbH 160 w mean mg mb 346 news [.ref ws] (RetN news fun t t' => [.str (Str.ofString "gave") t, .str (casedF sLow c 0 (c.length - 1)) t']) :=
  heard_good_c hl (fun _ hm => call_269_c hm rfl (FunE.with (fun _ hm => CbE.of (tolower0_c hm h.len) (Nat.le_refl _)) (by rw [low_cased h (Int.le_refl 0)]) rfl)) rfl
theorem again_low0 {w mean mg mb} {news : List (Addr × Obj)} {ws : Addr} {n : Nat} {v0 : Value} {c : Str} {t t1 : Tok} (hl : (ws, ({ cls := .type "list", data := .seq #[v0, .str sLow t1, .str (casedF sLow c 0 (c.length - 1)) t] n } : Obj)) ∈ news) (h : OkT c) :
    CbH 160 w mean mg mb 346 news [.ref ws] (RetN news fun t t' => [.str (Str.ofString "gave") t, .str (casedF sLow c 0 (c.length - 1)) t']) :=
  heard_good_c hl (fun _ hm => call_269_c hm rfl (FunE.with (fun _ hm => CbE.of (tolower0_c hm (Nat.le_trans (Nat.le_of_eq (cased_len _ _ _ _)) h.len)) (Nat.le_refl _)) (by rw [cased_len]; exact low_again h (Int.le_refl 0)) rfl)) rfl
theorem heard_low1 {w mean mg mb} {news : List (Addr × Obj)} {ws : Addr} {n : Nat} {v0 : Value} {c : Str} {t t1 : Tok} {i : Str} {ti : Tok} {v : Int} (hl : (ws, ({ cls := .type "list", data := .seq #[v0, .str sLow t1, .str c t, .str i ti] n } : Obj)) ∈ news) (h : OkT c) (hi : i.length ≤ 100) (hv : idxF i (c.length - 1) = some v) :
    CbH 160 w mean mg mb 346 news [.ref ws] (RetN news fun t t' => [.str (Str.ofString "gave") t, .str (casedF sLow c (max0 v) (max0 v)) t']) :=
  heard_good_c hl (fun _ hm => call_269_c hm rfl (FunE.with (fun _ hm => tolower1_c hm h.len hi) (by rw [hv]; exact low_cased h (max0_nn v)) (idx_good hv))) rfl
theorem again_low1 {w mean mg mb} {news : List (Addr × Obj)} {ws : Addr} {n : Nat} {v0 : Value} {c : Str} {t t1 : Tok} {i : Str} {ti : Tok} {v : Int} (hl : (ws, ({ cls := .type "list", data := .seq #[v0, .str sLow t1, .str (casedF sLow c (max0 v) (max0 v)) t, .str i ti] n } : Obj)) ∈ news) (h : OkT c) (hi : i.length ≤ 100) (hv : idxF i (c.length - 1) = some v) :
    CbH 160 w mean mg mb 346 news [.ref ws] (RetN news fun t t' => [.str (Str.ofString "gave") t, .str (casedF sLow c (max0 v) (max0 v)) t']) :=
  heard_good_c hl (fun _ hm => call_269_c hm rfl (FunE.with (fun _ hm => tolower1_c hm (Nat.le_trans (Nat.le_of_eq (cased_len _ _ _ _)) h.len) hi) (by rw [cased_len, hv]; exact low_again h (max0_nn v)) (by rw [cased_len]; exact idx_good hv))) rfl
theorem bad_low1 {w mean mg mb} {news : List (Addr × Obj)} {ws : Addr} {n : Nat} {v0 : Value} {c : Str} {t t1 : Tok} {i : Str} {ti : Tok} {msg : Str} {ecs : List Str} (hl : (ws, ({ cls := .type "list", data := .seq #[v0, .str sLow t1, .str c t, .str i ti] n } : Obj)) ∈ news) (hc : c.length ≤ 100) (hi : i.length ≤ 100) (hb : idxBad i (c.length - 1) = some (msg, ecs)) :
    CbT 160 w mean mg mb 346 news [.ref ws] (RetB news msg ecs) :=
  heard_bad_c hl (fun _ hm => call_269_c hm rfl (fun _ hm => tolower1_c hm hc hi)) hb
theorem heard_low2 {w mean mg mb} {news : List (Addr × Obj)} {ws : Addr} {n : Nat} {v0 : Value} {c : Str} {t t1 : Tok} {i j : Str} {ti tj : Tok} {v v2 : Int} (hl : (ws, ({ cls := .type "list", data := .seq #[v0, .str sLow t1, .str c t, .str i ti, .str j tj] n } : Obj)) ∈ news) (h : OkT c) (hi : i.length ≤ 100) (hj : j.length ≤ 100) (hv : idxF i (c.length - 1) = some v) (hv2 : idxF j (c.length - 1) = some v2) :
    CbH 160 w mean mg mb 346 news [.ref ws] (RetN news fun t t' => [.str (Str.ofString "gave") t, .str (casedF sLow c (max0 v) v2) t']) :=
  heard_good_c hl (fun _ hm => call_269_c hm rfl (FunE.with (fun _ hm => tolower2_c hm h.len hi hj) (by rw [hv, hv2]; exact low_cased h (max0_nn v)) (bad2_n (idx_good hv) (idx_good hv2)))) rfl
theorem again_low2 {w mean mg mb} {news : List (Addr × Obj)} {ws : Addr} {n : Nat} {v0 : Value} {c : Str} {t t1 : Tok} {i j : Str} {ti tj : Tok} {v v2 : Int} (hl : (ws, ({ cls := .type "list", data := .seq #[v0, .str sLow t1, .str (casedF sLow c (max0 v) v2) t, .str i ti, .str j tj] n } : Obj)) ∈ news) (h : OkT c) (hi : i.length ≤ 100) (hj : j.length ≤ 100) (hv : idxF i (c.length - 1) = some v) (hv2 : idxF j (c.length - 1) = some v2) :
    CbH 160 w mean mg mb 346 news [.ref ws] (RetN news fun t t' => [.str (Str.ofString "gave") t, .str (casedF sLow c (max0 v) v2) t']) :=
  heard_good_c hl (fun _ hm => call_269_c hm rfl (FunE.with (fun _ hm => tolower2_c hm (Nat.le_trans (Nat.le_of_eq (cased_len _ _ _ _)) h.len) hi hj) (by rw [cased_len, hv, hv2]; exact low_again h (max0_nn v)) (by rw [cased_len]; exact bad2_n (idx_good hv) (idx_good hv2)))) rfl
theorem bad_low2 {w mean mg mb} {news : List (Addr × Obj)} {ws : Addr} {n : Nat} {v0 : Value} {c : Str} {t t1 : Tok} {i j : Str} {ti tj : Tok} {msg : Str} {ecs : List Str} (hl : (ws, ({ cls := .type "list", data := .seq #[v0, .str sLow t1, .str c t, .str i ti, .str j tj] n } : Obj)) ∈ news) (hc : c.length ≤ 100) (hi : i.length ≤ 100) (hj : j.length ≤ 100) (hb : bad2 (idxBad i (c.length - 1)) (idxBad j (c.length - 1)) = some (msg, ecs)) :
    CbT 160 w mean mg mb 346 news [.ref ws] (RetB news msg ecs) :=
  heard_bad_c hl (fun _ hm => call_269_c hm rfl (fun _ hm => tolower2_c hm hc hi hj)) hb
theorem heard_up0 {w mean mg mb} {news : List (Addr × Obj)} {ws : Addr} {n : Nat} {v0 : Value} {c : Str} {t t1 : Tok} (hl : (ws, ({ cls := .type "list", data := .seq #[v0, .str sUp t1, .str c t] n } : Obj)) ∈ news) (h : OkT c) :
    CbH 160 w mean mg mb 346 news [.ref ws] (RetN news fun t t' => [.str (Str.ofString "gave") t, .str (casedF sUp c 0 (c.length - 1)) t']) :=
  heard_good_c hl (fun _ hm => call_283_c hm rfl (FunE.with (fun _ hm => CbE.of (toupper0_c hm h.len) (Nat.le_refl _)) (by rw [up_cased h (Int.le_refl 0)]) rfl)) rfl
theorem again_up0 {w mean mg mb} {news : List (Addr × Obj)} {ws : Addr} {n : Nat} {v0 : Value} {c : Str} {t t1 : Tok} (hl : (ws, ({ cls := .type "list", data := .seq #[v0, .str sUp t1, .str (casedF sUp c 0 (c.length - 1)) t] n } : Obj)) ∈ news) (h : OkT c) :
    CbH 160 w mean mg mb 346 news [.ref ws] (RetN news fun t t' => [.str (Str.ofString "gave") t, .str (casedF sUp c 0 (c.length - 1)) t']) :=
  heard_good_c hl (fun _ hm => call_283_c hm rfl (FunE.with (fun _ hm => CbE.of (toupper0_c hm (Nat.le_trans (Nat.le_of_eq (cased_len _ _ _ _)) h.len)) (Nat.le_refl _)) (by rw [cased_len]; exact up_again h (Int.le_refl 0)) rfl)) rfl
theorem heard_up1 {w mean mg mb} {news : List (Addr × Obj)} {ws : Addr} {n : Nat} {v0 : Value} {c : Str} {t t1 : Tok} {i : Str} {ti : Tok} {v : Int} (hl : (ws, ({ cls := .type "list", data := .seq #[v0, .str sUp t1, .str c t, .str i ti] n } : Obj)) ∈ news) (h : OkT c) (hi : i.length ≤ 100) (hv : idxF i (c.length - 1) = some v) :
    CbH 160 w mean mg mb 346 news [.ref ws] (RetN news fun t t' => [.str (Str.ofString "gave") t, .str (casedF sUp c (max0 v) (max0 v)) t']) :=
  heard_good_c hl (fun _ hm => call_283_c hm rfl (FunE.with (fun _ hm => toupper1_c hm h.len hi) (by rw [hv]; exact up_cased h (max0_nn v)) (idx_good hv))) rfl
theorem again_up1 {w mean mg mb} {news : List (Addr × Obj)} {ws : Addr} {n : Nat} {v0 : Value} {c : Str} {t t1 : Tok} {i : Str} {ti : Tok} {v : Int} (hl : (ws, ({ cls := .type "list", data := .seq #[v0, .str sUp t1, .str (casedF sUp c (max0 v) (max0 v)) t, .str i ti] n } : Obj)) ∈ news) (h : OkT c) (hi : i.length ≤ 100) (hv : idxF i (c.length - 1) = some v) :
    CbH 160 w mean mg mb 346 news [.ref ws] (RetN news fun t t' => [.str (Str.ofString "gave") t, .str (casedF sUp c (max0 v) (max0 v)) t']) :=
  heard_good_c hl (fun _ hm => call_283_c hm rfl (FunE.with (fun _ hm => toupper1_c hm (Nat.le_trans (Nat.le_of_eq (cased_len _ _ _ _)) h.len) hi) (by rw [cased_len, hv]; exact up_again h (max0_nn v)) (by rw [cased_len]; exact idx_good hv))) rfl
theorem bad_up1 {w mean mg mb} {news : List (Addr × Obj)} {ws : Addr} {n : Nat} {v0 : Value} {c : Str} {t t1 : Tok} {i : Str} {ti : Tok} {msg : Str} {ecs : List Str} (hl : (ws, ({ cls := .type "list", data := .seq #[v0, .str sUp t1, .str c t, .str i ti] n } : Obj)) ∈ news) (hc : c.length ≤ 100) (hi : i.length ≤ 100) (hb : idxBad i (c.length - 1) = some (msg, ecs)) :
    CbT 160 w mean mg mb 346 news [.ref ws] (RetB news msg ecs) :=
  heard_bad_c hl (fun _ hm => call_283_c hm rfl (fun _ hm => toupper1_c hm hc hi)) hb
theorem heard_up2 {w mean mg mb} {news : List (Addr × Obj)} {ws : Addr} {n : Nat} {v0 : Value} {c : Str} {t t1 : Tok} {i j : Str} {ti tj : Tok} {v v2 : Int} (hl : (ws, ({ cls := .type "list", data := .seq #[v0, .str sUp t1, .str c t, .str i ti, .str j tj] n } : Obj)) ∈ news) (h : OkT c) (hi : i.length ≤ 100) (hj : j.length ≤ 100) (hv : idxF i (c.length - 1) = some v) (hv2 : idxF j (c.length - 1) = some v2) :
    CbH 160 w mean mg mb 346 news [.ref ws] (RetN news fun t t' => [.str (Str.ofString "gave") t, .str (casedF sUp c (max0 v) v2) t']) :=
  heard_good_c hl (fun _ hm => call_283_c hm rfl (FunE.with (fun _ hm => toupper2_c hm h.len hi hj) (by rw [hv, hv2]; exact up_cased h (max0_nn v)) (bad2_n (idx_good hv) (idx_good hv2)))) rfl
theorem again_up2 {w mean mg mb} {news : List (Addr × Obj)} {ws : Addr} {n : Nat} {v0 : Value} {c : Str} {t t1 : Tok} {i j : Str} {ti tj : Tok} {v v2 : Int} (hl : (ws, ({ cls := .type "list", data := .seq #[v0, .str sUp t1, .str (casedF sUp c (max0 v) v2) t, .str i ti, .str j tj] n } : Obj)) ∈ news) (h : OkT c) (hi : i.length ≤ 100) (hj : j.length ≤ 100) (hv : idxF i (c.length - 1) = some v) (hv2 : idxF j (c.length - 1) = some v2) :
    CbH 160 w mean mg mb 346 news [.ref ws] (RetN news fun t t' => [.str (Str.ofString "gave") t, .str (casedF sUp c (max0 v) v2) t']) :=
  heard_good_c hl (fun _ hm => call_283_c hm rfl (FunE.with (fun _ hm => toupper2_c hm (Nat.le_trans (Nat.le_of_eq (cased_len _ _ _ _)) h.len) hi hj) (by rw [cased_len, hv, hv2]; exact up_again h (max0_nn v)) (by rw [cased_len]; exact bad2_n (idx_good hv) (idx_good hv2)))) rfl
theorem bad_up2 {w mean mg mb} {news : List (Addr × Obj)} {ws : Addr} {n : Nat} {v0 : Value} {c : Str} {t t1 : Tok} {i j : Str} {ti tj : Tok} {msg : Str} {ecs : List Str} (hl : (ws, ({ cls := .type "list", data := .seq #[v0, .str sUp t1, .str c t, .str i ti, .str j tj] n } : Obj)) ∈ news) (hc : c.length ≤ 100) (hi : i.length ≤ 100) (hj : j.length ≤ 100) (hb : bad2 (idxBad i (c.length - 1)) (idxBad j (c.length - 1)) = some (msg, ecs)) :
    CbT 160 w mean mg mb 346 news [.ref ws] (RetB news msg ecs) :=
  heard_bad_c hl (fun _ hm => call_283_c hm rfl (fun _ hm => toupper2_c hm hc hi hj)) hb
theorem heard_ti0 {w mean mg mb} {news : List (Addr × Obj)} {ws : Addr} {n : Nat} {v0 : Value} {c : Str} {t t1 : Tok} (hl : (ws, ({ cls := .type "list", data := .seq #[v0, .str sTi t1, .str c t] n } : Obj)) ∈ news) (h : OkT c) :
    CbH 160 w mean mg mb 346 news [.ref ws] (RetN news fun t t' => [.str (Str.ofString "gave") t, .str (casedF sTi c 0 (c.length - 1)) t']) :=
  heard_good_c hl (fun _ hm => call_276_c hm rfl (FunE.with (fun _ hm => CbE.of (totitle0_c hm h.len) (Nat.le_refl _)) (by rw [ti_cased h (Int.le_refl 0)]) rfl)) rfl
theorem heard_ti1 {w mean mg mb} {news : List (Addr × Obj)} {ws : Addr} {n : Nat} {v0 : Value} {c : Str} {t t1 : Tok} {i : Str} {ti : Tok} {v : Int} (hl : (ws, ({ cls := .type "list", data := .seq #[v0, .str sTi t1, .str c t, .str i ti] n } : Obj)) ∈ news) (h : OkT c) (hi : i.length ≤ 100) (hv : idxF i (c.length - 1) = some v) :
    CbH 160 w mean mg mb 346 news [.ref ws] (RetN news fun t t' => [.str (Str.ofString "gave") t, .str (casedF sTi c (max0 v) (max0 v)) t']) :=
  heard_good_c hl (fun _ hm => call_276_c hm rfl (FunE.with (fun _ hm => totitle1_c hm h.len hi) (by rw [hv]; exact ti_cased h (max0_nn v)) (idx_good hv))) rfl
theorem bad_ti1 {w mean mg mb} {news : List (Addr × Obj)} {ws : Addr} {n : Nat} {v0 : Value} {c : Str} {t t1 : Tok} {i : Str} {ti : Tok} {msg : Str} {ecs : List Str} (hl : (ws, ({ cls := .type "list", data := .seq #[v0, .str sTi t1, .str c t, .str i ti] n } : Obj)) ∈ news) (hc : c.length ≤ 100) (hi : i.length ≤ 100) (hb : idxBad i (c.length - 1) = some (msg, ecs)) :
    CbT 160 w mean mg mb 346 news [.ref ws] (RetB news msg ecs) :=
  heard_bad_c hl (fun _ hm => call_276_c hm rfl (fun _ hm => totitle1_c hm hc hi)) hb
theorem heard_ti2 {w mean mg mb} {news : List (Addr × Obj)} {ws : Addr} {n : Nat} {v0 : Value} {c : Str} {t t1 : Tok} {i j : Str} {ti tj : Tok} {v v2 : Int} (hl : (ws, ({ cls := .type "list", data := .seq #[v0, .str sTi t1, .str c t, .str i ti, .str j tj] n } : Obj)) ∈ news) (h : OkT c) (hi : i.length ≤ 100) (hj : j.length ≤ 100) (hv : idxF i (c.length - 1) = some v) (hv2 : idxF j (c.length - 1) = some v2) :
    CbH 160 w mean mg mb 346 news [.ref ws] (RetN news fun t t' => [.str (Str.ofString "gave") t, .str (casedF sTi c (max0 v) v2) t']) :=
  heard_good_c hl (fun _ hm => call_276_c hm rfl (FunE.with (fun _ hm => totitle2_c hm h.len hi hj) (by rw [hv, hv2]; exact ti_cased h (max0_nn v)) (bad2_n (idx_good hv) (idx_good hv2)))) rfl
theorem bad_ti2 {w mean mg mb} {news : List (Addr × Obj)} {ws : Addr} {n : Nat} {v0 : Value} {c : Str} {t t1 : Tok} {i j : Str} {ti tj : Tok} {msg : Str} {ecs : List Str} (hl : (ws, ({ cls := .type "list", data := .seq #[v0, .str sTi t1, .str c t, .str i ti, .str j tj] n } : Obj)) ∈ news) (hc : c.length ≤ 100) (hi : i.length ≤ 100) (hj : j.length ≤ 100) (hb : bad2 (idxBad i (c.length - 1)) (idxBad j (c.length - 1)) = some (msg, ecs)) :
    CbT 160 w mean mg mb 346 news [.ref ws] (RetB news msg ecs) :=
  heard_bad_c hl (fun _ hm => call_276_c hm rfl (fun _ hm => totitle2_c hm hc hi hj)) hb
theorem heard_same {w mean mg mb} {news : List (Addr × Obj)} {ws : Addr} {n : Nat} {cmd c : Str} {f l : Int} {t u t1 t2 t3 : Tok}
    (hl : (ws, ({ cls := .type "list", data := .seq #[.str (Str.ofString "string") t1, .str (Str.ofString "equal") t2, .str (Str.ofString "-nocase") t3, .str c t, .str (casedF cmd c f l) u] n } : Obj)) ∈ news) (h : OkT c) :
    CbH 160 w mean mg mb 346 news [.ref ws] (RetN news fun t t' => [.str (Str.ofString "gave") t, .str (Str.ofString "1") t']) :=
  heard_good_c hl (fun _ hm => call_234_c hm rfl (FunE.with (fun _ hm => CbE.of (string_equal_c hm (Nat.le_trans h.1 (by decide)) (by rw [cased_len]; exact Nat.le_trans h.1 (by decide))) (by decide)) (if_pos (by unfold cmpF; rw [fold_cased h, if_pos rfl])) rfl)) rfl
theorem folded_cased {w mean mg mb} {news : List (Addr × Obj)} {cmd c : Str} {f l : Int} {t : Tok} (h : OkT c) : CbH 2 w mean mg mb 136 news [.str (casedF cmd c f l) t] (RetV news fun t => .str (foldF c) t) := by
  rw [← fold_cased h cmd f l]
  intro dp un gd cn cs a ccd outer
  exact folded_c (by rw [cased_len]; exact Nat.le_trans h.1 (by decide)) dp un gd cn cs a ccd [] outer
end

section
-- Q5
open PySem PySem.W PyProof.Rows
theorem kwn_Q5 : True := by
  k_with_none
  w_top off
  trivial
theorem kwo_Q5 : True := by
  k_with "m:omega" => first | with_reducible assumption | decide | with_reducible exact Int.le_refl _ | with_reducible exact Nat.le_refl _ | with_reducible exact rm_u2 | with_reducible exact rm_d2 | with_reducible exact rm_u1 | with_reducible exact rm_d1 | with_reducible exact rm_u0 | with_reducible exact rm_d0 | with_reducible exact n_up | with_reducible exact q_o | with_reducible exact q_c1 | with_reducible exact q_c2 | with_reducible exact q_c3 | with_reducible exact q_c4 | with_reducible exact q_n1 | with_reducible exact q_n2 | with_reducible exact q_n3 | with_reducible exact q_l1 | with_reducible exact q_l2 | with_reducible exact q_t1 | with_reducible exact q_t2 | with_reducible exact q_t3 | with_reducible exact q_t4 | with_reducible exact q_t5 | ((with_reducible show _ ≠ _); first | k_extra "P" | (refine Ne.symm ?_; k_extra "P") | (refine Nat.ne_of_lt ?_; k_extra "P") | (refine Nat.ne_of_gt ?_; k_extra "P"))
  k_with "P" => first | with_reducible assumption | with_reducible exact And.left (by with_reducible assumption) | with_reducible exact And.right (by with_reducible assumption) | with_reducible exact q_r (by with_reducible assumption) | with_reducible exact q_s (by with_reducible assumption) | with_reducible exact q_t (by with_reducible assumption) | with_reducible exact q_u (by with_reducible assumption)
  k_with "D" => ((try simp +zetaDelta only [depth_in1, depth_deeper]); (try dsimp only [ktrTop]); omega)
  k_with "U" => ((try simp +zetaDelta only [units_in1, units_deeper, Around.mark_units]); (try dsimp only [ktrTop]); omega)
  k_with "K5" => ((case k1 => k_asm); (case k2 => k_asm); (case k3 => k_asm); (case k4 => k_asm); (case k5 => k_asm))
  k_with "S" => first | with_reducible assumption | exact .inl rfl | exact .inr (.inl rfl) | exact .inr (.inr rfl) | exact .inr rfl | omega | k_mem | fail | (simp only [PySem.Str.length_append, KOpn.len_one]; omega) | assumption
  k_with "dr" => first | with_reducible assumption | with_reducible exact (News.tl (by with_reducible assumption)) | with_reducible exact (News.tl (News.tl (by with_reducible assumption))) | with_reducible exact (News.tl (News.tl (News.tl (by with_reducible assumption)))) | with_reducible exact (News.tl (News.tl (News.tl (News.tl (by with_reducible assumption))))) | with_reducible exact (News.tl (News.tl (News.tl (News.tl (News.tl (by with_reducible assumption)))))) | with_reducible exact (News.tl (News.tl (News.tl (News.tl (News.tl (News.tl (by with_reducible assumption))))))) | with_reducible exact News.apl (by with_reducible assumption) | with_reducible exact News.apl (News.tl (by with_reducible assumption)) | with_reducible exact News.apl (News.tl (News.tl (by with_reducible assumption))) | with_reducible exact News.apl (News.tl (News.tl (News.tl (by with_reducible assumption)))) | with_reducible exact News.apl (News.tl (News.tl (News.tl (News.tl (by with_reducible assumption)))))
  k_with "m:eval Call" => (k_here; k_dflt (first | ((with_reducible show wpAny _ _ (eval (.Call (.Name (Str.ofString "len") _) [.Name _ _] [] _) _) _ _ _); refine len_nm (q := ?_)) | ((with_reducible show wpAny _ _ (eval (.Call (.Name (Str.ofString "len") _) [_] [] _) _) _ _ _); refine callLen (h := ?_)) | ((with_reducible show wpAny _ _ (eval (.Call (.Name (Str.ofString "str") _) [_] [] _) _) _ _ _); refine callStr (h := ?_)) | ((with_reducible show wpAny _ _ (eval (.Call (.Name _ _) [_] [] _) _) _ _ _); refine callK1 (h := ?_)) | ((with_reducible show wpAny _ _ (eval (.Call (.Name _ _) [_, _] [] _) _) _ _ _); refine callK2 (h := ?_)) | ((with_reducible show wpAny _ _ (eval (.Call (.Name _ _) [_, _, _] [] _) _) _ _ _); refine callK3 (h := ?_))); k_whole)
  k_with "m:eval Constant int" => (k_here; k_dflt (refine cInt ?_); k_whole)
  k_with "m:eval Constant str" => (k_here; k_dflt (refine cStr ?_); k_whole)
  k_with "m:storeName" => (k_here; k_dflt (refine storeS (q := ?_)); k_whole; intro h' F' N'; (try k_sweep))
  k_with "m:binaryOp Add int int" => (k_here; k_dflt (refine addS ?_); k_whole)
  k_with "m:binaryOp Sub int int" => (k_here; k_dflt (refine subS ?_); k_whole)
  k_with "m:call builtin:len" => (k_here; (with_reducible show wpAny _ _ (call _ [.str _ _]) _ _ _); k_dflt (refine lenS (q := ?_)); k_whole)
  k_with "m:newList" => (k_here; k_dflt (refine lstS (q := ?_) (by first | exact Nat.le_of_ble_eq_true rfl | size_fits)); k_whole; intro l' h' F' N' l1; (try k_lt l1); (try k_sweep))
  k_with "m:execs cons" => (k_here; k_dflt (first | ((with_reducible show wpAny _ _ (execs (.Assign [.Name _ _] _ _ :: _) _) _ _ _); refine sAsg ?_ (Eq.refl true)) | ((with_reducible show wpAny _ _ (execs (.Return (some _) _ :: _) _) _ _ _); refine sRet ?_) | ((with_reducible show wpAny _ _ (execs (.If _ [.Return (some _) _] [] _ :: _) _) _ _ _); refine sIfR ?_) | ((with_reducible show wpAny _ _ (execs (.If _ _ [] _ :: _) _) _ _ _); refine sIf1 ?_)); k_whole)
  k_with "m:eval Tuple" => (k_here; first | ((with_reducible show wpAny _ _ (eval (.Tuple [.Constant (.str _) _ _, .Constant (.str _) _ _] _ _) _) _ _ _); k_dflt (refine tupSS (q := ?_)); k_whole; intro D' h' F' N' l1; (try k_lt l1)) | ((with_reducible show wpAny _ _ (eval (.Tuple [_, _] _ _) _) _ _ _); k_dflt (refine tup2 ?_ (Eq.refl true) (Eq.refl true)); k_whole))
  k_with "m:eval List" => (k_here; k_dflt (first | ((with_reducible show wpAny _ _ (eval (.List [_] _) _) _ _ _); refine lst1 ?_ (Eq.refl true)) | ((with_reducible show wpAny _ _ (eval (.List [_, _] _) _) _ _ _); refine lst2 ?_ (Eq.refl true) (Eq.refl true)) | ((with_reducible show wpAny _ _ (eval (.List [_, _, _] _) _) _ _ _); refine lst3 ?_ (Eq.refl true) (Eq.refl true) (Eq.refl true)) | ((with_reducible show wpAny _ _ (eval (.List [_, _, _, _] _) _) _ _ _); refine lst4 ?_ (Eq.refl true) (Eq.refl true) (Eq.refl true) (Eq.refl true))); k_whole)
  k_with "m:eval BinOp" => (k_here; k_dflt (first | ((with_reducible show wpAny _ _ (eval (.BinOp (.Name _ _) _ (.Name _ _) _) _) _ _ _); refine bNN (q := ?_)) | ((with_reducible show wpAny _ _ (eval (.BinOp (.Name _ _) _ (.Constant (.int _) _ _) _) _) _ _ _); refine bNC (q := ?_)) | ((with_reducible show wpAny _ _ (eval (.BinOp (.Name _ _) _ _ _) _) _ _ _); refine bN (q := ?_))); k_whole)
  k_with "m:isTrue Compare" => (k_here; k_dflt (first | ((with_reducible show wpAny _ _ (isTrue (.Compare (.Name _ _) [_] [(.Name _ _)] _) _ _) _ _ _); refine cNN (q := ?_)) | ((with_reducible show wpAny _ _ (isTrue (.Compare (.Name _ _) [_] [(.Constant (.int _) _ _)] _) _ _) _ _ _); refine cNC (q := ?_)) | ((with_reducible show wpAny _ _ (isTrue (.Compare (.Name _ _) [_] [_] _) _ _) _ _ _); refine cN (q := ?_))); k_whole)
  k_with "m:eval Subscript" => (k_here; k_dflt (first | ((with_reducible show wpAny _ _ (eval (.Subscript (.Name _ _) (.Name _ _) _) _) _ _ _); refine gNN (q := ?_)) | ((with_reducible show wpAny _ _ (eval (.Subscript (.Name _ _) (.Constant (.int _) _ _) _) _) _ _ _); refine gNC (q := ?_)) | ((with_reducible show wpAny _ _ (eval (.Subscript (.Name _ _) _ _) _) _ _ _); refine gN (q := ?_))); k_whole)
  trivial
open PySem.Challenge
set_option maxRecDepth 100000
set_option maxHeartbeats 4000000
/-- a mark: what stands in the frame at entry -/
noncomputable def M0 (_ : Str → Option Value) : Prop := True
theorem M0.of {h₀ h : Heap} {L : Addr} {m : Str → Option Value} (_ : Fr h₀ L h m) : M0 m := trivial
section
variable {M : Model} {A : Around} {env : Env} {st : Stmt} {rest : List Stmt} {Q : Flow → Shared → Prop} {E : Value → Shared → Prop} {s : Shared} {h₀ h' : Heap} {L : Addr} {m m1 : Str → Option Value} {news : List (Addr × Obj)} {tk' : Nat}
/-- first and last stored, fault forgotten -/
noncomputable def JnC (s : Shared) (h₀ : Heap) (L : Addr) (m : Str → Option Value) (news : List (Addr × Obj)) (φ : Int → Int → Prop) (s' : Shared) : Prop :=
  ∃ (f l : Int) (t u : Tok) (k : Str → Option Value) (h' : Heap) (tk' : Nat), s' = ⟨h', s.gens, s.drawn, tk', s.os⟩ ∧ Fr h₀ L h' (fun z => if z = Str.ofString "last" then some (.int l u) else if z = Str.ofString "first" then some (.int f t) else if z = Str.ofString "fault" then k z else m z) ∧ News h₀ L h' news ∧ φ f l
theorem joinC (φ : Int → Int → Prop) (_ : M0 m) (_ : News h₀ L s.heap news) (h1 : wpAny M A (exec st env) (fun f s' => match f with | .next => JnC s h₀ L m news φ s' | f => Q f s') E s)
    (h2 : ∀ (f : Int) (t : Tok) (l : Int) (u : Tok) (k : Str → Option Value) h' tk', Fr h₀ L h' (fun z => if z = Str.ofString "last" then some (.int l u) else if z = Str.ofString "first" then some (.int f t) else if z = Str.ofString "fault" then k z else m z) → News h₀ L h' news → φ f l → wpAny M A (execs rest env) Q E { s with heap := h', toks := tk' }) : wpAny M A (execs (st :: rest) env) Q E s :=
  joinP h1 fun s' ⟨f, l, t, u, k, h', tk', e, F', N', hv⟩ => by subst e; exact h2 f t l u k h' tk' F' N' hv
theorem jnC_s {φ : Int → Int → Prop} {f l : Int} {t u : Tok} (F : Fr h₀ L h' m1) (N : News h₀ L h' news) (hv : φ f l) (e1 : m1 (Str.ofString "first") = some (.int f t)) (e2 : m1 (Str.ofString "last") = some (.int l u)) (hm : ∀ z, z ≠ Str.ofString "last" → z ≠ Str.ofString "first" → z ≠ Str.ofString "fault" → m1 z = m z) : JnC s h₀ L m news φ ⟨h', s.gens, s.drawn, tk', s.os⟩ := by
  refine ⟨f, l, t, u, m1, h', tk', rfl, ?_, N, hv⟩
  have : (fun z => if z = Str.ofString "last" then some (Value.int l u) else if z = Str.ofString "first" then some (.int f t) else if z = Str.ofString "fault" then m1 z else m z) = m1 := by
    funext z
    split
    · next h => rw [h, e2]
    split
    · next h => rw [h, e1]
    split
    · rfl
    · exact (hm z (by assumption) (by assumption) (by assumption)).symm
  rw [this]
  exact F
end
noncomputable def RestOk (c : Str) (v l : Int) (rest : List Value) : Prop := (rest = [] ∧ l = max0 v) ∨ ∃ j tj, rest = [.str j tj] ∧ j.length ≤ 100 ∧ idxF j (c.length - 1) = some l
/-- the index words and the places that they mean -/
noncomputable def IdxOk (c : Str) (us : List Value) (f l : Int) : Prop := (us = [] ∧ f = 0 ∧ l = c.length - 1) ∨ ∃ i ti rest v, us = .str i ti :: rest ∧ i.length ≤ 100 ∧ idxF i (c.length - 1) = some v ∧ f = max0 v ∧ RestOk c v l rest
theorem RestOk.last {c : Str} {v l : Int} {rest : List Value} {x : Value} (h : RestOk c v l rest) (q : (x :: rest).length ≤ 1) : l = max0 v := by
  rcases h with ⟨_, h⟩ | ⟨_, _, rfl, _⟩
  · exact h
  · exact absurd q (Nat.not_succ_le_self 1)
theorem RestOk.len {c : Str} {v l : Int} {rest : List Value} (h : RestOk c v l rest) : rest.length ≤ 1 := by
  rcases h with ⟨rfl, _⟩ | ⟨_, _, rfl, _⟩
  · exact Nat.zero_le 1
  · exact Nat.le_refl 1
section
variable {prog : Program} {w : World} {A : Around} {E : Value → Shared → Prop} {s : Shared}
theorem isL {g h : Heap} {L l : Addr} {m : Str → Option Value} {xs : Array Value} (F : Fr g L h m) (hl : g.IsList l xs) : h.IsList l xs := by
  obtain ⟨o, ho, a, n, b⟩ := hl
  exact ⟨o, F.keep _ _ ho, a, n, b⟩
/-- len of a list with one item or two -/
theorem len_us {l : Addr} {v : Value} {rest : List Value} {Q : Value → Shared → Prop} (hl : s.heap.IsList l (v :: rest).toArray) (hr : rest.length ≤ 1) (h : ∀ k : Int, 0 < k → Q (.int k (s.toks + 1)) { s with toks := s.toks + 1 + 1 }) : wpAny (model prog w) A (call (.builtin "len") [.ref l]) Q E s :=
  kun_lenL hl (k := (rest.length : Int) + 1) (by simp) (by omega) (h _ (by omega))
theorem item_us {value slice : PySem.Expr} {l : Addr} {v : Value} {rest : List Value} {u : Tok} {Q : Value → Shared → Prop} (hl : s.heap.IsList l (v :: rest).toArray) (h : Q v s)
    (hs : subscripted slice false (.ref l) (.int 0 u) = operate [.ref l, .int 0 u] (getItem (.ref l) (.int 0 u)) := by with_unfolding_all rfl) : wpAny (model prog w) A (subscriptTail value slice (.ref l) (.int 0 u)) Q E s :=
  item_lst hl (by decide) (by decide) (by simp) h hs
end
theorem kw_Q5_1 : True := by
  k_with "m:binaryOp Add str str" => (k_here; (with_reducible show wpAny _ _ (binaryOp Operator.Add (Value.str _ _) (Value.str _ _)) _ _ _); (refine KOpn.add (by first | (refine signF_le _ (by with_reducible assumption) ?_; omega) | omega) ?_); intro _ _ _)
  k_with "m:pyIter ref" => (k_here; k_dflt (k_extra "pyIter ref"))
  k_with "m:call ref" => (k_here; (with_reducible show wpAny _ _ (call (Value.ref 360) _) _ _ _); k_dflt (refine' sign_c  _ _ _ _ _ _ _ _ _ _ _ _ _ _ _ _ ?k1 ?k2 ?k3 ?k4 ?k5 ?kK ?kd ?ku ?_); k_extra "K5"; (case kK => first | exact rfl | assumption); (case kd => (k_extra "D")); (case ku => (k_extra "U")); intro t9 h9 tk9 F9 N9; (try dsimp only); (skip); (all_goals (try k_fold)))
  k_with "m:subscriptTail Name Constant ref int" => (k_here; (with_reducible show wpAny _ _ (subscriptTail _ _ (Value.ref _) (Value.int _ _)) _ _ _); (refine item_lst (by is_list) (by decide) (by decide) (by first | exact (rfl : _ = some (Value.str _ _)) | exact (rfl : _ = some (Value.int _ _)) | exact (rfl : _ = some (Value.ref _)) | exact rfl) ?_))
  k_with "m:call builtin:len" => (k_here; (with_reducible show wpAny _ _ (call (Value.builtin "len") [Value.ref _]) _ _ _); k_dflt (refine' kun_lenL ?k1 ?k2 ?k3 ?_; (case k1 => is_list); (case k2 => kun_count); (case k3 => decide); k_whole))
  k_with "m:call builtin:len" => (k_here; (with_reducible show wpAny _ _ (call (Value.builtin "len") [Value.ref _]) _ _ _); (rename Fr _ _ _ _ => zF9); k_dflt (refine len_us (isL zF9 hlG) (by with_reducible assumption) ?_); intro n9 hn9)
  k_with "m:subscriptTail Name Constant ref int" => (k_here; (with_reducible show wpAny _ _ (subscriptTail _ _ (Value.ref _) (Value.int 0 _)) _ _ _); (rename Fr _ _ _ _ => zF9); k_dflt (refine item_us (isL zF9 hlG) ?_))
  k_with "m:ite" => (k_here; with_reducible refine ite_pos (by assumption) ?_)
  trivial
theorem max0_N {prog : Program} {w : World} {A : Around} {E : Value → Shared → Prop} {s : Shared} {h₀ : Heap} {L : Addr} {m : Str → Option Value} {news : List (Addr × Obj)} {a : Int} {t u : Tok} {Q : Value → Shared → Prop} (hh : A.handled = none) (F : Fr h₀ L s.heap m) (N : News h₀ L s.heap news)
    (h : ∀ h' tk t', Fr h₀ L h' m → News h₀ L h' news → Q (.int (max0 a) t') { s with heap := h', toks := tk }) : wpAny (model prog w) A (call (.builtin "max") [.int a t, .int 0 u]) Q E s :=
  max_two_N hh F N fun h' tk F' N' => h h' tk _ F' N'
theorem kw_Q5_2 : True := by
  k_with "m:call builtin:max" => (k_here; (with_reducible show wpAny _ _ (call (Value.builtin _) [Value.int _ _, Value.int _ _]) _ _ _); k_dflt (refine max0_N rfl (by k_asm) (by k_asm) ?_); intro h' tk' t' F' N')
  k_with "m:call ref" => (k_here; (with_reducible show wpAny _ _ (call (Value.ref 353) _) _ _ _); k_dflt (refine' lawindex_good_c ?hc0 ?hc1 _ _ _ _ _ _ _ _ _ _ _ _ _ _ _ _ ?k1 ?k2 ?k3 ?k4 ?k5 ?kK ?kd ?ku ?_); k_extra "K5"; (case kK => first | exact rfl | assumption); (case hc0 => k_extra "S"); (case hc1 => k_extra "S"); (case kd => (k_extra "D")); (case ku => (k_extra "U")); intro D9 U9 t9 h9 tk9 F9 N9 ne9 nf9 ng9; (try dsimp only); (skip); (all_goals (try k_fold)))
  k_with "m:InvEndN" => (k_here; (rename News _ _ _ _ => nE'); (rename Fr _ _ _ _ => fE'); k_dflt (exact kst_end (_, _) fE' nE' (fun p hp => by (repeat (first | exact List.mem_append_left _ hp | refine List.Mem.tail _ ?_))) (fun p hp => by (repeat (first | exact hp | refine List.Mem.tail _ ?_))) rfl trivial (fun p hp => by (rcases List.mem_singleton.mp hp with rfl); exact rfl) (fun z h1 h2 h3 => (if_neg (notOne h2)).trans ((if_neg h1).trans ((if_neg (notOne h2)).trans (if_neg (by rw [h3]; decide))))) (by k_extra "state")))
  k_with "m:compareOp NotEq ref ref" => (k_here; k_dflt (first | refine nn_nil (News.isTup (by k_asm) (by k_mem)) (News.isTup (by k_asm) (by k_mem)) (by (k_extra "U")) ?_ | refine ne_nil (News.isTup (by k_asm) (by k_mem)) (News.isTup (by k_asm) (by k_mem)) (List.cons_ne_nil _ _) (by (k_extra "U")) ?_ | refine ne_gave (News.isTup (by k_asm) (by k_mem)) (News.isTup (by k_asm) (by k_mem)) (by (k_extra "U")) ?_ | refine ne_fault (News.isTup (by k_asm) (by k_mem)) (News.isTup (by k_asm) (by k_mem)) (News.isTup (by k_asm) (by k_mem)) (News.isTup (by k_asm) (by k_mem)) (by with_reducible assumption) (by with_reducible assumption) (by (k_extra "U")) (by first | with_reducible assumption | exact neOf (by with_reducible assumption) (by k_mem) | exact neN (by omega)) ?_))
  k_with "m:execs cons" => (k_here; (with_reducible show wpAny _ _ (execs (Stmt.If _ _ _ ⟨314, _, _, _⟩ :: _) _) _ _ _); k_dflt (refine' joinC (fun f9 l9 => f = f9 ∧ (us.length ≤ 1 → l = l9)) ?zM9 ?zN9 ?_ ?_); (case zM9 => with_reducible assumption); (case zN9 => k_asm); (try dsimp only); rotate_left; (intro f9 t9 l9 u9 k9 h9 tk9 F9 N9 hφ9); (obtain ⟨e9, hL9⟩ := hφ9); (subst e9); rotate_left; k_dflt (rcases hI with ⟨hu9, hf9, hl9⟩ | ⟨i9, ti9, rest9, v9, hu9, hi9, hv9, hf9, hr9⟩); (all_goals (try subst hu9)); rotate_left; (have hn9 := RestOk.len hr9); rotate_left)
  k_with "m:execs cons" => (k_here; (with_reducible show wpAny _ _ (execs (Stmt.If _ _ _ ⟨320, _, _, _⟩ :: _) _) _ _ _); k_dflt (refine' joinC (fun f9 l9 => f = f9 ∧ l = l9) ?zM9 ?zN9 ?_ ?_); (case zM9 => with_reducible assumption); (case zN9 => k_asm); (try dsimp only); rotate_left; (intro f9 t9 l9 u9 k9 h9 tk9 F9 N9 hφ9); (obtain ⟨e9, e9'⟩ := hφ9); (subst e9); (subst e9'); rotate_left; k_dflt (rcases hI with ⟨hu9, hf9, hl9⟩ | ⟨i9, ti9, rest9, v9, hu9, hi9, hv9, hf9, ⟨hr9, hl9⟩ | ⟨j9, tj9, hr9, hj9, hl9⟩⟩); (all_goals (try subst hu9)); (all_goals (try subst hr9)))
  trivial
theorem cased_c {w mean mg mb} {news : List (Addr × Obj)} {li : Addr} {n : Nat} {cmd c : Str} {t u : Tok} {us : List Value} {f l : Int}
    (hl : (li, ({ cls := .type "list", data := .seq us.toArray n } : Obj)) ∈ news) (hc : c.length ≤ 100) (hI : IdxOk c us f l) :
    CbH 140 w mean mg mb 367 news [.str cmd t, .str c u, .ref li] (RetN news fun t t' => [.str (Str.ofString "gave") t, .str (casedF cmd c f l) t']) := by
  k_with "pyIter ref" => k_state (fun pre made => made.length = pre.length ∧ made = casedI cmd c f l pre) "made"
  k_with "state" => first | ((with_reducible refine cased_in ?_ ?_ ?_ ?_ ?_ ?_) <;> first | with_reducible assumption | omega) | ((with_reducible refine cased_out ?_ ?_ ?_ ?_ ?_) <;> first | with_reducible assumption | omega) | exact ⟨rfl, rfl⟩
  ((try unfold Cb); (try unfold CbE); (try unfold CbG); (try unfold CbH); k_fill; (try dsimp only [RetV, RetT]); intros; rename_i s0 Q0 E0 B0 F0 X0 N0 T0 hk0 hd0 hu0 hret; refine wpAny_call ?_; k_dflt (refine' code_defP (mu := []) ?k1 ?k2 ?k3 ?k4 ?k5 ?kA ?kF ?kK ?k6 ?k7 ?k8 ?k9 ?kB ?_ ?c2 ?c3 ?c4 ?c5; (case kA => exact rfl); (case kF => exact rfl); (case kK => first | exact rfl | assumption); (case k1 => k_asm); (case k2 => k_asm); (case k4 => exact News.nil); (case k3 => k_asm); (case k5 => k_asm); (case k6 => k_is); (case k7 => k_is); (case k8 => ktr_room); (case k9 => exact BindsTo.of_eq rfl); (case c5 => decide); (case kB => exact locs rfl); (case c2 => exact rfl); (case c3 => exact rfl); (case c4 => exact rfl); k_whole; intro g' L' h' HG0 FG' F' N' B' X' T'; (try dsimp only); (try k_lift B'); (try k_fold)); (refine letA ?_); (intro kA); (replace F' : Fr g' L' h' (fun y => List.lookup y [(Str.ofString "indices", _), (Str.ofString "text", _), (Str.ofString "command", _)]) := F'); (generalize Shared.toks _ + List.length _ = tk0))
  have hM0 := M0.of F'
  have hlG := listG N0 HG0 hl
  k_steps
  all_goals (try dsimp only)
  all_goals first
   | (refine jnC_s (by k_asm) (by (k_extra "dr")) ?_ rfl rfl (fun z h1 h2 h3 => by simp only [if_neg h1, if_neg h2, if_neg h3])
      first | exact ⟨hf9, fun _ => hl9⟩ | exact ⟨hf9, fun q => hr9.last q⟩ | exact ⟨rfl, rfl⟩ | exact ⟨rfl, hL9 (Nat.zero_le _)⟩ | exact ⟨rfl, hL9 (Nat.le_refl _)⟩)
   | (rename (_ = casedI _ _ _ _ (rangeKs _ _)) => hr9; subst hr9
      exact hret _ _ _ _ _ (by k_asm) (newsOne N0 HG0 (by k_asm) (by k_asm) (by k_mem)) (neNew N0 News.nil HG0 (by with_reducible assumption) (List.Mem.head _) (fun _ h => nomatch h)))
end

section
-- Q6
open PySem PySem.W PyProof.Rows
theorem kwn_Q6 : True := by
  k_with_none
  w_top off
  trivial
theorem kwo_Q6 : True := by
  k_with "m:omega" => first | with_reducible assumption | decide | with_reducible exact Int.le_refl _ | with_reducible exact Nat.le_refl _ | with_reducible exact rm_u2 | with_reducible exact rm_d2 | with_reducible exact rm_u1 | with_reducible exact rm_d1 | with_reducible exact rm_u0 | with_reducible exact rm_d0 | with_reducible exact n_up | with_reducible exact q_o | with_reducible exact q_c1 | with_reducible exact q_c2 | with_reducible exact q_c3 | with_reducible exact q_c4 | with_reducible exact q_n1 | with_reducible exact q_n2 | with_reducible exact q_n3 | with_reducible exact q_l1 | with_reducible exact q_l2 | with_reducible exact q_t1 | with_reducible exact q_t2 | with_reducible exact q_t3 | with_reducible exact q_t4 | with_reducible exact q_t5 | ((with_reducible show _ ≠ _); first | k_extra "P" | (refine Ne.symm ?_; k_extra "P") | (refine Nat.ne_of_lt ?_; k_extra "P") | (refine Nat.ne_of_gt ?_; k_extra "P"))
  k_with "P" => first | with_reducible assumption | with_reducible exact And.left (by with_reducible assumption) | with_reducible exact And.right (by with_reducible assumption) | with_reducible exact q_r (by with_reducible assumption) | with_reducible exact q_s (by with_reducible assumption) | with_reducible exact q_t (by with_reducible assumption) | with_reducible exact q_u (by with_reducible assumption)
  k_with "D" => ((try simp +zetaDelta only [depth_in1, depth_deeper]); (try dsimp only [ktrTop]); omega)
  k_with "U" => ((try simp +zetaDelta only [units_in1, units_deeper, Around.mark_units]); (try dsimp only [ktrTop]); omega)
  k_with "K5" => ((case k1 => k_asm); (case k2 => k_asm); (case k3 => k_asm); (case k4 => k_asm); (case k5 => k_asm))
  k_with "S" => first | with_reducible assumption | exact .inl rfl | exact .inr (.inl rfl) | exact .inr (.inr rfl) | exact .inr rfl | omega | k_mem | fail | (simp only [PySem.Str.length_append, KOpn.len_one]; omega) | assumption
  k_with "m:eval Call" => (k_here; k_dflt (first | ((with_reducible show wpAny _ _ (eval (.Call (.Name (Str.ofString "len") _) [.Name _ _] [] _) _) _ _ _); refine len_nm (q := ?_)) | ((with_reducible show wpAny _ _ (eval (.Call (.Name (Str.ofString "len") _) [_] [] _) _) _ _ _); refine callLen (h := ?_)) | ((with_reducible show wpAny _ _ (eval (.Call (.Name (Str.ofString "str") _) [_] [] _) _) _ _ _); refine callStr (h := ?_)) | ((with_reducible show wpAny _ _ (eval (.Call (.Name _ _) [_] [] _) _) _ _ _); refine callK1 (h := ?_)) | ((with_reducible show wpAny _ _ (eval (.Call (.Name _ _) [_, _] [] _) _) _ _ _); refine callK2 (h := ?_)) | ((with_reducible show wpAny _ _ (eval (.Call (.Name _ _) [_, _, _] [] _) _) _ _ _); refine callK3 (h := ?_))); k_whole)
  k_with "m:eval Constant int" => (k_here; k_dflt (refine cInt ?_); k_whole)
  k_with "m:eval Constant str" => (k_here; k_dflt (refine cStr ?_); k_whole)
  k_with "m:storeName" => (k_here; k_dflt (refine storeS (q := ?_)); k_whole; intro h' F' N'; (try k_sweep))
  k_with "m:binaryOp Add int int" => (k_here; k_dflt (refine addS ?_); k_whole)
  k_with "m:binaryOp Sub int int" => (k_here; k_dflt (refine subS ?_); k_whole)
  k_with "m:call builtin:len" => (k_here; (with_reducible show wpAny _ _ (call _ [.str _ _]) _ _ _); k_dflt (refine lenS (q := ?_)); k_whole)
  k_with "m:newList" => (k_here; k_dflt (refine lstS (q := ?_) (by first | exact Nat.le_of_ble_eq_true rfl | size_fits)); k_whole; intro l' h' F' N' l1; (try k_lt l1); (try k_sweep))
  k_with "m:execs cons" => (k_here; k_dflt (first | ((with_reducible show wpAny _ _ (execs (.Assign [.Name _ _] _ _ :: _) _) _ _ _); refine sAsg ?_ (Eq.refl true)) | ((with_reducible show wpAny _ _ (execs (.Return (some _) _ :: _) _) _ _ _); refine sRet ?_) | ((with_reducible show wpAny _ _ (execs (.If _ [.Return (some _) _] [] _ :: _) _) _ _ _); refine sIfR ?_) | ((with_reducible show wpAny _ _ (execs (.If _ _ [] _ :: _) _) _ _ _); refine sIf1 ?_)); k_whole)
  k_with "m:eval Tuple" => (k_here; first | ((with_reducible show wpAny _ _ (eval (.Tuple [.Constant (.str _) _ _, .Constant (.str _) _ _] _ _) _) _ _ _); k_dflt (refine tupSS (q := ?_)); k_whole; intro D' h' F' N' l1; (try k_lt l1)) | ((with_reducible show wpAny _ _ (eval (.Tuple [_, _] _ _) _) _ _ _); k_dflt (refine tup2 ?_ (Eq.refl true) (Eq.refl true)); k_whole))
  k_with "m:eval List" => (k_here; k_dflt (first | ((with_reducible show wpAny _ _ (eval (.List [_] _) _) _ _ _); refine lst1 ?_ (Eq.refl true)) | ((with_reducible show wpAny _ _ (eval (.List [_, _] _) _) _ _ _); refine lst2 ?_ (Eq.refl true) (Eq.refl true)) | ((with_reducible show wpAny _ _ (eval (.List [_, _, _] _) _) _ _ _); refine lst3 ?_ (Eq.refl true) (Eq.refl true) (Eq.refl true)) | ((with_reducible show wpAny _ _ (eval (.List [_, _, _, _] _) _) _ _ _); refine lst4 ?_ (Eq.refl true) (Eq.refl true) (Eq.refl true) (Eq.refl true))); k_whole)
  k_with "m:eval BinOp" => (k_here; k_dflt (first | ((with_reducible show wpAny _ _ (eval (.BinOp (.Name _ _) _ (.Name _ _) _) _) _ _ _); refine bNN (q := ?_)) | ((with_reducible show wpAny _ _ (eval (.BinOp (.Name _ _) _ (.Constant (.int _) _ _) _) _) _ _ _); refine bNC (q := ?_)) | ((with_reducible show wpAny _ _ (eval (.BinOp (.Name _ _) _ _ _) _) _ _ _); refine bN (q := ?_))); k_whole)
  k_with "m:isTrue Compare" => (k_here; k_dflt (first | ((with_reducible show wpAny _ _ (isTrue (.Compare (.Name _ _) [_] [(.Name _ _)] _) _ _) _ _ _); refine cNN (q := ?_)) | ((with_reducible show wpAny _ _ (isTrue (.Compare (.Name _ _) [_] [(.Constant (.int _) _ _)] _) _ _) _ _ _); refine cNC (q := ?_)) | ((with_reducible show wpAny _ _ (isTrue (.Compare (.Name _ _) [_] [_] _) _ _) _ _ _); refine cN (q := ?_))); k_whole)
  k_with "m:eval Subscript" => (k_here; k_dflt (first | ((with_reducible show wpAny _ _ (eval (.Subscript (.Name _ _) (.Name _ _) _) _) _ _ _); refine gNN (q := ?_)) | ((with_reducible show wpAny _ _ (eval (.Subscript (.Name _ _) (.Constant (.int _) _ _) _) _) _ _ _); refine gNC (q := ?_)) | ((with_reducible show wpAny _ _ (eval (.Subscript (.Name _ _) _ _) _) _ _ _); refine gN (q := ?_))); k_whole)
  trivial
open PySem.Challenge
set_option maxRecDepth 100000
set_option maxHeartbeats 4000000
theorem kw_Q6_1 : True := by
  k_with "m:subscriptTail Name Constant ref int" => (k_here; (with_reducible show wpAny _ _ (subscriptTail _ _ (Value.ref _) (Value.int _ _)) _ _ _); (refine item_lst (by is_list) (by decide) (by decide) (by first | exact (rfl : _ = some (Value.str _ _)) | exact (rfl : _ = some (Value.int _ _)) | exact (rfl : _ = some (Value.ref _)) | exact rfl) ?_))
  k_with "m:call builtin:len" => (k_here; (with_reducible show wpAny _ _ (call (Value.builtin "len") [Value.ref _]) _ _ _); k_dflt (refine' kun_lenL ?k1 ?k2 ?k3 ?_; (case k1 => is_list); (case k2 => kun_count); (case k3 => decide); k_whole))
  k_with "m:call ref" => (k_here; (with_reducible show wpAny _ _ (call (Value.ref 353) _) _ _ _); k_dflt (refine' lawindex_bad_c ?hc0 ?hc1 _ _ _ _ _ _ _ _ _ _ _ _ _ _ _ _ _ ?k1 ?k2 ?k3 ?k4 ?k5 ?kXB ?kTB ?kD ?kT ?kK ?kd ?ku ?_; k_extra "K5"; (case kXB => k_asm); (case kTB => k_asm); (case kD => k_asm); (case kT => first | k_asm | exact KtsTurn.refl); (case kK => first | exact rfl | assumption); (case hc0 => k_extra "S"); (case hc1 => k_extra "S"); (case kd => (k_extra "D")); (case ku => (k_extra "U")); intro g9 kt9 B9 X9 T9 D9; intro D9 U9 ec9 t9 ta9 tb9 tc9 tv9 n9 h9 tk9 F9 N9 S9 ne9 nf9 ng9 nh9 ni9 nj9; (try dsimp only); (try k_lift B9); (try (have hlG9 := turnList (by k_asm) (by with_reducible assumption))); (all_goals (try k_fold))))
  k_with "m:compareOp NotEq ref ref" => (k_here; k_dflt (first | refine nn_nil (News.isTup (by k_asm) (by k_mem)) (News.isTup (by k_asm) (by k_mem)) (by (k_extra "U")) ?_ | refine ne_nil (News.isTup (by k_asm) (by k_mem)) (News.isTup (by k_asm) (by k_mem)) (List.cons_ne_nil _ _) (by (k_extra "U")) ?_ | refine ne_gave (News.isTup (by k_asm) (by k_mem)) (News.isTup (by k_asm) (by k_mem)) (by (k_extra "U")) ?_ | refine ne_fault (News.isTup (by k_asm) (by k_mem)) (News.isTup (by k_asm) (by k_mem)) (News.isTup (by k_asm) (by k_mem)) (News.isTup (by k_asm) (by k_mem)) (by with_reducible assumption) (by with_reducible assumption) (by (k_extra "U")) (by first | with_reducible assumption | exact neOf (by with_reducible assumption) (by k_mem) | exact neN (by omega)) ?_))
  k_with "m:call builtin:len" => (k_here; (with_reducible show wpAny _ _ (call (Value.builtin "len") [Value.ref _]) _ _ _); (rename Fr _ _ _ _ => zF9); k_dflt (refine len_us (isL zF9 hlG) (by with_reducible assumption) ?_); intro n9 hn9)
  k_with "m:subscriptTail Name Constant ref int" => (k_here; (with_reducible show wpAny _ _ (subscriptTail _ _ (Value.ref _) (Value.int 0 _)) _ _ _); (rename Fr _ _ _ _ => zF9); k_dflt (refine item_us (isL zF9 hlG) ?_))
  k_with "m:ite" => (k_here; with_reducible refine ite_pos (by assumption) ?_)
  trivial
theorem cased1_bad_c {w mean mg mb} {news : List (Addr × Obj)} {li : Addr} {n : Nat} {cmd c i : Str} {t u ti : Tok} {rest : List Value} {msg : Str} {ecs : List Str}
    (hl : (li, ({ cls := .type "list", data := .seq (.str i ti :: rest).toArray n } : Obj)) ∈ news) (hn9 : rest.length ≤ 1) (hc : c.length ≤ 100) (hi : i.length ≤ 100) (hb : idxBad i (c.length - 1) = some (msg, ecs)) :
    CbT 140 w mean mg mb 367 news [.str cmd t, .str c u, .ref li] (RetB news msg ecs) := by
  ((try unfold CbT); k_fill; intros; rename_i s0 Q0 E0 B0 F0 X0 N0 T0 XB0 TB0 KD0 KT0 hk0 hd0 hu0 hret; refine wpAny_call ?_; k_dflt (refine' code_defT (mu := []) ?k1 ?k2 ?k3 ?k4 ?k5 ?XB ?TB ?D ?T0 ?kA ?k6 ?k7 ?k8 ?k9 ?kB ?_ ?cK ?c2 ?c3 ?c4 ?c5; (case kA => exact rfl); (case k2 => k_asm); (case k1 => k_asm); (case XB => assumption); (case TB => assumption); (case D => assumption); (case T0 => assumption); (case k3 => k_asm); (case k4 => exact News.nil); (case k5 => k_asm); (case k6 => k_is); (case k7 => k_is); (case k8 => ktr_room); (case k9 => exact BindsTo.of_eq rfl); (case kB => exact locs rfl); (case cK => first | exact rfl | assumption); (case c2 => exact rfl); (case c3 => exact rfl); (case c4 => exact rfl); (case c5 => decide); k_whole; intro g' L' h' HG0 FG' F' N' B' X' T' D'; (try dsimp only); (try k_lift B'); (try k_fold)); (refine letA ?_); (intro kA); (replace F' : Fr g' L' h' (fun y => List.lookup y [(Str.ofString "indices", _), (Str.ofString "text", _), (Str.ofString "command", _)]) := F'); (generalize Shared.toks _ + List.length _ = tk0))
  have hlG := listG N0 HG0 hl
  k_steps
  all_goals first | (exact endB (s := s0) hret B0 N0 HG0 KT0 (by k_asm) (by k_asm) (by with_reducible assumption) (by with_reducible assumption) (by with_reducible assumption) (by with_reducible assumption) (by with_reducible assumption) (by with_reducible assumption) (by with_reducible assumption) (by with_reducible assumption) (by k_mem) (by k_mem) (by with_reducible assumption) (by with_reducible assumption))
theorem kw_Q6_2 : True := by
  k_with "m:call builtin:max" => (k_here; (with_reducible show wpAny _ _ (call (Value.builtin _) [Value.int _ _, Value.int _ _]) _ _ _); k_dflt (refine max0_N rfl (by k_asm) (by k_asm) ?_); intro h' tk' t' F' N')
  k_with "m:call ref" => (k_here; (with_reducible show wpAny _ _ (call (Value.ref 353) _) _ _ _); k_dflt (refine' lawindex_good_c ?hc0 ?hc1 _ _ _ _ _ _ _ _ _ _ _ _ _ _ _ _ ?k1 ?k2 ?k3 ?k4 ?k5 ?kK ?kd ?ku ?_); k_extra "K5"; (case kK => first | exact rfl | assumption); (case hc0 => k_extra "S"); (case hc1 => k_extra "S"); (case kd => (k_extra "D")); (case ku => (k_extra "U")); intro D9 U9 t9 h9 tk9 F9 N9 ne9 nf9 ng9; (try dsimp only); (skip); (all_goals (try k_fold)))
  k_with "m:call ref" => (k_here; (with_reducible show wpAny _ _ (call (Value.ref 353) _) _ _ _); k_dflt (refine' lawindex_bad_c ?hc0 ?hc1 _ _ _ _ _ _ _ _ _ _ _ _ _ _ _ _ _ ?k1 ?k2 ?k3 ?k4 ?k5 ?kXB ?kTB ?kD ?kT ?kK ?kd ?ku ?_; k_extra "K5"; (case kXB => k_asm); (case kTB => k_asm); (case kD => k_asm); (case kT => first | k_asm | exact KtsTurn.refl); (case kK => first | exact rfl | assumption); (case hc0 => k_extra "S"); (case hc1 => k_extra "S"); (case kd => (k_extra "D")); (case ku => (k_extra "U")); intro g9 kt9 B9 X9 T9 D9; intro D9 U9 ec9 t9 ta9 tb9 tc9 tv9 n9 h9 tk9 F9 N9 S9 ne9 nf9 ng9 nh9 ni9 nj9; (try dsimp only); (try k_lift B9); (try (have hlG9 := turnList (by k_asm) (by with_reducible assumption))); (all_goals (try k_fold))))
  k_with "m:subscriptTail Name Constant ref int" => (k_here; (with_reducible show wpAny _ _ (subscriptTail _ _ (Value.ref _) (Value.int _ _)) _ _ _); (refine item_lst (by is_list) (by decide) (by decide) (by first | exact (rfl : _ = some (Value.str _ _)) | exact (rfl : _ = some (Value.int _ _)) | exact (rfl : _ = some (Value.ref _)) | exact rfl) ?_))
  k_with "m:call builtin:len" => (k_here; (with_reducible show wpAny _ _ (call (Value.builtin "len") [Value.ref _]) _ _ _); k_dflt (refine' kun_lenL ?k1 ?k2 ?k3 ?_; (case k1 => is_list); (case k2 => kun_count); (case k3 => decide); k_whole))
  trivial
theorem cased2_bad2_c {w mean mg mb} {news : List (Addr × Obj)} {li : Addr} {n : Nat} {cmd c i j : Str} {t u ti tj : Tok} {v : Int} {msg : Str} {ecs : List Str}
    (hl : (li, ({ cls := .type "list", data := .seq #[.str i ti, .str j tj] n } : Obj)) ∈ news) (hc : c.length ≤ 100) (hi : i.length ≤ 100) (hj : j.length ≤ 100) (hv : idxF i (c.length - 1) = some v) (hb : idxBad j (c.length - 1) = some (msg, ecs)) :
    CbT 140 w mean mg mb 367 news [.str cmd t, .str c u, .ref li] (RetB news msg ecs) := by
  ((try unfold CbT); k_fill; intros; rename_i s0 Q0 E0 B0 F0 X0 N0 T0 XB0 TB0 KD0 KT0 hk0 hd0 hu0 hret; refine wpAny_call ?_; k_dflt (refine' code_defT (mu := []) ?k1 ?k2 ?k3 ?k4 ?k5 ?XB ?TB ?D ?T0 ?kA ?k6 ?k7 ?k8 ?k9 ?kB ?_ ?cK ?c2 ?c3 ?c4 ?c5; (case kA => exact rfl); (case k2 => k_asm); (case k1 => k_asm); (case XB => assumption); (case TB => assumption); (case D => assumption); (case T0 => assumption); (case k3 => k_asm); (case k4 => exact News.nil); (case k5 => k_asm); (case k6 => k_is); (case k7 => k_is); (case k8 => ktr_room); (case k9 => exact BindsTo.of_eq rfl); (case kB => exact locs rfl); (case cK => first | exact rfl | assumption); (case c2 => exact rfl); (case c3 => exact rfl); (case c4 => exact rfl); (case c5 => decide); k_whole; intro g' L' h' HG0 FG' F' N' B' X' T' D'; (try dsimp only); (try k_lift B'); (try k_fold)); (refine letA ?_); (intro kA); (replace F' : Fr g' L' h' (fun y => List.lookup y [(Str.ofString "indices", _), (Str.ofString "text", _), (Str.ofString "command", _)]) := F'); (generalize Shared.toks _ + List.length _ = tk0))
  have hlG := listG N0 HG0 hl
  k_steps
  all_goals first | (exact endB (s := s0) hret B0 N0 HG0 KT0 (by k_asm) (by k_asm) (by with_reducible assumption) (by with_reducible assumption) (by with_reducible assumption) (by with_reducible assumption) (by with_reducible assumption) (by with_reducible assumption) (by with_reducible assumption) (by with_reducible assumption) (by k_mem) (by k_mem) (by with_reducible assumption) (by with_reducible assumption))
end

section
-- LC
open PySem PySem.W PyProof.Rows PySem.Calls PySem.Spec
open PySem.Challenge
set_option maxRecDepth 100000
set_option maxHeartbeats 4000000
section
variable {prog : Program} {w : World} {A : Around} {E : Value → Shared → Prop} {s : Shared} {h₀ : Heap} {L : Addr} {m : Str → Option Value} {env : Env}
/-- the source of a comprehension is a text -/
noncomputable def CompTxt (prog : Program) (w : World) (A : Around) (h₀ : Heap) (L : Addr) (m : Str → Option Value) (env : Env) (elt : Expr) (x : Str) (scope : Scope) (cl : List (Str × Addr)) (Fin : Shared → List Value → List (Addr × Obj) → Prop) (xv : Value) (s₁ : Shared) : Prop :=
  ∃ (xt : Str) (tx : Tok) (news : List (Addr × Obj)), xv = .str xt tx ∧ A.handled = none ∧ Fr h₀ L s₁.heap m ∧ News h₀ L s₁.heap news ∧ xt.cps.size ≤ sizeLine ∧
    ∀ s₂ : Shared, (∃ h, s₂ = { s₁ with heap := h }) → LCg.CompRest prog w A h₀ L m env elt x scope cl s₂ (fun _ => True) (SignAt xt) (Fin s₂) xt.cps.size 0 [] news
theorem ListComp_T {elt iter : Expr} {x : Str} {px : Pos} {scope : Scope} {cl : List (Str × Addr)} {pos : Pos} {Q : Value → Shared → Prop} (_F₀ : Fr h₀ L s.heap m)
    (hclos : closureFor scope env = pure cl) (hcell : ∀ y ∈ scope.names, y.2 ≠ .cell) (hkind : scope.kind = .function)
    (hnames : ∀ y ∈ scope.names, y.2 = .local → scope.names.lookup y.1 = some .local) (hx : scope.names.lookup x = some .local)
    (h : wpAny (model prog w) A (eval iter env) (CompTxt prog w A h₀ L m env elt x scope cl (fun s₂ => LCg.FinE h₀ L m s₂ Q)) E s)
    (hs : ∀ x, foldedSetIterable iter env x = pure x := by intro _; rfl) :
    wpAny (model prog w) A (eval (.ListComp elt [⟨.Name x px, iter, [], 0⟩] scope pos) env) Q E s := by
  rw [eval_ListComp]
  refine wpAny_comprehension_free (use := none) rfl hs hclos hkind hnames (wpAny_mono h (fun xv s₁ h₁ => ?_) fun _ _ e => e)
  obtain ⟨xt, tx, news, rfl, hh, F, N, hsz, R⟩ := h₁
  have go := fun (o : Obj) (St : Nat → Heap → Prop) (W : Walks prog w A s₁.heap.objs.size [s₁.heap.objs.size] [s₁.heap.objs.size] xt.cps.size (SignAt xt) St) (hIo : ∀ i h, St i h → ∃ o, h.get? s₁.heap.objs.size = some o) (st0 : St 0 (s₁.heap.push o)) =>
    LCg.block_U (h₀ := h₀) (L := L) (m := m) (env := env) (elt := elt) (iter := iter) (x := x) (px := px) (scope := scope) (cl := cl) (pos := pos) (E := E) (s₂ := { s₁ with heap := s₁.heap.push o }) (news := news) (S := fun _ => True) (Fin := LCg.FinE h₀ L m { s₁ with heap := s₁.heap.push o } Q) (RR := compPost (model prog w) A E none Q) W hsz hIo
      (fun i h h' o' nw st e e' _ _ _ => W.frame i h h' st fun b hb o'' q => by
        rw [List.mem_singleton.mp hb] at q ⊢
        rw [e] at q; cases q; exact e')
      hcell hkind hx st0 (fun b hb => by
        rw [List.mem_singleton.mp hb]
        show s₁.heap.objs.size < (s₁.heap.push _).objs.size
        rw [Heap.size_push]; exact Nat.lt_succ_self _)
      (F.keeps fun _ _ e => Heap.get?_push_of_some _ e) (N.grown fun _ _ e => Heap.get?_push_of_some _ e) (Nat.ne_of_lt F.ns.lt) (next_is_new F) (fun p hp => Nat.ne_of_lt (Heap.lt_size (N p hp).1)) trivial (R _ ⟨_, rfl⟩)
      (fun D C h tk m' ys news' F' N' o1 hn hC₀ hD₀ hCL hDL hCD offC fin => ⟨m', hn, fun h'' hs'' => fin D h'' tk (F'.change hs'' hCL hC₀) (fun p hp => by
        refine ⟨hs''.extBut _ _ ?_ (N' p hp).1, (N' p hp).2⟩
        rcases List.mem_cons.mp hp with rfl | hp
        · exact Ne.symm hCD
        · exact offC p hp) o1⟩)
  cases ha : xt.cps.all (· < 128)
  · exact wpAny_pyIter_wide ha (go _ (fun i h => h.IsStrIter s₁.heap.objs.size "str_iterator" xt tx i) (Walks.strWide hh _ xt tx) (fun i h st => ⟨_, st.choose_spec.1⟩) ⟨_, Heap.get?_push_size _ rfl, rfl, rfl⟩)
  · exact wpAny_pyIter_ascii ha (go _ (fun i h => h.IsStrIter s₁.heap.objs.size "str_ascii_iterator" xt tx i) (Walks.strAscii hh _ xt tx) (fun i h st => ⟨_, st.choose_spec.1⟩) ⟨_, Heap.get?_push_size _ rfl, rfl, rfl⟩)
theorem text_rest {elt : Expr} {x : Str} {scope : Scope} {cl : List (Str × Addr)} {xt : Str} {news : List (Addr × Obj)} {Fin : List Value → List (Addr × Obj) → Prop} (g : Int → Str)
    (turn : ∀ (c : Nat) (u : Tok) I oI C oC D m₂ ys h tk (E' : Value → Shared → Prop), (c : Int) ∈ KStt.codes xt → LCg.NsObj oC m₂ → m₂ x = some (.str ⟨#[c]⟩ u) → Fr h₀ L h m → News h₀ L h ((I, oI) :: (C, oC) :: (D, LCg.lst ys) :: news) → LCg.Off3 I C D news → ((@Ne Nat I C) ∧ (@Ne Nat I D) ∧ (@Ne Nat C D)) →
      wpAny (model prog w) A (eval elt (compEnvC scope cl C env)) (LCg.CompEnd h₀ L m { s with heap := h, toks := tk } I oI C oC D (LCg.lst ys) (fun _ => True) (fun y news' => KCtEl news (g c) y news')) E' { s with heap := h, toks := tk })
    (fin : ∀ ys, CarriedAll ys ((KStt.codes xt).map fun k => PyData.str (g k)) → Fin ys news) : LCg.CompRest prog w A h₀ L m env elt x scope cl s (fun _ => True) (SignAt xt) Fin xt.cps.size 0 [] news := by
  have hn : (KStt.codes xt).length = xt.cps.size := KStt.codes_length xt
  have key : ∀ (j i : Nat) (ys : List Value), i + j = xt.cps.size → CarriedAll ys (((KStt.codes xt).take i).map fun k => PyData.str (g k)) → LCg.CompRest prog w A h₀ L m env elt x scope cl s (fun _ => True) (SignAt xt) Fin j i ys news := by
    intro j
    induction j with
    | zero =>
      intro i ys hi hy
      have e : i = (KStt.codes xt).length := by omega
      subst e
      rw [List.take_length] at hy
      exact LCg.CompRest.zero (fin ys hy)
    | succ j ih =>
      intro i ys hi hy
      refine LCg.CompRest.succ ?_
      intro v I oI C oC D m₂ h tk E' hv hC hx F N off ne
      obtain ⟨c, u, hc, rfl⟩ := hv
      have hc' := KStt.code_at hc
      refine wpAny_mono (turn c u I oI C oC D m₂ ys h tk E' (List.mem_of_getElem? hc') hC hx F N off ne) (fun y s₂ hq => ?_) fun _ _ e => e
      obtain ⟨h', tk', nw, e, F', N', off', hS, hn', t', hy'⟩ := hq
      subst hn'
      refine ⟨h', tk', _, e, F', N', off', hS, ?_⟩
      rw [hy']
      refine ih (i + 1) _ (by omega) ?_
      rw [List.take_add_one, hc']
      exact outs_snoc rfl hy
  exact key xt.cps.size 0 [] (by omega) (by simp only [List.take_zero, List.map_nil]; exact .nil)
end
end

section
-- LV
open PySem PySem.W PyProof.Rows PySem.Calls PySem.Spec
open PySem.Challenge
section
variable {prog : Program} {w : World} {A : Around} {E : Value → Shared → Prop} {s : Shared} {env : Env} {h₀ : Heap} {x : Str} {body : List Stmt} {Q : Flow → Shared → Prop}
theorem iter_vals {l : Addr} {vs : List Value} {nn : Nat} {m₀ : Str → Option Value} {news : List (Addr × Obj)} (J : Nat → (Str → Option Value) → List (Addr × Obj) → Prop)
    (hh : A.handled = none) (hl : (l, listOf vs.toArray nn) ∈ news) (F : Fr h₀ env.locals s.heap m₀) (N : News h₀ env.locals s.heap news) (hj : J 0 m₀ news)
    (turn : ∀ i v m₁ news₁ h tk own, vs[i]? = some v → OwnOff own (news.map (·.1)) → J i m₁ news₁ → Fr h₀ env.locals h (fun y => if y = x then some v else m₁ y) → News h₀ env.locals h (news₁ ++ own) →
      wpAny (model prog w) A (execs body env) (InvPostN h₀ env.locals (fun m' nx => (l, listOf vs.toArray nn) ∈ nx ∧ J (i + 1) m' nx) own (news.map (·.1)) { s with heap := h, toks := tk } Q) E { s with heap := h, toks := tk })
    (done : ∀ m₁ news₁ h tk, J vs.length m₁ news₁ → Fr h₀ env.locals h m₁ → News h₀ env.locals h news₁ → Q .next { s with heap := h, toks := tk }) :
    wpAny (model prog w) A (pyIter (.ref l)) (fun it s₂ => LoopAtV prog w A h₀ env x body Q E it s₂) E s := by
  have hol : s.heap.get? l = some (listOf vs.toArray nn) := (N _ hl).1
  have hls : s.heap.IsList l vs.toArray := ⟨_, hol, rfl, nn, rfl⟩
  have hlt : l < s.heap.objs.size := Heap.lt_size hol
  have old : ∀ {q : Addr × Obj}, q ∈ news → q.1 ≠ s.heap.objs.size := fun hq e => Nat.lt_irrefl _ (e ▸ Heap.lt_size (N _ hq).1)
  refine wpAny_pyIter_list hls ?_
  have W := Walks.list (prog := prog) (w := w) hh s.heap.objs.size l (Nat.ne_of_lt hlt) vs.toArray
  rw [show vs.toArray.size = vs.length from List.size_toArray ..] at W
  refine ⟨_, _, _, vs.length, _, _, m₀, news, (fun i m nx => nx.map (·.1) = news.map (·.1) ∧ (l, listOf vs.toArray nn) ∈ nx ∧ J i m nx), rfl, W, fun hm => ?_, fun b hb => ?_, fun p hp hI => old hp (List.mem_singleton.mp hI),
    ⟨⟨_, Heap.get?_push_size _ rfl, rfl, rfl⟩, hls.at fun o e => Heap.get?_push_of_some _ e⟩, F.push _, fun p hp => ⟨Heap.get?_push_of_some _ (N p hp).1, (N p hp).2⟩, ⟨rfl, hl, hj⟩, ?_, ?_⟩
  · rcases List.mem_cons.mp hm with e | hm
    · exact Nat.lt_irrefl _ (e ▸ F.ns.lt)
    · exact (N _ hl).2.1 (List.mem_singleton.mp hm).symm
  · rw [List.mem_singleton.mp hb]; exact next_is_new F
  · rintro i v m₁ news₁ s₁ own ⟨g, tk, rfl⟩ hin hP ⟨hadr, hl₁, hJ⟩ hoff hown hget _ _ F₁ N₁
    have hsep : OwnOff (own.filter fun p => decide (p.1 = s.heap.objs.size)) (news.map (·.1)) := fun p hp b hb e => by
      obtain ⟨q, hq, rfl⟩ := List.mem_map.mp hb
      exact old hq (e ▸ (by simpa using (List.mem_filter.mp hp).2))
    have N₂ : News h₀ env.locals g (news₁ ++ own.filter fun p => decide (p.1 = s.heap.objs.size)) := fun p hp => N₁ p ((List.mem_append.mp hp).elim (fun h => List.mem_append_right _ h) fun h => List.mem_append_left _ (List.mem_filter.mp h).1)
    have hlo : g.get? l = some (listOf vs.toArray nn) := (N₁ _ (List.mem_append_right _ hl₁)).1
    refine wpAny_mono (turn i v m₁ news₁ g tk _ (by simpa using hP) hsep hJ F₁ N₂) (fun f s₂ p => ?_) fun _ _ e => e
    have fin : InvEndN h₀ env.locals (fun m' nx => (l, listOf vs.toArray nn) ∈ nx ∧ J (i + 1) m' nx) (own.filter fun p => decide (p.1 = s.heap.objs.size)) (news.map (·.1)) { s with heap := g, toks := tk } s₂ →
        LoopStepU h₀ env.locals [s.heap.objs.size] own (fun m nx => nx.map (·.1) = news.map (·.1) ∧ (l, listOf vs.toArray nn) ∈ nx ∧ J (i + 1) m nx) { s with heap := g, toks := tk } .next s₂ := by
      rintro ⟨h', tk', m', news', nx, e, F', N', hn, ho, ha, hm⟩
      have offI : ∀ p ∈ nx, p.1 ∉ [s.heap.objs.size] := fun p hp hI => by
        have h1 : p.1 ∈ nx.map (·.1) := List.mem_map_of_mem hp
        rw [ha] at h1
        obtain ⟨q, hq, e'⟩ := List.mem_map.mp h1
        exact old hq (e'.trans (List.mem_singleton.mp hI))
      refine ⟨rfl, h', tk', m', nx, e, F', fun p hp => ?_, offI, ha, hm⟩
      rcases List.mem_append.mp hp with h | h
      · by_cases hI : p.1 = s.heap.objs.size
        · exact N' p (ho p (List.mem_filter.mpr ⟨h, by simpa using hI⟩))
        · have h1 : p.1 = l := (List.mem_cons.mp (hown p h)).elim (fun h2 => absurd h2 hI) List.mem_singleton.mp
          have h2 : g.get? p.1 = some p.2 := hget p h
          rw [h1, hlo] at h2
          rw [show p = (l, listOf vs.toArray nn) from Prod.ext h1 (Option.some.inj h2).symm]
          exact N' _ (hn _ hm.1)
      · exact N' p (hn p h)
    cases f with
    | ret v => exact .ret p
    | brk => exact .brk p
    | next => exact .next (fin p)
    | cont => exact .cont (fin p)
  · rintro h' tk m' news' F' N' _ ⟨_, _, hJ⟩
    exact done m' news' h' tk hJ F' N'
/-- a loop over a list of the ledger, by what holds of the places taken -/
theorem vals_loop {σ : Type} {l : Addr} {vs : List Value} {nn : Nat} {m₀ : Str → Option Value} (Led : σ → List (Addr × Obj)) (ps : σ → List (Str × Value)) (Facts : σ → Prop) (stored : List Str) (P : List Int → σ → Prop) (c₀ : σ)
    (hh : A.handled = none) (hl : ∀ c : σ, (l, listOf vs.toArray nn) ∈ Led c) (F : Fr h₀ env.locals s.heap m₀) (N : News h₀ env.locals s.heap (Led c₀)) (hf : Facts c₀) (hk : ∀ p ∈ ps c₀, m₀ p.1 = some p.2) (hp : P (rangeKs 0 0) c₀)
    (turn : ∀ (c : σ) (i : Nat) v (u : Str → Option Value) h tk own, vs[i]? = some v → OwnOff own ((Led c₀).map (·.1)) → Facts c → P (rangeKs 0 i) c →
      Fr h₀ env.locals h (fun y => if y = x then some v else kstB (fun z => if stored.contains z then u z else m₀ z) (ps c) y) → News h₀ env.locals h (Led c ++ own) →
      wpAny (model prog w) A (execs body env) (InvPostN h₀ env.locals (KstS Led ps Facts x stored m₀ P (rangeKs 0 (i + 1))) own ((Led c₀).map (·.1)) { s with heap := h, toks := tk } Q) E { s with heap := h, toks := tk })
    (done : ∀ (c : σ) (u : Str → Option Value) h tk, Facts c → P (rangeKs 0 vs.length) c → Fr h₀ env.locals h (fun y => if y = x then u y else kstB (fun z => if stored.contains z then u z else m₀ z) (ps c) y) → News h₀ env.locals h (Led c) → Q .next { s with heap := h, toks := tk }) :
    wpAny (model prog w) A (pyIter (.ref l)) (fun it s₂ => LoopAtV prog w A h₀ env x body Q E it s₂) E s := by
  refine iter_vals (fun i m nx => KstS Led ps Facts x stored m₀ P (rangeKs 0 i) m nx) hh (hl c₀) F N ⟨c₀, rfl, hf, hk, fun _ _ _ _ => rfl, hp⟩ ?_ ?_
  · rintro i v m₁ nx h tk own hn hoff ⟨c, rfl, hf', h1, h2, hp'⟩ F₁ N₁
    refine wpAny_mono (turn c i v m₁ h tk own hn hoff hf' hp' (kst_fr h1 h2 F₁) N₁) (fun f s₂ p => ?_) fun _ _ x => x
    have up : InvEndN h₀ env.locals (KstS Led ps Facts x stored m₀ P (rangeKs 0 (i + 1))) own ((Led c₀).map (·.1)) { s with heap := h, toks := tk } s₂ →
        InvEndN h₀ env.locals (fun m' nx => (l, listOf vs.toArray nn) ∈ nx ∧ KstS Led ps Facts x stored m₀ P (rangeKs 0 (i + 1)) m' nx) own ((Led c₀).map (·.1)) { s with heap := h, toks := tk } s₂ := by
      rintro ⟨h', tk', m', news', nx', e', F', N', hn', ho', ha, hS⟩
      refine ⟨h', tk', m', news', nx', e', F', N', hn', ho', ha, ?_, hS⟩
      obtain ⟨c', rfl, _⟩ := hS
      exact hl c'
    cases f with
    | ret v => exact p
    | brk => exact p
    | next => exact up p
    | cont => exact up p
  · rintro m₁ nx h tk ⟨c, rfl, hf', h1, h2, hp'⟩ F₁ N₁
    exact done c m₁ h tk hf' hp' (kst_frOut h1 h2 F₁) N₁
end
end

section
-- W1
open PySem PySem.W PyProof.Rows
theorem kwn_W1 : True := by
  k_with_none
  w_top off
  trivial
theorem kwo_W1 : True := by
  k_with "m:omega" => first | with_reducible assumption | decide | with_reducible exact Int.le_refl _ | with_reducible exact Nat.le_refl _ | with_reducible exact rm_u2 | with_reducible exact rm_d2 | with_reducible exact rm_u1 | with_reducible exact rm_d1 | with_reducible exact rm_u0 | with_reducible exact rm_d0 | with_reducible exact n_up | with_reducible exact q_o | with_reducible exact q_c1 | with_reducible exact q_c2 | with_reducible exact q_c3 | with_reducible exact q_c4 | with_reducible exact q_n1 | with_reducible exact q_n2 | with_reducible exact q_n3 | with_reducible exact q_l1 | with_reducible exact q_l2 | with_reducible exact q_t1 | with_reducible exact q_t2 | with_reducible exact q_t3 | with_reducible exact q_t4 | with_reducible exact q_t5 | ((with_reducible show _ ≠ _); first | k_extra "P" | (refine Ne.symm ?_; k_extra "P") | (refine Nat.ne_of_lt ?_; k_extra "P") | (refine Nat.ne_of_gt ?_; k_extra "P"))
  k_with "P" => first | with_reducible assumption | with_reducible exact And.left (by with_reducible assumption) | with_reducible exact And.right (by with_reducible assumption) | with_reducible exact q_r (by with_reducible assumption) | with_reducible exact q_s (by with_reducible assumption) | with_reducible exact q_t (by with_reducible assumption) | with_reducible exact q_u (by with_reducible assumption)
  k_with "D" => ((try simp +zetaDelta only [depth_in1, depth_deeper]); (try dsimp only [ktrTop]); omega)
  k_with "U" => ((try simp +zetaDelta only [units_in1, units_deeper, Around.mark_units]); (try dsimp only [ktrTop]); omega)
  k_with "K5" => ((case k1 => k_asm); (case k2 => k_asm); (case k3 => k_asm); (case k4 => k_asm); (case k5 => k_asm))
  k_with "S" => first | with_reducible assumption | exact .inl rfl | exact .inr (.inl rfl) | exact .inr (.inr rfl) | exact .inr rfl | omega | k_mem | exact notTi (by with_reducible assumption) (by with_reducible assumption) | (simp only [PySem.Str.length_append, KOpn.len_one]; omega) | assumption
  k_with "m:eval Call" => (k_here; k_dflt (first | ((with_reducible show wpAny _ _ (eval (.Call (.Name (Str.ofString "len") _) [.Name _ _] [] _) _) _ _ _); refine len_nm (q := ?_)) | ((with_reducible show wpAny _ _ (eval (.Call (.Name (Str.ofString "len") _) [_] [] _) _) _ _ _); refine callLen (h := ?_)) | ((with_reducible show wpAny _ _ (eval (.Call (.Name (Str.ofString "str") _) [_] [] _) _) _ _ _); refine callStr (h := ?_)) | ((with_reducible show wpAny _ _ (eval (.Call (.Name _ _) [_] [] _) _) _ _ _); refine callK1 (h := ?_)) | ((with_reducible show wpAny _ _ (eval (.Call (.Name _ _) [_, _] [] _) _) _ _ _); refine callK2 (h := ?_)) | ((with_reducible show wpAny _ _ (eval (.Call (.Name _ _) [_, _, _] [] _) _) _ _ _); refine callK3 (h := ?_))); k_whole)
  k_with "m:eval Constant int" => (k_here; k_dflt (refine cInt ?_); k_whole)
  k_with "m:eval Constant str" => (k_here; k_dflt (refine cStr ?_); k_whole)
  k_with "m:storeName" => (k_here; k_dflt (refine storeS (q := ?_)); k_whole; intro h' F' N'; (try k_sweep))
  k_with "m:binaryOp Add int int" => (k_here; k_dflt (refine addS ?_); k_whole)
  k_with "m:binaryOp Sub int int" => (k_here; k_dflt (refine subS ?_); k_whole)
  k_with "m:call builtin:len" => (k_here; (with_reducible show wpAny _ _ (call _ [.str _ _]) _ _ _); k_dflt (refine lenS (q := ?_)); k_whole)
  k_with "m:newList" => (k_here; k_dflt (refine lstS (q := ?_) (by first | exact Nat.le_of_ble_eq_true rfl | size_fits)); k_whole; intro l' h' F' N' l1; (try k_lt l1); (try k_sweep))
  k_with "m:execs cons" => (k_here; k_dflt (first | ((with_reducible show wpAny _ _ (execs (.Assign [.Name _ _] _ _ :: _) _) _ _ _); refine sAsg ?_ (Eq.refl true)) | ((with_reducible show wpAny _ _ (execs (.Return (some _) _ :: _) _) _ _ _); refine sRet ?_) | ((with_reducible show wpAny _ _ (execs (.If _ [.Return (some _) _] [] _ :: _) _) _ _ _); refine sIfR ?_) | ((with_reducible show wpAny _ _ (execs (.If _ _ [] _ :: _) _) _ _ _); refine sIf1 ?_)); k_whole)
  k_with "m:eval Tuple" => (k_here; first | ((with_reducible show wpAny _ _ (eval (.Tuple [.Constant (.str _) _ _, .Constant (.str _) _ _] _ _) _) _ _ _); k_dflt (refine tupSS (q := ?_)); k_whole; intro D' h' F' N' l1; (try k_lt l1)) | ((with_reducible show wpAny _ _ (eval (.Tuple [_, _] _ _) _) _ _ _); k_dflt (refine tup2 ?_ (Eq.refl true) (Eq.refl true)); k_whole))
  k_with "m:eval List" => (k_here; k_dflt (first | ((with_reducible show wpAny _ _ (eval (.List [_] _) _) _ _ _); refine lst1 ?_ (Eq.refl true)) | ((with_reducible show wpAny _ _ (eval (.List [_, _] _) _) _ _ _); refine lst2 ?_ (Eq.refl true) (Eq.refl true)) | ((with_reducible show wpAny _ _ (eval (.List [_, _, _] _) _) _ _ _); refine lst3 ?_ (Eq.refl true) (Eq.refl true) (Eq.refl true)) | ((with_reducible show wpAny _ _ (eval (.List [_, _, _, _] _) _) _ _ _); refine lst4 ?_ (Eq.refl true) (Eq.refl true) (Eq.refl true) (Eq.refl true))); k_whole)
  k_with "m:eval BinOp" => (k_here; k_dflt (first | ((with_reducible show wpAny _ _ (eval (.BinOp (.Name _ _) _ (.Name _ _) _) _) _ _ _); refine bNN (q := ?_)) | ((with_reducible show wpAny _ _ (eval (.BinOp (.Name _ _) _ (.Constant (.int _) _ _) _) _) _ _ _); refine bNC (q := ?_)) | ((with_reducible show wpAny _ _ (eval (.BinOp (.Name _ _) _ _ _) _) _ _ _); refine bN (q := ?_))); k_whole)
  k_with "m:isTrue Compare" => (k_here; k_dflt (first | ((with_reducible show wpAny _ _ (isTrue (.Compare (.Name _ _) [_] [(.Name _ _)] _) _ _) _ _ _); refine cNN (q := ?_)) | ((with_reducible show wpAny _ _ (isTrue (.Compare (.Name _ _) [_] [(.Constant (.int _) _ _)] _) _ _) _ _ _); refine cNC (q := ?_)) | ((with_reducible show wpAny _ _ (isTrue (.Compare (.Name _ _) [_] [_] _) _ _) _ _ _); refine cN (q := ?_))); k_whole)
  k_with "m:eval Subscript" => (k_here; k_dflt (first | ((with_reducible show wpAny _ _ (eval (.Subscript (.Name _ _) (.Name _ _) _) _) _ _ _); refine gNN (q := ?_)) | ((with_reducible show wpAny _ _ (eval (.Subscript (.Name _ _) (.Constant (.int _) _ _) _) _) _ _ _); refine gNC (q := ?_)) | ((with_reducible show wpAny _ _ (eval (.Subscript (.Name _ _) _ _) _) _ _ _); refine gN (q := ?_))); k_whole)
  trivial
open PySem.Challenge
set_option maxRecDepth 100000
set_option maxHeartbeats 4000000
noncomputable abbrev lstO (vs : List Value) (n : Nat := 0) : Obj := { cls := .type "list", data := .seq vs.toArray n }
theorem add_us {prog : Program} {w : World} {A : Around} {E : Value → Shared → Prop} {s : Shared} {h₀ : Heap} {L : Addr} {m : Str → Option Value} {news : List (Addr × Obj)} {Q : Value → Shared → Prop} {l b : Addr} {xs us : List Value} {n n' : Nat} (F : Fr h₀ L s.heap m) (N : News h₀ L s.heap news)
    (hl : (l, ({ cls := .type "list", data := .seq xs.toArray n } : Obj)) ∈ news) (hb : (b, lstO us n') ∈ news) (hsz : xs.length + us.length ≤ sizeLine)
    (h : ∀ D h', Fr h₀ L h' m → News h₀ L h' ((D, lstO (xs ++ us)) :: news) → (∀ p ∈ news, p.1 < D) → Q (.ref D) { s with heap := h' }) : wpAny (model prog w) A (binaryOp .Add (.ref l) (.ref b)) Q E s :=
  add_arrays F N (News.isList N hl) (News.isList N hb) (fun h' F' N' => h _ _ F' N' fun p hp => Heap.lt_size (N p hp).1) (by simpa using hsz)
theorem ne_str_same {prog : Program} {w : World} {A : Around} {E : Value → Shared → Prop} {s : Shared} {x : Str} {t u : Tok} {Q : Value → Shared → Prop} (h : Q (.bool false) s) : wpAny (model prog w) A (compareOp .NotEq (.str x t) (.str x u)) Q E s := by
  have := PySem.SeqAt.RcNeAt.str_str (A := A) (s := s) x t x u
  rw [beq_self_eq_true] at this
  exact this prog w E Q h
section
variable (w : World) (mean : ExcName → Option Value) (mg mb : Str → Option Value) (li : Addr) (us : List Value) (c : Str) (G : Str → Str)
noncomputable abbrev CasedH : Prop := ∀ ⦃news' n cmd t u⦄, (li, lstO us n) ∈ news' → (cmd = sLow ∨ cmd = sUp ∨ cmd = sTi) → CbH 140 w mean mg mb 367 news' [.str cmd t, .str c u, .ref li] (RetN news' fun t t' => [.str (Str.ofString "gave") t, .str (G cmd) t'])
noncomputable abbrev HeardH : Prop := ∀ ⦃news' ws n cmd t0 t1 t2⦄, (ws, lstO ([.str (Str.ofString "string") t0, .str cmd t1, .str c t2] ++ us) n) ∈ news' → (cmd = sLow ∨ cmd = sUp ∨ cmd = sTi) → CbH 160 w mean mg mb 346 news' [.ref ws] (RetN news' fun t t' => [.str (Str.ofString "gave") t, .str (G cmd) t'])
noncomputable abbrev AgainH : Prop := ∀ ⦃news' ws n cmd t0 t1 t2⦄, (ws, lstO ([.str (Str.ofString "string") t0, .str cmd t1, .str (G cmd) t2] ++ us) n) ∈ news' → (cmd = sLow ∨ cmd = sUp) → CbH 160 w mean mg mb 346 news' [.ref ws] (RetN news' fun t t' => [.str (Str.ofString "gave") t, .str (G cmd) t'])
noncomputable abbrev SameH : Prop := ∀ ⦃news' ws n cmd t0 t1 t2 t3 t4⦄, (ws, lstO [.str (Str.ofString "string") t0, .str (Str.ofString "equal") t1, .str (Str.ofString "-nocase") t2, .str c t3, .str (G cmd) t4] n) ∈ news' → CbH 160 w mean mg mb 346 news' [.ref ws] (RetN news' fun t t' => [.str (Str.ofString "gave") t, .str (Str.ofString "1") t'])
noncomputable abbrev FoldH : Prop := ∀ ⦃news' cmd t⦄, CbH 2 w mean mg mb 136 news' [.str (G cmd) t] (RetV news' fun t => .str (foldF c) t)
end
theorem kw_W1_1 : True := by
  k_with "m:call ref" => (k_here; (with_reducible show wpAny _ _ (call (Value.ref 136) _) _ _ _); k_dflt (refine' folded_c ?hc0 _ _ _ _ _ _ _ _ _ _ _ _ _ _ _ _ _ ?k1 ?k2 ?k3 ?k4 ?k5 ?kK ?kd ?ku ?_); k_extra "K5"; (case kK => first | exact rfl | assumption); (case hc0 => k_extra "S"); (case kd => (k_extra "D")); (case ku => (k_extra "U")); intro t9 h9 tk9 F9 N9; (try dsimp only); (skip); (all_goals (try k_fold)))
  k_with "m:call ref" => (k_here; (with_reducible show wpAny _ _ (call (Value.ref 136) _) _ _ _); k_extra "call ref")
  k_with "m:call ref" => (k_here; (with_reducible show wpAny _ _ (call (Value.ref 360) _) _ _ _); k_dflt (refine' sign_c  _ _ _ _ _ _ _ _ _ _ _ _ _ _ _ _ ?k1 ?k2 ?k3 ?k4 ?k5 ?kK ?kd ?ku ?_); k_extra "K5"; (case kK => first | exact rfl | assumption); (case kd => (k_extra "D")); (case ku => (k_extra "U")); intro t9 h9 tk9 F9 N9; (try dsimp only); (skip); (all_goals (try k_fold)))
  k_with "m:call ref" => (k_here; (with_reducible show wpAny _ _ (call (Value.ref 367) _) _ _ _); k_extra "call ref")
  k_with "m:call ref" => (k_here; (with_reducible show wpAny _ _ (call (Value.ref 346) _) _ _ _); k_extra "call ref")
  k_with "m:compareOp NotEq ref ref" => (k_here; k_dflt (first | refine nn_nil (News.isTup (by k_asm) (by k_mem)) (News.isTup (by k_asm) (by k_mem)) (by (k_extra "U")) ?_ | refine ne_nil (News.isTup (by k_asm) (by k_mem)) (News.isTup (by k_asm) (by k_mem)) (List.cons_ne_nil _ _) (by (k_extra "U")) ?_ | refine ne_gave (News.isTup (by k_asm) (by k_mem)) (News.isTup (by k_asm) (by k_mem)) (by (k_extra "U")) ?_ | refine ne_fault (News.isTup (by k_asm) (by k_mem)) (News.isTup (by k_asm) (by k_mem)) (News.isTup (by k_asm) (by k_mem)) (News.isTup (by k_asm) (by k_mem)) (by with_reducible assumption) (by with_reducible assumption) (by (k_extra "U")) (by first | with_reducible assumption | exact neOf (by with_reducible assumption) (by k_mem) | exact neN (by omega)) ?_))
  k_with "m:subscriptTail Name Constant ref int" => (k_here; (with_reducible show wpAny _ _ (subscriptTail _ _ (Value.ref _) (Value.int _ _)) _ _ _); k_dflt (refine item_tuple (News.isTup (by k_asm) (by k_mem)) (by decide) (by decide) (by first | exact (rfl : _ = some 0) | exact (rfl : _ = some 1)) (by first | exact (rfl : _ = some (Value.str _ _)) | exact (rfl : _ = some (Value.ref _)) | exact (rfl : _ = some (Value.int _ _))) ?_))
  k_with "m:compareOp NotEq str str" => (k_here; with_reducible refine ne_str_same ?_)
  k_with "m:binaryOp Add ref ref" => (k_here; k_dflt (refine add_us (us := _) (by k_asm) (by k_asm) (by k_mem) (by k_mem) (by (simp only [sizeLine_eq, List.length_cons, List.length_nil]; omega)) ?_); intro D' h' F' N' l1; (try k_lt l1))
  k_with "m:eval ListComp" => (k_here; k_dflt (refine ListComp_T (by k_asm) (by with_unfolding_all rfl) (by decide) (by rfl) (by decide) (by rfl) ?_))
  k_with "m:CompTxt" => (k_here; k_dflt (refine ⟨_, _, _, rfl, rfl, (by k_asm), (by k_asm), (by (show PySem.Str.length _ ≤ _); rw [sizeLine_eq]; omega), ?_⟩); intro s9 hs9; obtain ⟨g9, eg9⟩ := hs9; subst eg9; k_dflt (refine text_rest lowSign ?_ ?_); (intro c' u' I' oI' C' oC' D' m' ys' h' tk' E' hk' hC' hx' F' N' off' ne'); (simp only [LCg.Off3, and_true] at off'); rotate_left; (intro ys9 hys9; dsimp only [LCg.FinE]; intro D9 h9 tk9 F9 N9 o9); rotate_left; all_goals (try k_fold))
  k_with "m:KCtEl" => (k_dflt (exact kct_el rfl rfl rfl))
  k_with "m:call builtin:str.join" => (k_here; k_dflt (show wpAny _ _ (call (Value.builtin "str.join") [Value.str _ _, Value.ref _]) _ _ _); k_dflt (refine KT.join_1 (News.isList (by k_asm) (by k_mem)) (by with_reducible assumption) (fun a _ => lowSign_len a) (by rw [KStt.codes_length]; omega) ?_); intro _ _ ktE)
  trivial
noncomputable abbrev kLed (l : List (Addr × Obj)) (_ : Unit) : List (Addr × Obj) := l
theorem cmdAt {a b d : Tok} {i : Nat} {v : Value} (h : [Value.str sLow a, .str sUp b, .str sTi d][i]? = some v) : ∃ cmd t, v = .str cmd t ∧ (cmd = sLow ∨ cmd = sUp ∨ cmd = sTi) := by
  match i, h with
  | 0, h => exact ⟨_, _, (Option.some.inj h).symm, .inl rfl⟩
  | 1, h => exact ⟨_, _, (Option.some.inj h).symm, .inr (.inl rfl)⟩
  | 2, h => exact ⟨_, _, (Option.some.inj h).symm, .inr (.inr rfl)⟩
theorem notTi {cmd : Str} (h : cmd = sLow ∨ cmd = sUp ∨ cmd = sTi) (h2 : (cmd != sTi) = true) : cmd = sLow ∨ cmd = sUp := by
  rcases h with h | h | h
  · exact .inl h
  · exact .inr h
  · subst h; exact absurd h2 (by decide)
theorem all2 {l : List (Addr × Obj)} {a b : Addr × Obj} (h1 : a ∈ l) (h2 : b ∈ l) : ∀ p ∈ [a, b], p ∈ l := List.forall_mem_cons.mpr ⟨h1, List.forall_mem_cons.mpr ⟨h2, List.forall_mem_nil _⟩⟩
theorem notDue {z : Str} (h : [Str.ofString "due", Str.ofString "same"].contains z = false) : z ≠ Str.ofString "due" ∧ z ≠ Str.ofString "same" := ⟨fun e => by subst e; exact absurd h (by decide), fun e => by subst e; exact absurd h (by decide)⟩
theorem kw_W1_2 : True := by
  k_with "m:exec For Name List cons nil" => (k_here; (rename Fr _ _ _ _ => lF'); (with_unfolding_all refine' For_invVF lF' ?k1 ?k2 ?_; (case k1 => exact rfl); (case k2 => exact rfl); k_whole))
  k_with "m:pyIter ref" => (k_here; (with_reducible show wpAny _ _ (pyIter (Value.ref _)) (fun it s₂ => LoopAtV _ _ _ _ _ _ _ _ _ it s₂) _ _); (rename Fr _ _ _ _ => lF'); (rename News _ _ _ _ => lN'); k_dflt (refine' vals_loop (kLed _) (fun _ => []) (fun _ => True) [Str.ofString "due", Str.ofString "same"] (fun _ _ => True) () rfl (fun _ => (by k_mem)) lF' lN' trivial (fun _ h => nomatch h) trivial ?_ ?_); (all_goals clear lF' lN'); (intro c9 i9 v9 u9 h9 tk9 own9 hv9 ho9 hf9 hp9 F9 N9; obtain ⟨cmd9, t9, ev9, hcmd9⟩ := cmdAt hv9; subst ev9; dsimp only [kLed, List.map, List.cons_append] at ho9 N9); rotate_left; (intro c9 u9 h9 tk9 hf9 hp9 F9 N9; dsimp only [kLed] at N9); rotate_left; all_goals (try k_fold))
  k_with "m:InvEndN" => (k_here; (rename News _ _ _ _ => nE'); (rename Fr _ _ _ _ => fE'); k_dflt (exact kst_end () fE' nE' (all2 (by k_mem) (by k_mem)) (fun p hp => by (repeat (first | exact hp | refine List.Mem.tail _ ?_))) rfl trivial (fun _ h => nomatch h) (fun z h1 h2 h3 => (if_neg (notDue h3).2).trans ((if_neg (notDue h3).1).trans ((if_neg h1).trans (if_neg (by rw [h3]; decide))))) trivial))
  trivial
theorem case_right_c {w mean mg mb} {news : List (Addr × Obj)} {li : Addr} {n : Nat} {c : Str} {t : Tok} {us : List Value} {G : Str → Str}
    (hl : (li, lstO us n) ∈ news) (h : OkT c) (hus : us.length ≤ 2) (HC : CasedH w mean mg mb li us c G) (HH : HeardH w mean mg mb us c G) (HA : AgainH w mean mg mb us G) (HS : SameH w mean mg mb c G) (HF : FoldH w mean mg mb c G) :
    CbH 180 w mean mg mb 372 news [.str c t, .ref li] (RetV news fun _ => .bool true) := by
  have hlen := h.len
  k_with "call ref" => (k_here; (with_reducible show wpAny _ _ (call (Value.ref 136) _) _ _ _); k_dflt (refine' HF  _ _ _ _ _ _ _ _ _ _ _ _ _ _ _ _ ?k1 ?k2 ?k3 ?k4 ?k5 ?kK ?kd ?ku ?_); k_extra "K5"; (case kK => first | exact rfl | assumption); (case kd => (k_extra "D")); (case ku => (k_extra "U")); intro t9 h9 tk9 F9 N9; (try dsimp only); (skip); (all_goals (try k_fold)))
  k_with "call ref" => (k_here; (with_reducible show wpAny _ _ (call (Value.ref 367) _) _ _ _); k_dflt (refine' HC ?hc0 ?hc1 _ _ _ _ _ _ _ _ _ _ _ _ _ _ _ _ ?k1 ?k2 ?k3 ?k4 ?k5 ?kK ?kd ?ku ?_); k_extra "K5"; (case kK => first | exact rfl | assumption); (case hc0 => k_extra "S"); (case hc1 => k_extra "S"); (case kd => (k_extra "D")); (case ku => (k_extra "U")); intro D9 t9 u9 h9 tk9 F9 N9 _; (try dsimp only); (skip); (all_goals (try k_fold)))
  k_with "call ref" => (k_here; (with_reducible show wpAny _ _ (call (Value.ref 346) _) _ _ _); k_dflt (refine' HS ?hc0 _ _ _ _ _ _ _ _ _ _ _ _ _ _ _ _ ?k1 ?k2 ?k3 ?k4 ?k5 ?kK ?kd ?ku ?_); k_extra "K5"; (case kK => first | exact rfl | assumption); (case hc0 => k_extra "S"); (case kd => (k_extra "D")); (case ku => (k_extra "U")); intro D9 t9 u9 h9 tk9 F9 N9 _; (try dsimp only); (skip); (all_goals (try k_fold)))
  k_with "call ref" => (k_here; (with_reducible show wpAny _ _ (call (Value.ref 346) _) _ _ _); k_dflt (refine' HA ?hc0 ?hc1 _ _ _ _ _ _ _ _ _ _ _ _ _ _ _ _ ?k1 ?k2 ?k3 ?k4 ?k5 ?kK ?kd ?ku ?_); k_extra "K5"; (case kK => first | exact rfl | assumption); (case hc0 => k_extra "S"); (case hc1 => k_extra "S"); (case kd => (k_extra "D")); (case ku => (k_extra "U")); intro D9 t9 u9 h9 tk9 F9 N9 _; (try dsimp only); (skip); (all_goals (try k_fold)))
  k_with "call ref" => (k_here; (with_reducible show wpAny _ _ (call (Value.ref 346) _) _ _ _); k_dflt (refine' HH ?hc0 ?hc1 _ _ _ _ _ _ _ _ _ _ _ _ _ _ _ _ ?k1 ?k2 ?k3 ?k4 ?k5 ?kK ?kd ?ku ?_); k_extra "K5"; (case kK => first | exact rfl | assumption); (case hc0 => k_extra "S"); (case hc1 => k_extra "S"); (case kd => (k_extra "D")); (case ku => (k_extra "U")); intro D9 t9 u9 h9 tk9 F9 N9 _; (try dsimp only); (skip); (all_goals (try k_fold)))
  ((try unfold Cb); (try unfold CbE); (try unfold CbG); (try unfold CbH); k_fill; (try dsimp only [RetV, RetT]); intros; rename_i s0 Q0 E0 B0 F0 X0 N0 T0 hk0 hd0 hu0 hret; refine wpAny_call ?_; k_dflt (refine' code_defP ?k1 ?k2 ?k3 ?k4 ?k5 ?kA ?kF ?kK ?k6 ?k7 ?k8 ?k9 ?kB ?_ ?c2 ?c3 ?c4 ?c5; (case kA => exact rfl); (case kF => exact rfl); (case kK => first | exact rfl | assumption); (case k1 => k_asm); (case k2 => k_asm); (case k4 => exact newsSub N0 hl); (case k3 => k_asm); (case k5 => k_asm); (case k6 => k_is); (case k7 => k_is); (case k8 => ktr_room); (case k9 => exact BindsTo.of_eq rfl); (case c5 => decide); (case kB => exact locs rfl); (case c2 => exact rfl); (case c3 => exact rfl); (case c4 => exact rfl); k_whole; intro g' L' h' HG0 FG' F' N' B' X' T'; (try dsimp only); (try k_lift B'); (try k_fold)); (refine letA ?_); (intro kA); (replace F' : Fr g' L' h' (fun y => List.lookup y [(Str.ofString "indices", _), (Str.ofString "text", _)]) := F'); (generalize Shared.toks _ + List.length _ = tk0))
  k_steps
  all_goals first | (refine cb_retB hret ?_ (by k_asm) (by (exact newsKeepM N0 (newsSub N0 hl) HG0 (by k_asm) (newsSub (by k_asm) (by k_mem)))); exact fold_join h)
end

section
-- LT
open PySem PySem.W PyProof.Rows PySem.Calls PySem.Spec
open PySem.Challenge
/-- a ground that may have turned -/
structure Grd (A₀ : Around) (base : Heap) (outer : List Env) (w : World) (mean : ExcName → Option Value) (mg mb : Str → Option Value) (g₀ g : Heap) : Prop where
  t : KtsTurn (frs outer) g₀ g
  b : Below A₀ base outer g
  k : (hd.heap_1 w.params).In g
  p : Top view LS mean mg mb g
  d : KtsDicts (frs outer) g
section
variable {A₀ : Around} {base : Heap} {outer : List Env} {w : World} {mean : ExcName → Option Value} {mg mb : Str → Option Value} {g₀ : Heap}
noncomputable def TPost (A₀ : Around) (base : Heap) (outer : List Env) (w : World) (mean : ExcName → Option Value) (mg mb : Str → Option Value) (g₀ : Heap) (L : Addr) (x : Str) (stored : List Str) (m₀ : Str → Option Value) (led : List (Addr × Obj)) (s₁ : Shared) (Q : Flow → Shared → Prop) (f : Flow) (s₂ : Shared) : Prop :=
  match f with
  | .ret v => Q (.ret v) s₂
  | .brk => Q .next s₂
  | _ => ∃ g' h' tk m' nw, s₂ = { s₁ with heap := h', toks := tk } ∧ Grd A₀ base outer w mean mg mb g₀ g' ∧ Fr g' L h' m' ∧ News g' L h' nw ∧ (∀ p ∈ led, p ∈ nw) ∧ ∀ z, z ≠ x → stored.contains z = false → m' z = m₀ z
noncomputable def TLoop (prog : Program) (A A₀ : Around) (base : Heap) (outer : List Env) (w : World) (mean : ExcName → Option Value) (mg mb : Str → Option Value) (g₀ : Heap) (env : Env) (x : Str) (body : List Stmt) (stored : List Str) (Q : Flow → Shared → Prop) (E : Value → Shared → Prop) (xv : Value) (s₁ : Shared) : Prop :=
  ∃ (l : Addr) (vs : List Value) (nn : Nat) (g : Heap) (m₀ : Str → Option Value) (led : List (Addr × Obj)), xv = .ref l ∧ A.handled = none ∧ Grd A₀ base outer w mean mg mb g₀ g ∧ Fr g env.locals s₁.heap m₀ ∧ News g env.locals s₁.heap led ∧ (l, listOf vs.toArray nn) ∈ led ∧
    (∀ (i : Nat) (v : Value) (u : Str → Option Value) (g' h : Heap) (tk : Nat) (I : Addr) (oI : Obj), vs[i]? = some v → Grd A₀ base outer w mean mg mb g₀ g' → Fr g' env.locals h (fun y => if y = x then some v else if stored.contains y then u y else m₀ y) → News g' env.locals h (led ++ [(I, oI)]) → (∀ p ∈ led, p.1 < I) →
      wpAny (model prog w) A (execs body env) (TPost A₀ base outer w mean mg mb g₀ env.locals x stored m₀ (led ++ [(I, oI)]) { s₁ with heap := h, toks := tk } Q) E { s₁ with heap := h, toks := tk }) ∧
    (∀ (u : Str → Option Value) (g' h : Heap) (tk : Nat), Grd A₀ base outer w mean mg mb g₀ g' → Fr g' env.locals h (fun y => if y = x then u y else if stored.contains y then u y else m₀ y) → News g' env.locals h led → Q .next { s₁ with heap := h, toks := tk })
theorem For_turn {prog : Program} {A : Around} {env : Env} {s : Shared} {x : Str} {px pos : Pos} {iter : Expr} {body : List Stmt} (stored : List Str) {Q : Flow → Shared → Prop} {E : Value → Shared → Prop} {g : Heap} (_B : Below A₀ base outer g) (_T : Top view LS mean mg mb g) (_T0 : KtsTurn (frs outer) g₀ g) (hx : env.kindOf x = some .local)
    (hp : (env.scope.kind == .class || (env.scope.kind == .module && env.locals != env.globals)) = false)
    (h : wpAny (model prog w) A (eval iter env) (TLoop prog A A₀ base outer w mean mg mb g₀ env x body stored Q E) E s)
    (hs : ∀ x, foldedSetIterable iter env x = pure x := by intro _; rfl) (hE : PassesOwn (model prog w) A env E := by passes_own) :
    wpAny (model prog w) A (exec (.For (.Name x px) iter body [] pos) env) Q E s := by
  refine wpAny_For (wpAny_mono h (fun xv s₁ h₁ => ?_) fun _ _ e => e) hs
  clear _B _T _T0 g
  obtain ⟨l, vs, nn, g, m₀, led, rfl, hh, G, F, N, hl, turn, done⟩ := h₁
  have hol : s₁.heap.get? l = some (listOf vs.toArray nn) := (N _ hl).1
  have hls : s₁.heap.IsList l vs.toArray := ⟨_, hol, rfl, nn, rfl⟩
  have hlt : l < s₁.heap.objs.size := Heap.lt_size hol
  have off : ∀ p ∈ led, p.1 < s₁.heap.objs.size := fun p hp => Heap.lt_size (N _ hp).1
  have LI : env.locals ≠ s₁.heap.objs.size := fun e => Nat.lt_irrefl _ (e ▸ F.ns.lt)
  refine wpAny_pyIter_list hls ?_
  have W := Walks.list (prog := prog) (w := w) hh s₁.heap.objs.size l (Nat.ne_of_lt hlt) vs.toArray
  rw [show vs.toArray.size = vs.length from List.size_toArray ..] at W
  generalize hI : s₁.heap.objs.size = I at W off LI ⊢
  refine codeAny_forLoop (fun k s' => ∃ i g' h' tk m' oI, s' = { s₁ with heap := h', toks := tk } ∧ i ≤ vs.length ∧ k = vs.length + 1 - i ∧ h'.IsListIter I l i ∧ Grd A₀ base outer w mean mg mb g₀ g' ∧ Fr g' env.locals h' m' ∧ News g' env.locals h' (led ++ [(I, oI)]) ∧ ∀ z, z ≠ x → stored.contains z = false → m' z = m₀ z) ?_ (vs.length + 1)
    ⟨0, g, _, _, m₀, { cls := .type "list_iterator", data := .fields #[.ref l, .int 0 0] }, rfl, Nat.zero_le _, rfl, ⟨_, by rw [← hI]; exact Heap.get?_push_size _ rfl, rfl, rfl⟩, G, F.push _, fun p hp => ?_, fun _ _ _ => rfl⟩
  rotate_left
  · rcases List.mem_append.mp hp with hp | hp
    · exact ⟨Heap.get?_push_of_some _ (N p hp).1, (N p hp).2⟩
    · rw [List.mem_singleton.mp hp]
      exact ⟨by rw [← hI]; exact Heap.get?_push_size _ rfl, Ne.symm LI, by rw [← hI]; exact next_is_new F⟩
  rintro k s' ⟨i, g', h', tk, m', oI, rfl, hi, rfl, hit, G', F', N', hm'⟩
  have hIn : g'.get? I = none := (N' (I, oI) (List.mem_append_right _ (.head _))).2.2
  have hst : h'.IsListIter I l i ∧ h'.IsList l vs.toArray := ⟨hit, News.isList N' (List.mem_append_left _ hl)⟩
  have fr_next : ∀ h₁ : Heap, (∀ b o, b ∉ [I] → h'.get? b = some o → h₁.get? b = some o) → Fr g' env.locals h₁ m' := fun h₁ hk => ⟨F'.ns.at' fun o e => hk _ o (by simpa using LI) e, fun b o e => hk b o (fun z => by rw [List.mem_singleton.mp z, hIn] at e; cases e) (F'.keep b o e), F'.above⟩
  have nw_next : ∀ h₁ : Heap, (∀ b o, b ∉ [I] → h'.get? b = some o → h₁.get? b = some o) → News g' env.locals h₁ led := fun h₁ hk p hp =>
    have z := N' p (List.mem_append_left _ hp)
    ⟨hk _ _ (by simpa using Nat.ne_of_lt (off p hp)) z.1, z.2⟩
  by_cases hlt : i < vs.length
  · refine W.item i _ _ _ hlt hst fun v h₁ tk₁ hP hst₁ hk₁ => ?_
    refine wpAny_assign_Name (wpAny_storeName_local hx (fr_next h₁ hk₁).ns (fun h₂ hn₂ hs₂ => ?_) hp)
    obtain ⟨o1, ho1, ho2, ho3⟩ := hst₁.1
    have ho1' : h₂.get? I = some o1 := (hs₂.2 I (Ne.symm LI)).trans ho1
    have F₂ := (fr_next h₁ hk₁).set hn₂ hs₂
    have N₂ : News g' env.locals h₂ (led ++ [(I, o1)]) := fun p hp => by
      rcases List.mem_append.mp hp with hp | hp
      · exact (nw_next h₁ hk₁).set hs₂ p hp
      · rw [List.mem_singleton.mp hp]; exact ⟨ho1', Ne.symm LI, hIn⟩
    have em : (fun y => if y = x then some v else m' y) = fun y => if y = x then some v else if stored.contains y then m' y else m₀ y := by
      funext y
      by_cases e : y = x
      · rw [if_pos e, if_pos e]
      · rw [if_neg e, if_neg e]
        cases q : stored.contains y with
        | true => simp
        | false => simp [hm' y e q]
    rw [em] at F₂
    refine wpAny_passesOwn hE (wpAny_mono (turn i v m' g' h₂ _ I o1 (by simpa using hP) G' F₂ N₂ off) (fun f s₃ h₃ => ?_) fun _ _ e => e)
    have more : (∃ g' h' tk m' nw, s₃ = { s₁ with heap := h', toks := tk } ∧ Grd A₀ base outer w mean mg mb g₀ g' ∧ Fr g' env.locals h' m' ∧ News g' env.locals h' nw ∧ (∀ p ∈ led ++ [(I, o1)], p ∈ nw) ∧ ∀ z, z ≠ x → stored.contains z = false → m' z = m₀ z) →
        ∃ m, m < vs.length + 1 - i ∧ ∃ i g' h' tk m' oI, s₃ = { s₁ with heap := h', toks := tk } ∧ i ≤ vs.length ∧ m = vs.length + 1 - i ∧ h'.IsListIter I l i ∧ Grd A₀ base outer w mean mg mb g₀ g' ∧ Fr g' env.locals h' m' ∧ News g' env.locals h' (led ++ [(I, oI)]) ∧ ∀ z, z ≠ x → stored.contains z = false → m' z = m₀ z := by
      rintro ⟨g3, h3, tk3, m3, nw, rfl, G3, F3, N3, hsub, hz⟩
      exact ⟨vs.length + 1 - (i + 1), by omega, i + 1, g3, h3, tk3, m3, o1, rfl, hlt, rfl, ⟨o1, (N3 _ (hsub _ (List.mem_append_right _ (.head _)))).1, ho2, ho3⟩, G3, F3, fun p hp => N3 p (hsub p hp), hz⟩
    cases f with
    | ret v => exact h₃
    | brk => exact h₃
    | next => exact more h₃
    | cont => exact more h₃
  · have hin : i = vs.length := by omega
    subst hin
    refine W.done _ _ _ hst fun h₁ tk₁ hk₁ => wpAny_execs_nil ?_
    have F₁ := fr_next h₁ hk₁
    have em : m' = fun y => if y = x then m' y else if stored.contains y then m' y else m₀ y := by
      funext y
      by_cases e : y = x
      · rw [if_pos e]
      · rw [if_neg e]
        cases q : stored.contains y with
        | true => simp
        | false => simp [hm' y e q]
    rw [em] at F₁
    exact done m' g' h₁ tk₁ G' F₁ (nw_next h₁ hk₁)
theorem tloop {prog : Program} {A : Around} {env : Env} {x : Str} {body : List Stmt} {stored : List Str} {Q : Flow → Shared → Prop} {E : Value → Shared → Prop} {s₁ : Shared} {l : Addr} {vs : List Value} {nn : Nat} {g : Heap} {m₀ : Str → Option Value} {led : List (Addr × Obj)}
    (F : Fr g env.locals s₁.heap m₀) (N : News g env.locals s₁.heap led) (B : Below A₀ base outer g) (X : (hd.heap_1 w.params).In g) (P : Top view LS mean mg mb g) (D : KtsDicts (frs outer) g) (T : KtsTurn (frs outer) g₀ g) (hh : A.handled = none) (hl : (l, listOf vs.toArray nn) ∈ led)
    (turn : ∀ (i : Nat) (v : Value) (u : Str → Option Value) (g' h : Heap) (tk : Nat) (I : Addr) (oI : Obj), vs[i]? = some v → Grd A₀ base outer w mean mg mb g₀ g' → Fr g' env.locals h (fun y => if y = x then some v else if stored.contains y then u y else m₀ y) → News g' env.locals h (led ++ [(I, oI)]) → (∀ p ∈ led, p.1 < I) →
      wpAny (model prog w) A (execs body env) (TPost A₀ base outer w mean mg mb g₀ env.locals x stored m₀ (led ++ [(I, oI)]) { s₁ with heap := h, toks := tk } Q) E { s₁ with heap := h, toks := tk })
    (done : ∀ (u : Str → Option Value) (g' h : Heap) (tk : Nat), Grd A₀ base outer w mean mg mb g₀ g' → Fr g' env.locals h (fun y => if y = x then u y else if stored.contains y then u y else m₀ y) → News g' env.locals h led → Q .next { s₁ with heap := h, toks := tk }) :
    TLoop prog A A₀ base outer w mean mg mb g₀ env x body stored Q E (.ref l) s₁ := ⟨l, vs, nn, g, m₀, led, rfl, hh, ⟨T, B, X, P, D⟩, F, N, hl, turn, done⟩
theorem tpost {L : Addr} {x : Str} {stored : List Str} {m₀ m' : Str → Option Value} {led nw : List (Addr × Obj)} {s₁ : Shared} {Q : Flow → Shared → Prop} {g' h' : Heap} {tk : Nat} {f : Flow} (hf : f = .cont ∨ f = .next) (F : Fr g' L h' m') (N : News g' L h' nw) (B : Below A₀ base outer g') (X : (hd.heap_1 w.params).In g') (P : Top view LS mean mg mb g') (D : KtsDicts (frs outer) g') (T : KtsTurn (frs outer) g₀ g')
    (hs : ∀ p ∈ led, p ∈ nw) (hz : ∀ z, z ≠ x → stored.contains z = false → m' z = m₀ z) : TPost A₀ base outer w mean mg mb g₀ L x stored m₀ led s₁ Q f { s₁ with heap := h', toks := tk } := by
  rcases hf with rfl | rfl <;> exact ⟨g', h', tk, m', nw, rfl, ⟨T, B, X, P, D⟩, F, N, hs, hz⟩
end
end

section
-- W2
open PySem PySem.W PyProof.Rows
theorem kwn_W2 : True := by
  k_with_none
  w_top off
  trivial
theorem kwo_W2 : True := by
  k_with "m:omega" => first | with_reducible assumption | decide | with_reducible exact Int.le_refl _ | with_reducible exact Nat.le_refl _ | with_reducible exact rm_u2 | with_reducible exact rm_d2 | with_reducible exact rm_u1 | with_reducible exact rm_d1 | with_reducible exact rm_u0 | with_reducible exact rm_d0 | with_reducible exact n_up | with_reducible exact q_o | with_reducible exact q_c1 | with_reducible exact q_c2 | with_reducible exact q_c3 | with_reducible exact q_c4 | with_reducible exact q_n1 | with_reducible exact q_n2 | with_reducible exact q_n3 | with_reducible exact q_l1 | with_reducible exact q_l2 | with_reducible exact q_t1 | with_reducible exact q_t2 | with_reducible exact q_t3 | with_reducible exact q_t4 | with_reducible exact q_t5 | ((with_reducible show _ ≠ _); first | k_extra "P" | (refine Ne.symm ?_; k_extra "P") | (refine Nat.ne_of_lt ?_; k_extra "P") | (refine Nat.ne_of_gt ?_; k_extra "P"))
  k_with "P" => first | with_reducible assumption | with_reducible exact And.left (by with_reducible assumption) | with_reducible exact And.right (by with_reducible assumption) | with_reducible exact q_r (by with_reducible assumption) | with_reducible exact q_s (by with_reducible assumption) | with_reducible exact q_t (by with_reducible assumption) | with_reducible exact q_u (by with_reducible assumption)
  k_with "D" => ((try simp +zetaDelta only [depth_in1, depth_deeper]); (try dsimp only [ktrTop]); omega)
  k_with "U" => ((try simp +zetaDelta only [units_in1, units_deeper, Around.mark_units]); (try dsimp only [ktrTop]); omega)
  k_with "K5" => ((case k1 => k_asm); (case k2 => k_asm); (case k3 => k_asm); (case k4 => k_asm); (case k5 => k_asm))
  k_with "S" => first | with_reducible assumption | exact .inl rfl | exact .inr (.inl rfl) | exact .inr (.inr rfl) | exact .inr rfl | omega | k_mem | fail | (simp only [PySem.Str.length_append, KOpn.len_one]; omega) | assumption
  k_with "m:eval Call" => (k_here; k_dflt (first | ((with_reducible show wpAny _ _ (eval (.Call (.Name (Str.ofString "len") _) [.Name _ _] [] _) _) _ _ _); refine len_nm (q := ?_)) | ((with_reducible show wpAny _ _ (eval (.Call (.Name (Str.ofString "len") _) [_] [] _) _) _ _ _); refine callLen (h := ?_)) | ((with_reducible show wpAny _ _ (eval (.Call (.Name (Str.ofString "str") _) [_] [] _) _) _ _ _); refine callStr (h := ?_)) | ((with_reducible show wpAny _ _ (eval (.Call (.Name _ _) [_] [] _) _) _ _ _); refine callK1 (h := ?_)) | ((with_reducible show wpAny _ _ (eval (.Call (.Name _ _) [_, _] [] _) _) _ _ _); refine callK2 (h := ?_)) | ((with_reducible show wpAny _ _ (eval (.Call (.Name _ _) [_, _, _] [] _) _) _ _ _); refine callK3 (h := ?_))); k_whole)
  k_with "m:eval Constant int" => (k_here; k_dflt (refine cInt ?_); k_whole)
  k_with "m:eval Constant str" => (k_here; k_dflt (refine cStr ?_); k_whole)
  k_with "m:storeName" => (k_here; k_dflt (refine storeS (q := ?_)); k_whole; intro h' F' N'; (try k_sweep))
  k_with "m:binaryOp Add int int" => (k_here; k_dflt (refine addS ?_); k_whole)
  k_with "m:binaryOp Sub int int" => (k_here; k_dflt (refine subS ?_); k_whole)
  k_with "m:call builtin:len" => (k_here; (with_reducible show wpAny _ _ (call _ [.str _ _]) _ _ _); k_dflt (refine lenS (q := ?_)); k_whole)
  k_with "m:newList" => (k_here; k_dflt (refine lstS (q := ?_) (by first | exact Nat.le_of_ble_eq_true rfl | size_fits)); k_whole; intro l' h' F' N' l1; (try k_lt l1); (try k_sweep))
  k_with "m:execs cons" => (k_here; k_dflt (first | ((with_reducible show wpAny _ _ (execs (.Assign [.Name _ _] _ _ :: _) _) _ _ _); refine sAsg ?_ (Eq.refl true)) | ((with_reducible show wpAny _ _ (execs (.Return (some _) _ :: _) _) _ _ _); refine sRet ?_) | ((with_reducible show wpAny _ _ (execs (.If _ [.Return (some _) _] [] _ :: _) _) _ _ _); refine sIfR ?_) | ((with_reducible show wpAny _ _ (execs (.If _ _ [] _ :: _) _) _ _ _); refine sIf1 ?_)); k_whole)
  k_with "m:eval Tuple" => (k_here; first | ((with_reducible show wpAny _ _ (eval (.Tuple [.Constant (.str _) _ _, .Constant (.str _) _ _] _ _) _) _ _ _); k_dflt (refine tupSS (q := ?_)); k_whole; intro D' h' F' N' l1; (try k_lt l1)) | ((with_reducible show wpAny _ _ (eval (.Tuple [_, _] _ _) _) _ _ _); k_dflt (refine tup2 ?_ (Eq.refl true) (Eq.refl true)); k_whole))
  k_with "m:eval List" => (k_here; k_dflt (first | ((with_reducible show wpAny _ _ (eval (.List [_] _) _) _ _ _); refine lst1 ?_ (Eq.refl true)) | ((with_reducible show wpAny _ _ (eval (.List [_, _] _) _) _ _ _); refine lst2 ?_ (Eq.refl true) (Eq.refl true)) | ((with_reducible show wpAny _ _ (eval (.List [_, _, _] _) _) _ _ _); refine lst3 ?_ (Eq.refl true) (Eq.refl true) (Eq.refl true)) | ((with_reducible show wpAny _ _ (eval (.List [_, _, _, _] _) _) _ _ _); refine lst4 ?_ (Eq.refl true) (Eq.refl true) (Eq.refl true) (Eq.refl true))); k_whole)
  k_with "m:eval BinOp" => (k_here; k_dflt (first | ((with_reducible show wpAny _ _ (eval (.BinOp (.Name _ _) _ (.Name _ _) _) _) _ _ _); refine bNN (q := ?_)) | ((with_reducible show wpAny _ _ (eval (.BinOp (.Name _ _) _ (.Constant (.int _) _ _) _) _) _ _ _); refine bNC (q := ?_)) | ((with_reducible show wpAny _ _ (eval (.BinOp (.Name _ _) _ _ _) _) _ _ _); refine bN (q := ?_))); k_whole)
  k_with "m:isTrue Compare" => (k_here; k_dflt (first | ((with_reducible show wpAny _ _ (isTrue (.Compare (.Name _ _) [_] [(.Name _ _)] _) _ _) _ _ _); refine cNN (q := ?_)) | ((with_reducible show wpAny _ _ (isTrue (.Compare (.Name _ _) [_] [(.Constant (.int _) _ _)] _) _ _) _ _ _); refine cNC (q := ?_)) | ((with_reducible show wpAny _ _ (isTrue (.Compare (.Name _ _) [_] [_] _) _ _) _ _ _); refine cN (q := ?_))); k_whole)
  k_with "m:eval Subscript" => (k_here; k_dflt (first | ((with_reducible show wpAny _ _ (eval (.Subscript (.Name _ _) (.Name _ _) _) _) _ _ _); refine gNN (q := ?_)) | ((with_reducible show wpAny _ _ (eval (.Subscript (.Name _ _) (.Constant (.int _) _ _) _) _) _ _ _); refine gNC (q := ?_)) | ((with_reducible show wpAny _ _ (eval (.Subscript (.Name _ _) _ _) _) _ _ _); refine gN (q := ?_))); k_whole)
  trivial
open PySem.Challenge
set_option maxRecDepth 100000
set_option maxHeartbeats 4000000
section
variable (w : World) (mean : ExcName → Option Value) (mg mb : Str → Option Value) (li : Addr) (us : List Value) (c : Str) (msg : Str) (ecs : List Str)
noncomputable abbrev CasedB : Prop := ∀ ⦃news' n cmd t u⦄, (li, lstO us n) ∈ news' → (cmd = sLow ∨ cmd = sUp ∨ cmd = sTi) → CbT 140 w mean mg mb 367 news' [.str cmd t, .str c u, .ref li] (RetB news' msg ecs)
noncomputable abbrev HeardB : Prop := ∀ ⦃news' ws n cmd t0 t1 t2⦄, (ws, lstO ([.str (Str.ofString "string") t0, .str cmd t1, .str c t2] ++ us) n) ∈ news' → (cmd = sLow ∨ cmd = sUp ∨ cmd = sTi) → CbT 160 w mean mg mb 346 news' [.ref ws] (RetB news' msg ecs)
end
theorem kw_W2_1 : True := by
  k_with "m:call ref" => (k_here; (with_reducible show wpAny _ _ (call (Value.ref 136) _) _ _ _); k_dflt (refine' folded_c ?hc0 _ _ _ _ _ _ _ _ _ _ _ _ _ _ _ _ _ ?k1 ?k2 ?k3 ?k4 ?k5 ?kK ?kd ?ku ?_); k_extra "K5"; (case kK => first | exact rfl | assumption); (case hc0 => k_extra "S"); (case kd => (k_extra "D")); (case ku => (k_extra "U")); intro t9 h9 tk9 F9 N9; (try dsimp only); (skip); (all_goals (try k_fold)))
  k_with "m:call ref" => (k_here; (with_reducible show wpAny _ _ (call (Value.ref 360) _) _ _ _); k_dflt (refine' sign_c  _ _ _ _ _ _ _ _ _ _ _ _ _ _ _ _ ?k1 ?k2 ?k3 ?k4 ?k5 ?kK ?kd ?ku ?_); k_extra "K5"; (case kK => first | exact rfl | assumption); (case kd => (k_extra "D")); (case ku => (k_extra "U")); intro t9 h9 tk9 F9 N9; (try dsimp only); (skip); (all_goals (try k_fold)))
  k_with "m:call ref" => (k_here; (with_reducible show wpAny _ _ (call (Value.ref 367) _) _ _ _); k_extra "call ref")
  k_with "m:call ref" => (k_here; (with_reducible show wpAny _ _ (call (Value.ref 346) _) _ _ _); k_extra "call ref")
  k_with "m:compareOp NotEq ref ref" => (k_here; k_dflt (first | refine nn_nil (News.isTup (by k_asm) (by k_mem)) (News.isTup (by k_asm) (by k_mem)) (by (k_extra "U")) ?_ | refine ne_nil (News.isTup (by k_asm) (by k_mem)) (News.isTup (by k_asm) (by k_mem)) (List.cons_ne_nil _ _) (by (k_extra "U")) ?_ | refine ne_gave (News.isTup (by k_asm) (by k_mem)) (News.isTup (by k_asm) (by k_mem)) (by (k_extra "U")) ?_ | refine ne_fault (News.isTup (by k_asm) (by k_mem)) (News.isTup (by k_asm) (by k_mem)) (News.isTup (by k_asm) (by k_mem)) (News.isTup (by k_asm) (by k_mem)) (by with_reducible assumption) (by with_reducible assumption) (by (k_extra "U")) (by first | with_reducible assumption | exact neOf (by with_reducible assumption) (by k_mem) | exact neN (by omega)) ?_))
  k_with "m:subscriptTail Name Constant ref int" => (k_here; (with_reducible show wpAny _ _ (subscriptTail _ _ (Value.ref _) (Value.int _ _)) _ _ _); k_dflt (refine item_tuple (News.isTup (by k_asm) (by k_mem)) (by decide) (by decide) (by first | exact (rfl : _ = some 0) | exact (rfl : _ = some 1)) (by first | exact (rfl : _ = some (Value.str _ _)) | exact (rfl : _ = some (Value.ref _)) | exact (rfl : _ = some (Value.int _ _))) ?_))
  k_with "m:binaryOp Add ref ref" => (k_here; k_dflt (refine add_us (us := _) (by k_asm) (by k_asm) (by k_mem) (by k_mem) (by (simp only [sizeLine_eq, List.length_cons, List.length_nil]; omega)) ?_); intro D' h' F' N' l1; (try k_lt l1))
  k_with "m:eval ListComp" => (k_here; k_dflt (refine ListComp_T (by k_asm) (by with_unfolding_all rfl) (by decide) (by rfl) (by decide) (by rfl) ?_))
  k_with "m:CompTxt" => (k_here; k_dflt (refine ⟨_, _, _, rfl, rfl, (by k_asm), (by k_asm), (by (show PySem.Str.length _ ≤ _); rw [sizeLine_eq]; omega), ?_⟩); intro s9 hs9; obtain ⟨g9, eg9⟩ := hs9; subst eg9; k_dflt (refine text_rest lowSign ?_ ?_); (intro c' u' I' oI' C' oC' D' m' ys' h' tk' E' hk' hC' hx' F' N' off' ne'); (simp only [LCg.Off3, and_true] at off'); rotate_left; (intro ys9 hys9; dsimp only [LCg.FinE]; intro D9 h9 tk9 F9 N9 o9); rotate_left; all_goals (try k_fold))
  k_with "m:KCtEl" => (k_dflt (exact kct_el rfl rfl rfl))
  k_with "m:call builtin:str.join" => (k_here; k_dflt (show wpAny _ _ (call (Value.builtin "str.join") [Value.str _ _, Value.ref _]) _ _ _); k_dflt (refine KT.join_1 (News.isList (by k_asm) (by k_mem)) (by with_reducible assumption) (fun a _ => lowSign_len a) (by rw [KStt.codes_length]; omega) ?_); intro _ _ ktE)
  trivial
theorem all3 {l : List (Addr × Obj)} {a b c : Addr × Obj} (h1 : a ∈ l) (h2 : b ∈ l) (h3 : c ∈ l) : ∀ p ∈ [a, b, c], p ∈ l := List.forall_mem_cons.mpr ⟨h1, all2 h2 h3⟩
theorem kw_W2_2 : True := by
  k_with "m:exec For Name List cons nil" => (k_here; k_dflt (refine For_turn [Str.ofString "due", Str.ofString "same"] (by k_asm) (by k_asm) (by first | k_asm | exact KtsTurn.refl) rfl rfl ?_))
  k_with "m:TLoop" => (k_here; k_dflt (refine tloop (by k_asm) (by k_asm) (by k_asm) (by k_asm) (by k_asm) (by k_asm) (by first | k_asm | exact KtsTurn.refl) rfl (by k_mem) ?_ ?_); (intro i9 v9 u9 g9 h9 tk9 I9 oI9 hv9 G9 F9 N9 o9; obtain ⟨cmd9, t9, ev9, hcmd9⟩ := cmdAt hv9; subst ev9; obtain ⟨kt9, B9, X9, T9, D9⟩ := G9; dsimp only [List.cons_append, List.nil_append] at N9); rotate_left; (intro u9 g9 h9 tk9 G9 F9 N9; obtain ⟨kt9, B9, X9, T9, D9⟩ := G9); rotate_left; all_goals (try k_fold))
  k_with "m:TPost" => (k_here; k_dflt (exact tpost (by first | exact .inl rfl | exact .inr rfl) (by k_asm) (by k_asm) (by k_asm) (by k_asm) (by k_asm) (by k_asm) (by k_asm) (all3 (by k_mem) (by k_mem) (by k_mem)) (fun z h1 h3 => (if_neg (notDue h3).1).trans ((if_neg h1).trans (if_neg (by rw [h3]; decide))))))
  trivial
theorem case_right_bad_c {w mean mg mb} {news : List (Addr × Obj)} {li : Addr} {n : Nat} {c : Str} {t : Tok} {us : List Value} {msg : Str} {ecs : List Str}
    (hl : (li, lstO us n) ∈ news) (h : OkT c) (hus : us.length ≤ 2) (HC : CasedB w mean mg mb li us c msg ecs) (HH : HeardB w mean mg mb us c msg ecs) :
    CbT 180 w mean mg mb 372 news [.str c t, .ref li] (RetV news fun _ => .bool true) := by
  have hlen := h.len
  k_with "call ref" => (k_here; (with_reducible show wpAny _ _ (call (Value.ref 367) _) _ _ _); k_dflt (refine' HC ?hc0 ?hc1 _ _ _ _ _ _ _ _ _ _ _ _ _ _ _ _ _ ?k1 ?k2 ?k3 ?k4 ?k5 ?kXB ?kTB ?kD ?kT ?kK ?kd ?ku ?_; k_extra "K5"; (case kXB => k_asm); (case kTB => k_asm); (case kD => k_asm); (case kT => first | k_asm | exact KtsTurn.refl); (case kK => first | exact rfl | assumption); (case hc0 => k_extra "S"); (case hc1 => k_extra "S"); (case kd => (k_extra "D")); (case ku => (k_extra "U")); intro g9 kt9 B9 X9 T9 D9; intro D9 ec9 ta9 tb9 tc9 tv9 n9 h9 tk9 F9 N9 S9 _ _ ne9; (try dsimp only); (try k_lift B9); (skip); (all_goals (try k_fold))))
  k_with "call ref" => (k_here; (with_reducible show wpAny _ _ (call (Value.ref 346) _) _ _ _); k_dflt (refine' HH ?hc0 ?hc1 _ _ _ _ _ _ _ _ _ _ _ _ _ _ _ _ _ ?k1 ?k2 ?k3 ?k4 ?k5 ?kXB ?kTB ?kD ?kT ?kK ?kd ?ku ?_; k_extra "K5"; (case kXB => k_asm); (case kTB => k_asm); (case kD => k_asm); (case kT => first | k_asm | exact KtsTurn.refl); (case kK => first | exact rfl | assumption); (case hc0 => k_extra "S"); (case hc1 => k_extra "S"); (case kd => (k_extra "D")); (case ku => (k_extra "U")); intro g9 kt9 B9 X9 T9 D9; intro D9 ec9 ta9 tb9 tc9 tv9 n9 h9 tk9 F9 N9 S9 _ nd9 ne9; (try dsimp only); (try k_lift B9); (skip); (all_goals (try k_fold))))
  ((try unfold CbT); k_fill; intros; rename_i s0 Q0 E0 B0 F0 X0 N0 T0 XB0 TB0 KD0 KT0 hk0 hd0 hu0 hret; refine wpAny_call ?_; k_dflt (refine' code_defT ?k1 ?k2 ?k3 ?k4 ?k5 ?XB ?TB ?D ?T0 ?kA ?k6 ?k7 ?k8 ?k9 ?kB ?_ ?cK ?c2 ?c3 ?c4 ?c5; (case kA => exact rfl); (case k2 => k_asm); (case k1 => k_asm); (case XB => assumption); (case TB => assumption); (case D => assumption); (case T0 => assumption); (case k3 => k_asm); (case k4 => exact newsSub N0 hl); (case k5 => k_asm); (case k6 => k_is); (case k7 => k_is); (case k8 => ktr_room); (case k9 => exact BindsTo.of_eq rfl); (case kB => exact locs rfl); (case cK => first | exact rfl | assumption); (case c2 => exact rfl); (case c3 => exact rfl); (case c4 => exact rfl); (case c5 => decide); k_whole; intro g' L' h' HG0 FG' F' N' B' X' T' D'; (try dsimp only); (try k_lift B'); (try k_fold)); (refine letA ?_); (intro kA); (replace F' : Fr g' L' h' (fun y => List.lookup y [(Str.ofString "indices", _), (Str.ofString "text", _)]) := F'); (generalize Shared.toks _ + List.length _ = tk0))
  k_steps
  · rename_i kg kT kF kN kB kX0 kP kD kX
    rw [fold_join h]
    have kM := newsSub kN (show (li, lstO us n) ∈ _ from by k_mem)
    exact hret kg kT kB kX0 kP kD 0 _ _ kF (newsKeepT B0 N0 (newsSub N0 hl) HG0 KT0 (by k_asm) (by k_asm) kT kM)
end

section
-- W3
open PySem PySem.W PyProof.Rows
open PySem.Challenge
theorem CbH.up {d d' : Nat} {w mean mg mb f news vs Ret} (h : CbH d w mean mg mb f news vs Ret) (hd : d ≤ d') : CbH d' w mean mg mb f news vs Ret :=
  fun dp un gd cn cs a ccd outer A₀ base h₀ L m s Q E B F X N T hk h1 h2 hret => h dp un gd cn cs a ccd outer A₀ base h₀ L m s Q E B F X N T hk (by omega) (by omega) hret
section
variable {w : World} {mean : ExcName → Option Value} {mg mb : Str → Option Value} {news : List (Addr × Obj)} {li : Addr} {n : Nat} {c i j : Str} {t ti tj : Tok} {v v2 : Int} {msg : Str} {ecs : List Str}
theorem case_right0 (hl : (li, lstO [] n) ∈ news) (h : OkT c) : CbH 180 w mean mg mb 372 news [.str c t, .ref li] (RetV news fun _ => .bool true) :=
  case_right_c (G := fun cmd => casedF cmd c 0 (c.length - 1)) hl h (by simp) (fun _ _ _ _ _ hm _ => cased_c hm h.len (.inl ⟨rfl, rfl, rfl⟩))
    (fun _ _ _ _ _ _ _ hm hc => by
      rcases hc with rfl | rfl | rfl
      · exact heard_low0 hm h
      · exact heard_up0 hm h
      · exact heard_ti0 hm h)
    (fun _ _ _ _ _ _ _ hm hc => by
      rcases hc with rfl | rfl
      · exact again_low0 hm h
      · exact again_up0 hm h) (fun _ _ _ _ _ _ _ _ _ hm => heard_same hm h) (fun _ _ _ => folded_cased h)
theorem case_right1 (hl : (li, lstO [.str i ti] n) ∈ news) (h : OkT c) (hi : i.length ≤ 100) (hv : idxF i (c.length - 1) = some v) : CbH 180 w mean mg mb 372 news [.str c t, .ref li] (RetV news fun _ => .bool true) :=
  case_right_c (G := fun cmd => casedF cmd c (max0 v) (max0 v)) hl h (by simp) (fun _ _ _ _ _ hm _ => cased_c hm h.len (.inr ⟨_, _, _, _, rfl, hi, hv, rfl, .inl ⟨rfl, rfl⟩⟩))
    (fun _ _ _ _ _ _ _ hm hc => by
      rcases hc with rfl | rfl | rfl
      · exact heard_low1 hm h hi hv
      · exact heard_up1 hm h hi hv
      · exact heard_ti1 hm h hi hv)
    (fun _ _ _ _ _ _ _ hm hc => by
      rcases hc with rfl | rfl
      · exact again_low1 hm h hi hv
      · exact again_up1 hm h hi hv) (fun _ _ _ _ _ _ _ _ _ hm => heard_same hm h) (fun _ _ _ => folded_cased h)
theorem case_right2 (hl : (li, lstO [.str i ti, .str j tj] n) ∈ news) (h : OkT c) (hi : i.length ≤ 100) (hj : j.length ≤ 100) (hv : idxF i (c.length - 1) = some v) (hv2 : idxF j (c.length - 1) = some v2) : CbH 180 w mean mg mb 372 news [.str c t, .ref li] (RetV news fun _ => .bool true) :=
  case_right_c (G := fun cmd => casedF cmd c (max0 v) v2) hl h (by simp) (fun _ _ _ _ _ hm _ => cased_c hm h.len (.inr ⟨_, _, _, _, rfl, hi, hv, rfl, .inr ⟨_, _, rfl, hj, hv2⟩⟩))
    (fun _ _ _ _ _ _ _ hm hc => by
      rcases hc with rfl | rfl | rfl
      · exact heard_low2 hm h hi hj hv hv2
      · exact heard_up2 hm h hi hj hv hv2
      · exact heard_ti2 hm h hi hj hv hv2)
    (fun _ _ _ _ _ _ _ hm hc => by
      rcases hc with rfl | rfl
      · exact again_low2 hm h hi hj hv hv2
      · exact again_up2 hm h hi hj hv hv2) (fun _ _ _ _ _ _ _ _ _ hm => heard_same hm h) (fun _ _ _ => folded_cased h)
theorem case_bad1 (hl : (li, lstO [.str i ti] n) ∈ news) (h : OkT c) (hi : i.length ≤ 100) (hb : idxBad i (c.length - 1) = some (msg, ecs)) : CbT 180 w mean mg mb 372 news [.str c t, .ref li] (RetV news fun _ => .bool true) :=
  case_right_bad_c hl h (by simp) (fun _ _ _ _ _ hm _ => cased1_bad_c hm (Nat.zero_le 1) h.len hi hb)
    (fun _ _ _ _ _ _ _ hm hc => by
      rcases hc with rfl | rfl | rfl
      · exact bad_low1 hm h.len hi hb
      · exact bad_up1 hm h.len hi hb
      · exact bad_ti1 hm h.len hi hb)
theorem case_bad2 (hl : (li, lstO [.str i ti, .str j tj] n) ∈ news) (h : OkT c) (hi : i.length ≤ 100) (hj : j.length ≤ 100) (hb : idxBad i (c.length - 1) = some (msg, ecs)) : CbT 180 w mean mg mb 372 news [.str c t, .ref li] (RetV news fun _ => .bool true) :=
  case_right_bad_c hl h (by simp) (fun _ _ _ _ _ hm _ => cased1_bad_c hm (Nat.le_refl 1) h.len hi hb)
    (fun _ _ _ _ _ _ _ hm hc => by
      rcases hc with rfl | rfl | rfl
      · exact bad_low2 hm h.len hi hj (bad2_l hb)
      · exact bad_up2 hm h.len hi hj (bad2_l hb)
      · exact bad_ti2 hm h.len hi hj (bad2_l hb))
theorem case_bad3 (hl : (li, lstO [.str i ti, .str j tj] n) ∈ news) (h : OkT c) (hi : i.length ≤ 100) (hj : j.length ≤ 100) (hv : idxF i (c.length - 1) = some v) (hb : idxBad j (c.length - 1) = some (msg, ecs)) : CbT 180 w mean mg mb 372 news [.str c t, .ref li] (RetV news fun _ => .bool true) :=
  case_right_bad_c hl h (by simp) (fun _ _ _ _ _ hm _ => cased2_bad2_c hm h.len hi hj hv hb)
    (fun _ _ _ _ _ _ _ hm hc => by
      rcases hc with rfl | rfl | rfl
      · exact bad_low2 hm h.len hi hj (bad2_r (idx_good hv) hb)
      · exact bad_up2 hm h.len hi hj (bad2_r (idx_good hv) hb)
      · exact bad_ti2 hm h.len hi hj (bad2_r (idx_good hv) hb))
end
end

section
-- B1
open PySem PySem.W PyProof.Rows PySem.Calls
open PySem.Challenge
set_option maxRecDepth 100000
set_option maxHeartbeats 2000000
/-- is the sign part of a block of word signs -/
noncomputable def partN (n : Int) : Bool := !(!(Builtin.Str.occurrences (Str.ofString "- \n") ⟨#[n.toNat]⟩ 0 (Str.ofString "- \n").length 1).isEmpty)
noncomputable def blkStep (st : List Str × Bool) (n : Int) : List Str × Bool :=
  (if partN n = true then (if st.2 = true then st.1.dropLast ++ [st.1.getLastD (Str.ofString "") ++ ⟨#[n.toNat]⟩] else st.1 ++ [⟨#[n.toNat]⟩]) else st.1 ++ [⟨#[n.toNat]⟩], partN n)
noncomputable def blkF (pre : List Int) : List Str × Bool := pre.foldl blkStep ([], false)
theorem ki_last (us : List Value) (v0 v : Value) : ki_setL (us ++ [v0]) us.length v = some (us ++ [v]) := by
  induction us with
  | nil => rfl
  | cons a r ih => simp [ki_setL, ih]
theorem lastK (n : Nat) : ((-1 : Int) + ((n : Int) + 1)).toNat = n := by omega
theorem item_last {prog : Program} {w : World} {A : Around} {E : Value → Shared → Prop} {s : Shared} {value slice : PySem.Expr} {l : Addr} {us : List Value} {u : Tok} {v : Value} {Q : Value → Shared → Prop}
    (hl : s.heap.IsList l (us ++ [v]).toArray) (h : Q v s)
    (hs : subscripted slice false (.ref l) (.int (-1) u) = operate [.ref l, .int (-1) u] (getItem (.ref l) (.int (-1) u)) := by with_unfolding_all rfl) :
    wpAny (model prog w) A (subscriptTail value slice (.ref l) (.int (-1) u)) Q E s :=
  tail_any hl.typeIs slot_list_getitem.lookup (wpAny_getItem_list_neg hl (by decide) (by simp; omega) (by decide) (by simp [lastK]) h) hs
theorem store_last {prog : Program} {w : World} {A : Around} {E : Value → Shared → Prop} {s : Shared} {h₀ : Heap} {L D : Addr} {m : Str → Option Value} {news news' : List (Addr × Obj)} {us : List Value} {n : Nat} {v0 v : Value} {t : Tok} {Q : Unit → Shared → Prop} (F : Fr h₀ L s.heap m) (N : News h₀ L s.heap news)
    (U : Upd D (listOf (us ++ [v0]).toArray n) (listOf (us ++ [v]).toArray n) news news') (h : ∀ h', Fr h₀ L h' m → News h₀ L h' news' → Q () { s with heap := h' }) : wpAny (model prog w) A (setItem (.ref D) (.int (-1) t) v) Q E s :=
  ki_setNeg F N (by decide) (by decide) (seqIndex_neg (by decide) (by simp; omega)) (by
    have e : ((-1 : Int) + ((us ++ [v0]).toArray.size : Int)).toNat = us.length := by simp [lastK]
    rw [e]
    exact ki_last us v0 v) U h
end

section
-- WL
open PySem PySem.W PyProof.Rows
set_option maxRecDepth 100000
/-- the plain law of blocks -/
theorem blk_step (pre : List Int) (n : Int) : blkF (pre ++ [n]) = blkStep (blkF pre) n := by simp [blkF, List.foldl_append]
noncomputable def total (l : List Str) : Nat := (l.map fun x => x.length).sum
theorem total_app (a b : List Str) : total (a ++ b) = total a + total b := by simp [total]
theorem total_one (x : Str) : total [x] = x.length := by simp [total]
theorem snoc_or {α : Type} (l : List α) : l = [] ∨ ∃ a x, l = a ++ [x] := by
  rcases List.eq_nil_or_concat l with h | ⟨a, x, h⟩
  · exact .inl h
  · exact .inr ⟨a, x, by simpa using h⟩
theorem snocInd {P : List Int → Prop} (h0 : P []) (h1 : ∀ pre n, P pre → P (pre ++ [n])) (l : List Int) : P l := by
  have : ∀ r : List Int, P r.reverse := fun r => by
    induction r with
    | nil => exact h0
    | cons a r ih => rw [List.reverse_cons]; exact h1 _ _ ih
  simpa using this l.reverse
noncomputable def ptAt (pre : List Int) (k : Nat) : Bool := partN (pre.getD k 0)
theorem pt_old {pre : List Int} {n : Int} {k : Nat} (h : k < pre.length) : ptAt (pre ++ [n]) k = ptAt pre k := by
  unfold ptAt
  rw [List.getD_eq_getElem?_getD, List.getElem?_append_left h, List.getD_eq_getElem?_getD]
theorem pt_new {pre : List Int} {n : Int} : ptAt (pre ++ [n]) pre.length = partN n := by
  unfold ptAt
  rw [List.getD_eq_getElem?_getD, List.getElem?_append_right (Nat.le_refl _)]
  simp
theorem open_at (pre : List Int) : (blkF pre).2 = (decide (0 < pre.length) && ptAt pre (pre.length - 1)) := by
  rcases snoc_or pre with rfl | ⟨p, n, rfl⟩
  · rfl
  · rw [blk_step]
    have : (p ++ [n]).length - 1 = p.length := by simp
    rw [this, pt_new]
    simp [blkStep]
theorem one_len (n : Nat) : (⟨#[n]⟩ : Str).length = 1 := rfl
theorem blk_new {pre : List Int} {n : Int} (h : ¬ (partN n = true ∧ (blkF pre).2 = true)) : (blkF (pre ++ [n])).1 = (blkF pre).1 ++ [⟨#[n.toNat]⟩] := by
  rw [blk_step]
  unfold blkStep
  dsimp only
  split
  · split
    · rename_i h1 h2; exact absurd ⟨h1, h2⟩ h
    · rfl
  · rfl
theorem blk_old {pre : List Int} {n : Int} {a : List Str} {x : Str} (h1 : partN n = true) (h2 : (blkF pre).2 = true) (e : (blkF pre).1 = a ++ [x]) : (blkF (pre ++ [n])).1 = a ++ [x ++ ⟨#[n.toNat]⟩] := by
  rw [blk_step]
  unfold blkStep
  dsimp only
  rw [if_pos h1, if_pos h2, e]
  simp
theorem blk_nil {pre : List Int} : (blkF pre).1 = [] → (blkF pre).2 = false := by
  rcases snoc_or pre with rfl | ⟨p, n, rfl⟩
  · intro _; rfl
  · intro h
    rw [blk_step] at h
    unfold blkStep at h
    dsimp only at h
    split at h
    · split at h <;> simp at h
    · simp at h
/-- the texts glued are the text -/
theorem blk_flat : ∀ pre : List Int, ((blkF pre).1.map fun x => x.cps.toList).flatten = pre.map Int.toNat :=
  snocInd rfl fun pre n ih => by
    by_cases h : partN n = true ∧ (blkF pre).2 = true
    · rcases snoc_or (blkF pre).1 with e | ⟨a, x, e⟩
      · have := blk_nil e
        rw [this] at h
        exact absurd h.2 (by decide)
      · rw [blk_old h.1 h.2 e, List.map_append, List.map_append, ← ih, e]
        simp [KT.app_list]
    · rw [blk_new h, List.map_append, List.map_append, ← ih]
      simp
theorem flat_total (l : List Str) : (l.map fun x => x.cps.toList).flatten.length = total l := by
  induction l with
  | nil => rfl
  | cons a r ih => simp [total] at ih ⊢; simp [ih, PySem.Str.length]
theorem blk_total (pre : List Int) : total (blkF pre).1 = pre.length := by
  rw [← flat_total, blk_flat, List.length_map]
noncomputable def Blk (bs : List Str) (b : Nat) (x : Str) : Prop := ∃ l1 l2, bs = l1 ++ x :: l2 ∧ b = total l1
theorem blk_snoc {a : List Str} {z x : Str} {b : Nat} (h : Blk (a ++ [z]) b x) : Blk a b x ∨ (b = total a ∧ x = z) := by
  obtain ⟨l1, l2, e, hb⟩ := h
  rcases snoc_or l2 with rfl | ⟨l3, y, rfl⟩
  · have := List.append_inj' e rfl
    exact .inr ⟨by rw [hb, this.1], by simpa using this.2.symm⟩
  · have e2 : a ++ [z] = (l1 ++ x :: l3) ++ [y] := by rw [e]; simp
    have := List.append_inj' e2 rfl
    exact .inl ⟨l1, l3, this.1, hb⟩
theorem blk_le {bs : List Str} {b : Nat} {x : Str} (h : Blk bs b x) : b + x.length ≤ total bs := by
  obtain ⟨l1, l2, rfl, rfl⟩ := h
  rw [total_app, show x :: l2 = [x] ++ l2 from rfl, total_app, total_one]
  omega
noncomputable def Wd (pre : List Int) (b e : Nat) : Prop := (∀ k, b ≤ k → k < e → ptAt pre k = true) ∧ (b = 0 ∨ ptAt pre (b - 1) = false) ∧ (e = pre.length ∨ ptAt pre e = false)
noncomputable def BlkOk (pre : List Int) (b : Nat) (x : Str) : Prop := 0 < x.length ∧ (Wd pre b (b + x.length) ∨ (x.length = 1 ∧ ptAt pre b = false))
theorem blk_ok : ∀ pre : List Int, ∀ b x, Blk (blkF pre).1 b x → BlkOk pre b x :=
  snocInd (fun b x h => by
    obtain ⟨l1, l2, e, _⟩ := h
    have : ([] : List Str) = l1 ++ x :: l2 := e
    simp at this) fun pre n ih b x h => by
    by_cases q : partN n = true ∧ (blkF pre).2 = true
    · rcases snoc_or (blkF pre).1 with e | ⟨a, y, e⟩
      · have := blk_nil e
        rw [this] at q
        exact absurd q.2 (by decide)
      · have hT := blk_total pre
        rw [e, total_app, total_one] at hT
        have hy := ih (total a) y (by rw [e]; exact ⟨a, [], rfl, rfl⟩)
        rw [blk_old q.1 q.2 e] at h
        rcases blk_snoc h with h | ⟨rfl, rfl⟩
        · have hx := ih b x (by
            rw [e]
            obtain ⟨l1, l2, e2, hb⟩ := h
            exact ⟨l1, l2 ++ [y], by rw [e2]; simp, hb⟩)
          have hle := blk_le h
          have hy1 := hy.1
          refine ⟨hx.1, ?_⟩
          rcases hx.2 with ⟨w1, w2, w3⟩ | ⟨w1, w2⟩
          · left
            refine ⟨fun k h1 h2 => ?_, ?_, .inr ?_⟩
            · rw [pt_old (by omega)]; exact w1 k h1 h2
            · rcases w2 with w2 | w2
              · exact .inl w2
              · by_cases hb : b = 0
                · exact .inl hb
                · right; rw [pt_old (by have := hx.1; omega)]; exact w2
            · rw [pt_old (by omega)]
              rcases w3 with w3 | w3
              · omega
              · exact w3
          · right
            refine ⟨w1, ?_⟩
            rw [pt_old (by omega)]; exact w2
        · have ho := open_at pre
          rw [q.2] at ho
          have ho2 : ptAt pre (pre.length - 1) = true := by
            have := ho.symm
            simp at this
            exact this.2
          have hxl : (y ++ (⟨#[n.toNat]⟩ : Str)).length = y.length + 1 := by rw [PySem.Str.length_append, one_len]
          refine ⟨by omega, .inl ?_⟩
          rw [hxl]
          rcases hy.2 with ⟨w1, w2, w3⟩ | ⟨w1, w2⟩
          · refine ⟨fun k h1 h2 => ?_, ?_, .inl (by simp; omega)⟩
            · by_cases hk : k = pre.length
              · subst hk; rw [pt_new]; exact q.1
              · rw [pt_old (by omega)]; exact w1 k h1 (by omega)
            · rcases w2 with w2 | w2
              · exact .inl w2
              · by_cases hb : total a = 0
                · exact .inl hb
                · right; rw [pt_old (by have := hy.1; omega)]; exact w2
          · rw [show pre.length - 1 = total a by omega, w2] at ho2
            cases ho2
    · have hT := blk_total pre
      rw [blk_new q] at h
      rcases blk_snoc h with h | ⟨rfl, rfl⟩
      · have hx := ih b x h
        have hle := blk_le h
        rw [hT] at hle
        have hx1 := hx.1
        refine ⟨hx.1, ?_⟩
        rcases hx.2 with ⟨w1, w2, w3⟩ | ⟨w1, w2⟩
        · left
          refine ⟨fun k h1 h2 => ?_, ?_, .inr ?_⟩
          · rw [pt_old (by omega)]; exact w1 k h1 h2
          · rcases w2 with w2 | w2
            · exact .inl w2
            · by_cases hb : b = 0
              · exact .inl hb
              · right; rw [pt_old (by omega)]; exact w2
          · rcases w3 with w3 | w3
            · rw [w3, pt_new]
              have h3 := w1 (pre.length - 1) (by omega) (by omega)
              have ho := open_at pre
              rw [h3] at ho
              cases hn : partN n with
              | false => rfl
              | true => exact absurd ⟨hn, by rw [ho]; simp; omega⟩ q
            · by_cases he : b + x.length = pre.length
              · rw [he, pt_new]
                have h3 := w1 (pre.length - 1) (by omega) (by omega)
                have ho := open_at pre
                rw [h3] at ho
                cases hn : partN n with
                | false => rfl
                | true => exact absurd ⟨hn, by rw [ho]; simp; omega⟩ q
              · rw [pt_old (by omega)]; exact w3
        · right
          refine ⟨w1, ?_⟩
          rw [pt_old (by omega)]; exact w2
      · rw [hT]
        refine ⟨by rw [one_len]; omega, ?_⟩
        rw [one_len]
        cases hn : partN n with
        | true =>
          left
          refine ⟨fun k h1 h2 => ?_, ?_, .inl (by simp)⟩
          · have : k = pre.length := by omega
            subst this; rw [pt_new]; exact hn
          · have ho := open_at pre
            by_cases hb : pre.length = 0
            · exact .inl hb
            · right
              rw [pt_old (by omega)]
              cases h3 : ptAt pre (pre.length - 1) with
              | false => rfl
              | true =>
                rw [h3] at ho
                exact absurd ⟨hn, by rw [ho]; simp; omega⟩ q
        | false =>
          right
          exact ⟨rfl, by rw [pt_new]; exact hn⟩
theorem total_ge {l : List Str} (h : ∀ y ∈ l, 0 < y.length) : l.length ≤ total l := by
  induction l with
  | nil => exact Nat.le_refl _
  | cons a r ih =>
    have h1 := h a (.head _)
    have h2 := ih fun y hy => h y (.tail _ hy)
    simp [total] at h2 ⊢
    omega
theorem blk_cnt (pre : List Int) : (blkF pre).1.length ≤ pre.length := by
  have := total_ge (l := (blkF pre).1) (fun y hy => by
    obtain ⟨a1, a2, e⟩ := List.append_of_mem hy
    exact (blk_ok pre (total a1) y ⟨a1, a2, e, rfl⟩).1)
  rw [blk_total] at this
  exact this
end

section
-- WL2
open PySem PySem.W PyProof.Rows
set_option maxRecDepth 100000
theorem sg_word : ∀ n ∈ sg, partN (n : Int) = isWordF ⟨#[n]⟩ := by decide +kernel
theorem codes_at {c : Str} {k : Nat} (hk : k < c.length) : (KStt.codes c).getD k 0 = ((atN c k : Nat) : Int) := by
  have h3 : k < c.cps.size := hk
  unfold KStt.codes atN
  simp [List.getD_eq_getElem?_getD, Array.getD_eq_getD_getElem?, h3]
theorem pt_codes {c : Str} (h : OkT c) {k : Nat} (hk : k < c.length) : ptAt (KStt.codes c) k = isW c k := by
  unfold ptAt
  rw [codes_at hk]
  exact sg_word _ (at_sg h hk)
theorem back_word {c : Str} {b : Nat} (hb : b = 0 ∨ isW c (b - 1) = false) : ∀ m, b ≤ m → (∀ k, b ≤ k → k < m → isW c k = true) → backF c m = (b : Int) - 1
  | 0, h, _ => by
    have : b = 0 := by omega
    subst this; rfl
  | m + 1, h, hw => by
    by_cases e : b = m + 1
    · subst e
      rcases hb with hb | hb
      · omega
      · show (if isW c m = true then backF c m else (m : Int)) = _
        rw [if_neg (by rw [show m + 1 - 1 = m from rfl] at hb; rw [hb]; decide)]
        omega
    · show (if isW c m = true then backF c m else (m : Int)) = _
      rw [if_pos (hw m (by omega) (by omega))]
      exact back_word hb m (by omega) fun k h1 h2 => hw k h1 (by omega)
theorem fwd_word {p : Nat → Bool} {n e : Nat} (he : e ≤ n) (hb : e = n ∨ p e = false) : ∀ r, r ≤ n → n - r ≤ e → (∀ k, n - r ≤ k → k < e → p k = true) → fwdP p n r = e
  | 0, _, h, _ => by
    show (n : Int) = e
    omega
  | r + 1, hr, h, hw => by
    show (if p (n - (r + 1)) = true then fwdP p n r else ((n - (r + 1) : Nat) : Int)) = e
    by_cases q : n - (r + 1) = e
    · rcases hb with hb | hb
      · omega
      · rw [q, if_neg (by rw [hb]; decide)]
    · rw [if_pos (hw _ (Nat.le_refl _) (by omega))]
      exact fwd_word he hb r (by omega) (by omega) fun k h1 h2 => hw k (by omega) h2
theorem blk_fits {c : Str} {b : Nat} {x : Str} (h : Blk (blkF (KStt.codes c)).1 b x) : b + x.length ≤ c.length := by
  have := blk_le h
  rw [blk_total, KStt.codes_length] at this
  exact this
theorem blk_pos {c : Str} {b : Nat} {x : Str} (h : Blk (blkF (KStt.codes c)).1 b x) : 0 < x.length := (blk_ok _ _ _ h).1
theorem ws_in {c : Str} (hc : OkT c) {b : Nat} {x : Str} (h : Blk (blkF (KStt.codes c)).1 b x) {k : Nat} (h1 : b ≤ k) (h2 : k < b + x.length) : wstartF c k = b := by
  have hle := blk_fits h
  have hok := (blk_ok _ _ _ h).2
  unfold wstartF wsJ
  rw [if_neg (by omega)]
  unfold wsR
  by_cases hk : k = 0
  · rw [if_pos (by omega)]; omega
  · rw [if_neg (by omega)]
    have e1 : ((k : Int) + 1).toNat = k + 1 := by omega
    rw [e1]
    rcases hok with ⟨w1, w2, w3⟩ | ⟨w1, w2⟩
    · have hb := back_word (c := c) (b := b) (w2.imp id fun w => by rw [← pt_codes hc (by omega)]; exact w) (k + 1) (by omega) (fun j j1 j2 => by rw [← pt_codes hc (by omega)]; exact w1 j j1 (by omega))
      rw [hb, if_neg (by omega)]
      omega
    · have hkb : k = b := by omega
      have hw : isW c k = false := by rw [← pt_codes hc (by omega), hkb]; exact w2
      have hb : backF c (k + 1) = k := by
        show (if isW c k = true then backF c k else (k : Int)) = k
        rw [if_neg (by rw [hw]; decide)]
      rw [hb, if_pos rfl]
      omega
theorem we_in {c : Str} (hc : OkT c) {b : Nat} {x : Str} (h : Blk (blkF (KStt.codes c)).1 b x) {k : Nat} (h1 : b ≤ k) (h2 : k < b + x.length) : wendF c k = ((b + x.length : Nat) : Int) := by
  have hle := blk_fits h
  have hok := (blk_ok _ _ _ h).2
  unfold wendF weJ
  rw [if_neg (by omega)]
  unfold weR
  rw [if_neg (by omega)]
  have e1 : ((c.length : Int) - (k : Int)).toNat = c.length - k := by omega
  rw [e1]
  rcases hok with ⟨w1, w2, w3⟩ | ⟨w1, w2⟩
  · have hb := fwd_word (p := isW c) (n := c.length) (e := b + x.length) hle (by
      by_cases q : b + x.length = c.length
      · exact .inl q
      · rcases w3 with w3 | w3
        · rw [KStt.codes_length] at w3; exact .inl w3
        · right; rw [← pt_codes hc (by omega)]; exact w3) (c.length - k) (by omega) (by omega) (fun j j1 j2 => by rw [← pt_codes hc (by omega)]; exact w1 j (by omega) j2)
    rw [hb, if_neg (by omega)]
  · have hkb : k = b := by omega
    have hw : isW c k = false := by rw [← pt_codes hc (by omega), hkb]; exact w2
    have hb : fwdP (isW c) c.length (c.length - k) = k := fwd_word (by omega) (.inr hw) _ (by omega) (by omega) (fun j j1 j2 => by omega)
    rw [hb, if_pos rfl]
    omega
noncomputable def lastF (l : List Str) : Int := ((l.getLast?).map fun x => (x.length : Int)).getD 0
noncomputable def aheadF (l : List Str) : Int := ((l.head?).map fun x => (x.length : Int)).getD 0
theorem ws_far {c : Str} (hc : OkT c) {v : Int} (hv : (c.length : Int) ≤ v) : wstartF c v = c.length - lastF (blkF (KStt.codes c)).1 := by
  have hT := blk_total (KStt.codes c)
  rw [KStt.codes_length] at hT
  unfold wstartF wsJ
  rw [if_pos hv]
  rcases snoc_or (blkF (KStt.codes c)).1 with e | ⟨a, x, e⟩
  · rw [e] at hT ⊢
    have : c.length = 0 := by simpa [total] using hT.symm
    unfold wsR
    rw [if_pos (by omega), this]
    rfl
  · have hB : Blk (blkF (KStt.codes c)).1 (total a) x := ⟨a, [], e, rfl⟩
    have hp := blk_pos hB
    rw [e, total_app, total_one] at hT
    have := ws_in hc hB (k := c.length - 1) (by omega) (by omega)
    unfold wstartF wsJ at this
    rw [if_neg (by omega), show ((c.length - 1 : Nat) : Int) = (c.length : Int) - 1 by omega] at this
    rw [this, e]
    simp [lastF]
    omega
theorem we_far {c : Str} {v : Int} (hv : (c.length : Int) ≤ v) : wendF c v = c.length := by
  unfold wendF weJ
  rw [if_neg (by omega)]
  unfold weR
  rw [if_pos hv]
theorem ws_neg {c : Str} {v : Int} (hv : v < 0) : wstartF c v = 0 := by
  unfold wstartF wsJ
  rw [if_neg (by omega)]
  unfold wsR
  rw [if_pos (by omega)]
theorem we_neg {c : Str} (hc : OkT c) {v : Int} (hv : v < 0) : wendF c v = aheadF (blkF (KStt.codes c)).1 := by
  have hT := blk_total (KStt.codes c)
  rw [KStt.codes_length] at hT
  unfold wendF weJ
  rw [if_pos hv]
  match e : (blkF (KStt.codes c)).1 with
  | [] =>
    rw [e] at hT
    have : c.length = 0 := by simpa [total] using hT.symm
    unfold weR
    rw [if_pos (by omega), this]
    rfl
  | x :: l2 =>
    have hB : Blk (blkF (KStt.codes c)).1 0 x := ⟨[], l2, e, rfl⟩
    have hp := blk_pos hB
    have := we_in hc hB (k := 0) (by omega) (by omega)
    unfold wendF weJ at this
    rw [if_neg (by omega)] at this
    rw [show (0 : Int) = ((0 : Nat) : Int) from rfl, this]
    simp [aheadF]
theorem range_in {c : Str} {b : Nat} {x : Str} (h : Blk (blkF (KStt.codes c)).1 b x) : rangeF c b ((b + x.length : Nat) - 1) = x := by
  have hle := blk_fits h
  have hp := blk_pos h
  unfold rangeF max0
  rw [if_neg (show ¬ (b : Int) < 0 by omega), if_neg (by omega)]
  apply strExt
  rw [sl_mid (by omega) (by omega) (by omega)]
  have hf := blk_flat (KStt.codes c)
  obtain ⟨l1, l2, e, hb⟩ := h
  have hcp : (KStt.codes c).map Int.toNat = c.cps.toList := by
    unfold KStt.codes
    rw [List.map_map]
    exact (List.map_congr_left fun n _ => Int.toNat_natCast n).trans (List.map_id _)
  rw [e, hcp, List.map_append, List.flatten_append, List.map_cons, List.flatten_cons] at hf
  rw [← hf]
  have h1 : ((b : Int)).toNat = (l1.map fun x => x.cps.toList).flatten.length := by rw [flat_total, ← hb]; omega
  have h2 : (((b + x.length : Nat) : Int) - 1 + 1).toNat - ((b : Int)).toNat = x.cps.toList.length := by simp [PySem.Str.length]; omega
  rw [h2, h1, List.drop_left, List.take_left]
/-- the indices -/
noncomputable abbrev strI (n : Int) : Str := Str.ofString (toString n)
theorem whole_nat : ∀ n ∈ List.range 40, wholeF (strI (n : Nat)) = some (n : Int) ∧ (strI (n : Nat)).length ≤ 20 := by decide +kernel
theorem whole_neg : ∀ n ∈ List.range 40, wholeF (strI (-(n : Nat) : Int)) = some (-(n : Nat) : Int) ∧ (strI (-(n : Nat) : Int)).length ≤ 20 := by decide +kernel
theorem end_nat : ∀ n ∈ List.range 40, wholeF (Str.ofString "end-" ++ strI (n : Nat)) = none ∧ Txt.startswith (Str.ofString "end-" ++ strI (n : Nat)) (Str.ofString "end") = true ∧ ((Str.ofString "end-" ++ strI (n : Nat)) == Str.ofString "end") = false ∧
    digitsValF (Txt.slice (Txt.slice (Str.ofString "end-" ++ strI (n : Nat)) (some 3) none) (some 1) none) 10 = some (n : Int) ∧ (Txt.item (Txt.slice (Str.ofString "end-" ++ strI (n : Nat)) (some 3) none) 0 == Str.ofString "+") = false ∧
    (Txt.item (Txt.slice (Str.ofString "end-" ++ strI (n : Nat)) (some 3) none) 0 == Str.ofString "-") = true ∧ (Str.ofString "end-" ++ strI (n : Nat)).length ≤ 20 := by decide +kernel
theorem idx_nat {n l : Int} (h0 : 0 ≤ n) (h1 : n < 40) : idxF (strI n) l = some n ∧ (strI n).length ≤ 20 := by
  have h := whole_nat n.toNat (List.mem_range.mpr (by omega))
  rw [Int.toNat_of_nonneg h0] at h
  refine ⟨?_, h.2⟩
  unfold idxF
  rw [h.1]
theorem idx_neg {n l : Int} (h0 : n ≤ 0) (h1 : -40 < n) : idxF (strI n) l = some n ∧ (strI n).length ≤ 20 := by
  have h := whole_neg (-n).toNat (List.mem_range.mpr (by omega))
  rw [Int.toNat_of_nonneg (by omega), Int.neg_neg] at h
  refine ⟨?_, h.2⟩
  unfold idxF
  rw [h.1]
theorem idx_end {n l : Int} (h0 : 0 ≤ n) (h1 : n < 40) : idxF (Str.ofString "end-" ++ strI n) l = some (l - n) ∧ (Str.ofString "end-" ++ strI n).length ≤ 20 := by
  have h := end_nat n.toNat (List.mem_range.mpr (by omega))
  rw [Int.toNat_of_nonneg h0] at h
  obtain ⟨a1, a2, a3, a4, a5, a6, a7⟩ := h
  refine ⟨?_, a7⟩
  unfold idxF
  rw [a1]
  show (if Txt.startswith _ (Str.ofString "end") = true then (if (_ == Str.ofString "end") = true then some l else movedF l (Txt.slice _ (some 3) none)) else _) = _
  rw [if_pos a2, if_neg (by rw [a3]; decide)]
  unfold movedF
  rw [a4]
  show (if _ then _ else if _ then _ else _) = _
  rw [if_neg (by rw [a5]; decide), if_pos a6]
/-- what the walk asks -/
structure WsOk (c i r : Str) : Prop where
  li : i.length ≤ 100
  v : ∃ v, idxF i (c.length - 1) = some v ∧ wsT c v = r
structure WeOk (c i r : Str) : Prop where
  li : i.length ≤ 100
  v : ∃ v, idxF i (c.length - 1) = some v ∧ weT c v = r
structure RgOk (c i j r : Str) : Prop where
  li : i.length ≤ 100
  lj : j.length ≤ 100
  v : ∃ v, idxF i (c.length - 1) = some v ∧ ∃ u, idxF j (c.length - 1) = some u ∧ rangeF c v u = r
/-- a block at a place -/
noncomputable def BlkAt (c : Str) (b : Int) (x : Str) : Prop := ∃ k : Nat, b = k ∧ Blk (blkF (KStt.codes c)).1 k x
section
variable {c x : Str} {b k n : Int} (hc : OkT c) (h : BlkAt c b x)
include hc h
theorem blkAt_rng : 0 ≤ b ∧ 0 < x.length ∧ b + (x.length : Int) ≤ c.length ∧ c.length ≤ 8 := by
  obtain ⟨j, rfl, h⟩ := h
  have := blk_fits h
  have := blk_pos h
  have := hc.1
  omega
theorem ws_1 (h1 : b ≤ k) (h2 : k < b + (x.length : Int)) : WsOk c (strI k) (strI b) := by
  have hr := blkAt_rng hc h
  obtain ⟨j, rfl, h⟩ := h
  have hi := idx_nat (l := c.length - 1) (n := k) (by omega) (by omega)
  refine ⟨by omega, k, hi.1, ?_⟩
  have := ws_in hc h (k := k.toNat) (by omega) (by omega)
  rw [Int.toNat_of_nonneg (by omega)] at this
  unfold wsT
  rw [this]
theorem we_1 (h1 : b ≤ k) (h2 : k < b + (x.length : Int)) : WeOk c (strI k) (strI (b + (x.length : Int))) := by
  have hr := blkAt_rng hc h
  obtain ⟨j, rfl, h⟩ := h
  have hi := idx_nat (l := c.length - 1) (n := k) (by omega) (by omega)
  refine ⟨by omega, k, hi.1, ?_⟩
  have := we_in hc h (k := k.toNat) (by omega) (by omega)
  rw [Int.toNat_of_nonneg (by omega)] at this
  unfold weT
  rw [this, Int.natCast_add]
theorem ws_2 (h1 : b ≤ k) (h2 : k < b + (x.length : Int)) : WsOk c (Str.ofString "end-" ++ strI ((c.length : Int) - 1 - k)) (strI b) := by
  have hr := blkAt_rng hc h
  have hw := ws_1 hc h h1 h2
  have hi := idx_end (l := c.length - 1) (n := (c.length : Int) - 1 - k) (by omega) (by omega)
  refine ⟨by omega, k, hi.1.trans (by congr 1; omega), ?_⟩
  obtain ⟨v, e1, e2⟩ := hw.v
  rw [(idx_nat (l := c.length - 1) (n := k) (by omega) (by omega)).1] at e1
  cases e1
  exact e2
theorem we_2 (h1 : b ≤ k) (h2 : k < b + (x.length : Int)) : WeOk c (Str.ofString "end-" ++ strI ((c.length : Int) - 1 - k)) (strI (b + (x.length : Int))) := by
  have hr := blkAt_rng hc h
  have hw := we_1 hc h h1 h2
  have hi := idx_end (l := c.length - 1) (n := (c.length : Int) - 1 - k) (by omega) (by omega)
  refine ⟨by omega, k, hi.1.trans (by congr 1; omega), ?_⟩
  obtain ⟨v, e1, e2⟩ := hw.v
  rw [(idx_nat (l := c.length - 1) (n := k) (by omega) (by omega)).1] at e1
  cases e1
  exact e2
theorem rg_1 : RgOk c (strI b) (strI (b + (x.length : Int) - 1)) x := by
  have hr := blkAt_rng hc h
  obtain ⟨j, rfl, h⟩ := h
  have hi := idx_nat (l := c.length - 1) (n := (j : Int)) (by omega) (by omega)
  have hj := idx_nat (l := c.length - 1) (n := (j : Int) + (x.length : Int) - 1) (by omega) (by omega)
  refine ⟨by omega, by omega, _, hi.1, _, hj.1, ?_⟩
  have := range_in h
  rw [Int.natCast_add] at this
  exact this
end
section
variable {c : Str} {f : Int} (hc : OkT c) (h0 : 0 ≤ f) (h1 : f < 20)
include hc h0 h1
theorem ws_3 : WsOk c (strI ((c.length : Int) + f)) (strI ((c.length : Int) - lastF (blkF (KStt.codes c)).1)) := by
  have := hc.1
  have hi := idx_nat (l := c.length - 1) (n := (c.length : Int) + f) (by omega) (by omega)
  refine ⟨by omega, _, hi.1, ?_⟩
  unfold wsT
  rw [ws_far hc (by omega)]
theorem we_3 : WeOk c (strI ((c.length : Int) + f)) (strI (c.length : Int)) := by
  have := hc.1
  have hi := idx_nat (l := c.length - 1) (n := (c.length : Int) + f) (by omega) (by omega)
  refine ⟨by omega, _, hi.1, ?_⟩
  unfold weT
  rw [we_far (by omega)]
theorem ws_4 : WsOk c (strI (-1 - f)) (Str.ofString "0") := by
  have hi := idx_neg (l := c.length - 1) (n := -1 - f) (by omega) (by omega)
  refine ⟨by omega, _, hi.1, ?_⟩
  unfold wsT
  rw [ws_neg (by omega)]
  decide
theorem we_4 : WeOk c (strI (-1 - f)) (strI (aheadF (blkF (KStt.codes c)).1)) := by
  have hi := idx_neg (l := c.length - 1) (n := -1 - f) (by omega) (by omega)
  refine ⟨by omega, _, hi.1, ?_⟩
  unfold weT
  rw [we_neg hc (by omega)]
end
end

section
-- HW
open PySem PySem.W PyProof.Rows
open PySem.Challenge
set_option maxRecDepth 100000
set_option maxHeartbeats 4000000
noncomputable abbrev sWs : Str := Str.ofString "wordstart"
noncomputable abbrev sWe : Str := Str.ofString "wordend"
theorem heard_ws {w mean mg mb} {news : List (Addr × Obj)} {ws : Addr} {n : Nat} {v0 : Value} {c i r : Str} {t t1 ti : Tok} (hl : (ws, ({ cls := .type "list", data := .seq #[v0, .str sWs t1, .str c t, .str i ti] n } : Obj)) ∈ news) (hw : WsOk c i r) (hc : c.length ≤ 100) :
    CbH 160 w mean mg mb 346 news [.ref ws] (RetN news fun t t' => [.str (Str.ofString "gave") t, .str r t']) := by
  obtain ⟨v, hv, rfl⟩ := hw.v
  exact heard_good_c hl (fun _ hm => call_255_c hm rfl (FunE.with (fun _ hm => CbE.up (wordstart_c hm hc hw.li) (by decide)) (by rw [hv]; rfl) (idx_good hv))) rfl
theorem heard_we {w mean mg mb} {news : List (Addr × Obj)} {ws : Addr} {n : Nat} {v0 : Value} {c i r : Str} {t t1 ti : Tok} (hl : (ws, ({ cls := .type "list", data := .seq #[v0, .str sWe t1, .str c t, .str i ti] n } : Obj)) ∈ news) (hw : WeOk c i r) (hc : c.length ≤ 100) :
    CbH 160 w mean mg mb 346 news [.ref ws] (RetN news fun t t' => [.str (Str.ofString "gave") t, .str r t']) := by
  obtain ⟨v, hv, rfl⟩ := hw.v
  exact heard_good_c hl (fun _ hm => call_248_c hm rfl (FunE.with (fun _ hm => CbE.up (wordend_c hm hc hw.li) (by decide)) (by rw [hv]; rfl) (idx_good hv))) rfl
theorem heard_ws_bad {w mean mg mb} {news : List (Addr × Obj)} {ws : Addr} {n : Nat} {v0 : Value} {c i : Str} {t t1 ti : Tok} {msg : Str} {ecs : List Str} (hl : (ws, ({ cls := .type "list", data := .seq #[v0, .str sWs t1, .str c t, .str i ti] n } : Obj)) ∈ news) (hb : idxBad i (c.length - 1) = some (msg, ecs)) (hc : c.length ≤ 100) (hi : i.length ≤ 100) :
    CbT 160 w mean mg mb 346 news [.ref ws] (RetB news msg ecs) :=
  heard_bad_c hl (fun _ hm => call_255_c hm rfl (fun _ hm => CbE.up (wordstart_c hm hc hi) (by decide))) hb
theorem heard_we_bad {w mean mg mb} {news : List (Addr × Obj)} {ws : Addr} {n : Nat} {v0 : Value} {c i : Str} {t t1 ti : Tok} {msg : Str} {ecs : List Str} (hl : (ws, ({ cls := .type "list", data := .seq #[v0, .str sWe t1, .str c t, .str i ti] n } : Obj)) ∈ news) (hb : idxBad i (c.length - 1) = some (msg, ecs)) (hc : c.length ≤ 100) (hi : i.length ≤ 100) :
    CbT 160 w mean mg mb 346 news [.ref ws] (RetB news msg ecs) :=
  heard_bad_c hl (fun _ hm => call_248_c hm rfl (fun _ hm => CbE.up (wordend_c hm hc hi) (by decide))) hb
theorem range_is {w mean mg mb} {news : List (Addr × Obj)} {ws : Addr} {n : Nat} {v0 v1 : Value} {c i j r : Str} {t ti tj : Tok} (hl : (ws, ({ cls := .type "list", data := .seq #[v0, v1, .str c t, .str i ti, .str j tj] n } : Obj)) ∈ news) (hw : RgOk c i j r) (hc : c.length ≤ 100) :
    CbH 130 w mean mg mb 241 news [.none, .ref ws] (RetV news fun t => .str r t) := by
  obtain ⟨v, hv, u, hu, rfl⟩ := hw.v
  exact range_c hl hc hw.li hw.lj hv hu
end

section
-- LTP
open PySem PySem.W PyProof.Rows PySem.Calls PySem.Spec
open PySem.Challenge
section
variable {A₀ : Around} {base : Heap} {outer : List Env} {w : World} {mean : ExcName → Option Value} {mg mb : Str → Option Value} {g₀ : Heap}
/-- a turn's end in a ground that may have turned; the names in stored are forgotten -/
noncomputable def TPostA (A₀ : Around) (base : Heap) (outer : List Env) (w : World) (mean : ExcName → Option Value) (mg mb : Str → Option Value) (g₀ : Heap) (L : Addr) (stored : List Str) (m₀ : Str → Option Value) (led : List (Addr × Obj)) (s₁ : Shared) (Q : Flow → Shared → Prop) (f : Flow) (s₂ : Shared) : Prop :=
  match f with
  | .ret v => Q (.ret v) s₂
  | .brk => Q .next s₂
  | _ => ∃ g' h' tk m' nw, s₂ = { s₁ with heap := h', toks := tk } ∧ Grd A₀ base outer w mean mg mb g₀ g' ∧ Fr g' L h' m' ∧ News g' L h' nw ∧ (∀ p ∈ led, p ∈ nw) ∧ ∀ z, stored.contains z = false → m' z = m₀ z
noncomputable def TLoopA (prog : Program) (A A₀ : Around) (base : Heap) (outer : List Env) (w : World) (mean : ExcName → Option Value) (mg mb : Str → Option Value) (g₀ : Heap) (env : Env) (tgt : Expr) (body : List Stmt) (stored : List Str) (Q : Flow → Shared → Prop) (E : Value → Shared → Prop) (xv : Value) (s₁ : Shared) : Prop :=
  ∃ (l : Addr) (vs : List Value) (nn : Nat) (g : Heap) (m₀ : Str → Option Value) (led : List (Addr × Obj)), xv = .ref l ∧ A.handled = none ∧ Grd A₀ base outer w mean mg mb g₀ g ∧ Fr g env.locals s₁.heap m₀ ∧ News g env.locals s₁.heap led ∧ (l, listOf vs.toArray nn) ∈ led ∧ (∀ v ∈ vs, ∃ T, v = .ref T) ∧
    (∀ (i : Nat) (v : Value) (u : Str → Option Value) (g' h : Heap) (tk : Nat) (I : Addr) (oI : Obj), vs[i]? = some v → Grd A₀ base outer w mean mg mb g₀ g' → Fr g' env.locals h (fun y => if stored.contains y then u y else m₀ y) → News g' env.locals h (led ++ [(I, oI)]) → (∀ p ∈ led, p.1 < I) →
      wpAny (model prog w) A (assign tgt env v) (fun _ s₂ => wpAny (model prog w) A (execs body env) (TPostA A₀ base outer w mean mg mb g₀ env.locals stored m₀ (led ++ [(I, oI)]) { s₁ with heap := h, toks := tk } Q) E s₂) E { s₁ with heap := h, toks := tk }) ∧
    (∀ (u : Str → Option Value) (g' h : Heap) (tk : Nat), Grd A₀ base outer w mean mg mb g₀ g' → Fr g' env.locals h (fun y => if stored.contains y then u y else m₀ y) → News g' env.locals h led → Q .next { s₁ with heap := h, toks := tk })
theorem For_turnA {prog : Program} {A : Around} {env : Env} {s : Shared} {elts : List Expr} {x1} {tp pos : Pos} {iter : Expr} {body : List Stmt} (stored : List Str) {Q : Flow → Shared → Prop} {E : Value → Shared → Prop} {g : Heap} (_B : Below A₀ base outer g) (_T : Top view LS mean mg mb g) (_T0 : KtsTurn (frs outer) g₀ g)
    (h : wpAny (model prog w) A (eval iter env) (TLoopA prog A A₀ base outer w mean mg mb g₀ env (.Tuple elts x1 tp) body stored Q E) E s)
    (hs : ∀ x, foldedSetIterable iter env x = pure x := by intro _; rfl) (hE : PassesOwn (model prog w) A env E := by passes_own) :
    wpAny (model prog w) A (exec (.For (.Tuple elts x1 tp) iter body [] pos) env) Q E s := by
  refine wpAny_For (wpAny_mono h (fun xv s₁ h₁ => ?_) fun _ _ e => e) hs
  clear _B _T _T0 g
  obtain ⟨l, vs, nn, g, m₀, led, rfl, hh, G, F, N, hl, hrefs, turn, done⟩ := h₁
  have hol : s₁.heap.get? l = some (listOf vs.toArray nn) := (N _ hl).1
  have hls : s₁.heap.IsList l vs.toArray := ⟨_, hol, rfl, nn, rfl⟩
  have hlt : l < s₁.heap.objs.size := Heap.lt_size hol
  have off : ∀ p ∈ led, p.1 < s₁.heap.objs.size := fun p hp => Heap.lt_size (N _ hp).1
  have LI : env.locals ≠ s₁.heap.objs.size := fun e => Nat.lt_irrefl _ (e ▸ F.ns.lt)
  refine wpAny_pyIter_list hls ?_
  have W := Walks.list (prog := prog) (w := w) hh s₁.heap.objs.size l (Nat.ne_of_lt hlt) vs.toArray
  rw [show vs.toArray.size = vs.length from List.size_toArray ..] at W
  generalize hI : s₁.heap.objs.size = I at W off LI ⊢
  refine codeAny_forLoop_any (fun k s' => ∃ i g' h' tk m' oI, s' = { s₁ with heap := h', toks := tk } ∧ i ≤ vs.length ∧ k = vs.length + 1 - i ∧ h'.IsListIter I l i ∧ Grd A₀ base outer w mean mg mb g₀ g' ∧ Fr g' env.locals h' m' ∧ News g' env.locals h' (led ++ [(I, oI)]) ∧ ∀ z, stored.contains z = false → m' z = m₀ z) ?_ (vs.length + 1)
    ⟨0, g, _, _, m₀, { cls := .type "list_iterator", data := .fields #[.ref l, .int 0 0] }, rfl, Nat.zero_le _, rfl, ⟨_, by rw [← hI]; exact Heap.get?_push_size _ rfl, rfl, rfl⟩, G, F.push _, fun p hp => ?_, fun _ _ => rfl⟩
  rotate_left
  · rcases List.mem_append.mp hp with hp | hp
    · exact ⟨Heap.get?_push_of_some _ (N p hp).1, (N p hp).2⟩
    · rw [List.mem_singleton.mp hp]
      exact ⟨by rw [← hI]; exact Heap.get?_push_size _ rfl, Ne.symm LI, by rw [← hI]; exact next_is_new F⟩
  rintro k s' ⟨i, g', h', tk, m', oI, rfl, hi, rfl, hit, G', F', N', hm'⟩
  have hIn : g'.get? I = none := (N' (I, oI) (List.mem_append_right _ (.head _))).2.2
  have hst : h'.IsListIter I l i ∧ h'.IsList l vs.toArray := ⟨hit, News.isList N' (List.mem_append_left _ hl)⟩
  have fr_next : ∀ h₁ : Heap, (∀ b o, b ∉ [I] → h'.get? b = some o → h₁.get? b = some o) → Fr g' env.locals h₁ m' := fun h₁ hk => ⟨F'.ns.at' fun o e => hk _ o (by simpa using LI) e, fun b o e => hk b o (fun z => by rw [List.mem_singleton.mp z, hIn] at e; cases e) (F'.keep b o e), F'.above⟩
  have nw_next : ∀ h₁ : Heap, (∀ b o, b ∉ [I] → h'.get? b = some o → h₁.get? b = some o) → News g' env.locals h₁ led := fun h₁ hk p hp =>
    have z := N' p (List.mem_append_left _ hp)
    ⟨hk _ _ (by simpa using Nat.ne_of_lt (off p hp)) z.1, z.2⟩
  have em : m' = fun y => if stored.contains y then m' y else m₀ y := by
    funext y
    cases q : stored.contains y with
    | true => simp
    | false => simp [hm' y q]
  by_cases hlt : i < vs.length
  · refine W.item i _ _ _ hlt hst fun v h₁ tk₁ hP hst₁ hk₁ => ?_
    have hv : vs[i]? = some v := by simpa using hP
    obtain ⟨T, rfl⟩ := hrefs v (List.mem_of_getElem? hv)
    refine wpAny_letOwnedTupleGo_listiter hst₁.1 ?_
    obtain ⟨o1, ho1, ho2, ho3⟩ := hst₁.1
    have F₂ := fr_next h₁ hk₁
    rw [em] at F₂
    have N₂ : News g' env.locals h₁ (led ++ [(I, o1)]) := fun p hp => by
      rcases List.mem_append.mp hp with hp | hp
      · exact nw_next h₁ hk₁ p hp
      · rw [List.mem_singleton.mp hp]; exact ⟨ho1, Ne.symm LI, hIn⟩
    have more : ∀ s₃, (∃ g' h' tk m' nw, s₃ = { s₁ with heap := h', toks := tk } ∧ Grd A₀ base outer w mean mg mb g₀ g' ∧ Fr g' env.locals h' m' ∧ News g' env.locals h' nw ∧ (∀ p ∈ led ++ [(I, o1)], p ∈ nw) ∧ ∀ z, stored.contains z = false → m' z = m₀ z) →
        ∃ m, m < vs.length + 1 - i ∧ ∃ i g' h' tk m' oI, s₃ = { s₁ with heap := h', toks := tk } ∧ i ≤ vs.length ∧ m = vs.length + 1 - i ∧ h'.IsListIter I l i ∧ Grd A₀ base outer w mean mg mb g₀ g' ∧ Fr g' env.locals h' m' ∧ News g' env.locals h' (led ++ [(I, oI)]) ∧ ∀ z, stored.contains z = false → m' z = m₀ z := by
      rintro s₃ ⟨g3, h3, tk3, m3, nw, rfl, G3, F3, N3, hsub, hz⟩
      exact ⟨vs.length + 1 - (i + 1), by omega, i + 1, g3, h3, tk3, m3, o1, rfl, hlt, rfl, ⟨o1, (N3 _ (hsub _ (List.mem_append_right _ (.head _)))).1, ho2, ho3⟩, G3, F3, fun p hp => N3 p (hsub p hp), hz⟩
    refine wpAny_passesOwn hE (wpAny_mono (turn i (.ref T) m' g' h₁ _ I o1 hv G' F₂ N₂ off) (fun _ s₂ h₂ => wpAny_passesOwn hE (wpAny_mono h₂ (fun f s₃ h₃ => ?_) fun _ _ e => e)) fun _ _ e => e)
    cases f with
    | ret v => exact h₃
    | brk => exact h₃
    | next => exact more _ h₃
    | cont => exact more _ h₃
  · have hin : i = vs.length := by omega
    subst hin
    refine W.done _ _ _ hst fun h₁ tk₁ hk₁ => wpAny_execs_nil ?_
    have F₁ := fr_next h₁ hk₁
    rw [em] at F₁
    exact done m' g' h₁ tk₁ G' F₁ (nw_next h₁ hk₁)
theorem tloopA {prog : Program} {A : Around} {env : Env} {tgt : Expr} {body : List Stmt} {stored : List Str} {Q : Flow → Shared → Prop} {E : Value → Shared → Prop} {s₁ : Shared} {l : Addr} {vs : List Value} {nn : Nat} {g : Heap} {m₀ : Str → Option Value} {led : List (Addr × Obj)}
    (F : Fr g env.locals s₁.heap m₀) (N : News g env.locals s₁.heap led) (B : Below A₀ base outer g) (X : (hd.heap_1 w.params).In g) (P : Top view LS mean mg mb g) (D : KtsDicts (frs outer) g) (T : KtsTurn (frs outer) g₀ g) (hh : A.handled = none) (hl : (l, listOf vs.toArray nn) ∈ led) (hr : ∀ v ∈ vs, ∃ T, v = .ref T)
    (turn : ∀ (i : Nat) (v : Value) (u : Str → Option Value) (g' h : Heap) (tk : Nat) (I : Addr) (oI : Obj), vs[i]? = some v → Grd A₀ base outer w mean mg mb g₀ g' → Fr g' env.locals h (fun y => if stored.contains y then u y else m₀ y) → News g' env.locals h (led ++ [(I, oI)]) → (∀ p ∈ led, p.1 < I) →
      wpAny (model prog w) A (assign tgt env v) (fun _ s₂ => wpAny (model prog w) A (execs body env) (TPostA A₀ base outer w mean mg mb g₀ env.locals stored m₀ (led ++ [(I, oI)]) { s₁ with heap := h, toks := tk } Q) E s₂) E { s₁ with heap := h, toks := tk })
    (done : ∀ (u : Str → Option Value) (g' h : Heap) (tk : Nat), Grd A₀ base outer w mean mg mb g₀ g' → Fr g' env.locals h (fun y => if stored.contains y then u y else m₀ y) → News g' env.locals h led → Q .next { s₁ with heap := h, toks := tk }) :
    TLoopA prog A A₀ base outer w mean mg mb g₀ env tgt body stored Q E (.ref l) s₁ := ⟨l, vs, nn, g, m₀, led, rfl, hh, ⟨T, B, X, P, D⟩, F, N, hl, hr, turn, done⟩
theorem tpostA {L : Addr} {stored : List Str} {m₀ m' : Str → Option Value} {led nw : List (Addr × Obj)} {s₁ : Shared} {Q : Flow → Shared → Prop} {g' h' : Heap} {tk : Nat} {f : Flow} (hf : f = .cont ∨ f = .next) (F : Fr g' L h' m') (N : News g' L h' nw) (B : Below A₀ base outer g') (X : (hd.heap_1 w.params).In g') (P : Top view LS mean mg mb g') (D : KtsDicts (frs outer) g') (T : KtsTurn (frs outer) g₀ g')
    (hs : ∀ p ∈ led, p ∈ nw) (hz : ∀ z, stored.contains z = false → m' z = m₀ z) : TPostA A₀ base outer w mean mg mb g₀ L stored m₀ led s₁ Q f { s₁ with heap := h', toks := tk } := by
  rcases hf with rfl | rfl <;> exact ⟨g', h', tk, m', nw, rfl, ⟨T, B, X, P, D⟩, F, N, hs, hz⟩
end
end

section
-- S3
open PySem PySem.W PyProof.Rows
theorem kwn_S3 : True := by
  k_with_none
  w_top off
  trivial
theorem kwo_S3 : True := by
  k_with "m:omega" => first | with_reducible assumption | decide | with_reducible exact Int.le_refl _ | with_reducible exact Nat.le_refl _ | with_reducible exact rm_u2 | with_reducible exact rm_d2 | with_reducible exact rm_u1 | with_reducible exact rm_d1 | with_reducible exact rm_u0 | with_reducible exact rm_d0 | with_reducible exact n_up | with_reducible exact q_o | with_reducible exact q_c1 | with_reducible exact q_c2 | with_reducible exact q_c3 | with_reducible exact q_c4 | with_reducible exact q_n1 | with_reducible exact q_n2 | with_reducible exact q_n3 | with_reducible exact q_l1 | with_reducible exact q_l2 | with_reducible exact q_t1 | with_reducible exact q_t2 | with_reducible exact q_t3 | with_reducible exact q_t4 | with_reducible exact q_t5 | ((with_reducible show _ ≠ _); first | k_extra "P" | (refine Ne.symm ?_; k_extra "P") | (refine Nat.ne_of_lt ?_; k_extra "P") | (refine Nat.ne_of_gt ?_; k_extra "P"))
  k_with "P" => first | with_reducible assumption | with_reducible exact And.left (by with_reducible assumption) | with_reducible exact And.right (by with_reducible assumption) | with_reducible exact q_r (by with_reducible assumption) | with_reducible exact q_s (by with_reducible assumption) | with_reducible exact q_t (by with_reducible assumption) | with_reducible exact q_u (by with_reducible assumption)
  k_with "m:eval Call" => (k_here; k_dflt (first | ((with_reducible show wpAny _ _ (eval (.Call (.Name (Str.ofString "len") _) [.Name _ _] [] _) _) _ _ _); refine len_nm (q := ?_)) | ((with_reducible show wpAny _ _ (eval (.Call (.Name (Str.ofString "len") _) [_] [] _) _) _ _ _); refine callLen (h := ?_)) | ((with_reducible show wpAny _ _ (eval (.Call (.Name (Str.ofString "str") _) [_] [] _) _) _ _ _); refine callStr (h := ?_)) | ((with_reducible show wpAny _ _ (eval (.Call (.Name _ _) [_] [] _) _) _ _ _); refine callK1 (h := ?_)) | ((with_reducible show wpAny _ _ (eval (.Call (.Name _ _) [_, _] [] _) _) _ _ _); refine callK2 (h := ?_)) | ((with_reducible show wpAny _ _ (eval (.Call (.Name _ _) [_, _, _] [] _) _) _ _ _); refine callK3 (h := ?_))); k_whole)
  k_with "m:eval Constant int" => (k_here; k_dflt (refine cInt ?_); k_whole)
  k_with "m:eval Constant str" => (k_here; k_dflt (refine cStr ?_); k_whole)
  k_with "m:storeName" => (k_here; k_dflt (refine storeS (q := ?_)); k_whole; intro h' F' N'; (try k_sweep))
  k_with "m:binaryOp Add int int" => (k_here; k_dflt (refine addS ?_); k_whole)
  k_with "m:binaryOp Sub int int" => (k_here; k_dflt (refine subS ?_); k_whole)
  k_with "m:call builtin:len" => (k_here; (with_reducible show wpAny _ _ (call _ [.str _ _]) _ _ _); k_dflt (refine lenS (q := ?_)); k_whole)
  k_with "m:newList" => (k_here; k_dflt (refine lstS (q := ?_) (by first | exact Nat.le_of_ble_eq_true rfl | size_fits)); k_whole; intro l' h' F' N' l1; (try k_lt l1); (try k_sweep))
  k_with "m:execs cons" => (k_here; k_dflt (first | ((with_reducible show wpAny _ _ (execs (.Assign [.Name _ _] _ _ :: _) _) _ _ _); refine sAsg ?_ (Eq.refl true)) | ((with_reducible show wpAny _ _ (execs (.Return (some _) _ :: _) _) _ _ _); refine sRet ?_) | ((with_reducible show wpAny _ _ (execs (.If _ [.Return (some _) _] [] _ :: _) _) _ _ _); refine sIfR ?_) | ((with_reducible show wpAny _ _ (execs (.If _ _ [] _ :: _) _) _ _ _); refine sIf1 ?_)); k_whole)
  k_with "m:eval Tuple" => (k_here; first | ((with_reducible show wpAny _ _ (eval (.Tuple [.Constant (.str _) _ _, .Constant (.str _) _ _] _ _) _) _ _ _); k_dflt (refine tupSS (q := ?_)); k_whole; intro D' h' F' N' l1; (try k_lt l1)) | ((with_reducible show wpAny _ _ (eval (.Tuple [_, _] _ _) _) _ _ _); k_dflt (refine tup2 ?_ (Eq.refl true) (Eq.refl true)); k_whole))
  k_with "m:eval List" => (k_here; k_dflt (first | ((with_reducible show wpAny _ _ (eval (.List [_] _) _) _ _ _); refine lst1 ?_ (Eq.refl true)) | ((with_reducible show wpAny _ _ (eval (.List [_, _] _) _) _ _ _); refine lst2 ?_ (Eq.refl true) (Eq.refl true)) | ((with_reducible show wpAny _ _ (eval (.List [_, _, _] _) _) _ _ _); refine lst3 ?_ (Eq.refl true) (Eq.refl true) (Eq.refl true)) | ((with_reducible show wpAny _ _ (eval (.List [_, _, _, _] _) _) _ _ _); refine lst4 ?_ (Eq.refl true) (Eq.refl true) (Eq.refl true) (Eq.refl true))); k_whole)
  k_with "m:eval BinOp" => (k_here; k_dflt (first | ((with_reducible show wpAny _ _ (eval (.BinOp (.Name _ _) _ (.Name _ _) _) _) _ _ _); refine bNN (q := ?_)) | ((with_reducible show wpAny _ _ (eval (.BinOp (.Name _ _) _ (.Constant (.int _) _ _) _) _) _ _ _); refine bNC (q := ?_)) | ((with_reducible show wpAny _ _ (eval (.BinOp (.Name _ _) _ _ _) _) _ _ _); refine bN (q := ?_))); k_whole)
  k_with "m:isTrue Compare" => (k_here; k_dflt (first | ((with_reducible show wpAny _ _ (isTrue (.Compare (.Name _ _) [_] [(.Name _ _)] _) _ _) _ _ _); refine cNN (q := ?_)) | ((with_reducible show wpAny _ _ (isTrue (.Compare (.Name _ _) [_] [(.Constant (.int _) _ _)] _) _ _) _ _ _); refine cNC (q := ?_)) | ((with_reducible show wpAny _ _ (isTrue (.Compare (.Name _ _) [_] [_] _) _ _) _ _ _); refine cN (q := ?_))); k_whole)
  k_with "m:eval Subscript" => (k_here; k_dflt (first | ((with_reducible show wpAny _ _ (eval (.Subscript (.Name _ _) (.Name _ _) _) _) _ _ _); refine gNN (q := ?_)) | ((with_reducible show wpAny _ _ (eval (.Subscript (.Name _ _) (.Constant (.int _) _ _) _) _) _ _ _); refine gNC (q := ?_)) | ((with_reducible show wpAny _ _ (eval (.Subscript (.Name _ _) _ _) _) _ _ _); refine gN (q := ?_))); k_whole)
  trivial
open PySem.Challenge
set_option maxRecDepth 100000
set_option maxHeartbeats 4000000
theorem newsUpd {h₀ h gg h' : Heap} {L L' pen : Addr} {m' : Str → Option Value} {o o' : Obj} {news : List (Addr × Obj)} {g : Obj → List (Addr × Obj)} (U : UpdF pen o news g) (N : News h₀ L h news) (HG : ∀ b o1, h.get? b = some o1 → b ∉ [(pen, o)].map (·.1) → gg.get? b = some o1) (F' : Fr gg L' h' m') (kN : News h₀ L h' [(pen, o')]) : News h₀ L h' (g o') := by
  obtain ⟨pre, post, rfl, hg, a, b⟩ := U.split
  rw [hg o']
  have old : ∀ q ∈ pre ++ (pen, o) :: post, q.1 ≠ pen → h'.get? q.1 = some q.2 ∧ q.1 ≠ L ∧ h₀.get? q.1 = none := fun q hq hne => ⟨F'.keep _ _ (HG _ _ (N q hq).1 (by simpa using hne)), (N q hq).2⟩
  intro q hq
  rcases List.mem_append.mp hq with hq | hq
  · exact old q (List.mem_append_left _ hq) (a q hq)
  rcases List.mem_cons.mp hq with rfl | hq
  · exact kN _ (.head _)
  · exact old q (List.mem_append_right _ (.tail _ hq)) (b q hq)
theorem kw_S3_1 : True := by
  k_with "m:subscriptTail Name Constant ref int" => (k_here; (with_reducible show wpAny _ _ (subscriptTail _ _ (Value.ref _) (Value.int _ _)) _ _ _); k_dflt (refine item_lst (News.isList (by k_asm) (by k_mem)) (by decide) (by decide) (by first | exact (rfl : _ = some (Value.str _ _)) | exact (rfl : _ = some (Value.ref _)) | exact (rfl : _ = some (Value.int _ _))) ?_))
  k_with "m:binaryOp FloorDiv int int" => (k_here; k_dflt (refine floordiv_int (by omega) ?_ (.inl (PyProof.noPylong_small (by omega)))))
  trivial
theorem draw_c {w mean mg mb} {news : List (Addr × Obj)} {g : Obj → List (Addr × Obj)} {pen : Addr} {v many : Int} {t u : Tok} {n : Nat} (U : UpdF pen { cls := .type "list", data := .seq [Value.int v t].toArray n } news g) (hm : 0 < many) (hm2 : many < 1000) :
    CbH 2 w mean mg mb 325 news [.ref pen, .int many u] (fun h₀ L m s Q => ∀ (t1 t2 : Tok) (n' : Nat) (h' : Heap) (tk' : Nat), Fr h₀ L h' m → News h₀ L h' (g { cls := .type "list", data := .seq [Value.int (v.fdiv many) t1].toArray n' }) → Q (.int (v.fmod many) t2) { s with heap := h', toks := tk' }) := by
  have hl : (pen, ({ cls := .type "list", data := .seq [Value.int v t].toArray n } : Obj)) ∈ news := by
    obtain ⟨pre, post, e, _⟩ := U.split
    rw [e]
    exact List.mem_append_right _ (.head _)
  ((try unfold Cb); (try unfold CbE); (try unfold CbG); (try unfold CbH); k_fill; (try dsimp only [RetV, RetT]); intros; rename_i s0 Q0 E0 B0 F0 X0 N0 T0 hk0 hd0 hu0 hret; refine wpAny_call ?_; k_dflt (refine' code_defP ?k1 ?k2 ?k3 ?k4 ?k5 ?kA ?kF ?kK ?k6 ?k7 ?k8 ?k9 ?kB ?_ ?c2 ?c3 ?c4 ?c5; (case kA => exact rfl); (case kF => exact rfl); (case kK => first | exact rfl | assumption); (case k1 => k_asm); (case k2 => k_asm); (case k4 => exact newsSub N0 hl); (case k3 => k_asm); (case k5 => k_asm); (case k6 => k_is); (case k7 => k_is); (case k8 => ktr_room); (case k9 => exact BindsTo.of_eq rfl); (case c5 => decide); (case kB => exact locs rfl); (case c2 => exact rfl); (case c3 => exact rfl); (case c4 => exact rfl); k_whole; intro g' L' h' HG0 FG' F' N' B' X' T'; (try dsimp only); (try k_lift B'); (try k_fold)); (refine letA ?_); (intro kA); (replace F' : Fr g' L' h' (fun y => List.lookup y [(Str.ofString "many", _), (Str.ofString "pen", _)]) := F'); (generalize Shared.toks _ + List.length _ = tk0))
  k_steps
  exact hret _ _ _ _ _ (by k_asm) (newsUpd U N0 HG0 (by k_asm) (by with_reducible assumption))
end

section
-- S2
open PySem PySem.W PyProof.Rows
theorem kwn_S2 : True := by
  k_with_none
  w_top off
  trivial
theorem kwo_S2 : True := by
  k_with "m:omega" => first | with_reducible assumption | decide | with_reducible exact Int.le_refl _ | with_reducible exact Nat.le_refl _ | with_reducible exact rm_u2 | with_reducible exact rm_d2 | with_reducible exact rm_u1 | with_reducible exact rm_d1 | with_reducible exact rm_u0 | with_reducible exact rm_d0 | with_reducible exact n_up | with_reducible exact q_o | with_reducible exact q_c1 | with_reducible exact q_c2 | with_reducible exact q_c3 | with_reducible exact q_c4 | with_reducible exact q_n1 | with_reducible exact q_n2 | with_reducible exact q_n3 | with_reducible exact q_l1 | with_reducible exact q_l2 | with_reducible exact q_t1 | with_reducible exact q_t2 | with_reducible exact q_t3 | with_reducible exact q_t4 | with_reducible exact q_t5 | ((with_reducible show _ ≠ _); first | k_extra "P" | (refine Ne.symm ?_; k_extra "P") | (refine Nat.ne_of_lt ?_; k_extra "P") | (refine Nat.ne_of_gt ?_; k_extra "P"))
  k_with "P" => first | with_reducible assumption | with_reducible exact And.left (by with_reducible assumption) | with_reducible exact And.right (by with_reducible assumption) | with_reducible exact q_r (by with_reducible assumption) | with_reducible exact q_s (by with_reducible assumption) | with_reducible exact q_t (by with_reducible assumption) | with_reducible exact q_u (by with_reducible assumption)
  k_with "m:eval Call" => (k_here; k_dflt (first | ((with_reducible show wpAny _ _ (eval (.Call (.Name (Str.ofString "len") _) [.Name _ _] [] _) _) _ _ _); refine len_nm (q := ?_)) | ((with_reducible show wpAny _ _ (eval (.Call (.Name (Str.ofString "len") _) [_] [] _) _) _ _ _); refine callLen (h := ?_)) | ((with_reducible show wpAny _ _ (eval (.Call (.Name (Str.ofString "str") _) [_] [] _) _) _ _ _); refine callStr (h := ?_)) | ((with_reducible show wpAny _ _ (eval (.Call (.Name _ _) [_] [] _) _) _ _ _); refine callK1 (h := ?_)) | ((with_reducible show wpAny _ _ (eval (.Call (.Name _ _) [_, _] [] _) _) _ _ _); refine callK2 (h := ?_)) | ((with_reducible show wpAny _ _ (eval (.Call (.Name _ _) [_, _, _] [] _) _) _ _ _); refine callK3 (h := ?_))); k_whole)
  k_with "m:eval Constant int" => (k_here; k_dflt (refine cInt ?_); k_whole)
  k_with "m:eval Constant str" => (k_here; k_dflt (refine cStr ?_); k_whole)
  k_with "m:storeName" => (k_here; k_dflt (refine storeS (q := ?_)); k_whole; intro h' F' N'; (try k_sweep))
  k_with "m:binaryOp Add int int" => (k_here; k_dflt (refine addS ?_); k_whole)
  k_with "m:binaryOp Sub int int" => (k_here; k_dflt (refine subS ?_); k_whole)
  k_with "m:call builtin:len" => (k_here; (with_reducible show wpAny _ _ (call _ [.str _ _]) _ _ _); k_dflt (refine lenS (q := ?_)); k_whole)
  k_with "m:newList" => (k_here; k_dflt (refine lstS (q := ?_) (by first | exact Nat.le_of_ble_eq_true rfl | size_fits)); k_whole; intro l' h' F' N' l1; (try k_lt l1); (try k_sweep))
  k_with "m:execs cons" => (k_here; k_dflt (first | ((with_reducible show wpAny _ _ (execs (.Assign [.Name _ _] _ _ :: _) _) _ _ _); refine sAsg ?_ (Eq.refl true)) | ((with_reducible show wpAny _ _ (execs (.Return (some _) _ :: _) _) _ _ _); refine sRet ?_) | ((with_reducible show wpAny _ _ (execs (.If _ [.Return (some _) _] [] _ :: _) _) _ _ _); refine sIfR ?_) | ((with_reducible show wpAny _ _ (execs (.If _ _ [] _ :: _) _) _ _ _); refine sIf1 ?_)); k_whole)
  k_with "m:eval Tuple" => (k_here; first | ((with_reducible show wpAny _ _ (eval (.Tuple [.Constant (.str _) _ _, .Constant (.str _) _ _] _ _) _) _ _ _); k_dflt (refine tupSS (q := ?_)); k_whole; intro D' h' F' N' l1; (try k_lt l1)) | ((with_reducible show wpAny _ _ (eval (.Tuple [_, _] _ _) _) _ _ _); k_dflt (refine tup2 ?_ (Eq.refl true) (Eq.refl true)); k_whole))
  k_with "m:eval List" => (k_here; k_dflt (first | ((with_reducible show wpAny _ _ (eval (.List [_] _) _) _ _ _); refine lst1 ?_ (Eq.refl true)) | ((with_reducible show wpAny _ _ (eval (.List [_, _] _) _) _ _ _); refine lst2 ?_ (Eq.refl true) (Eq.refl true)) | ((with_reducible show wpAny _ _ (eval (.List [_, _, _] _) _) _ _ _); refine lst3 ?_ (Eq.refl true) (Eq.refl true) (Eq.refl true)) | ((with_reducible show wpAny _ _ (eval (.List [_, _, _, _] _) _) _ _ _); refine lst4 ?_ (Eq.refl true) (Eq.refl true) (Eq.refl true) (Eq.refl true))); k_whole)
  k_with "m:eval BinOp" => (k_here; k_dflt (first | ((with_reducible show wpAny _ _ (eval (.BinOp (.Name _ _) _ (.Name _ _) _) _) _ _ _); refine bNN (q := ?_)) | ((with_reducible show wpAny _ _ (eval (.BinOp (.Name _ _) _ (.Constant (.int _) _ _) _) _) _ _ _); refine bNC (q := ?_)) | ((with_reducible show wpAny _ _ (eval (.BinOp (.Name _ _) _ _ _) _) _ _ _); refine bN (q := ?_))); k_whole)
  k_with "m:isTrue Compare" => (k_here; k_dflt (first | ((with_reducible show wpAny _ _ (isTrue (.Compare (.Name _ _) [_] [(.Name _ _)] _) _ _) _ _ _); refine cNN (q := ?_)) | ((with_reducible show wpAny _ _ (isTrue (.Compare (.Name _ _) [_] [(.Constant (.int _) _ _)] _) _ _) _ _ _); refine cNC (q := ?_)) | ((with_reducible show wpAny _ _ (isTrue (.Compare (.Name _ _) [_] [_] _) _ _) _ _ _); refine cN (q := ?_))); k_whole)
  k_with "m:eval Subscript" => (k_here; k_dflt (first | ((with_reducible show wpAny _ _ (eval (.Subscript (.Name _ _) (.Name _ _) _) _) _ _ _); refine gNN (q := ?_)) | ((with_reducible show wpAny _ _ (eval (.Subscript (.Name _ _) (.Constant (.int _) _ _) _) _) _ _ _); refine gNC (q := ?_)) | ((with_reducible show wpAny _ _ (eval (.Subscript (.Name _ _) _ _) _) _ _ _); refine gN (q := ?_))); k_whole)
  trivial
open PySem.Challenge
set_option maxRecDepth 100000
set_option maxHeartbeats 4000000
noncomputable def headsL : List Str := [Str.ofString "", Str.ofString "end", Str.ofString "0", Str.ofString "1", Str.ofString "2", Str.ofString "-1", Str.ofString "+4", Str.ofString "0x3", Str.ofString "x", Str.ofString "9223372036854775808", Str.ofString "00"]
noncomputable def stepsL : List Str := [Str.ofString "", Str.ofString "+1", Str.ofString "-1", Str.ofString "-2", Str.ofString "+0", Str.ofString "+4", Str.ofString "-", Str.ofString "--1", Str.ofString " "]
/-- a new list of texts comes back -/
noncomputable abbrev RetL (news : List (Addr × Obj)) (l : List Str) (h₀ : Heap) (L : Addr) (m : Str → Option Value) (s : Shared) (Q : Value → Shared → Prop) : Prop :=
  ∀ (D : Addr) (vs : List Value) (h' : Heap) (tk' : Nat), Fr h₀ L h' m → News h₀ L h' ((D, ({ cls := .type "list", data := .seq vs.toArray 0 } : Obj)) :: news) → StrsAre vs l → (∀ p ∈ news, p.1 ≠ D) → Q (.ref D) { s with heap := h', toks := tk' }
theorem heads_c {w mean mg mb} {news : List (Addr × Obj)} : CbH 2 w mean mg mb 311 news [] (RetL news headsL) := by
  ((try unfold Cb); (try unfold CbE); (try unfold CbG); (try unfold CbH); k_fill; (try dsimp only [RetV, RetT]); intros; rename_i s0 Q0 E0 B0 F0 X0 N0 T0 hk0 hd0 hu0 hret; refine wpAny_call ?_; k_dflt (refine' code_defP (mu := []) ?k1 ?k2 ?k3 ?k4 ?k5 ?kA ?kF ?kK ?k6 ?k7 ?k8 ?k9 ?kB ?_ ?c2 ?c3 ?c4 ?c5; (case kA => exact rfl); (case kF => exact rfl); (case kK => first | exact rfl | assumption); (case k1 => k_asm); (case k2 => k_asm); (case k4 => exact News.nil); (case k3 => k_asm); (case k5 => k_asm); (case k6 => k_is); (case k7 => k_is); (case k8 => ktr_room); (case k9 => exact BindsTo.of_eq rfl); (case c5 => decide); (case kB => exact locs rfl); (case c2 => exact rfl); (case c3 => exact rfl); (case c4 => exact rfl); k_whole; intro g' L' h' HG0 FG' F' N' B' X' T'; (try dsimp only); (try k_lift B'); (try k_fold)); (refine letA ?_); (intro kA))
  k_steps
  exact hret _ _ _ _ (by k_asm) (newsOne N0 HG0 (by k_asm) (by k_asm) (List.Mem.head _)) (by repeat constructor) (neNew N0 News.nil HG0 (by with_reducible assumption) (List.Mem.head _) (fun _ h => nomatch h))
theorem steps_c {w mean mg mb} {news : List (Addr × Obj)} : CbH 2 w mean mg mb 318 news [] (RetL news stepsL) := by
  ((try unfold Cb); (try unfold CbE); (try unfold CbG); (try unfold CbH); k_fill; (try dsimp only [RetV, RetT]); intros; rename_i s0 Q0 E0 B0 F0 X0 N0 T0 hk0 hd0 hu0 hret; refine wpAny_call ?_; k_dflt (refine' code_defP (mu := []) ?k1 ?k2 ?k3 ?k4 ?k5 ?kA ?kF ?kK ?k6 ?k7 ?k8 ?k9 ?kB ?_ ?c2 ?c3 ?c4 ?c5; (case kA => exact rfl); (case kF => exact rfl); (case kK => first | exact rfl | assumption); (case k1 => k_asm); (case k2 => k_asm); (case k4 => exact News.nil); (case k3 => k_asm); (case k5 => k_asm); (case k6 => k_is); (case k7 => k_is); (case k8 => ktr_room); (case k9 => exact BindsTo.of_eq rfl); (case c5 => decide); (case kB => exact locs rfl); (case c2 => exact rfl); (case c3 => exact rfl); (case c4 => exact rfl); k_whole; intro g' L' h' HG0 FG' F' N' B' X' T'; (try dsimp only); (try k_lift B'); (try k_fold)); (refine letA ?_); (intro kA))
  k_steps
  exact hret _ _ _ _ (by k_asm) (newsOne N0 HG0 (by k_asm) (by k_asm) (List.Mem.head _)) (by repeat constructor) (neNew N0 News.nil HG0 (by with_reducible assumption) (List.Mem.head _) (fun _ h => nomatch h))
end

section
-- B2
open PySem PySem.W PyProof.Rows PySem.Calls
open PySem.Challenge
set_option maxRecDepth 100000
set_option maxHeartbeats 4000000
noncomputable abbrev BS := List Value × Nat × Bool
noncomputable abbrev sOpen : Str := Str.ofString "is_open"
noncomputable abbrev sPart : Str := Str.ofString "is_part"
noncomputable abbrev blkLed (D l : Addr) (c : BS) : List (Addr × Obj) := [(D, tupO [.ref l, .bool false]), (l, listOf c.1.toArray c.2.1)]
noncomputable abbrev blkPs (c : BS) : List (Str × Value) := [(sOpen, .bool c.2.2)]
noncomputable abbrev blkP (pre : List Int) (c : BS) : Prop := CarriedAll c.1 ((blkF pre).1.map PyData.str) ∧ c.2.2 = (blkF pre).2
theorem blk_split {l : List Str} {us : List Value} (h : CarriedAll us (l.map PyData.str)) : (us = [] ∧ l = []) ∨ ∃ us' x t l', us = us' ++ [Value.str x t] ∧ l = l' ++ [x] ∧ CarriedAll us' (l'.map PyData.str) := by
  induction l generalizing us with
  | nil => cases h; exact .inl ⟨rfl, rfl⟩
  | cons a r ih =>
    cases h with
    | cons h1 h2 =>
      cases h1
      rcases ih h2 with ⟨e1, e2⟩ | ⟨us', x, t, l', e1, e2, h3⟩
      · subst e1; subst e2
        exact .inr ⟨[], _, _, [], rfl, rfl, .nil⟩
      · subst e1; subst e2
        exact .inr ⟨_ :: us', x, t, _ :: l', rfl, rfl, .cons (.str _ _) h3⟩
theorem car_snoc {us : List Value} {l : List Str} {x : Str} {t : Tok} (h : CarriedAll us (l.map PyData.str)) : CarriedAll (us ++ [.str x t]) ((l ++ [x]).map PyData.str) := by
  induction l generalizing us with
  | nil => cases h; exact .cons (.str _ _) .nil
  | cons a r ih =>
    cases h with
    | cons h1 h2 => exact .cons h1 (ih h2)
section
variable {prog : Program} {w : World} {A : Around} {E : Value → Shared → Prop} {s : Shared} {env : Env} {h₀ : Heap} {y0 : Str} {body : List Stmt} {Q : Flow → Shared → Prop} {xt : Str} {tx : Tok} {m₀ : Str → Option Value} {D l : Addr}
theorem blk_loop (hh : A.handled = none) (F : Fr h₀ env.locals s.heap m₀) (N : News h₀ env.locals s.heap [(D, tupO [.ref l, .bool false]), (l, listOf #[] 0)]) (hk : m₀ sOpen = some (.bool false))
    (turn0 : ∀ (k : Nat) (pre post : List Int) (n : Nat) t (u : Str → Option Value) h tk own, KStt.codes xt = pre ++ (n : Int) :: post → pre.length < xt.length → OwnOff own [D, l] → blkF pre = ([], false) →
      Fr h₀ env.locals h (fun y => if y = y0 then some (.str ⟨#[n]⟩ t) else kstB (fun z => if [sPart].contains z then u z else m₀ z) [(sOpen, .bool false)] y) → News h₀ env.locals h ([(D, tupO [.ref l, .bool false]), (l, listOf #[] k)] ++ own) →
      wpAny (model prog w) A (execs body env) (InvPostN h₀ env.locals (KstS (blkLed D l) blkPs (fun _ => True) y0 [sPart] m₀ blkP (pre ++ [(n : Int)])) own [D, l] { s with heap := h, toks := tk } Q) E { s with heap := h, toks := tk })
    (turn1 : ∀ (us : List Value) (x : Str) (t' : Tok) (l' : List Str) (k : Nat) (b : Bool) (pre post : List Int) (n : Nat) t (u : Str → Option Value) h tk own, KStt.codes xt = pre ++ (n : Int) :: post → pre.length < xt.length → OwnOff own [D, l] → blkF pre = (l' ++ [x], b) → CarriedAll us (l'.map PyData.str) → us.length + x.length ≤ xt.length →
      Fr h₀ env.locals h (fun y => if y = y0 then some (.str ⟨#[n]⟩ t) else kstB (fun z => if [sPart].contains z then u z else m₀ z) [(sOpen, .bool b)] y) → News h₀ env.locals h ([(D, tupO [.ref l, .bool false]), (l, listOf (us ++ [Value.str x t']).toArray k)] ++ own) →
      wpAny (model prog w) A (execs body env) (InvPostN h₀ env.locals (KstS (blkLed D l) blkPs (fun _ => True) y0 [sPart] m₀ blkP (pre ++ [(n : Int)])) own [D, l] { s with heap := h, toks := tk } Q) E { s with heap := h, toks := tk })
    (done : ∀ (us : List Value) (k : Nat) (u : Str → Option Value) h tk, CarriedAll us ((blkF (KStt.codes xt)).1.map PyData.str) → Fr h₀ env.locals h (fun y => if y = y0 then u y else kstB (fun z => if [sPart].contains z then u z else m₀ z) [(sOpen, .bool (blkF (KStt.codes xt)).2)] y) → News h₀ env.locals h [(D, tupO [.ref l, .bool false]), (l, listOf us.toArray k)] → Q .next { s with heap := h, toks := tk }) :
    wpAny (model prog w) A (pyIter (.str xt tx)) (fun it s₂ => LoopAtV prog w A h₀ env y0 body Q E it s₂) E s := by
  refine KStt.kst_text (blkLed D l) blkPs (fun _ => True) [sPart] blkP ([], 0, false) hh F N trivial (psOne hk) ⟨.nil, rfl⟩ ?_ ?_
  · rintro ⟨us, k, b⟩ pre post n t u h tk own hc ho - ⟨hp1, hp2⟩ F N
    dsimp only at hp1 hp2 F N
    have hl8 := congrArg List.length hc
    simp only [KStt.codes_length, List.length_append, List.length_cons] at hl8
    have hT := blk_total pre
    have hle := blk_cnt pre
    rcases blk_split hp1 with ⟨e1, e2⟩ | ⟨us8, x8, t8, l8, e1, e2, h8⟩
    · subst e1
      have hb := blk_nil e2
      rw [hb] at hp2
      subst hp2
      exact turn0 k pre post n t u h tk own hc (by omega) ho (Prod.ext e2 hb) F N
    · subst e1
      subst hp2
      have hl := CarriedAll.length_eq h8
      simp only [List.length_map] at hl
      rw [e2] at hle hT
      rw [total_app, total_one] at hT
      exact turn1 us8 x8 t8 l8 k _ pre post n t u h tk own hc (by omega) ho (Prod.ext e2 rfl) h8 (by
        have := total_ge (l := l8) (fun y hy => by
          obtain ⟨a1, a2, rfl⟩ := List.append_of_mem hy
          exact (blk_ok pre (total a1) y ⟨a1, a2 ++ [x8], by rw [e2]; simp, rfl⟩).1)
        omega) F N
  · rintro ⟨us, k, b⟩ u h tk - ⟨hp1, hp2⟩ F N
    dsimp only at hp1 hp2 F N
    subst hp2
    exact done us k u h tk hp1 F N
end
section
variable {L : Addr} {h₀ h' : Heap} {m₀ m' : Str → Option Value} {own news' : List (Addr × Obj)} {s₁ : Shared} {tk : Nat} {y0 : Str} {D l : Addr} {pre : List Int} {n : Nat} {us : List Value} {k : Nat} {b : Bool}
theorem blk_end (F : Fr h₀ L h' m') (N : News h₀ L h' news') (hc : CarriedAll us ((blkF (pre ++ [(n : Int)])).1.map PyData.str)) (hb : m' sOpen = some (.bool (partN n))) (hl : ∀ p ∈ [(D, tupO [.ref l, .bool false]), (l, listOf us.toArray k)], p ∈ news') (ho : ∀ p ∈ own, p ∈ news')
    (hr : ∀ z, z ≠ y0 → z ≠ sOpen → z ≠ sPart → m' z = m₀ z) : InvEndN h₀ L (KstS (blkLed D l) blkPs (fun _ => True) y0 [sPart] m₀ blkP (pre ++ [(n : Int)])) own [D, l] s₁ { s₁ with heap := h', toks := tk } := by
  refine kst_end (us, k, partN n) F N hl ho rfl trivial (psOne hb) (fun z h1 h2 h3 => hr z h1 (notOne h2) ?_) ⟨hc, by rw [blk_step]; rfl⟩
  rintro rfl
  exact absurd h3 (by decide)
end
theorem part_t {n : Nat} {b : Bool} (h : (Builtin.Str.occurrences (Str.ofString "- \n") ⟨#[n]⟩ 0 (Str.ofString "- \n").length 1).isEmpty = b) : partN n = b := by
  unfold partN
  rw [Bool.not_not]
  exact h
theorem notPart {z : Str} (h : z ≠ sPart) : ¬ [sPart].contains z = true := by
  simpa using h
section
variable {L : Addr} {h₀ h' : Heap} {m₀ m' : Str → Option Value} {own : List (Addr × Obj)} {s₁ : Shared} {tk : Nat} {y0 : Str} {D l : Addr} {pre : List Int} {n : Nat} {us : List Value} {k : Nat} {b : Bool} {x : Str} {l' : List Str} {t : Tok} {v : Value}
theorem end_0 (F : Fr h₀ L h' m') (N : News h₀ L h' ((D, tupO [.ref l, .bool false]) :: (l, listOf (#[].push (.str ⟨#[n]⟩ t)) k) :: own)) (hp : blkF pre = ([], false)) (hb : m' sOpen = some (.bool (partN n))) (hr : ∀ z, z ≠ y0 → z ≠ sOpen → z ≠ sPart → m' z = m₀ z) :
    InvEndN h₀ L (KstS (blkLed D l) blkPs (fun _ => True) y0 [sPart] m₀ blkP (pre ++ [(n : Int)])) own [D, l] s₁ { s₁ with heap := h', toks := tk } :=
  blk_end (us := [Value.str ⟨#[n]⟩ t]) (k := k) F N (by
    rw [blk_new (by rw [hp]; rintro ⟨_, h⟩; cases h), hp]
    exact .cons (.str _ _) .nil) hb (fun p hp => List.mem_append_left own hp) (fun p hp => List.mem_append_right [_, _] hp) hr
theorem end_1 (F : Fr h₀ L h' m') (N : News h₀ L h' ((D, tupO [.ref l, .bool false]) :: (l, listOf ((us ++ [v]).toArray.push (.str ⟨#[n]⟩ t)) k) :: own)) (hp : blkF pre = (l' ++ [x], b)) (hv : ∃ t', v = .str x t') (hu : CarriedAll us (l'.map PyData.str)) (hn : ¬ (partN n = true ∧ b = true))
    (hb : m' sOpen = some (.bool (partN n))) (hr : ∀ z, z ≠ y0 → z ≠ sOpen → z ≠ sPart → m' z = m₀ z) :
    InvEndN h₀ L (KstS (blkLed D l) blkPs (fun _ => True) y0 [sPart] m₀ blkP (pre ++ [(n : Int)])) own [D, l] s₁ { s₁ with heap := h', toks := tk } := by
  obtain ⟨t', rfl⟩ := hv
  rw [List.push_toArray] at N
  exact blk_end (us := (us ++ [Value.str x t']) ++ [Value.str ⟨#[n]⟩ t]) (k := k) F N (by
    rw [blk_new (by rw [hp]; exact hn), hp]
    exact car_snoc (car_snoc hu)) hb (fun p hp => List.mem_append_left own hp) (fun p hp => List.mem_append_right [_, _] hp) hr
theorem end_2 (F : Fr h₀ L h' m') (N : News h₀ L h' ((D, tupO [.ref l, .bool false]) :: (l, listOf (us ++ [Value.str (x ++ ⟨#[n]⟩) t]).toArray k) :: own)) (hp : blkF pre = (l' ++ [x], b)) (hu : CarriedAll us (l'.map PyData.str)) (hn : partN n = true) (hB : b = true)
    (hb : m' sOpen = some (.bool (partN n))) (hr : ∀ z, z ≠ y0 → z ≠ sOpen → z ≠ sPart → m' z = m₀ z) :
    InvEndN h₀ L (KstS (blkLed D l) blkPs (fun _ => True) y0 [sPart] m₀ blkP (pre ++ [(n : Int)])) own [D, l] s₁ { s₁ with heap := h', toks := tk } :=
  blk_end (us := us ++ [Value.str (x ++ ⟨#[n]⟩) t]) (k := k) F N (by
    rw [blk_old hn (by rw [hp]; exact hB) (by rw [hp])]
    exact car_snoc hu) hb (fun p hp => List.mem_append_left own hp) (fun p hp => List.mem_append_right [_, _] hp) hr
end
end

section
-- B3
open PySem PySem.W PyProof.Rows PySem.Calls
theorem kwn_B3 : True := by
  k_with_none
  w_top off
  trivial
theorem kwo_B3 : True := by
  k_with "m:omega" => first | with_reducible assumption | decide | with_reducible exact Int.le_refl _ | with_reducible exact Nat.le_refl _ | with_reducible exact rm_u2 | with_reducible exact rm_d2 | with_reducible exact rm_u1 | with_reducible exact rm_d1 | with_reducible exact rm_u0 | with_reducible exact rm_d0 | with_reducible exact n_up | with_reducible exact q_o | with_reducible exact q_c1 | with_reducible exact q_c2 | with_reducible exact q_c3 | with_reducible exact q_c4 | with_reducible exact q_n1 | with_reducible exact q_n2 | with_reducible exact q_n3 | with_reducible exact q_l1 | with_reducible exact q_l2 | with_reducible exact q_t1 | with_reducible exact q_t2 | with_reducible exact q_t3 | with_reducible exact q_t4 | with_reducible exact q_t5 | ((with_reducible show _ ≠ _); first | k_extra "P" | (refine Ne.symm ?_; k_extra "P") | (refine Nat.ne_of_lt ?_; k_extra "P") | (refine Nat.ne_of_gt ?_; k_extra "P"))
  k_with "P" => first | with_reducible assumption | with_reducible exact And.left (by with_reducible assumption) | with_reducible exact And.right (by with_reducible assumption) | with_reducible exact q_r (by with_reducible assumption) | with_reducible exact q_s (by with_reducible assumption) | with_reducible exact q_t (by with_reducible assumption) | with_reducible exact q_u (by with_reducible assumption)
  k_with "m:eval Call" => (k_here; k_dflt (first | ((with_reducible show wpAny _ _ (eval (.Call (.Name (Str.ofString "len") _) [.Name _ _] [] _) _) _ _ _); refine len_nm (q := ?_)) | ((with_reducible show wpAny _ _ (eval (.Call (.Name (Str.ofString "len") _) [_] [] _) _) _ _ _); refine callLen (h := ?_)) | ((with_reducible show wpAny _ _ (eval (.Call (.Name (Str.ofString "str") _) [_] [] _) _) _ _ _); refine callStr (h := ?_)) | ((with_reducible show wpAny _ _ (eval (.Call (.Name _ _) [_] [] _) _) _ _ _); refine callK1 (h := ?_)) | ((with_reducible show wpAny _ _ (eval (.Call (.Name _ _) [_, _] [] _) _) _ _ _); refine callK2 (h := ?_)) | ((with_reducible show wpAny _ _ (eval (.Call (.Name _ _) [_, _, _] [] _) _) _ _ _); refine callK3 (h := ?_))); k_whole)
  k_with "m:eval Constant int" => (k_here; k_dflt (refine cInt ?_); k_whole)
  k_with "m:eval Constant str" => (k_here; k_dflt (refine cStr ?_); k_whole)
  k_with "m:storeName" => (k_here; k_dflt (refine storeS (q := ?_)); k_whole; intro h' F' N'; (try k_sweep))
  k_with "m:binaryOp Add int int" => (k_here; k_dflt (refine addS ?_); k_whole)
  k_with "m:binaryOp Sub int int" => (k_here; k_dflt (refine subS ?_); k_whole)
  k_with "m:call builtin:len" => (k_here; (with_reducible show wpAny _ _ (call _ [.str _ _]) _ _ _); k_dflt (refine lenS (q := ?_)); k_whole)
  k_with "m:newList" => (k_here; k_dflt (refine lstS (q := ?_) (by first | exact Nat.le_of_ble_eq_true rfl | size_fits)); k_whole; intro l' h' F' N' l1; (try k_lt l1); (try k_sweep))
  k_with "m:execs cons" => (k_here; k_dflt (first | ((with_reducible show wpAny _ _ (execs (.Assign [.Name _ _] _ _ :: _) _) _ _ _); refine sAsg ?_ (Eq.refl true)) | ((with_reducible show wpAny _ _ (execs (.Return (some _) _ :: _) _) _ _ _); refine sRet ?_) | ((with_reducible show wpAny _ _ (execs (.If _ [.Return (some _) _] [] _ :: _) _) _ _ _); refine sIfR ?_) | ((with_reducible show wpAny _ _ (execs (.If _ _ [] _ :: _) _) _ _ _); refine sIf1 ?_)); k_whole)
  k_with "m:eval Tuple" => (k_here; first | ((with_reducible show wpAny _ _ (eval (.Tuple [.Constant (.str _) _ _, .Constant (.str _) _ _] _ _) _) _ _ _); k_dflt (refine tupSS (q := ?_)); k_whole; intro D' h' F' N' l1; (try k_lt l1)) | ((with_reducible show wpAny _ _ (eval (.Tuple [_, _] _ _) _) _ _ _); k_dflt (refine tup2 ?_ (Eq.refl true) (Eq.refl true)); k_whole))
  k_with "m:eval List" => (k_here; k_dflt (first | ((with_reducible show wpAny _ _ (eval (.List [_] _) _) _ _ _); refine lst1 ?_ (Eq.refl true)) | ((with_reducible show wpAny _ _ (eval (.List [_, _] _) _) _ _ _); refine lst2 ?_ (Eq.refl true) (Eq.refl true)) | ((with_reducible show wpAny _ _ (eval (.List [_, _, _] _) _) _ _ _); refine lst3 ?_ (Eq.refl true) (Eq.refl true) (Eq.refl true)) | ((with_reducible show wpAny _ _ (eval (.List [_, _, _, _] _) _) _ _ _); refine lst4 ?_ (Eq.refl true) (Eq.refl true) (Eq.refl true) (Eq.refl true))); k_whole)
  k_with "m:eval BinOp" => (k_here; k_dflt (first | ((with_reducible show wpAny _ _ (eval (.BinOp (.Name _ _) _ (.Name _ _) _) _) _ _ _); refine bNN (q := ?_)) | ((with_reducible show wpAny _ _ (eval (.BinOp (.Name _ _) _ (.Constant (.int _) _ _) _) _) _ _ _); refine bNC (q := ?_)) | ((with_reducible show wpAny _ _ (eval (.BinOp (.Name _ _) _ _ _) _) _ _ _); refine bN (q := ?_))); k_whole)
  k_with "m:isTrue Compare" => (k_here; k_dflt (first | ((with_reducible show wpAny _ _ (isTrue (.Compare (.Name _ _) [_] [(.Name _ _)] _) _ _) _ _ _); refine cNN (q := ?_)) | ((with_reducible show wpAny _ _ (isTrue (.Compare (.Name _ _) [_] [(.Constant (.int _) _ _)] _) _ _) _ _ _); refine cNC (q := ?_)) | ((with_reducible show wpAny _ _ (isTrue (.Compare (.Name _ _) [_] [_] _) _ _) _ _ _); refine cN (q := ?_))); k_whole)
  k_with "m:eval Subscript" => (k_here; k_dflt (first | ((with_reducible show wpAny _ _ (eval (.Subscript (.Name _ _) (.Name _ _) _) _) _ _ _); refine gNN (q := ?_)) | ((with_reducible show wpAny _ _ (eval (.Subscript (.Name _ _) (.Constant (.int _) _ _) _) _) _ _ _); refine gNC (q := ?_)) | ((with_reducible show wpAny _ _ (eval (.Subscript (.Name _ _) _ _) _) _ _ _); refine gN (q := ?_))); k_whole)
  trivial
open PySem.Challenge
set_option maxRecDepth 100000
set_option maxHeartbeats 4000000
theorem kw_B3_1 : True := by
  k_with "m:exec For Name Name cons nil" => (k_here; (rename Fr _ _ _ _ => lF'); (with_unfolding_all refine' For_invVF lF' ?k1 ?k2 ?_; (case k1 => exact rfl); (case k2 => exact rfl); k_whole))
  k_with "m:pyIter str" => (k_here; (rename Fr _ _ _ _ => lF'); (rename News _ _ _ _ => lN'); k_dflt (refine' blk_loop rfl lF' lN' ?hk ?_ ?_ ?_); (case hk => exact rfl); (all_goals clear lF' lN'); (intro k9 pre post n9 t9 u9 h9 tk9 own9 hc9 hl9 ho9 hb9 F9 N9); rotate_left; (intro us9 x9 tx9 l9 k9 b9 pre post n9 t9 u9 h9 tk9 own9 hc9 hl9 ho9 hb9 hu9 hs9 F9 N9); rotate_left; (intro us9 k9 u9 h9 tk9 hu9 F9 N9); rotate_left; all_goals (try dsimp only [List.cons_append, List.nil_append] at *); all_goals (try k_fold))
  k_with "m:subscriptTail Name UnaryOp ref int" => (k_here; (with_reducible show wpAny _ _ (subscriptTail _ _ (Value.ref _) (Value.int _ _)) _ _ _); k_dflt (refine item_last (News.isList (by k_asm) (by k_mem)) ?_))
  k_with "m:setItem ref int str" => (k_here; k_dflt (refine' store_last ?F ?N ?U ?_; (case F => k_asm); (case N => k_asm); (case U => k_upd)); intro h' F' N')
  k_with "m:InvEndN" => (k_here; (rename News _ _ _ _ => nE'); (rename Fr _ _ _ _ => fE'); k_dflt (first | refine end_0 fE' nE' (by with_reducible assumption) ?ha ?hr | refine end_1 fE' nE' (by with_reducible assumption) ⟨_, rfl⟩ (by with_reducible assumption) ?hn ?ha ?hr | refine end_2 fE' nE' (by with_reducible assumption) (by with_reducible assumption) (part_t (by with_reducible assumption)) (by with_reducible assumption) ?ha ?hr); (case ha => exact rfl); (try (case hn => first | (rw [part_t (by with_reducible assumption)]; rintro ⟨h9, _⟩; cases h9; done) | (rintro ⟨_, h9⟩; subst h9; contradiction))); (case hr => exact fun z h1 h2 h3 => (if_neg h2).trans ((if_neg h3).trans ((if_neg h1).trans ((if_neg h2).trans (if_neg (notPart h3)))))))
  trivial
/-- a list of texts comes back, grown by stores -/
noncomputable abbrev RetLn (news : List (Addr × Obj)) (l : List Str) (h₀ : Heap) (L : Addr) (m : Str → Option Value) (s : Shared) (Q : Value → Shared → Prop) : Prop :=
  ∀ (D : Addr) (vs : List Value) (n : Nat) (h' : Heap) (tk' : Nat), Fr h₀ L h' m → News h₀ L h' ((D, listOf vs.toArray n) :: news) → StrsAre vs l → (∀ p ∈ news, p.1 ≠ D) → Q (.ref D) { s with heap := h', toks := tk' }
theorem blocks_c {w mean mg mb} {news : List (Addr × Obj)} {c : Str} {t : Tok} (hc : c.length ≤ 1000) : CbH 6 w mean mg mb 379 news [.str c t] (RetLn news (blkF (KStt.codes c)).1) := by
  ((try unfold Cb); (try unfold CbE); (try unfold CbG); (try unfold CbH); k_fill; (try dsimp only [RetV, RetT]); intros; rename_i s0 Q0 E0 B0 F0 X0 N0 T0 hk0 hd0 hu0 hret; refine wpAny_call ?_; k_dflt (refine' code_defP (mu := []) ?k1 ?k2 ?k3 ?k4 ?k5 ?kA ?kF ?kK ?k6 ?k7 ?k8 ?k9 ?kB ?_ ?c2 ?c3 ?c4 ?c5; (case kA => exact rfl); (case kF => exact rfl); (case kK => first | exact rfl | assumption); (case k1 => k_asm); (case k2 => k_asm); (case k4 => exact News.nil); (case k3 => k_asm); (case k5 => k_asm); (case k6 => k_is); (case k7 => k_is); (case k8 => ktr_room); (case k9 => exact BindsTo.of_eq rfl); (case c5 => decide); (case kB => exact locs rfl); (case c2 => exact rfl); (case c3 => exact rfl); (case c4 => exact rfl); k_whole; intro g' L' h' HG0 FG' F' N' B' X' T'; (try dsimp only); (try k_lift B'); (try k_fold)); (refine letA ?_); (intro kA); (replace F' : Fr g' L' h' (fun y => List.lookup y [(Str.ofString "text", _)]) := F'); (generalize Shared.toks _ + List.length _ = tk0))
  k_steps
  exact hret _ _ _ _ _ (by k_asm) (newsOne N0 HG0 (by k_asm) (by k_asm) (by k_mem)) (StrsAre.of_carried (by with_reducible assumption)) (neNew N0 News.nil HG0 (by with_reducible assumption) (List.Mem.tail _ (List.Mem.head _)) (fun _ h => nomatch h))
end

section
-- LE
open PySem PySem.W PyProof.Rows PySem.Calls PySem.Spec
open PySem.Challenge
set_option maxRecDepth 100000
section
variable {prog : Program} {w : World} {A : Around} {s : Shared} {h₀ : Heap} {L : Addr} {m : Str → Option Value} {env : Env}
/-- the elements of a comprehension over a ledger's list of texts are ints -/
theorem lens_rest {elt : Expr} {x : Str} {scope : Scope} {cl : List (Str × Addr)} {l : Addr} {vs : List Value} {nn : Nat} {bs : List Str} {news : List (Addr × Obj)} {Fin : List Value → List (Addr × Obj) → Prop} (hm : (l, listOf vs.toArray nn) ∈ news) (hv : StrsAre vs bs)
    (turn : ∀ (y : Str) (u : Tok) I oI C oC D m₂ ys h tk (E' : Value → Shared → Prop), y ∈ bs → LCg.NsObj oC m₂ → m₂ x = some (.str y u) → Fr h₀ L h m → News h₀ L h ((I, oI) :: (C, oC) :: (D, LCg.lst ys) :: news) → LCg.Off3 I C D news → ((@Ne Nat I C) ∧ (@Ne Nat I D) ∧ (@Ne Nat C D)) →
      wpAny (model prog w) A (eval elt (compEnvC scope cl C env)) (LCg.CompEnd h₀ L m { s with heap := h, toks := tk } I oI C oC D (LCg.lst ys) (LCg.SrcAt h₀ l vs.toArray) (fun v news' => KCfEl news (y.length : Int) v news')) E' { s with heap := h, toks := tk })
    (fin : ∀ ys, IntsAre ys (bs.map fun y => (y.length : Int)) → Fin ys news) : LCg.CompRest prog w A h₀ L m env elt x scope cl s (LCg.SrcAt h₀ l vs.toArray) (fun i v => vs.toArray[i]? = some v) Fin vs.toArray.size 0 [] news := by
  have hn : bs.length = vs.toArray.size := by rw [List.size_toArray, hv.len_eq]
  have key : ∀ (j i : Nat) (ys : List Value), i + j = vs.toArray.size → IntsAre ys ((bs.take i).map fun y => (y.length : Int)) → LCg.CompRest prog w A h₀ L m env elt x scope cl s (LCg.SrcAt h₀ l vs.toArray) (fun i v => vs.toArray[i]? = some v) Fin j i ys news := by
    intro j
    induction j with
    | zero =>
      intro i ys hi hy
      have e : i = bs.length := by omega
      subst e
      rw [List.take_length] at hy
      exact LCg.CompRest.zero (fin ys hy)
    | succ j ih =>
      intro i ys hi hy
      refine LCg.CompRest.succ ?_
      intro v I oI C oC D m₂ h tk E' hv' hC hx F N off ne
      obtain ⟨y, u, rfl, hb⟩ := hv.item i v (by simpa using hv')
      refine wpAny_mono (turn y u I oI C oC D m₂ ys h tk E' (List.mem_of_getElem? hb) hC hx F N off ne) (fun z s₂ hq => ?_) fun _ _ e => e
      obtain ⟨h', tk', nw, e, F', N', off', hS, hn', t', hy'⟩ := hq
      subst hn'
      refine ⟨h', tk', _, e, F', N', off', hS, ?_⟩
      rw [hy']
      refine ih (i + 1) _ (by omega) ?_
      rw [List.take_add_one, hb]
      simpa using IntsAre.append hy (.cons (y.length : Int) t' .nil)
  exact key vs.toArray.size 0 [] (by omega) (by simp only [List.take_zero, List.map_nil]; exact .nil)
end
theorem ints_last {l : List Int} {ys : List Value} (h : IntsAre ys l) : (l = [] ∧ ys = []) ∨ ∃ ys' t, ys = ys' ++ [Value.int (l.getLastD 0) t] := by
  induction h with
  | nil => exact .inl ⟨rfl, rfl⟩
  | cons n t h ih =>
    rcases ih with ⟨rfl, rfl⟩ | ⟨ys', t', rfl⟩
    · exact .inr ⟨[], t, rfl⟩
    · rename_i l
      cases l with
      | nil => exact absurd h.length (by simp)
      | cons a r => exact .inr ⟨Value.int n t :: ys', t', rfl⟩
end

section
-- WLp
open PySem PySem.W PyProof.Rows PySem.Calls PyProof.V PySem.Spec
open PySem.Challenge
set_option maxRecDepth 100000
set_option maxHeartbeats 4000000
noncomputable def BegAt (c : Str) (n : Nat) (b : Int) : Prop := b = ((total ((blkF (KStt.codes c)).1.take n) : Nat) : Int)
theorem beg_blk {c x : Str} {i : Nat} {b : Int} (h : BegAt c i b) (hx : (blkF (KStt.codes c)).1[i]? = some x) : BlkAt c b x ∧ BegAt c (i + 1) (b + (x.length : Int)) := by
  obtain ⟨hi, e⟩ := List.getElem?_eq_some_iff.mp hx
  refine ⟨⟨_, h, (blkF (KStt.codes c)).1.take i, (blkF (KStt.codes c)).1.drop (i + 1), ?_, rfl⟩, ?_⟩
  · have h1 := List.take_append_drop (i + 1) (blkF (KStt.codes c)).1
    rw [List.take_add_one, hx] at h1
    simpa using h1.symm
  · unfold BegAt at h ⊢
    rw [List.take_add_one, hx, total_app, h]
    simp [total]
theorem beg_end {c : Str} {n : Nat} {b : Int} (h : BegAt c n b) (hn : (blkF (KStt.codes c)).1.length ≤ n) : b = c.length := by
  unfold BegAt at h
  rw [List.take_of_length_le hn, blk_total, KStt.codes_length] at h
  exact h
noncomputable abbrev sBegin : Str := Str.ofString "begin"
noncomputable abbrev sIndex : Str := Str.ofString "index"
noncomputable abbrev wPs (c : Int × Tok) : List (Str × Value) := [(sBegin, .int c.1 c.2)]
noncomputable abbrev wStored : List Str := [Str.ofString "behind", Str.ofString "at", sIndex]
noncomputable abbrev lstL (D : Addr) (us : List Value) (nn : Nat) : List (Addr × Obj) := [(D, listOf us.toArray nn)]
noncomputable def WEnd (_h₀ : Heap) (_L : Addr) (D : Addr) (us : List Value) (nn : Nat) (m₀ : Str → Option Value) (c : Str) (i : Nat) : (Str → Option Value) → List (Addr × Obj) → Prop := KstS (fun _ => lstL D us nn) wPs (fun _ => True) (Str.ofString "block") wStored m₀ (fun pre (b : Int × Tok) => BegAt c pre.length b.1) (rangeKs 0 i)
section
variable {prog : Program} {w : World} {A : Around} {E : Value → Shared → Prop} {s : Shared} {env : Env} {h₀ : Heap} {body : List Stmt} {Q : Flow → Shared → Prop} {m₀ : Str → Option Value} {c : Str} {D : Addr} {us : List Value} {nn : Nat} {t0 : Tok}
theorem words_loop (hT : OkT c) (hS : StrsAre us (blkF (KStt.codes c)).1) (hh : A.handled = none) (F : Fr h₀ env.locals s.heap m₀) (N : News h₀ env.locals s.heap (lstL D us nn)) (hk : m₀ sBegin = some (.int 0 t0))
    (turn : ∀ (i : Nat) (b : Int) (tb : Tok) (x : Str) (tx : Tok) (u : Str → Option Value) h tk own, BlkAt c b x → 0 ≤ b → 0 < x.length → b + (x.length : Int) ≤ c.length → BegAt c (i + 1) (b + (x.length : Int)) → RgOk c (strI b) (strI (b + (x.length : Int) - 1)) x → OwnOff own [D] →
      Fr h₀ env.locals h (fun y => if y = Str.ofString "block" then some (.str x tx) else kstB (fun z => if wStored.contains z then u z else m₀ z) [(sBegin, .int b tb)] y) → News h₀ env.locals h ((D, listOf us.toArray nn) :: own) →
      wpAny (model prog w) A (execs body env) (InvPostN h₀ env.locals (WEnd h₀ env.locals D us nn m₀ c (i + 1)) own [D] { s with heap := h, toks := tk } Q) E { s with heap := h, toks := tk })
    (done : ∀ (tb : Tok) (u : Str → Option Value) h tk, Fr h₀ env.locals h (fun y => if y = Str.ofString "block" then u y else kstB (fun z => if wStored.contains z then u z else m₀ z) [(sBegin, .int c.length tb)] y) → News h₀ env.locals h (lstL D us nn) → Q .next { s with heap := h, toks := tk }) :
    wpAny (model prog w) A (pyIter (.ref D)) (fun it s₂ => LoopAtV prog w A h₀ env (Str.ofString "block") body Q E it s₂) E s := by
  refine vals_loop (σ := Int × Tok) (fun _ => lstL D us nn) wPs (fun _ => True) wStored (fun pre (b : Int × Tok) => BegAt c pre.length b.1) (0, t0) hh (fun _ => .head _) F N trivial (psOne hk) (by show (0 : Int) = _; simp [rangeKs, total]) ?_ ?_
  · rintro ⟨b, tb⟩ i v u h tk own hv ho - hp F N
    obtain ⟨x, tx, rfl, hx⟩ := hS.item i v hv
    dsimp only at hp F N
    rw [rangeKs_length] at hp
    obtain ⟨h1, h2⟩ := beg_blk hp hx
    have hr := blkAt_rng hT h1
    exact turn i b tb x tx u h tk own h1 hr.1 hr.2.1 hr.2.2.1 h2 (rg_1 hT h1) ho F N
  · rintro ⟨b, tb⟩ u h tk - hp F N
    dsimp only at hp F N
    rw [rangeKs_length] at hp
    have := beg_end hp (Nat.le_of_eq hS.len_eq.symm)
    subst this
    exact done tb u h tk F N
theorem words_end {L : Addr} {h' : Heap} {m' : Str → Option Value} {own news' : List (Addr × Obj)} {s₁ : Shared} {tk i : Nat} {b : Int} {tb : Tok} (F : Fr h₀ L h' m') (N : News h₀ L h' news') (hb : m' sBegin = some (.int b tb)) (hB : BegAt c i b) (hl : (D, listOf us.toArray nn) ∈ news') (ho : ∀ p ∈ own, p ∈ news')
    (hr : ∀ z, z ≠ Str.ofString "block" → z ≠ sBegin → z ≠ Str.ofString "behind" → z ≠ Str.ofString "at" → z ≠ sIndex → m' z = m₀ z) : InvEndN h₀ L (WEnd h₀ L D us nn m₀ c i) own [D] s₁ { s₁ with heap := h', toks := tk } := by
  refine kst_end (b, tb) F N (fun p hp => by rcases List.mem_singleton.mp hp with rfl; exact hl) ho rfl trivial (psOne hb) (fun z h1 h2 h3 => hr z h1 (notOne h2) ?_ ?_ ?_) (by show BegAt c (rangeKs 0 i).length b; rw [rangeKs_length]; exact hB)
  all_goals (rintro rfl; exact absurd h3 (by decide))
noncomputable def REnd (_h₀ : Heap) (_L : Addr) (led : List (Addr × Obj)) (m₀ : Str → Option Value) (k : Nat) : (Str → Option Value) → List (Addr × Obj) → Prop := KstS (fun _ : Unit => led) (fun _ => []) (fun _ => True) (Str.ofString "at") [sIndex] m₀ (fun _ _ => True) (rangeKs 0 k)
theorem at_loop {r : Addr} {a b : Int} {t₀ u₀ v₀ : Tok} {led : List (Addr × Obj)} (hh : A.handled = none) (hr : IsRange s.heap r a b 1 t₀ u₀ v₀) (ha : 0 ≤ a) (ha2 : a ≤ 1000) (hb0 : 0 ≤ b) (hb : b ≤ 1000) (F : Fr h₀ env.locals s.heap m₀) (N : News h₀ env.locals s.heap led)
    (turn : ∀ (j : Nat) (k : Int) (tk' : Tok) (u : Str → Option Value) h tk own, a ≤ k → k < b → OwnOff own (led.map (·.1)) →
      Fr h₀ env.locals h (fun y => if y = Str.ofString "at" then some (.int k tk') else if [sIndex].contains y then u y else m₀ y) → News h₀ env.locals h (led ++ own) →
      wpAny (model prog w) A (execs body env) (InvPostN h₀ env.locals (REnd h₀ env.locals led m₀ j) own (led.map (·.1)) { s with heap := h, toks := tk } Q) E { s with heap := h, toks := tk })
    (done : ∀ (u : Str → Option Value) h tk, Fr h₀ env.locals h (fun y => if y = Str.ofString "at" then u y else if [sIndex].contains y then u y else m₀ y) → News h₀ env.locals h led → Q .next { s with heap := h, toks := tk }) :
    wpAny (model prog w) A (pyIter (.ref r)) (fun it s₂ => LoopAtV prog w A h₀ env (Str.ofString "at") body Q E it s₂) E s := by
  refine kst_range (σ := Unit) (n := (b - a).toNat) (fun _ => led) (fun _ => []) (fun _ => True) [sIndex] (fun _ _ => True) () hh hr (small_one (by omega) (by omega) (by omega) (by omega)) (rangeSize_nat a b) F N trivial (fun _ h => nomatch h) trivial ?_ ?_
  · rintro ⟨⟩ pre k t u h tk own hk hn ho - - F N
    have := turn (pre.length + 1) k t u h tk own (by omega) (by omega) ho F N
    unfold REnd at this
    refine wpAny_mono this (fun f s₂ p => ?_) fun _ _ e => e
    have up : InvEndN h₀ env.locals (KstS (fun _ : Unit => led) (fun _ => []) (fun _ => True) (Str.ofString "at") [sIndex] m₀ (fun _ _ => True) (rangeKs 0 (pre.length + 1))) own (led.map (·.1)) { s with heap := h, toks := tk } s₂ →
        InvEndN h₀ env.locals (KstS (fun _ : Unit => led) (fun _ => []) (fun _ => True) (Str.ofString "at") [sIndex] m₀ (fun _ _ => True) (pre ++ [k])) own (led.map (·.1)) { s with heap := h, toks := tk } s₂ := by
      rintro ⟨h', tk', m', news', nx', e', F', N', hn', ho', ha, c', e1, e2, e3, e4, _⟩
      exact ⟨h', tk', m', news', nx', e', F', N', hn', ho', ha, c', e1, e2, e3, e4, trivial⟩
    cases f with
    | ret v => exact p
    | brk => exact p
    | next => exact up p
    | cont => exact up p
  · rintro ⟨⟩ u h tk - - F N
    exact done u h tk F N
theorem at_end {L : Addr} {led : List (Addr × Obj)} {h' : Heap} {m' : Str → Option Value} {own news' : List (Addr × Obj)} {adr : List Addr} {s₁ : Shared} {tk j : Nat} (F : Fr h₀ L h' m') (N : News h₀ L h' news') (hl : ∀ p ∈ led, p ∈ news') (ho : ∀ p ∈ own, p ∈ news') (ha : led.map (·.1) = adr)
    (hr : ∀ z, z ≠ Str.ofString "at" → z ≠ sIndex → m' z = m₀ z) : InvEndN h₀ L (REnd h₀ L led m₀ j) own adr s₁ { s₁ with heap := h', toks := tk } := by
  refine kst_end () F N hl ho ha trivial (fun _ h => nomatch h) (fun z h1 _ h3 => hr z h1 ?_) trivial
  rintro rfl
  exact absurd h3 (by decide)
/-- the loop over the two index words -/
noncomputable def IEnd (led : List (Addr × Obj)) (m₀ : Str → Option Value) (k : Nat) : (Str → Option Value) → List (Addr × Obj) → Prop := KstS (fun _ : Unit => led) (fun _ => []) (fun _ => True) sIndex [] m₀ (fun _ _ => True) (rangeKs 0 k)
theorem idx_loop {l : Addr} {x y : Str} {tx ty : Tok} {n : Nat} {b e : Str} {led : List (Addr × Obj)} (hh : A.handled = none) (hl : (l, listOf #[.str x tx, .str y ty] n) ∈ led) (F : Fr h₀ env.locals s.heap m₀) (N : News h₀ env.locals s.heap led)
    (h1 : WsOk c x b) (h2 : WsOk c y b) (h3 : WeOk c x e) (h4 : WeOk c y e)
    (turn : ∀ (j : Nat) (z : Str) (tz : Tok) h tk own, WsOk c z b → WeOk c z e → z.length ≤ 100 → OwnOff own (led.map (·.1)) →
      Fr h₀ env.locals h (fun y => if y = sIndex then some (.str z tz) else m₀ y) → News h₀ env.locals h (led ++ own) →
      wpAny (model prog w) A (execs body env) (InvPostN h₀ env.locals (IEnd led m₀ j) own (led.map (·.1)) { s with heap := h, toks := tk } Q) E { s with heap := h, toks := tk })
    (done : ∀ (u : Str → Option Value) h tk, Fr h₀ env.locals h (fun y => if y = sIndex then u y else m₀ y) → News h₀ env.locals h led → Q .next { s with heap := h, toks := tk }) :
    wpAny (model prog w) A (pyIter (.ref l)) (fun it s₂ => LoopAtV prog w A h₀ env sIndex body Q E it s₂) E s := by
  refine vals_loop (σ := Unit) (vs := [.str x tx, .str y ty]) (fun _ => led) (fun _ => []) (fun _ => True) [] (fun _ _ => True) () hh (fun _ => hl) F N trivial (fun _ h => nomatch h) trivial ?_ ?_
  · rintro ⟨⟩ i v u h tk own hv ho - - F N
    match i, hv with
    | 0, hv => cases hv; exact turn 1 x tx h tk own h1 h3 h1.li ho F N
    | 1, hv => cases hv; exact turn 2 y ty h tk own h2 h4 h2.li ho F N
  · rintro ⟨⟩ u h tk - - F N
    exact done u h tk F N
theorem idxl_end {L : Addr} {led : List (Addr × Obj)} {h' : Heap} {m' : Str → Option Value} {own news' : List (Addr × Obj)} {adr : List Addr} {s₁ : Shared} {tk j : Nat} (F : Fr h₀ L h' m') (N : News h₀ L h' news') (hl : ∀ p ∈ led, p ∈ news') (ho : ∀ p ∈ own, p ∈ news') (ha : led.map (·.1) = adr)
    (hr : ∀ z, z ≠ sIndex → m' z = m₀ z) : InvEndN h₀ L (IEnd led m₀ j) own adr s₁ { s₁ with heap := h', toks := tk } :=
  kst_end () F N hl ho ha trivial (fun _ h => nomatch h) (fun z h1 _ _ => hr z h1) trivial
end
/-- what the comprehension's list is good for -/
structure LensOk (c : Str) (ys : List Value) : Prop where
  len : ys.length ≤ 100
  last : ∀ t, ∃ zs t', Value.int 0 t :: ys = zs ++ [.int (lastF (blkF (KStt.codes c)).1) t']
  head : ∀ t, ∃ t' zs, ys ++ [Value.int 0 t] = .int (aheadF (blkF (KStt.codes c)).1) t' :: zs
theorem last_eq (l : List Str) : ((0 : Int) :: l.map fun y => (y.length : Int)).getLastD 0 = lastF l := by
  rcases snoc_or l with rfl | ⟨a, x, rfl⟩
  · rfl
  · have e : ((0 : Int) :: (a ++ [x]).map fun y => (y.length : Int)) = ((0 : Int) :: a.map fun y => (y.length : Int)) ++ [(x.length : Int)] := by simp
    rw [e, List.getLastD_eq_getLast?, List.getLast?_append]
    simp [lastF]
theorem lens_ok {c : Str} (h : OkT c) {ys : List Value} (hy : IntsAre ys ((blkF (KStt.codes c)).1.map fun y => (y.length : Int))) : LensOk c ys := by
  have hc := blk_cnt (KStt.codes c)
  rw [KStt.codes_length] at hc
  have hl := hy.length
  rw [List.length_map] at hl
  have h8 := h.1
  refine ⟨by omega, fun t => ?_, fun t => ?_⟩
  · rcases ints_last (IntsAre.cons 0 t hy) with ⟨e, _⟩ | ⟨zs, t', e⟩
    · cases e
    · rw [last_eq] at e
      exact ⟨zs, t', e⟩
  · generalize (blkF (KStt.codes c)).1 = l at hy
    cases l with
    | nil => cases hy; exact ⟨t, [], rfl⟩
    | cons a r =>
      cases hy with
      | cons _ t' h2 => exact ⟨t', _, rfl⟩
theorem last_rng {c : Str} : 0 ≤ lastF (blkF (KStt.codes c)).1 ∧ lastF (blkF (KStt.codes c)).1 ≤ c.length := by
  have hT := blk_total (KStt.codes c)
  rw [KStt.codes_length] at hT
  rcases snoc_or (blkF (KStt.codes c)).1 with e | ⟨a, x, e⟩
  · rw [e]; simp [lastF]
  · rw [e, total_app, total_one] at hT
    rw [e]
    simp [lastF]
    omega
theorem ahead_rng {c : Str} : 0 ≤ aheadF (blkF (KStt.codes c)).1 ∧ aheadF (blkF (KStt.codes c)).1 ≤ c.length := by
  have hT := blk_total (KStt.codes c)
  rw [KStt.codes_length] at hT
  cases e : (blkF (KStt.codes c)).1 with
  | nil => simp [aheadF]
  | cons a r =>
    rw [e, show a :: r = [a] ++ r from rfl, total_app, total_one] at hT
    simp [aheadF]
    omega
section
variable {prog : Program} {w : World} {A : Around} {E : Value → Shared → Prop} {s : Shared} {value slice : PySem.Expr} {l : Addr} {zs : List Value} {u : Tok} {v : Int} {Q : Value → Shared → Prop}
theorem item_lastE (hl : s.heap.IsList l zs.toArray) (hz : ∃ us t', zs = us ++ [Value.int v t']) (h : ∀ t', Q (.int v t') s)
    (hs : subscripted slice false (.ref l) (.int (-1) u) = operate [.ref l, .int (-1) u] (getItem (.ref l) (.int (-1) u)) := by with_unfolding_all rfl) :
    wpAny (model prog w) A (subscriptTail value slice (.ref l) (.int (-1) u)) Q E s := by
  obtain ⟨us, t', rfl⟩ := hz
  exact item_last hl (h t') hs
theorem item_headE (hl : s.heap.IsList l zs.toArray) (hz : ∃ t' us, zs = Value.int v t' :: us) (h : ∀ t', Q (.int v t') s)
    (hs : subscripted slice false (.ref l) (.int 0 u) = operate [.ref l, .int 0 u] (getItem (.ref l) (.int 0 u)) := by with_unfolding_all rfl) :
    wpAny (model prog w) A (subscriptTail value slice (.ref l) (.int 0 u)) Q E s := by
  obtain ⟨t', us, rfl⟩ := hz
  exact item_lst hl (by decide) (by decide) (by rfl) (h t') hs
end
theorem notIdx {z : Str} (h : z ≠ sIndex) : ¬ [sIndex].contains z = true := by simpa using h
theorem notStored {z : Str} (h1 : z ≠ Str.ofString "behind") (h2 : z ≠ Str.ofString "at") (h3 : z ≠ sIndex) : ¬ wStored.contains z = true := by
  simp [h1, h2, h3]
theorem blk_mem_len {c y : Str} (h : OkT c) (hy : y ∈ (blkF (KStt.codes c)).1) : y.length ≤ 100 := by
  obtain ⟨a1, a2, e⟩ := List.append_of_mem hy
  have := blk_fits (c := c) (b := total a1) (x := y) ⟨a1, a2, e, rfl⟩
  have := h.1
  omega
end

section
-- TU
open PySem PySem.W PyProof.Rows PySem.Calls PyProof.V PySem.Spec
open PySem.Challenge
set_option maxRecDepth 100000
set_option maxHeartbeats 1000000
noncomputable def OneOk (x : Str) : Prop := ∃ n ∈ sg, x = ⟨#[n]⟩
noncomputable def MadeOk (n : Nat) (made : Str) : Prop := made.length = n ∧ ∀ x ∈ made.cps.toList, x ∈ sg
theorem made_add {n : Nat} {made x : Str} (h : MadeOk n made) (hx : OneOk x) : MadeOk (n + 1) (made ++ x) := by
  obtain ⟨k, hk, rfl⟩ := hx
  refine ⟨by rw [PySem.Str.length_append, h.1]; rfl, fun z hz => ?_⟩
  rw [KT.app_list] at hz
  rcases List.mem_append.mp hz with hz | hz
  · exact h.2 z hz
  · have : z = k := by simpa using hz
    rw [this]; exact hk
theorem made_ok {n : Nat} {made : Str} (h : MadeOk n made) (hn : n ≤ 8) : OkT made := ⟨by rw [h.1]; exact hn, h.2⟩
theorem sign_len : signsS.length = 14 := by decide +kernel
theorem sign_all : ∀ k ∈ List.range 14, signsS.cps.getD k 0 ∈ sg := by decide +kernel
theorem sign_one {i : Int} (h0 : 0 ≤ i) (h1 : i < 14) : OneOk (Txt.item signsS i) := by
  rw [item_at h0 (by rw [sign_len]; exact h1)]
  exact ⟨_, sign_all i.toNat (List.mem_range.mpr (by omega)), rfl⟩
theorem sign_find : ∀ n ∈ sg, (Builtin.Str.occurrences signsS ⟨#[n]⟩ 0 signsS.length 1).isEmpty = false ∧ 0 ≤ Txt.find signsS ⟨#[n]⟩ ∧ Txt.find signsS ⟨#[n]⟩ < 14 := by decide +kernel
section
variable {prog : Program} {w : World} {A : Around} {E : Value → Shared → Prop} {s : Shared} {value slice : PySem.Expr} {t u : Tok} {i k : Int} {c : Str} {Q : Value → Shared → Prop}
theorem sign_item (h0 : 0 ≤ i) (h1 : i < 14) (h : ∀ x : Str, OneOk x → x.length = 1 → Q (.str x s.toks) { s with toks := s.toks + 1 })
    (hs : subscripted slice false (.str signsS t) (.int i u) = operate [.str signsS t, .int i u] (getItem (.str signsS t) (.int i u)) := by with_unfolding_all rfl)
    (ht : ∀ r, letTemporaryGo value (.str signsS t) r = pure () := by intro _; with_unfolding_all rfl) :
    wpAny (model prog w) A (subscriptTail value slice (.str signsS t) (.int i u)) Q E s :=
  KXi.item sign_len (by omega) (by exact h1) (by decide) (fun e => h _ (sign_one h0 h1) e) hs ht
theorem sign_index (h : OkT c) (h0 : 0 ≤ k) (h1 : k < c.length) (hA : A.handled = none) (hQ : ∀ v : Int, 0 ≤ v → v < 14 → Q (.int v s.toks) { s with toks := s.toks + 1 }) :
    wpAny (model prog w) A (call (.builtin "str.index") [.str signsS t, .str (Txt.item c k) u]) Q E s := by
  have e : Txt.item c k = ⟨#[atN c k.toNat]⟩ := item_at h0 h1
  have hf := sign_find _ (at_sg h (k := k.toNat) (by omega))
  rw [e]
  refine index_or hA (fun _ he => ?_) (fun _ _ => hQ _ hf.2.1 hf.2.2)
  rw [hf.1] at he
  cases he
end
noncomputable abbrev sMade : Str := Str.ofString "made"
noncomputable abbrev PS := Str × Tok × Int × Tok × Nat
noncomputable abbrev penO (v : Int) (t : Tok) (n : Nat) : Obj := listOf #[.int v t] n
noncomputable def PEnd (pen : Addr) (m₀ : Str → Option Value) (j : Nat) : (Str → Option Value) → List (Addr × Obj) → Prop := KstS (σ := PS) (fun c => [(pen, penO c.2.2.1 c.2.2.2.1 c.2.2.2.2)]) (fun c => [(sMade, .str c.1 c.2.1)]) (fun _ => True) (Str.ofString "at") [Str.ofString "old"] m₀ (fun pre c => MadeOk pre.length c.1) (rangeKs 0 j)
section
variable {prog : Program} {w : World} {A : Around} {E : Value → Shared → Prop} {s : Shared} {env : Env} {h₀ : Heap} {body : List Stmt} {Q : Flow → Shared → Prop} {m₀ : Str → Option Value} {pen : Addr} {tm : Tok} {v : Int} {t : Tok} {n : Nat}
theorem pen_loop {r : Addr} {b : Int} {t₀ u₀ v₀ : Tok} (hh : A.handled = none) (hr : IsRange s.heap r 0 b 1 t₀ u₀ v₀) (h0 : 0 ≤ b) (hb : b < 9) (F : Fr h₀ env.locals s.heap m₀) (N : News h₀ env.locals s.heap [(pen, penO v t n)]) (hm : m₀ sMade = some (.str (Str.ofString "") tm))
    (turn : ∀ (j : Nat) (k : Int) (tk' : Tok) (made : Str) (tm' : Tok) (v' : Int) (t' : Tok) (n' : Nat) (u : Str → Option Value) h tk own, 0 ≤ k → k < b → MadeOk j made → made.length ≤ 8 → OwnOff own [pen] →
      Fr h₀ env.locals h (fun y => if y = Str.ofString "at" then some (.int k tk') else kstB (fun z => if [Str.ofString "old"].contains z then u z else m₀ z) [(sMade, .str made tm')] y) → News h₀ env.locals h ((pen, penO v' t' n') :: own) →
      wpAny (model prog w) A (execs body env) (InvPostN h₀ env.locals (PEnd pen m₀ (j + 1)) own [pen] { s with heap := h, toks := tk } Q) E { s with heap := h, toks := tk })
    (done : ∀ (made : Str) (tm' : Tok) (v' : Int) (t' : Tok) (n' : Nat) (u : Str → Option Value) h tk, OkT made → Fr h₀ env.locals h (fun y => if y = Str.ofString "at" then u y else kstB (fun z => if [Str.ofString "old"].contains z then u z else m₀ z) [(sMade, .str made tm')] y) → News h₀ env.locals h [(pen, penO v' t' n')] → Q .next { s with heap := h, toks := tk }) :
    wpAny (model prog w) A (pyIter (.ref r)) (fun it s₂ => LoopAtV prog w A h₀ env (Str.ofString "at") body Q E it s₂) E s := by
  have e0 : b - 0 = b := by omega
  refine kst_range (σ := PS) (n := (b - 0).toNat) (fun c => [(pen, penO c.2.2.1 c.2.2.2.1 c.2.2.2.2)]) (fun c => [(sMade, .str c.1 c.2.1)]) (fun _ => True) [Str.ofString "old"] (fun pre c => MadeOk pre.length c.1) (Str.ofString "", tm, v, t, n) hh hr (small_one (by omega) (by omega) (by omega) (by omega)) (rangeSize_nat 0 b) F N trivial (psOne hm) ⟨rfl, fun x hx => absurd (show x ∈ ([] : List Nat) from hx) (by simp)⟩ ?_ ?_
  · rintro ⟨made, tm', v', t', n'⟩ pre k t u h tk own hk hn ho - hp F N
    dsimp only at hp F N
    have := turn pre.length k t made tm' v' t' n' u h tk own (by omega) (by omega) hp (by rw [hp.1]; omega) ho F N
    unfold PEnd at this
    refine wpAny_mono this (fun f s₂ p => ?_) fun _ _ e => e
    have up : InvEndN h₀ env.locals (KstS (σ := PS) (fun c => [(pen, penO c.2.2.1 c.2.2.2.1 c.2.2.2.2)]) (fun c => [(sMade, .str c.1 c.2.1)]) (fun _ => True) (Str.ofString "at") [Str.ofString "old"] m₀ (fun pre c => MadeOk pre.length c.1) (rangeKs 0 (pre.length + 1))) own [pen] { s with heap := h, toks := tk } s₂ →
        InvEndN h₀ env.locals (KstS (σ := PS) (fun c => [(pen, penO c.2.2.1 c.2.2.2.1 c.2.2.2.2)]) (fun c => [(sMade, .str c.1 c.2.1)]) (fun _ => True) (Str.ofString "at") [Str.ofString "old"] m₀ (fun pre c => MadeOk pre.length c.1) (pre ++ [k])) own [pen] { s with heap := h, toks := tk } s₂ := by
      rintro ⟨h', tk', m', news', nx', e', F', N', hn', ho', ha, c', e1, e2, e3, e4, e5⟩
      refine ⟨h', tk', m', news', nx', e', F', N', hn', ho', ha, c', e1, e2, e3, e4, ?_⟩
      rw [rangeKs_length] at e5
      simpa using e5
    cases f with
    | ret v => exact p
    | brk => exact p
    | next => exact up p
    | cont => exact up p
  · rintro ⟨made, tm', v', t', n'⟩ u h tk - hp F N
    dsimp only at hp F N
    rw [rangeKs_length] at hp
    exact done made tm' v' t' n' u h tk (made_ok hp (by omega)) F N
theorem pen_end {L : Addr} {h' : Heap} {m' : Str → Option Value} {own news' : List (Addr × Obj)} {s₁ : Shared} {tk j : Nat} {made x : Str} {tm' : Tok} (F : Fr h₀ L h' m') (N : News h₀ L h' ((pen, penO v t n) :: news')) (hm : m' sMade = some (.str (made ++ x) tm')) (hM : MadeOk j made) (hx : OneOk x) (ho : ∀ p ∈ own, p ∈ (pen, penO v t n) :: news')
    (hr : ∀ z, z ≠ Str.ofString "at" → z ≠ sMade → z ≠ Str.ofString "old" → m' z = m₀ z) : InvEndN h₀ L (PEnd pen m₀ (j + 1)) own [pen] s₁ { s₁ with heap := h', toks := tk } := by
  refine kst_end (σ := PS) (made ++ x, tm', v, t, n) F N (fun p hp => by rcases List.mem_singleton.mp hp with rfl; exact .head _) ho rfl trivial (psOne hm) (fun z h1 h2 h3 => hr z h1 (notOne h2) ?_) (by show MadeOk (rangeKs 0 (j + 1)).length _; rw [rangeKs_length]; exact made_add hM hx)
  rintro rfl
  exact absurd h3 (by decide)
end
theorem notOld {z : Str} (h : z ≠ Str.ofString "old") : ¬ [Str.ofString "old"].contains z = true := by simpa using h
/-- a text of the signs comes back, the pen moved on -/
noncomputable abbrev RetU (_pen : Addr) (g : Obj → List (Addr × Obj)) (h₀ : Heap) (L : Addr) (m : Str → Option Value) (s : Shared) (Q : Value → Shared → Prop) : Prop :=
  ∀ (made : Str) (v' : Int) (t1 t2 : Tok) (n' : Nat) (h' : Heap) (tk' : Nat), OkT made → Fr h₀ L h' m → News h₀ L h' (g (penO v' t1 n')) → Q (.str made t2) { s with heap := h', toks := tk' }
end

section
-- CA
open PySem PySem.W PyProof.Rows
open PySem.Challenge
theorem CbT.of {d : Nat} {w mean mg mb f news vs Ret} (h : CbH d w mean mg mb f news vs Ret) : CbT d w mean mg mb f news vs Ret :=
  fun dp un gd cn cs a ccd outer A₀ base g₀ h₀ L m s Q E B F X N T _ _ KD KT hk h1 h2 hret => h dp un gd cn cs a ccd outer A₀ base h₀ L m s Q E B F X N T hk h1 h2 (hret h₀ KT B X T KD)
noncomputable def IdxL (us : List Value) : Prop := us.length ≤ 2 ∧ ∀ v ∈ us, ∃ (i : Str) (t : Tok), v = .str i t ∧ i.length ≤ 100
theorem idx_or (i : Str) (l : Int) : (∃ v, idxF i l = some v) ∨ ∃ msg ecs, idxBad i l = some (msg, ecs) := by
  cases h : idxF i l with
  | some v => exact .inl ⟨v, rfl⟩
  | none => exact .inr ⟨_, _, if_pos h⟩
section
variable {w : World} {mean : ExcName → Option Value} {mg mb : Str → Option Value} {news : List (Addr × Obj)} {li : Addr} {n : Nat} {c : Str} {t : Tok} {us : List Value}
theorem case_any_c (hl : (li, lstO us n) ∈ news) (h : OkT c) (hu : IdxL us) : CbT 180 w mean mg mb 372 news [.str c t, .ref li] (RetV news fun _ => .bool true) := by
  match us, hl, hu with
  | [], hl, _ => exact CbT.of (case_right0 hl h)
  | [v], hl, hu =>
    obtain ⟨i, ti, rfl, hi⟩ := hu.2 v (.head _)
    rcases idx_or i (c.length - 1) with ⟨v, hv⟩ | ⟨msg, ecs, hb⟩
    · exact CbT.of (case_right1 hl h hi hv)
    · exact case_bad1 hl h hi hb
  | [v, v2], hl, hu =>
    obtain ⟨i, ti, rfl, hi⟩ := hu.2 v (.head _)
    obtain ⟨j, tj, rfl, hj⟩ := hu.2 v2 (.tail _ (.head _))
    rcases idx_or i (c.length - 1) with ⟨v, hv⟩ | ⟨msg, ecs, hb⟩
    · rcases idx_or j (c.length - 1) with ⟨v2, hv2⟩ | ⟨msg, ecs, hb⟩
      · exact CbT.of (case_right2 hl h hi hj hv hv2)
      · exact case_bad3 hl h hi hj hv hb
    · exact case_bad2 hl h hi hj hb
  | _ :: _ :: _ :: _, _, hu =>
    have := hu.1
    simp at this
theorem heard_w_bad {ws : Addr} {v0 : Value} {cmd i : Str} {t1 ti : Tok} {msg : Str} {ecs : List Str} (hl : (ws, ({ cls := .type "list", data := .seq #[v0, .str cmd t1, .str c t, .str i ti] n } : Obj)) ∈ news) (hcmd : cmd = sWs ∨ cmd = sWe) (hb : idxBad i (c.length - 1) = some (msg, ecs)) (hc : c.length ≤ 100) (hi : i.length ≤ 100) :
    CbT 160 w mean mg mb 346 news [.ref ws] (RetB news msg ecs) := by
  rcases hcmd with rfl | rfl
  · exact heard_ws_bad hl hb hc hi
  · exact heard_we_bad hl hb hc hi
end
theorem tupKeep {g h : Heap} {L D : Addr} {m : Str → Option Value} {vs : Array Value} (hR : IsTup g D vs) (F : Fr g L h m) : IsTup h D vs := by
  obtain ⟨o, ho, r⟩ := hR
  exact ⟨o, F.keep _ _ ho, r⟩
theorem heads_ok : headsL.length = 11 ∧ ∀ x ∈ headsL, x.length ≤ 40 := by decide +kernel
theorem steps_ok : stepsL.length = 9 ∧ ∀ x ∈ stepsL, x.length ≤ 40 := by decide +kernel
section
variable {prog : Program} {w : World} {A : Around} {E : Value → Shared → Prop} {s : Shared} {value slice : PySem.Expr} {l : Addr} {vs : List Value} {u : Tok} {i : Int} {Q : Value → Shared → Prop} {ls : List Str} {k : Nat}
theorem item_strs (hl : s.heap.IsList l vs.toArray) (hS : StrsAre vs ls) (hk : ls.length = k ∧ ∀ x ∈ ls, x.length ≤ 40) (h0 : 0 ≤ i) (h1 : i < k) (hk2 : k ≤ 100) (h : ∀ (x : Str) (t : Tok), x.length ≤ 40 → Q (.str x t) s)
    (hs : subscripted slice false (.ref l) (.int i u) = operate [.ref l, .int i u] (getItem (.ref l) (.int i u)) := by with_unfolding_all rfl) :
    wpAny (model prog w) A (subscriptTail value slice (.ref l) (.int i u)) Q E s := by
  have hi : i.toNat < ls.length := by omega
  obtain ⟨t, ht⟩ := hS.at (List.getElem?_eq_getElem hi)
  exact item_lst hl h0 (by omega) (by simpa using ht) (h _ t (hk.2 _ (List.getElem_mem hi))) hs
/-- the pair at a place -/
theorem item_pair {g : Heap} {a b : Addr} {x1 y1 x2 y2 : Int} {t1 t2 t3 t4 : Tok} (hl : s.heap.IsList l #[.ref a, .ref b]) (hA : IsTup g a #[.int x1 t1, .int y1 t2]) (hB : IsTup g b #[.int x2 t3, .int y2 t4]) (h0 : 0 ≤ i) (h1 : i < 2)
    (h : ∀ (T : Addr) (x y : Int) (t t' : Tok), IsTup g T #[.int x t, .int y t'] → Q (.ref T) s)
    (hs : subscripted slice false (.ref l) (.int i u) = operate [.ref l, .int i u] (getItem (.ref l) (.int i u)) := by with_unfolding_all rfl) :
    wpAny (model prog w) A (subscriptTail value slice (.ref l) (.int i u)) Q E s := by
  have : i = 0 ∨ i = 1 := by omega
  rcases this with rfl | rfl
  · exact item_lst hl (by decide) (by decide) rfl (h a _ _ _ _ hA) hs
  · exact item_lst hl (by decide) (by decide) rfl (h b _ _ _ _ hB) hs
end
end

section
-- TU2
open PySem PySem.W PyProof.Rows PySem.Calls PyProof.V PySem.Spec
theorem kwn_TU2 : True := by
  k_with_none
  w_top off
  trivial
theorem kwo_TU2 : True := by
  k_with "m:omega" => first | with_reducible assumption | decide | with_reducible exact Int.le_refl _ | with_reducible exact Nat.le_refl _ | with_reducible exact rm_u2 | with_reducible exact rm_d2 | with_reducible exact rm_u1 | with_reducible exact rm_d1 | with_reducible exact rm_u0 | with_reducible exact rm_d0 | with_reducible exact n_up | with_reducible exact q_o | with_reducible exact q_c1 | with_reducible exact q_c2 | with_reducible exact q_c3 | with_reducible exact q_c4 | with_reducible exact q_n1 | with_reducible exact q_n2 | with_reducible exact q_n3 | with_reducible exact q_l1 | with_reducible exact q_l2 | with_reducible exact q_t1 | with_reducible exact q_t2 | with_reducible exact q_t3 | with_reducible exact q_t4 | with_reducible exact q_t5 | ((with_reducible show _ ≠ _); first | k_extra "P" | (refine Ne.symm ?_; k_extra "P") | (refine Nat.ne_of_lt ?_; k_extra "P") | (refine Nat.ne_of_gt ?_; k_extra "P"))
  k_with "P" => first | with_reducible assumption | with_reducible exact And.left (by with_reducible assumption) | with_reducible exact And.right (by with_reducible assumption) | with_reducible exact q_r (by with_reducible assumption) | with_reducible exact q_s (by with_reducible assumption) | with_reducible exact q_t (by with_reducible assumption) | with_reducible exact q_u (by with_reducible assumption)
  k_with "D" => ((try simp +zetaDelta only [depth_in1, depth_deeper]); (try dsimp only [ktrTop]); omega)
  k_with "U" => ((try simp +zetaDelta only [units_in1, units_deeper, Around.mark_units]); (try dsimp only [ktrTop]); omega)
  k_with "K5" => ((case k1 => k_asm); (case k2 => k_asm); (case k3 => k_asm); (case k4 => k_asm); (case k5 => k_asm))
  k_with "S" => first | with_reducible assumption | exact .inl rfl | exact .inr (.inl rfl) | exact .inr (.inr rfl) | exact .inr rfl | omega | k_mem | fail | (simp only [PySem.Str.length_append, KOpn.len_one]; omega) | assumption
  k_with "m:eval Call" => (k_here; k_dflt (first | ((with_reducible show wpAny _ _ (eval (.Call (.Name (Str.ofString "len") _) [.Name _ _] [] _) _) _ _ _); refine len_nm (q := ?_)) | ((with_reducible show wpAny _ _ (eval (.Call (.Name (Str.ofString "len") _) [_] [] _) _) _ _ _); refine callLen (h := ?_)) | ((with_reducible show wpAny _ _ (eval (.Call (.Name (Str.ofString "str") _) [_] [] _) _) _ _ _); refine callStr (h := ?_)) | ((with_reducible show wpAny _ _ (eval (.Call (.Name _ _) [_] [] _) _) _ _ _); refine callK1 (h := ?_)) | ((with_reducible show wpAny _ _ (eval (.Call (.Name _ _) [_, _] [] _) _) _ _ _); refine callK2 (h := ?_)) | ((with_reducible show wpAny _ _ (eval (.Call (.Name _ _) [_, _, _] [] _) _) _ _ _); refine callK3 (h := ?_))); k_whole)
  k_with "m:eval Constant int" => (k_here; k_dflt (refine cInt ?_); k_whole)
  k_with "m:eval Constant str" => (k_here; k_dflt (refine cStr ?_); k_whole)
  k_with "m:storeName" => (k_here; k_dflt (refine storeS (q := ?_)); k_whole; intro h' F' N'; (try k_sweep))
  k_with "m:binaryOp Add int int" => (k_here; k_dflt (refine addS ?_); k_whole)
  k_with "m:binaryOp Sub int int" => (k_here; k_dflt (refine subS ?_); k_whole)
  k_with "m:call builtin:len" => (k_here; (with_reducible show wpAny _ _ (call _ [.str _ _]) _ _ _); k_dflt (refine lenS (q := ?_)); k_whole)
  k_with "m:newList" => (k_here; k_dflt (refine lstS (q := ?_) (by first | exact Nat.le_of_ble_eq_true rfl | size_fits)); k_whole; intro l' h' F' N' l1; (try k_lt l1); (try k_sweep))
  k_with "m:execs cons" => (k_here; k_dflt (first | ((with_reducible show wpAny _ _ (execs (.Assign [.Name _ _] _ _ :: _) _) _ _ _); refine sAsg ?_ (Eq.refl true)) | ((with_reducible show wpAny _ _ (execs (.Return (some _) _ :: _) _) _ _ _); refine sRet ?_) | ((with_reducible show wpAny _ _ (execs (.If _ [.Return (some _) _] [] _ :: _) _) _ _ _); refine sIfR ?_) | ((with_reducible show wpAny _ _ (execs (.If _ _ [] _ :: _) _) _ _ _); refine sIf1 ?_)); k_whole)
  k_with "m:eval Tuple" => (k_here; first | ((with_reducible show wpAny _ _ (eval (.Tuple [.Constant (.str _) _ _, .Constant (.str _) _ _] _ _) _) _ _ _); k_dflt (refine tupSS (q := ?_)); k_whole; intro D' h' F' N' l1; (try k_lt l1)) | ((with_reducible show wpAny _ _ (eval (.Tuple [_, _] _ _) _) _ _ _); k_dflt (refine tup2 ?_ (Eq.refl true) (Eq.refl true)); k_whole))
  k_with "m:eval List" => (k_here; k_dflt (first | ((with_reducible show wpAny _ _ (eval (.List [_] _) _) _ _ _); refine lst1 ?_ (Eq.refl true)) | ((with_reducible show wpAny _ _ (eval (.List [_, _] _) _) _ _ _); refine lst2 ?_ (Eq.refl true) (Eq.refl true)) | ((with_reducible show wpAny _ _ (eval (.List [_, _, _] _) _) _ _ _); refine lst3 ?_ (Eq.refl true) (Eq.refl true) (Eq.refl true)) | ((with_reducible show wpAny _ _ (eval (.List [_, _, _, _] _) _) _ _ _); refine lst4 ?_ (Eq.refl true) (Eq.refl true) (Eq.refl true) (Eq.refl true))); k_whole)
  k_with "m:eval BinOp" => (k_here; k_dflt (first | ((with_reducible show wpAny _ _ (eval (.BinOp (.Name _ _) _ (.Name _ _) _) _) _ _ _); refine bNN (q := ?_)) | ((with_reducible show wpAny _ _ (eval (.BinOp (.Name _ _) _ (.Constant (.int _) _ _) _) _) _ _ _); refine bNC (q := ?_)) | ((with_reducible show wpAny _ _ (eval (.BinOp (.Name _ _) _ _ _) _) _ _ _); refine bN (q := ?_))); k_whole)
  k_with "m:isTrue Compare" => (k_here; k_dflt (first | ((with_reducible show wpAny _ _ (isTrue (.Compare (.Name _ _) [_] [(.Name _ _)] _) _ _) _ _ _); refine cNN (q := ?_)) | ((with_reducible show wpAny _ _ (isTrue (.Compare (.Name _ _) [_] [(.Constant (.int _) _ _)] _) _ _) _ _ _); refine cNC (q := ?_)) | ((with_reducible show wpAny _ _ (isTrue (.Compare (.Name _ _) [_] [_] _) _ _) _ _ _); refine cN (q := ?_))); k_whole)
  k_with "m:eval Subscript" => (k_here; k_dflt (first | ((with_reducible show wpAny _ _ (eval (.Subscript (.Name _ _) (.Name _ _) _) _) _ _ _); refine gNN (q := ?_)) | ((with_reducible show wpAny _ _ (eval (.Subscript (.Name _ _) (.Constant (.int _) _ _) _) _) _ _ _); refine gNC (q := ?_)) | ((with_reducible show wpAny _ _ (eval (.Subscript (.Name _ _) _ _) _) _ _ _); refine gN (q := ?_))); k_whole)
  trivial
open PySem.Challenge
set_option maxRecDepth 100000
set_option maxHeartbeats 1000000
theorem kw_TU2_1 : True := by
  k_with "m:call ref" => (k_here; (with_reducible show wpAny _ _ (call (Value.ref 297) _) _ _ _); k_dflt (refine' signs_c  _ _ _ _ _ _ _ _ _ _ _ _ _ _ _ _ ?k1 ?k2 ?k3 ?k4 ?k5 ?kK ?kd ?ku ?_); k_extra "K5"; (case kK => first | exact rfl | assumption); (case kd => (k_extra "D")); (case ku => (k_extra "U")); intro t9 h9 tk9 F9 N9; (try dsimp only); (skip); (all_goals (try k_fold)))
  k_with "m:call ref" => (k_here; (with_reducible show wpAny _ _ (call (Value.ref 325) _) _ _ _); k_dflt (refine' draw_c ?hc0 ?hc1 ?hc2 _ _ _ _ _ _ _ _ _ _ _ _ _ _ _ _ ?k1 ?k2 ?k3 ?k4 ?k5 ?kK ?kd ?ku ?_); k_extra "K5"; (case kK => first | exact rfl | assumption); (case hc0 => first | k_updF | (k_extra "S")); (case hc1 => first | k_updF | (k_extra "S")); (case hc2 => first | k_updF | (k_extra "S")); (case kd => (k_extra "D")); (case ku => (k_extra "U")); intro ta9 tb9 n9 h9 tk9 F9 N9; (try dsimp only); (skip); (all_goals (try k_fold)))
  k_with "m:exec For Name Call cons nil" => (k_here; (rename Fr _ _ _ _ => lF'); (with_unfolding_all refine' For_invVF lF' ?k1 ?k2 ?_; (case k1 => exact rfl); (case k2 => exact rfl); k_whole))
  k_with "m:call builtin:str.index" => (k_here; k_dflt (refine sign_index (by with_reducible assumption) (by omega) (by omega) rfl ?_); intro v9 hv0 hv1)
  k_with "m:subscriptTail Name BinOp str int" => (k_here; k_dflt (refine sign_item (fmod_lo _ (by decide)) (fmod_hi _ (by decide)) ?_); intro x9 hx9 hl9)
  k_with "m:pyIter ref" => (k_here; (with_reducible show wpAny _ _ (pyIter (Value.ref _)) (fun it s₂ => LoopAtV _ _ _ _ _ _ _ _ _ it s₂) _ _); (rename Fr _ _ _ _ => lF'); (rename News _ _ _ _ => lN'); (rename IsRange _ _ _ _ _ _ _ _ => rgX); k_dflt (refine pen_loop rfl rgX (fmod_lo _ (by decide)) (fmod_hi _ (by decide)) lF' lN' rfl ?_ ?_); (all_goals clear lF' lN' rgX); (intro j9 k9 t9 made9 tm9 v9 tv9 n9 u9 h9 tk9 own9 ha9 hb9 hM9 hl9 ho9 F9 N9); rotate_left; (intro made9 tm9 v9 tv9 n9 u9 h9 tk9 hM9 F9 N9); rotate_left; all_goals (try k_fold))
  k_with "m:InvEndN" => (k_here; (rename News _ _ _ _ => nE'); (rename Fr _ _ _ _ => fE'); k_dflt (refine pen_end fE' nE' rfl (by with_reducible assumption) (by with_reducible assumption) (by kcf_all) ?_); exact fun z h1 h2 h3 => (if_neg h2).trans ((if_neg h3).trans ((if_neg h1).trans ((if_neg h2).trans (if_neg (notOld h3))))))
  trivial
theorem turned_c {w mean mg mb} {news : List (Addr × Obj)} {g : Obj → List (Addr × Obj)} {pen : Addr} {v : Int} {t tc : Tok} {n : Nat} {c : Str} (U : UpdF pen (penO v t n) news g) (h : OkT c) :
    CbH 20 w mean mg mb 332 news [.str c tc, .ref pen] (RetU pen g) := by
  have hlen := h.len
  have hl : (pen, penO v t n) ∈ news := by
    obtain ⟨pre, post, e, _⟩ := U.split
    rw [e]
    exact List.mem_append_right _ (.head _)
  ((try unfold Cb); (try unfold CbE); (try unfold CbG); (try unfold CbH); k_fill; (try dsimp only [RetV, RetT]); intros; rename_i s0 Q0 E0 B0 F0 X0 N0 T0 hk0 hd0 hu0 hret; refine wpAny_call ?_; k_dflt (refine' code_defP ?k1 ?k2 ?k3 ?k4 ?k5 ?kA ?kF ?kK ?k6 ?k7 ?k8 ?k9 ?kB ?_ ?c2 ?c3 ?c4 ?c5; (case kA => exact rfl); (case kF => exact rfl); (case kK => first | exact rfl | assumption); (case k1 => k_asm); (case k2 => k_asm); (case k4 => exact newsSub N0 hl); (case k3 => k_asm); (case k5 => k_asm); (case k6 => k_is); (case k7 => k_is); (case k8 => ktr_room); (case k9 => exact BindsTo.of_eq rfl); (case c5 => decide); (case kB => exact locs rfl); (case c2 => exact rfl); (case c3 => exact rfl); (case c4 => exact rfl); k_whole; intro g' L' h' HG0 FG' F' N' B' X' T'; (try dsimp only); (try k_lift B'); (try k_fold)); (refine letA ?_); (intro kA); (replace F' : Fr g' L' h' (fun y => List.lookup y [(Str.ofString "pen", _), (Str.ofString "text", _)]) := F'); (generalize Shared.toks _ + List.length _ = tk0))
  k_steps
  all_goals first | exact hret _ _ _ _ _ _ _ (by with_reducible assumption) (by k_asm) (newsUpd U N0 HG0 (by k_asm) (by with_reducible assumption))
end

section
-- PN
open PySem PySem.W PyProof.Rows
section
variable {M : Model} {A : Around} {env : Env} {st : Stmt} {rest : List Stmt} {Q : Flow → Shared → Prop} {E : Value → Shared → Prop} {s : Shared} {h₀ h' : Heap} {L : Addr} {m m' : Str → Option Value} {news : List (Addr × Obj)} {x y : Str} {v u : Value} {tk' : Nat}
/-- what is no longer needed is forgotten: the objects, the counter -/
theorem prune {α : Type} {t : Sem α} {Q : α → Shared → Prop} {news' : List (Addr × Obj)} (F : Fr h₀ L s.heap m) (N : News h₀ L s.heap news) (hs : ∀ p ∈ news', p ∈ news) (h : ∀ h' tk', Fr h₀ L h' m → News h₀ L h' news' → wpAny M A t Q E { s with heap := h', toks := tk' }) : wpAny M A t Q E s :=
  h s.heap s.toks F fun p hp => N p (hs p hp)
theorem prune0 {α : Type} {t : Sem α} {Q : α → Shared → Prop} (F : Fr h₀ L s.heap m) (h : ∀ h' tk', Fr h₀ L h' m → News h₀ L h' [] → wpAny M A t Q E { s with heap := h', toks := tk' }) : wpAny M A t Q E s :=
  h s.heap s.toks F fun p hp => nomatch hp
theorem prune3 {α : Type} {t : Sem α} {Q : α → Shared → Prop} {a b c : Addr × Obj} (F : Fr h₀ L s.heap m) (N : News h₀ L s.heap (a :: b :: c :: news)) (h : ∀ h' tk', Fr h₀ L h' m → News h₀ L h' news → wpAny M A t Q E { s with heap := h', toks := tk' }) : wpAny M A t Q E s :=
  h s.heap s.toks F fun p hp => N p (.tail _ (.tail _ (.tail _ hp)))
end
/-- a mark: the ledger has been forgotten before this line -/
noncomputable def PrunedAt (_ : Nat) : Prop := True
theorem prunedAt (n : Nat) : PrunedAt n := trivial
end

section
-- HN
open PySem PySem.W PyProof.Rows
theorem kwn_HN : True := by
  k_with_none
  w_top off
  trivial
theorem kwo_HN : True := by
  k_with "m:omega" => first | with_reducible assumption | decide | with_reducible exact Int.le_refl _ | with_reducible exact Nat.le_refl _ | with_reducible exact rm_u2 | with_reducible exact rm_d2 | with_reducible exact rm_u1 | with_reducible exact rm_d1 | with_reducible exact rm_u0 | with_reducible exact rm_d0 | with_reducible exact n_up | with_reducible exact q_o | with_reducible exact q_c1 | with_reducible exact q_c2 | with_reducible exact q_c3 | with_reducible exact q_c4 | with_reducible exact q_n1 | with_reducible exact q_n2 | with_reducible exact q_n3 | with_reducible exact q_l1 | with_reducible exact q_l2 | with_reducible exact q_t1 | with_reducible exact q_t2 | with_reducible exact q_t3 | with_reducible exact q_t4 | with_reducible exact q_t5 | ((with_reducible show _ ≠ _); first | k_extra "P" | (refine Ne.symm ?_; k_extra "P") | (refine Nat.ne_of_lt ?_; k_extra "P") | (refine Nat.ne_of_gt ?_; k_extra "P"))
  k_with "P" => first | with_reducible assumption | with_reducible exact And.left (by with_reducible assumption) | with_reducible exact And.right (by with_reducible assumption) | with_reducible exact q_r (by with_reducible assumption) | with_reducible exact q_s (by with_reducible assumption) | with_reducible exact q_t (by with_reducible assumption) | with_reducible exact q_u (by with_reducible assumption)
  k_with "D" => ((try simp +zetaDelta only [depth_in1, depth_deeper]); (try dsimp only [ktrTop]); omega)
  k_with "U" => ((try simp +zetaDelta only [units_in1, units_deeper, Around.mark_units]); (try dsimp only [ktrTop]); omega)
  k_with "K5" => ((case k1 => k_asm); (case k2 => k_asm); (case k3 => k_asm); (case k4 => k_asm); (case k5 => k_asm))
  k_with "S" => first | with_reducible assumption | exact .inl rfl | exact .inr (.inl rfl) | exact .inr (.inr rfl) | exact .inr rfl | omega | k_mem | fail | (simp only [PySem.Str.length_append, KOpn.len_one]; omega) | assumption
  k_with "dr" => first | with_reducible assumption | with_reducible exact (News.tl (by with_reducible assumption)) | with_reducible exact (News.tl (News.tl (by with_reducible assumption))) | with_reducible exact (News.tl (News.tl (News.tl (by with_reducible assumption)))) | with_reducible exact (News.tl (News.tl (News.tl (News.tl (by with_reducible assumption))))) | with_reducible exact (News.tl (News.tl (News.tl (News.tl (News.tl (by with_reducible assumption)))))) | with_reducible exact (News.tl (News.tl (News.tl (News.tl (News.tl (News.tl (by with_reducible assumption))))))) | with_reducible exact News.apl (by with_reducible assumption) | with_reducible exact News.apl (News.tl (by with_reducible assumption)) | with_reducible exact News.apl (News.tl (News.tl (by with_reducible assumption))) | with_reducible exact News.apl (News.tl (News.tl (News.tl (by with_reducible assumption)))) | with_reducible exact News.apl (News.tl (News.tl (News.tl (News.tl (by with_reducible assumption)))))
  k_with "m:eval Call" => (k_here; k_dflt (first | ((with_reducible show wpAny _ _ (eval (.Call (.Name (Str.ofString "len") _) [.Name _ _] [] _) _) _ _ _); refine len_nm (q := ?_)) | ((with_reducible show wpAny _ _ (eval (.Call (.Name (Str.ofString "len") _) [_] [] _) _) _ _ _); refine callLen (h := ?_)) | ((with_reducible show wpAny _ _ (eval (.Call (.Name (Str.ofString "str") _) [_] [] _) _) _ _ _); refine callStr (h := ?_)) | ((with_reducible show wpAny _ _ (eval (.Call (.Name _ _) [_] [] _) _) _ _ _); refine callK1 (h := ?_)) | ((with_reducible show wpAny _ _ (eval (.Call (.Name _ _) [_, _] [] _) _) _ _ _); refine callK2 (h := ?_)) | ((with_reducible show wpAny _ _ (eval (.Call (.Name _ _) [_, _, _] [] _) _) _ _ _); refine callK3 (h := ?_))); k_whole)
  k_with "m:eval Constant int" => (k_here; k_dflt (refine cInt ?_); k_whole)
  k_with "m:eval Constant str" => (k_here; k_dflt (refine cStr ?_); k_whole)
  k_with "m:storeName" => (k_here; k_dflt (refine storeS (q := ?_)); k_whole; intro h' F' N'; (try k_sweep))
  k_with "m:binaryOp Add int int" => (k_here; k_dflt (refine addS ?_); k_whole)
  k_with "m:binaryOp Sub int int" => (k_here; k_dflt (refine subS ?_); k_whole)
  k_with "m:call builtin:len" => (k_here; (with_reducible show wpAny _ _ (call _ [.str _ _]) _ _ _); k_dflt (refine lenS (q := ?_)); k_whole)
  k_with "m:newList" => (k_here; k_dflt (refine lstS (q := ?_) (by first | exact Nat.le_of_ble_eq_true rfl | size_fits)); k_whole; intro l' h' F' N' l1; (try k_lt l1); (try k_sweep))
  k_with "m:execs cons" => (k_here; k_dflt (first | ((with_reducible show wpAny _ _ (execs (.Assign [.Name _ _] _ _ :: _) _) _ _ _); refine sAsg ?_ (Eq.refl true)) | ((with_reducible show wpAny _ _ (execs (.Return (some _) _ :: _) _) _ _ _); refine sRet ?_) | ((with_reducible show wpAny _ _ (execs (.If _ [.Return (some _) _] [] _ :: _) _) _ _ _); refine sIfR ?_) | ((with_reducible show wpAny _ _ (execs (.If _ _ [] _ :: _) _) _ _ _); refine sIf1 ?_)); k_whole)
  k_with "m:eval Tuple" => (k_here; first | ((with_reducible show wpAny _ _ (eval (.Tuple [.Constant (.str _) _ _, .Constant (.str _) _ _] _ _) _) _ _ _); k_dflt (refine tupSS (q := ?_)); k_whole; intro D' h' F' N' l1; (try k_lt l1)) | ((with_reducible show wpAny _ _ (eval (.Tuple [_, _] _ _) _) _ _ _); k_dflt (refine tup2 ?_ (Eq.refl true) (Eq.refl true)); k_whole))
  k_with "m:eval List" => (k_here; k_dflt (first | ((with_reducible show wpAny _ _ (eval (.List [_] _) _) _ _ _); refine lst1 ?_ (Eq.refl true)) | ((with_reducible show wpAny _ _ (eval (.List [_, _] _) _) _ _ _); refine lst2 ?_ (Eq.refl true) (Eq.refl true)) | ((with_reducible show wpAny _ _ (eval (.List [_, _, _] _) _) _ _ _); refine lst3 ?_ (Eq.refl true) (Eq.refl true) (Eq.refl true)) | ((with_reducible show wpAny _ _ (eval (.List [_, _, _, _] _) _) _ _ _); refine lst4 ?_ (Eq.refl true) (Eq.refl true) (Eq.refl true) (Eq.refl true))); k_whole)
  k_with "m:eval BinOp" => (k_here; k_dflt (first | ((with_reducible show wpAny _ _ (eval (.BinOp (.Name _ _) _ (.Name _ _) _) _) _ _ _); refine bNN (q := ?_)) | ((with_reducible show wpAny _ _ (eval (.BinOp (.Name _ _) _ (.Constant (.int _) _ _) _) _) _ _ _); refine bNC (q := ?_)) | ((with_reducible show wpAny _ _ (eval (.BinOp (.Name _ _) _ _ _) _) _ _ _); refine bN (q := ?_))); k_whole)
  k_with "m:isTrue Compare" => (k_here; k_dflt (first | ((with_reducible show wpAny _ _ (isTrue (.Compare (.Name _ _) [_] [(.Name _ _)] _) _ _) _ _ _); refine cNN (q := ?_)) | ((with_reducible show wpAny _ _ (isTrue (.Compare (.Name _ _) [_] [(.Constant (.int _) _ _)] _) _ _) _ _ _); refine cNC (q := ?_)) | ((with_reducible show wpAny _ _ (isTrue (.Compare (.Name _ _) [_] [_] _) _ _) _ _ _); refine cN (q := ?_))); k_whole)
  k_with "m:eval Subscript" => (k_here; k_dflt (first | ((with_reducible show wpAny _ _ (eval (.Subscript (.Name _ _) (.Name _ _) _) _) _ _ _); refine gNN (q := ?_)) | ((with_reducible show wpAny _ _ (eval (.Subscript (.Name _ _) (.Constant (.int _) _ _) _) _) _ _ _); refine gNC (q := ?_)) | ((with_reducible show wpAny _ _ (eval (.Subscript (.Name _ _) _ _) _) _ _ _); refine gN (q := ?_))); k_whole)
  trivial
open PySem.Challenge
set_option maxRecDepth 100000
set_option maxHeartbeats 1000000
/-- an expression that gives the text Y and leaves all else -/
noncomputable def GaveS (Y : Str) (g : Heap) (L : Addr) (m : Str → Option Value) (s : Shared) (nw : List (Addr × Obj)) (v : Value) (s' : Shared) : Prop :=
  ∃ t h' tk', v = .str Y t ∧ s' = ⟨h', s.gens, s.drawn, tk', s.os⟩ ∧ Fr g L h' m ∧ News g L h' nw
noncomputable abbrev GivesS (M : Model) (A : Around) (env : Env) (e : PySem.Expr) (Y : Str) (g : Heap) (L : Addr) (m : Str → Option Value) (s : Shared) (E : Value → Shared → Prop) : Prop :=
  ∀ (nw : List (Addr × Obj)) (h : Heap) (tk : Nat), Fr g L h m → News g L h nw → wpAny M A (eval e env) (GaveS Y g L m s nw) E ⟨h, s.gens, s.drawn, tk, s.os⟩
theorem kw_HN_1 : True := by
  k_with "m:compareOp NotEq ref ref" => (k_here; k_dflt (first | refine nn_nil (News.isTup (by k_asm) (by k_mem)) (News.isTup (by k_asm) (by k_mem)) (by (k_extra "U")) ?_ | refine ne_nil (News.isTup (by k_asm) (by k_mem)) (News.isTup (by k_asm) (by k_mem)) (List.cons_ne_nil _ _) (by (k_extra "U")) ?_ | refine ne_gave (News.isTup (by k_asm) (by k_mem)) (News.isTup (by k_asm) (by k_mem)) (by (k_extra "U")) ?_ | refine ne_fault (News.isTup (by k_asm) (by k_mem)) (News.isTup (by k_asm) (by k_mem)) (News.isTup (by k_asm) (by k_mem)) (News.isTup (by k_asm) (by k_mem)) (by with_reducible assumption) (by with_reducible assumption) (by (k_extra "U")) (by first | with_reducible assumption | exact neOf (by with_reducible assumption) (by k_mem) | exact neN (by omega)) ?_))
  k_with "m:compareOp Eq ref ref" => (k_here; k_dflt (refine eq_gave (News.isTup (by k_asm) (by k_mem)) (News.isTup (by k_asm) (by k_mem)) (by (k_extra "U")) ?_))
  k_with "m:eval Name" => (k_here; first | (with_reducible refine nameX_L (by assumption) (by assumption) ?_ (by assumption) (by assumption)) | (k_dflt (refine nameX_K (by k_asm) (by k_asm) (by k_asm) (by k_is) ?_ (by assumption) (by assumption))))
  trivial
/-- _law_heard(['string', X, text, e1]) beside ('gave', e2) -/
theorem heard_cmp {w mean mg mb} {dp un : Nat} {gd : Option (List Code)} {cn : Str} {cs : Scope} {a : Addr} {ccd : Value} {outer : List Env} {A₀ : Around} {base g : Heap} {L : Addr} {m : Str → Option Value} {s : Shared} {Q E : Value → Shared → Prop} {nw : List (Addr × Obj)} {X Y R c : Str} {tc : Tok} {e1 e2 : PySem.Expr} {p1 p2 p3 p4 p5 p6 p7 p8 : Pos} {op : CmpOp} {b : Bool}
    (B : Below A₀ base outer g) (F : Fr g L s.heap m) (K : (hd.heap_1 w.params).In g) (N : News g L s.heap nw) (T : Top view LS mean mg mb g) (hk : cs.kind = .function) (hd0 : dp + 160 < recursionLimit) (hu0 : un + 8 * 160 < cLine)
    (hkF : (envX cn cs L a ccd []).kindOf (Str.ofString "_law_heard") = some .globalImplicit) (hkT : (envX cn cs L a ccd []).kindOf (Str.ofString "text") = some .local) (hT : m (Str.ofString "text") = some (.str c tc))
    (HC : ∀ ⦃news' : List (Addr × Obj)⦄ ⦃ws n t0 t1 t2 t3⦄, (ws, ({ cls := .type "list", data := .seq #[.str (Str.ofString "string") t0, .str X t1, .str c t2, .str Y t3] n } : Obj)) ∈ news' → CbH 160 w mean mg mb 346 news' [.ref ws] (RetN news' fun t t' => [.str (Str.ofString "gave") t, .str R t']))
    (H1 : GivesS (model rw_oj0055_01.row.toRowW.prog w) (ktrTop dp un gd cn cs L a ccd [] outer) (envX cn cs L a ccd []) e1 Y g L m s E)
    (H2 : GivesS (model rw_oj0055_01.row.toRowW.prog w) (ktrTop dp un gd cn cs L a ccd [] outer) (envX cn cs L a ccd []) e2 R g L m s E)
    (hs1 : ∀ rest, starEach (e1 :: rest) (envX cn cs L a ccd []) = (false, eval e1 (envX cn cs L a ccd [])) :: starEach rest (envX cn cs L a ccd [])) (hs2 : ∀ rest, starEach (e2 :: rest) (envX cn cs L a ccd []) = (false, eval e2 (envX cn cs L a ccd [])) :: starEach rest (envX cn cs L a ccd [])) (hop : (op = .NotEq ∧ b = false) ∨ (op = .Eq ∧ b = true)) (hQ : ∀ h tk, Fr g L h m → News g L h nw → Q (.bool b) ⟨h, s.gens, s.drawn, tk, s.os⟩) :
    wpAny (model rw_oj0055_01.row.toRowW.prog w) (ktrTop dp un gd cn cs L a ccd [] outer) (eval (.Call (.Name (Str.ofString "_law_heard") p1) [.List [.Constant (.str (Str.ofString "string")) 0 p2, .Constant (.str X) 0 p3, .Name (Str.ofString "text") p4, e1] p5] [] p6) (envX cn cs L a ccd []))
      (fun x s1 => wpAny (model rw_oj0055_01.row.toRowW.prog w) (ktrTop dp un gd cn cs L a ccd [] outer) (eval (.Tuple [.Constant (.str (Str.ofString "gave")) 0 p7, e2] 0 p8) (envX cn cs L a ccd [])) (fun y s2 => wpAny (model rw_oj0055_01.row.toRowW.prog w) (ktrTop dp un gd cn cs L a ccd [] outer) (compareOp op x y) Q E s2) E s1) E s := by
  revert K; k_fill; intro K
  k_with "call ref" => (k_here; (with_reducible show wpAny _ _ (call (Value.ref 346) _) _ _ _); k_dflt (refine' HC ?hc0 _ _ _ _ _ _ _ _ _ _ _ _ _ _ _ _ ?k1 ?k2 ?k3 ?k4 ?k5 ?kK ?kd ?ku ?_); k_extra "K5"; (case kK => first | exact rfl | assumption); (case hc0 => k_extra "S"); (case kd => (k_extra "D")); (case ku => (k_extra "U")); intro D9 t9 u9 h9 tk9 F9 N9 ne9; (try dsimp only); (skip); (all_goals (try k_fold)))
  k_steps
  refine args_cons ?_ (hs1 _)
  refine wpAny_mono (H1 nw _ _ (by k_asm) N) ?_ (fun _ _ e => e)
  rintro v s' ⟨t9, h9, tk9, q1, q2, F9, N9⟩
  subst q1; subst q2
  k_steps
  refine args_cons ?_ (hs2 _)
  rename News _ _ _ _ => N8
  refine wpAny_mono (H2 _ _ _ (by k_asm) N8) ?_ (fun _ _ e => e)
  rintro v s' ⟨t9, h9, tk9, q1, q2, F9, N9⟩
  subst q1; subst q2
  k_steps
  (try k_unfold); (try dsimp only)
  rcases hop with ⟨rfl, rfl⟩ | ⟨rfl, rfl⟩
  all_goals k_steps
  all_goals (try k_unfold)
  all_goals first | exact hQ _ _ (by k_asm) (by (k_extra "dr"))
end

section
-- W4
open PySem PySem.W PyProof.Rows
theorem kwn_W4 : True := by
  k_with_none
  w_top off
  trivial
theorem kwo_W4 : True := by
  k_with "m:omega" => first | with_reducible assumption | decide | with_reducible exact Int.le_refl _ | with_reducible exact Nat.le_refl _ | with_reducible exact rm_u2 | with_reducible exact rm_d2 | with_reducible exact rm_u1 | with_reducible exact rm_d1 | with_reducible exact rm_u0 | with_reducible exact rm_d0 | with_reducible exact n_up | with_reducible exact q_o | with_reducible exact q_c1 | with_reducible exact q_c2 | with_reducible exact q_c3 | with_reducible exact q_c4 | with_reducible exact q_n1 | with_reducible exact q_n2 | with_reducible exact q_n3 | with_reducible exact q_l1 | with_reducible exact q_l2 | with_reducible exact q_t1 | with_reducible exact q_t2 | with_reducible exact q_t3 | with_reducible exact q_t4 | with_reducible exact q_t5 | ((with_reducible show _ ≠ _); first | k_extra "P" | (refine Ne.symm ?_; k_extra "P") | (refine Nat.ne_of_lt ?_; k_extra "P") | (refine Nat.ne_of_gt ?_; k_extra "P"))
  k_with "P" => first | with_reducible assumption | with_reducible exact And.left (by with_reducible assumption) | with_reducible exact And.right (by with_reducible assumption) | with_reducible exact q_r (by with_reducible assumption) | with_reducible exact q_s (by with_reducible assumption) | with_reducible exact q_t (by with_reducible assumption) | with_reducible exact q_u (by with_reducible assumption)
  k_with "D" => ((try simp +zetaDelta only [depth_in1, depth_deeper]); (try dsimp only [ktrTop]); omega)
  k_with "U" => ((try simp +zetaDelta only [units_in1, units_deeper, Around.mark_units]); (try dsimp only [ktrTop]); omega)
  k_with "K5" => ((case k1 => k_asm); (case k2 => k_asm); (case k3 => k_asm); (case k4 => k_asm); (case k5 => k_asm))
  k_with "S" => first | with_reducible assumption | exact .inl rfl | exact .inr (.inl rfl) | exact .inr (.inr rfl) | exact .inr rfl | omega | k_mem | fail | (simp only [PySem.Str.length_append, KOpn.len_one]; omega) | assumption
  k_with "m:eval Call" => (k_here; k_dflt (first | ((with_reducible show wpAny _ _ (eval (.Call (.Name (Str.ofString "len") _) [.Name _ _] [] _) _) _ _ _); refine len_nm (q := ?_)) | ((with_reducible show wpAny _ _ (eval (.Call (.Name (Str.ofString "len") _) [_] [] _) _) _ _ _); refine callLen (h := ?_)) | ((with_reducible show wpAny _ _ (eval (.Call (.Name (Str.ofString "str") _) [_] [] _) _) _ _ _); refine callStr (h := ?_)) | ((with_reducible show wpAny _ _ (eval (.Call (.Name _ _) [_] [] _) _) _ _ _); refine callK1 (h := ?_)) | ((with_reducible show wpAny _ _ (eval (.Call (.Name _ _) [_, _] [] _) _) _ _ _); refine callK2 (h := ?_)) | ((with_reducible show wpAny _ _ (eval (.Call (.Name _ _) [_, _, _] [] _) _) _ _ _); refine callK3 (h := ?_))); k_whole)
  k_with "m:eval Constant int" => (k_here; k_dflt (refine cInt ?_); k_whole)
  k_with "m:eval Constant str" => (k_here; k_dflt (refine cStr ?_); k_whole)
  k_with "m:storeName" => (k_here; k_dflt (refine storeS (q := ?_)); k_whole; intro h' F' N'; (try k_sweep))
  k_with "m:binaryOp Add int int" => (k_here; k_dflt (refine addS ?_); k_whole)
  k_with "m:binaryOp Sub int int" => (k_here; k_dflt (refine subS ?_); k_whole)
  k_with "m:call builtin:len" => (k_here; (with_reducible show wpAny _ _ (call _ [.str _ _]) _ _ _); k_dflt (refine lenS (q := ?_)); k_whole)
  k_with "m:newList" => (k_here; k_dflt (refine lstS (q := ?_) (by first | exact Nat.le_of_ble_eq_true rfl | size_fits)); k_whole; intro l' h' F' N' l1; (try k_lt l1); (try k_sweep))
  k_with "m:execs cons" => (k_here; k_dflt (first | ((with_reducible show wpAny _ _ (execs (.Assign [.Name _ _] _ _ :: _) _) _ _ _); refine sAsg ?_ (Eq.refl true)) | ((with_reducible show wpAny _ _ (execs (.Return (some _) _ :: _) _) _ _ _); refine sRet ?_) | ((with_reducible show wpAny _ _ (execs (.If _ [.Return (some _) _] [] _ :: _) _) _ _ _); refine sIfR ?_) | ((with_reducible show wpAny _ _ (execs (.If _ _ [] _ :: _) _) _ _ _); refine sIf1 ?_)); k_whole)
  k_with "m:eval Tuple" => (k_here; first | ((with_reducible show wpAny _ _ (eval (.Tuple [.Constant (.str _) _ _, .Constant (.str _) _ _] _ _) _) _ _ _); k_dflt (refine tupSS (q := ?_)); k_whole; intro D' h' F' N' l1; (try k_lt l1)) | ((with_reducible show wpAny _ _ (eval (.Tuple [_, _] _ _) _) _ _ _); k_dflt (refine tup2 ?_ (Eq.refl true) (Eq.refl true)); k_whole))
  k_with "m:eval List" => (k_here; k_dflt (first | ((with_reducible show wpAny _ _ (eval (.List [_] _) _) _ _ _); refine lst1 ?_ (Eq.refl true)) | ((with_reducible show wpAny _ _ (eval (.List [_, _] _) _) _ _ _); refine lst2 ?_ (Eq.refl true) (Eq.refl true)) | ((with_reducible show wpAny _ _ (eval (.List [_, _, _] _) _) _ _ _); refine lst3 ?_ (Eq.refl true) (Eq.refl true) (Eq.refl true)) | ((with_reducible show wpAny _ _ (eval (.List [_, _, _, _] _) _) _ _ _); refine lst4 ?_ (Eq.refl true) (Eq.refl true) (Eq.refl true) (Eq.refl true))); k_whole)
  k_with "m:eval BinOp" => (k_here; k_dflt (first | ((with_reducible show wpAny _ _ (eval (.BinOp (.Name _ _) _ (.Name _ _) _) _) _ _ _); refine bNN (q := ?_)) | ((with_reducible show wpAny _ _ (eval (.BinOp (.Name _ _) _ (.Constant (.int _) _ _) _) _) _ _ _); refine bNC (q := ?_)) | ((with_reducible show wpAny _ _ (eval (.BinOp (.Name _ _) _ _ _) _) _ _ _); refine bN (q := ?_))); k_whole)
  k_with "m:isTrue Compare" => (k_here; k_dflt (first | ((with_reducible show wpAny _ _ (isTrue (.Compare (.Name _ _) [_] [(.Name _ _)] _) _ _) _ _ _); refine cNN (q := ?_)) | ((with_reducible show wpAny _ _ (isTrue (.Compare (.Name _ _) [_] [(.Constant (.int _) _ _)] _) _ _) _ _ _); refine cNC (q := ?_)) | ((with_reducible show wpAny _ _ (isTrue (.Compare (.Name _ _) [_] [_] _) _ _) _ _ _); refine cN (q := ?_))); k_whole)
  k_with "m:eval Subscript" => (k_here; k_dflt (first | ((with_reducible show wpAny _ _ (eval (.Subscript (.Name _ _) (.Name _ _) _) _) _ _ _); refine gNN (q := ?_)) | ((with_reducible show wpAny _ _ (eval (.Subscript (.Name _ _) (.Constant (.int _) _ _) _) _) _ _ _); refine gNC (q := ?_)) | ((with_reducible show wpAny _ _ (eval (.Subscript (.Name _ _) _ _) _) _ _ _); refine gN (q := ?_))); k_whole)
  trivial
open PySem.Challenge
set_option maxRecDepth 100000
set_option maxHeartbeats 1000000
theorem sub_app {own a b : List (Addr × Obj)} : ∀ p ∈ own, p ∈ a ++ (own ++ b) := fun _ hp => List.mem_append_right _ (List.mem_append_left _ hp)
theorem kw_W4_1 : True := by
  k_with "m:call ref" => (k_here; (with_reducible show wpAny _ _ (call (Value.ref 241) _) _ _ _); k_dflt (refine' range_is ?hc0 ?hc1 ?hc2 _ _ _ _ _ _ _ _ _ _ _ _ _ _ _ _ ?k1 ?k2 ?k3 ?k4 ?k5 ?kK ?kd ?ku ?_); k_extra "K5"; (case kK => first | exact rfl | assumption); (case hc0 => k_extra "S"); (case hc1 => k_extra "S"); (case hc2 => k_extra "S"); (case kd => (k_extra "D")); (case ku => (k_extra "U")); intro t9 h9 tk9 F9 N9; (try dsimp only); (skip); (all_goals (try k_fold)))
  k_with "m:call ref" => (k_here; (with_reducible show wpAny _ _ (call (Value.ref 379) _) _ _ _); k_dflt (refine' blocks_c ?hc0 _ _ _ _ _ _ _ _ _ _ _ _ _ _ _ _ ?k1 ?k2 ?k3 ?k4 ?k5 ?kK ?kd ?ku ?_); k_extra "K5"; (case kK => first | exact rfl | assumption); (case hc0 => k_extra "S"); (case kd => (k_extra "D")); (case ku => (k_extra "U")); intro D9 us9 n9 h9 tk9 F9 N9 S9 ne9; (try dsimp only); (skip); (all_goals (try k_fold)))
  k_with "m:eval Call" => (k_here; (with_reducible show wpAny _ _ (eval (PySem.Expr.Call (PySem.Expr.Name _ ⟨357, _, _, _⟩) [PySem.Expr.List _ _] _ _) _) _ _ _); k_dflt ((refine' heard_cmp ?zB ?zF ?zK ?zN ?zT ?zk ?zd ?zu ?zkF ?zkT ?zhT (fun _ _ _ _ _ _ _ hm => heard_ws hm hz9 h.len) ?_ ?_ ?zs1 ?zs2 ?zop ?_); (case zB => k_asm); (case zF => k_asm); (case zK => k_asm); (case zN => k_asm); (case zT => k_asm); (case zk => first | exact rfl | assumption); (case zd => (k_extra "D")); (case zu => (k_extra "U")); (case zkF => exact rfl); (case zkT => exact rfl); (case zhT => exact rfl); (case zs1 => exact fun _ => rfl); (case zs2 => exact fun _ => rfl); (case zop => first | exact .inl ⟨rfl, rfl⟩ | exact .inr ⟨rfl, rfl⟩); (intro nw9 h9 tk9 F9 N9); rotate_left; (intro nw9 h9 tk9 F9 N9); rotate_left; (intro h9 tk9 F9 N9; (try dsimp only)); rotate_left; (all_goals (try k_fold))))
  k_with "m:eval Call" => (k_here; (with_reducible show wpAny _ _ (eval (PySem.Expr.Call (PySem.Expr.Name _ ⟨359, _, _, _⟩) [PySem.Expr.List _ _] _ _) _) _ _ _); k_dflt ((refine' heard_cmp ?zB ?zF ?zK ?zN ?zT ?zk ?zd ?zu ?zkF ?zkT ?zhT (fun _ _ _ _ _ _ _ hm => heard_we hm hy9 h.len) ?_ ?_ ?zs1 ?zs2 ?zop ?_); (case zB => k_asm); (case zF => k_asm); (case zK => k_asm); (case zN => k_asm); (case zT => k_asm); (case zk => first | exact rfl | assumption); (case zd => (k_extra "D")); (case zu => (k_extra "U")); (case zkF => exact rfl); (case zkT => exact rfl); (case zhT => exact rfl); (case zs1 => exact fun _ => rfl); (case zs2 => exact fun _ => rfl); (case zop => first | exact .inl ⟨rfl, rfl⟩ | exact .inr ⟨rfl, rfl⟩); (intro nw9 h9 tk9 F9 N9); rotate_left; (intro nw9 h9 tk9 F9 N9); rotate_left; (intro h9 tk9 F9 N9; (try dsimp only)); rotate_left; (all_goals (try k_fold))))
  k_with "m:eval Call" => (k_here; (with_reducible show wpAny _ _ (eval (PySem.Expr.Call (PySem.Expr.Name _ ⟨365, _, _, _⟩) [PySem.Expr.List _ _] _ _) _) _ _ _); k_dflt ((refine' heard_cmp ?zB ?zF ?zK ?zN ?zT ?zk ?zd ?zu ?zkF ?zkT ?zhT (fun _ _ _ _ _ _ _ hm => heard_ws hm hq1 h.len) ?_ ?_ ?zs1 ?zs2 ?zop ?_); (case zB => k_asm); (case zF => k_asm); (case zK => k_asm); (case zN => k_asm); (case zT => k_asm); (case zk => first | exact rfl | assumption); (case zd => (k_extra "D")); (case zu => (k_extra "U")); (case zkF => exact rfl); (case zkT => exact rfl); (case zhT => exact rfl); (case zs1 => exact fun _ => rfl); (case zs2 => exact fun _ => rfl); (case zop => first | exact .inl ⟨rfl, rfl⟩ | exact .inr ⟨rfl, rfl⟩); (intro nw9 h9 tk9 F9 N9); rotate_left; (intro nw9 h9 tk9 F9 N9); rotate_left; (intro h9 tk9 F9 N9; (try dsimp only)); rotate_left; (all_goals (try k_fold))))
  k_with "m:eval Call" => (k_here; (with_reducible show wpAny _ _ (eval (PySem.Expr.Call (PySem.Expr.Name _ ⟨367, _, _, _⟩) [PySem.Expr.List _ _] _ _) _) _ _ _); k_dflt ((refine' heard_cmp ?zB ?zF ?zK ?zN ?zT ?zk ?zd ?zu ?zkF ?zkT ?zhT (fun _ _ _ _ _ _ _ hm => heard_we hm hq2 h.len) ?_ ?_ ?zs1 ?zs2 ?zop ?_); (case zB => k_asm); (case zF => k_asm); (case zK => k_asm); (case zN => k_asm); (case zT => k_asm); (case zk => first | exact rfl | assumption); (case zd => (k_extra "D")); (case zu => (k_extra "U")); (case zkF => exact rfl); (case zkT => exact rfl); (case zhT => exact rfl); (case zs1 => exact fun _ => rfl); (case zs2 => exact fun _ => rfl); (case zop => first | exact .inl ⟨rfl, rfl⟩ | exact .inr ⟨rfl, rfl⟩); (intro nw9 h9 tk9 F9 N9); rotate_left; (intro nw9 h9 tk9 F9 N9); rotate_left; (intro h9 tk9 F9 N9; (try dsimp only)); rotate_left; (all_goals (try k_fold))))
  k_with "m:eval Call" => (k_here; (with_reducible show wpAny _ _ (eval (PySem.Expr.Call (PySem.Expr.Name _ ⟨370, _, _, _⟩) [PySem.Expr.List _ _] _ _) _) _ _ _); k_dflt ((refine' heard_cmp ?zB ?zF ?zK ?zN ?zT ?zk ?zd ?zu ?zkF ?zkT ?zhT (fun _ _ _ _ _ _ _ hm => heard_ws hm hq3 h.len) ?_ ?_ ?zs1 ?zs2 ?zop ?_); (case zB => k_asm); (case zF => k_asm); (case zK => k_asm); (case zN => k_asm); (case zT => k_asm); (case zk => first | exact rfl | assumption); (case zd => (k_extra "D")); (case zu => (k_extra "U")); (case zkF => exact rfl); (case zkT => exact rfl); (case zhT => exact rfl); (case zs1 => exact fun _ => rfl); (case zs2 => exact fun _ => rfl); (case zop => first | exact .inl ⟨rfl, rfl⟩ | exact .inr ⟨rfl, rfl⟩); (intro nw9 h9 tk9 F9 N9); rotate_left; (intro nw9 h9 tk9 F9 N9); rotate_left; (intro h9 tk9 F9 N9; (try dsimp only)); rotate_left; (all_goals (try k_fold))))
  k_with "m:eval Call" => (k_here; (with_reducible show wpAny _ _ (eval (PySem.Expr.Call (PySem.Expr.Name _ ⟨372, _, _, _⟩) [PySem.Expr.List _ _] _ _) _) _ _ _); k_dflt ((refine' heard_cmp ?zB ?zF ?zK ?zN ?zT ?zk ?zd ?zu ?zkF ?zkT ?zhT (fun _ _ _ _ _ _ _ hm => heard_we hm hq4 h.len) ?_ ?_ ?zs1 ?zs2 ?zop ?_); (case zB => k_asm); (case zF => k_asm); (case zK => k_asm); (case zN => k_asm); (case zT => k_asm); (case zk => first | exact rfl | assumption); (case zd => (k_extra "D")); (case zu => (k_extra "U")); (case zkF => exact rfl); (case zkT => exact rfl); (case zhT => exact rfl); (case zs1 => exact fun _ => rfl); (case zs2 => exact fun _ => rfl); (case zop => first | exact .inl ⟨rfl, rfl⟩ | exact .inr ⟨rfl, rfl⟩); (intro nw9 h9 tk9 F9 N9); rotate_left; (intro nw9 h9 tk9 F9 N9); rotate_left; (intro h9 tk9 F9 N9; (try dsimp only)); rotate_left; (all_goals (try k_fold))))
  k_with "m:GaveS" => (k_here; k_dflt (exact ⟨_, _, _, rfl, rfl, by k_asm, by k_asm⟩))
  k_with "m:compareOp NotEq str str" => (k_here; with_reducible refine ne_str_same ?_)
  k_with "m:binaryOp Add ref ref" => (k_here; k_dflt (refine add_us (us := _) (by k_asm) (by k_asm) (by k_mem) (by k_mem) (by (simp only [sizeLine_eq, List.length_cons, List.length_nil]; omega)) ?_); intro D' h' F' N' l1; (try k_lt l1))
  k_with "m:eval ListComp" => (k_here; k_dflt (refine LCg.ListComp_U (F₀ := by k_asm) (by with_unfolding_all rfl) (by decide) (by rfl) (by decide) (by rfl) ?_))
  k_with "m:CompSrc" => (k_here; k_dflt (refine LCg.CompSrc.ledger (by rfl) (by k_asm) (by k_asm) (by k_mem) ?hsz ?_); (case hsz => rw [List.size_toArray, StrsAre.len_eq (by with_reducible assumption), sizeLine_eq]; exact Nat.le_trans (blk_cnt _) (by rw [KStt.codes_length]; omega)); intro g9; k_dflt (refine lens_rest (by k_mem) (by with_reducible assumption) ?_ ?_); (intro y9 u9 I' oI' C' oC' D' m' ys' h' tk' E' hy9 hC' hx' F' N' off' ne'); (have hly9 := blk_mem_len (by with_reducible assumption) hy9); (simp only [LCg.Off3, and_true] at off'); rotate_left; (intro ys9 hys9; (have hlens := lens_ok (by with_reducible assumption) hys9); (have hll := hlens.len); dsimp only [LCg.FinE]; intro D9 h9 tk9 F9 N9 o9); rotate_left; all_goals (try k_fold))
  k_with "m:KCfEl" => (k_dflt (exact kcf_el rfl rfl rfl))
  k_with "m:subscriptTail" => (k_here; (with_reducible show wpAny _ _ (subscriptTail _ (PySem.Expr.UnaryOp _ _ _) (Value.ref _) (Value.int _ _)) _ _ _); k_dflt (refine' item_lastE ?hl ?hz ?_ ?hs; (case hl => exact News.isList (by k_asm) (by k_mem)); (case hz => exact LensOk.last (by with_reducible assumption) _); (case hs => with_unfolding_all rfl)); intro t9)
  k_with "m:subscriptTail" => (k_here; (with_reducible show wpAny _ _ (subscriptTail _ (PySem.Expr.Constant _ _ _) (Value.ref _) (Value.int _ _)) _ _ _); k_dflt (refine' item_headE ?hl ?hz ?_ ?hs; (case hl => exact News.isList (by k_asm) (by k_mem)); (case hz => exact LensOk.head (by with_reducible assumption) _); (case hs => with_unfolding_all rfl)); intro t9)
  k_with "m:execs cons" => (k_here; (with_reducible show wpAny _ _ (execs (Stmt.If _ _ _ ⟨359, _, _, _⟩ :: _) _) _ _ _); (fail_if_success (rename PrunedAt 359 => zP)); k_dflt (refine' prune3 ?F ?N ?_); (case F => k_asm); (case N => k_asm); (intro h9 tk9 F9 N9); (have zP := prunedAt 359))
  k_with "m:execs cons" => (k_here; (with_reducible show wpAny _ _ (execs (Stmt.Assign _ _ ⟨364, _, _, _⟩ :: _) _) _ _ _); (fail_if_success (rename PrunedAt 364 => zP)); k_dflt (refine' prune0 ?F ?_); (case F => k_asm); (intro h9 tk9 F9 N9); (have zP := prunedAt 364))
  k_with "m:execs cons" => (k_here; (with_reducible show wpAny _ _ (execs (Stmt.If _ _ _ ⟨365, _, _, _⟩ :: _) _) _ _ _); (fail_if_success (rename PrunedAt 365 => zP)); k_dflt (refine' prune0 ?F ?_); (case F => k_asm); (intro h9 tk9 F9 N9); (have zP := prunedAt 365))
  k_with "m:execs cons" => (k_here; (with_reducible show wpAny _ _ (execs (Stmt.If _ _ _ ⟨367, _, _, _⟩ :: _) _) _ _ _); (fail_if_success (rename PrunedAt 367 => zP)); k_dflt (refine' prune0 ?F ?_); (case F => k_asm); (intro h9 tk9 F9 N9); (have zP := prunedAt 367))
  k_with "m:execs cons" => (k_here; (with_reducible show wpAny _ _ (execs (Stmt.Assign _ _ ⟨369, _, _, _⟩ :: _) _) _ _ _); (fail_if_success (rename PrunedAt 369 => zP)); k_dflt (refine' prune0 ?F ?_); (case F => k_asm); (intro h9 tk9 F9 N9); (have zP := prunedAt 369))
  k_with "m:execs cons" => (k_here; (with_reducible show wpAny _ _ (execs (Stmt.If _ _ _ ⟨370, _, _, _⟩ :: _) _) _ _ _); (fail_if_success (rename PrunedAt 370 => zP)); k_dflt (refine' prune0 ?F ?_); (case F => k_asm); (intro h9 tk9 F9 N9); (have zP := prunedAt 370))
  k_with "m:execs cons" => (k_here; (with_reducible show wpAny _ _ (execs (Stmt.Return _ ⟨372, _, _, _⟩ :: _) _) _ _ _); (fail_if_success (rename PrunedAt 372 => zP)); k_dflt (refine' prune0 ?F ?_); (case F => k_asm); (intro h9 tk9 F9 N9); (have zP := prunedAt 372))
  k_with "m:exec For Name Call cons nil" => (k_here; (rename Fr _ _ _ _ => lF'); (with_unfolding_all refine' For_invVF lF' ?k1 ?k2 ?_; (case k1 => exact rfl); (case k2 => exact rfl); k_whole))
  k_with "m:exec For Name List cons nil" => (k_here; (rename Fr _ _ _ _ => lF'); (with_unfolding_all refine' For_invVF lF' ?k1 ?k2 ?_; (case k1 => exact rfl); (case k2 => exact rfl); k_whole))
  k_with "m:pyIter ref" => (k_here; (with_reducible show wpAny _ _ (pyIter (Value.ref _)) (fun it s₂ => LoopAtV _ _ _ _ _ _ _ _ _ it s₂) _ _); (rename Fr _ _ _ _ => lF'); (rename News _ _ _ _ => lN'); first | (k_dflt (refine idx_loop rfl (by k_mem) lF' lN' (by with_reducible assumption) (by with_reducible assumption) (by with_reducible assumption) (by with_reducible assumption) ?_ ?_); (all_goals clear lF' lN'); (intro j9 z9 tz9 h9 tk9 own9 hz9 hy9 hl9 ho9 F9 N9; dsimp only [List.cons_append, List.nil_append] at N9); rotate_left; (intro u9 h9 tk9 F9 N9); rotate_left; all_goals (try k_fold)) | ((rename IsRange _ _ _ _ _ _ _ _ => rgX); k_dflt (refine' at_loop rfl rgX ?h1 ?h2 ?h3 ?h4 lF' lN' ?_ ?_); (case h1 => omega); (case h2 => omega); (case h3 => omega); (case h4 => omega); (all_goals clear lF' lN' rgX); (intro j9 k9 t9 u9 h9 tk9 own9 ha9 hb9 ho9 F9 N9; (have hw1 := ws_1 (by with_reducible assumption) (by with_reducible assumption) ha9 hb9); (have hw2 := ws_2 (by with_reducible assumption) (by with_reducible assumption) ha9 hb9); (have hw3 := we_1 (by with_reducible assumption) (by with_reducible assumption) ha9 hb9); (have hw4 := we_2 (by with_reducible assumption) (by with_reducible assumption) ha9 hb9); dsimp only [List.cons_append, List.nil_append] at N9); rotate_left; (intro u9 h9 tk9 F9 N9); rotate_left; all_goals (try k_fold)) | ((rename StrsAre _ _ => lS'); k_dflt (refine' words_loop (by with_reducible assumption) lS' rfl lF' lN' ?hk ?_ ?_); (case hk => exact rfl); (all_goals clear lF' lN'); (intro i9 b9 tb9 x9 tx9 u9 h9 tk9 own9 hB9 hb9 hx9 hl9 he9 hr9 ho9 F9 N9); rotate_left; (intro tb9 u9 h9 tk9 F9 N9); rotate_left; all_goals (try k_fold)))
  k_with "m:InvEndN" => (k_here; (rename News _ _ _ _ => nE'); (rename Fr _ _ _ _ => fE'); first | (k_dflt (refine idxl_end fE' nE' (by kcf_all) (by kcf_all) rfl ?_); exact fun z h1 => if_neg h1) | (k_dflt (refine at_end fE' nE' (by kcf_all) (by kcf_all) rfl ?_); exact fun z h1 h2 => (if_neg h2).trans ((if_neg h1).trans (if_neg (notIdx h2)))) | (k_dflt (refine words_end fE' nE' rfl (by with_reducible assumption) (by k_mem) (by kcf_all) ?_); exact fun z h1 h2 h3 h4 h5 => (if_neg h2).trans ((if_neg h4).trans ((if_neg (notIdx h5)).trans ((if_neg h3).trans ((if_neg h1).trans ((if_neg h2).trans (if_neg (notStored h3 h4 h5)))))))))
  trivial
theorem words_right_c {w mean mg mb} {news : List (Addr × Obj)} {c : Str} {t u : Tok} {far : Int} (h : OkT c) (hf : 0 ≤ far) (hf2 : far < 20) :
    CbH 180 w mean mg mb 384 news [.str c t, .int far u] (RetV news fun _ => .bool true) := by
  have hlen := h.len
  have hq1 := ws_3 h hf hf2
  have hq2 := we_3 h hf hf2
  have hq3 := ws_4 h hf hf2
  have hq4 := we_4 h hf hf2
  have hq5 := last_rng (c := c)
  have hq6 := ahead_rng (c := c)
  ((try unfold Cb); (try unfold CbE); (try unfold CbG); (try unfold CbH); k_fill; (try dsimp only [RetV, RetT]); intros; rename_i s0 Q0 E0 B0 F0 X0 N0 T0 hk0 hd0 hu0 hret; refine wpAny_call ?_; k_dflt (refine' code_defP (mu := []) ?k1 ?k2 ?k3 ?k4 ?k5 ?kA ?kF ?kK ?k6 ?k7 ?k8 ?k9 ?kB ?_ ?c2 ?c3 ?c4 ?c5; (case kA => exact rfl); (case kF => exact rfl); (case kK => first | exact rfl | assumption); (case k1 => k_asm); (case k2 => k_asm); (case k4 => exact News.nil); (case k3 => k_asm); (case k5 => k_asm); (case k6 => k_is); (case k7 => k_is); (case k8 => ktr_room); (case k9 => exact BindsTo.of_eq rfl); (case c5 => decide); (case kB => exact locs rfl); (case c2 => exact rfl); (case c3 => exact rfl); (case c4 => exact rfl); k_whole; intro g' L' h' HG0 FG' F' N' B' X' T'; (try dsimp only); (try k_lift B'); (try k_fold)); (refine letA ?_); (intro kA); (replace F' : Fr g' L' h' (fun y => List.lookup y [(Str.ofString "far", _), (Str.ofString "text", _)]) := F'); (generalize Shared.toks _ + List.length _ = tk0))
  k_steps
  all_goals first | (exact absurd rfl (by assumption)) | ((refine cb_retB hret ?_ (by k_asm) (by exact newsKeep N0 HG0 (by k_asm))); rfl)
end

section
-- RR
open PySem PySem.W PyProof.Rows PySem.Calls PyProof.V PySem.Spec
open PySem.Challenge
set_option maxRecDepth 100000
set_option maxHeartbeats 400000
/-- a row stands in the ledger -/
structure RowOk (news : List (Addr × Obj)) (R : Addr) (c : Str) : Prop where
  ok : OkT c
  mem : ∃ (P A B : Addr) (n x1 y1 x2 y2 : Int) (tc tn t1 t2 t3 t4 : Tok) (k : Nat), (R, tupO [.str c tc, .int n tn, .ref P]) ∈ news ∧ (P, listOf #[.ref A, .ref B] k) ∈ news ∧ (A, tupO [.int x1 t1, .int y1 t2]) ∈ news ∧ (B, tupO [.int x2 t3, .int y2 t4]) ∈ news
section
variable {h₀ h g : Heap} {L : Addr} {news : List (Addr × Obj)} {pen : Addr} {o : Obj} {vs : Array Value}
/-- a tuple of the ledger stands in the ground of the callee -/
theorem tupG (N : News h₀ L h news) (HG : ∀ b o1, h.get? b = some o1 → b ∉ [(pen, o)].map (·.1) → g.get? b = some o1) (hp : (pen, o) ∈ news) (hc : o.cls = .type "list") {D : Addr} (hD : (D, ({ cls := .type "tuple", data := .seq vs } : Obj)) ∈ news) : IsTup g D vs := by
  refine ⟨_, HG _ _ (N _ hD).1 ?_, rfl, 0, rfl⟩
  intro hm
  have e : D = pen := by simpa using hm
  have h1 := (N _ hD).1
  have h2 := (N _ hp).1
  dsimp only at h1 h2
  rw [e, h2] at h1
  have := Option.some.inj h1
  rw [this] at hc
  simp at hc
theorem lstG (N : News h₀ L h news) (HG : ∀ b o1, h.get? b = some o1 → b ∉ [(pen, o)].map (·.1) → g.get? b = some o1) (hp : (pen, o) ∈ news) {D : Addr} {k : Nat} (hne : o ≠ listOf vs k) (hD : (D, listOf vs k) ∈ news) : g.IsList D vs := by
  refine ⟨_, HG _ _ (N _ hD).1 ?_, rfl, k, rfl⟩
  intro hm
  have e : D = pen := by simpa using hm
  have h1 := (N _ hD).1
  have h2 := (N _ hp).1
  dsimp only at h1 h2
  rw [e, h2] at h1
  exact hne (Option.some.inj h1)
end
noncomputable abbrev rLed (a : Addr × Obj) (I : Addr) (b d : Addr × Obj) (pen : Addr) (us : List Value) (k : Nat) (v : Int) (t : Tok) (n : Nat) : List (Addr × Obj) := [a, (I, listOf us.toArray k), b, d, (pen, penO v t n)]
noncomputable abbrev RS := List Value × Nat × Int × Tok × Nat
noncomputable abbrev rStored : List Str := [Str.ofString "head", Str.ofString "step"]
noncomputable def RowEnd (a : Addr × Obj) (I : Addr) (b d : Addr × Obj) (pen : Addr) (m₀ : Str → Option Value) (j : Nat) : (Str → Option Value) → List (Addr × Obj) → Prop := KstS (σ := RS) (fun c => rLed a I b d pen c.1 c.2.1 c.2.2.1 c.2.2.2.1 c.2.2.2.2) (fun _ => []) (fun _ => True) (Str.ofString "k") rStored m₀ (fun pre c => c.1.length = pre.length ∧ ∀ v ∈ c.1, ∃ (i : Str) (t : Tok), v = .str i t ∧ i.length ≤ 100) (rangeKs 0 j)
section
variable {prog : Program} {w : World} {A : Around} {E : Value → Shared → Prop} {s : Shared} {env : Env} {h₀ : Heap} {body : List Stmt} {Q : Flow → Shared → Prop} {m₀ : Str → Option Value} {pen I : Addr} {a b d : Addr × Obj} {v : Int} {t : Tok} {n : Nat}
theorem row_loop {r : Addr} {e : Int} {t₀ u₀ v₀ : Tok} (hh : A.handled = none) (hr : IsRange s.heap r 0 e 1 t₀ u₀ v₀) (h0 : 0 ≤ e) (hb : e < 3) (F : Fr h₀ env.locals s.heap m₀) (N : News h₀ env.locals s.heap (rLed a I b d pen [] 0 v t n))
    (turn : ∀ (j : Nat) (k : Int) (tk' : Tok) (us : List Value) (uk : Nat) (v' : Int) (t' : Tok) (n' : Nat) (u : Str → Option Value) h tk own, 0 ≤ k → k < 2 → us.length = j → us.length ≤ 2 → (∀ v ∈ us, ∃ (i : Str) (t : Tok), v = .str i t ∧ i.length ≤ 100) → OwnOff own [a.1, I, b.1, d.1, pen] →
      Fr h₀ env.locals h (fun y => if y = Str.ofString "k" then some (.int k tk') else if rStored.contains y then u y else m₀ y) → News h₀ env.locals h (a :: (I, listOf us.toArray uk) :: b :: d :: (pen, penO v' t' n') :: own) →
      wpAny (model prog w) A (execs body env) (InvPostN h₀ env.locals (RowEnd a I b d pen m₀ (j + 1)) own [a.1, I, b.1, d.1, pen] { s with heap := h, toks := tk } Q) E { s with heap := h, toks := tk })
    (done : ∀ (us : List Value) (uk : Nat) (v' : Int) (t' : Tok) (n' : Nat) (u : Str → Option Value) h tk, IdxL us → us.length ≤ 2 → Fr h₀ env.locals h (fun y => if y = Str.ofString "k" then u y else if rStored.contains y then u y else m₀ y) → News h₀ env.locals h (rLed a I b d pen us uk v' t' n') → Q .next { s with heap := h, toks := tk }) :
    wpAny (model prog w) A (pyIter (.ref r)) (fun it s₂ => LoopAtV prog w A h₀ env (Str.ofString "k") body Q E it s₂) E s := by
  refine kst_range (σ := RS) (n := (e - 0).toNat) (fun c => rLed a I b d pen c.1 c.2.1 c.2.2.1 c.2.2.2.1 c.2.2.2.2) (fun _ => []) (fun _ => True) rStored (fun pre c => c.1.length = pre.length ∧ ∀ v ∈ c.1, ∃ (i : Str) (t : Tok), v = .str i t ∧ i.length ≤ 100) ([], 0, v, t, n) hh hr (small_one (by omega) (by omega) (by omega) (by omega)) (rangeSize_nat 0 e) F N trivial (fun _ h => nomatch h) ⟨rfl, fun _ h => nomatch h⟩ ?_ ?_
  · rintro ⟨us, uk, v', t', n'⟩ pre k t u h tk own hk hn ho - hp F N
    dsimp only at hp F N
    have := turn pre.length k t us uk v' t' n' u h tk own (by omega) (by omega) hp.1 (by omega) hp.2 ho F N
    unfold RowEnd at this
    refine wpAny_mono this (fun f s₂ p => ?_) fun _ _ e => e
    have up : InvEndN h₀ env.locals (KstS (σ := RS) (fun c => rLed a I b d pen c.1 c.2.1 c.2.2.1 c.2.2.2.1 c.2.2.2.2) (fun _ => []) (fun _ => True) (Str.ofString "k") rStored m₀ (fun pre c => c.1.length = pre.length ∧ ∀ v ∈ c.1, ∃ (i : Str) (t : Tok), v = .str i t ∧ i.length ≤ 100) (rangeKs 0 (pre.length + 1))) own [a.1, I, b.1, d.1, pen] { s with heap := h, toks := tk } s₂ →
        InvEndN h₀ env.locals (KstS (σ := RS) (fun c => rLed a I b d pen c.1 c.2.1 c.2.2.1 c.2.2.2.1 c.2.2.2.2) (fun _ => []) (fun _ => True) (Str.ofString "k") rStored m₀ (fun pre c => c.1.length = pre.length ∧ ∀ v ∈ c.1, ∃ (i : Str) (t : Tok), v = .str i t ∧ i.length ≤ 100) (pre ++ [k])) own [a.1, I, b.1, d.1, pen] { s with heap := h, toks := tk } s₂ := by
      rintro ⟨h', tk', m', news', nx', e', F', N', hn', ho', ha, c', e1, e2, e3, e4, e5⟩
      refine ⟨h', tk', m', news', nx', e', F', N', hn', ho', ha, c', e1, e2, e3, e4, ?_, e5.2⟩
      rw [e5.1, rangeKs_length]
      simp
    cases f with
    | ret v => exact p
    | brk => exact p
    | next => exact up p
    | cont => exact up p
  · rintro ⟨us, uk, v', t', n'⟩ u h tk - hp F N
    dsimp only at hp F N
    have h1 := hp.1
    rw [rangeKs_length] at h1
    exact done us uk v' t' n' u h tk ⟨by omega, hp.2⟩ (by omega) F N
theorem row_end {L : Addr} {h' : Heap} {m' : Str → Option Value} {own : List (Addr × Obj)} {s₁ : Shared} {tk j uk : Nat} {us : List Value} {i : Str} {ti : Tok} {xs : List (Addr × Obj)} (F : Fr h₀ L h' m') (N : News h₀ L h' xs) (hsub : ∀ p ∈ a :: (I, listOf (us.toArray.push (.str i ti)) uk) :: b :: d :: (pen, penO v t n) :: own, p ∈ xs) (hj : us.length = j) (hus : ∀ v ∈ us, ∃ (i : Str) (t : Tok), v = .str i t ∧ i.length ≤ 100) (hi : i.length ≤ 100)
    (hr : ∀ z, z ≠ Str.ofString "k" → z ≠ Str.ofString "head" → z ≠ Str.ofString "step" → m' z = m₀ z) : InvEndN h₀ L (RowEnd a I b d pen m₀ (j + 1)) own [a.1, I, b.1, d.1, pen] s₁ { s₁ with heap := h', toks := tk } := by
  rw [List.push_toArray] at hsub
  refine kst_end (σ := RS) (us ++ [Value.str i ti], uk, v, t, n) F N (fun p hp => hsub p (List.mem_append_left own hp)) (fun p hp => hsub p (List.mem_append_right (rLed a I b d pen (us ++ [Value.str i ti]) uk v t n) hp)) rfl trivial (fun _ h => nomatch h) (fun z h1 _ h3 => hr z h1 ?_ ?_) ⟨by show (us ++ [_]).length = (rangeKs 0 (j + 1)).length; rw [rangeKs_length, List.length_append, hj]; rfl, fun v hv => ?_⟩
  · rintro rfl; exact absurd h3 (by decide)
  · rintro rfl; exact absurd h3 (by decide)
  · rcases List.mem_append.mp hv with hv | hv
    · exact hus v hv
    · rw [List.mem_singleton.mp hv]; exact ⟨i, ti, rfl, hi⟩
end
theorem notHS {z : Str} (h1 : z ≠ Str.ofString "head") (h2 : z ≠ Str.ofString "step") : ¬ rStored.contains z = true := by simp [h1, h2]
theorem newsUpdT {A₀ : Around} {base h₀ h₀' g₀ g gX h h' : Heap} {L L' a pen : Addr} {outer : List Env} {cn : Str} {cs : Scope} {ccd : Value} {m' : Str → Option Value} {o o' : Obj} {news : List (Addr × Obj)} {gf : Obj → List (Addr × Obj)} (U : UpdF pen o news gf) (B : Below A₀ base outer h₀) (N : News h₀ L h news)
    (HG : ∀ b o1, h.get? b = some o1 → b ∉ [(pen, o)].map (·.1) → g.get? b = some o1) (T0 : KtsTurn (frs outer) g₀ h₀) (TT : KtsTurn (frs (envOf cn cs L a ccd :: outer)) g gX) (F' : Fr gX L' h' m') (kT : KtsTurn (frs outer) g₀ h₀') (kP : News h₀' L h' [(pen, o')]) : News h₀' L h' (gf o') := by
  obtain ⟨pre, post, rfl, hg, a, b⟩ := U.split
  rw [hg o']
  have old : ∀ q ∈ pre ++ (pen, o) :: post, q.1 ≠ pen → h'.get? q.1 = some q.2 ∧ q.1 ≠ L ∧ h₀'.get? q.1 = none := fun q hq hne => by
    have hN := N q hq
    refine ⟨F'.keep _ _ (TT.other _ _ (HG _ _ hN.1 (by simpa using hne)) fun z => ?_), hN.2.1, kT.none_ _ ?_⟩
    · rcases kts_mem z with z | z
      · exact hN.2.1 z
      · obtain ⟨_, o, ho, _⟩ := B.frames.mem z
        rw [hN.2.2] at ho
        cases ho
    · cases q1 : g₀.get? q.1 with
      | none => rfl
      | some o =>
        obtain ⟨sl, hs⟩ := T0.up q1
        rw [hN.2.2] at hs
        cases hs
  intro q hq
  rcases List.mem_append.mp hq with hq | hq
  · exact old q (List.mem_append_left _ hq) (a q hq)
  rcases List.mem_cons.mp hq with rfl | hq
  · exact kP _ (.head _)
  · exact old q (List.mem_append_right _ (.tail _ hq)) (b q hq)
theorem IdxL.at {us : List Value} {i : Nat} {v : Value} (h : IdxL us) (hv : us[i]? = some v) : ∃ (x : Str) (t : Tok), v = .str x t ∧ x.length ≤ 100 := h.2 v (List.mem_of_getElem? hv)
theorem idxSplit {c : Str} (_h : OkT c) (i : Str) : (∃ v, idxF i (c.length - 1) = some v) ∨ ∃ msg ecs, idxBad i (c.length - 1) = some (msg, ecs) := idx_or i _
theorem cmdAt2 {a b : Tok} {i : Nat} {v : Value} (h : [Value.str sWs a, .str sWe b][i]? = some v) : ∃ cmd t, v = .str cmd t ∧ (cmd = sWs ∨ cmd = sWe) := by
  match i, h with
  | 0, h => exact ⟨_, _, (Option.some.inj h).symm, .inl rfl⟩
  | 1, h => exact ⟨_, _, (Option.some.inj h).symm, .inr rfl⟩
noncomputable abbrev rLast : List Str := [Str.ofString "fault", Str.ofString "command"]
theorem notFC {z : Str} (h : rLast.contains z = false) : z ≠ Str.ofString "fault" ∧ z ≠ Str.ofString "command" := ⟨fun e => by subst e; exact absurd h (by decide), fun e => by subst e; exact absurd h (by decide)⟩
theorem consNo {z : Str} {x : List Str} (h : x.contains z = false) : ¬ x.contains z = true := by rw [h]; decide
end

section
-- RO
open PySem PySem.W PyProof.Rows
theorem kwn_RO : True := by
  k_with_none
  w_top off
  trivial
theorem kwo_RO : True := by
  k_with "m:omega" => first | with_reducible assumption | decide | with_reducible exact Int.le_refl _ | with_reducible exact Nat.le_refl _ | with_reducible exact rm_u2 | with_reducible exact rm_d2 | with_reducible exact rm_u1 | with_reducible exact rm_d1 | with_reducible exact rm_u0 | with_reducible exact rm_d0 | with_reducible exact n_up | with_reducible exact q_o | with_reducible exact q_c1 | with_reducible exact q_c2 | with_reducible exact q_c3 | with_reducible exact q_c4 | with_reducible exact q_n1 | with_reducible exact q_n2 | with_reducible exact q_n3 | with_reducible exact q_l1 | with_reducible exact q_l2 | with_reducible exact q_t1 | with_reducible exact q_t2 | with_reducible exact q_t3 | with_reducible exact q_t4 | with_reducible exact q_t5 | ((with_reducible show _ ≠ _); first | k_extra "P" | (refine Ne.symm ?_; k_extra "P") | (refine Nat.ne_of_lt ?_; k_extra "P") | (refine Nat.ne_of_gt ?_; k_extra "P"))
  k_with "P" => first | with_reducible assumption | with_reducible exact And.left (by with_reducible assumption) | with_reducible exact And.right (by with_reducible assumption) | with_reducible exact q_r (by with_reducible assumption) | with_reducible exact q_s (by with_reducible assumption) | with_reducible exact q_t (by with_reducible assumption) | with_reducible exact q_u (by with_reducible assumption)
  k_with "m:eval Call" => (k_here; k_dflt (first | ((with_reducible show wpAny _ _ (eval (.Call (.Name (Str.ofString "len") _) [.Name _ _] [] _) _) _ _ _); refine len_nm (q := ?_)) | ((with_reducible show wpAny _ _ (eval (.Call (.Name (Str.ofString "len") _) [_] [] _) _) _ _ _); refine callLen (h := ?_)) | ((with_reducible show wpAny _ _ (eval (.Call (.Name (Str.ofString "str") _) [_] [] _) _) _ _ _); refine callStr (h := ?_)) | ((with_reducible show wpAny _ _ (eval (.Call (.Name _ _) [_] [] _) _) _ _ _); refine callK1 (h := ?_)) | ((with_reducible show wpAny _ _ (eval (.Call (.Name _ _) [_, _] [] _) _) _ _ _); refine callK2 (h := ?_)) | ((with_reducible show wpAny _ _ (eval (.Call (.Name _ _) [_, _, _] [] _) _) _ _ _); refine callK3 (h := ?_))); k_whole)
  k_with "m:eval Constant int" => (k_here; k_dflt (refine cInt ?_); k_whole)
  k_with "m:eval Constant str" => (k_here; k_dflt (refine cStr ?_); k_whole)
  k_with "m:storeName" => (k_here; k_dflt (refine storeS (q := ?_)); k_whole; intro h' F' N'; (try k_sweep))
  k_with "m:binaryOp Add int int" => (k_here; k_dflt (refine addS ?_); k_whole)
  k_with "m:binaryOp Sub int int" => (k_here; k_dflt (refine subS ?_); k_whole)
  k_with "m:call builtin:len" => (k_here; (with_reducible show wpAny _ _ (call _ [.str _ _]) _ _ _); k_dflt (refine lenS (q := ?_)); k_whole)
  k_with "m:newList" => (k_here; k_dflt (refine lstS (q := ?_) (by first | exact Nat.le_of_ble_eq_true rfl | size_fits)); k_whole; intro l' h' F' N' l1; (try k_lt l1); (try k_sweep))
  k_with "m:execs cons" => (k_here; k_dflt (first | ((with_reducible show wpAny _ _ (execs (.Assign [.Name _ _] _ _ :: _) _) _ _ _); refine sAsg ?_ (Eq.refl true)) | ((with_reducible show wpAny _ _ (execs (.Return (some _) _ :: _) _) _ _ _); refine sRet ?_) | ((with_reducible show wpAny _ _ (execs (.If _ [.Return (some _) _] [] _ :: _) _) _ _ _); refine sIfR ?_) | ((with_reducible show wpAny _ _ (execs (.If _ _ [] _ :: _) _) _ _ _); refine sIf1 ?_)); k_whole)
  k_with "m:eval Tuple" => (k_here; first | ((with_reducible show wpAny _ _ (eval (.Tuple [.Constant (.str _) _ _, .Constant (.str _) _ _] _ _) _) _ _ _); k_dflt (refine tupSS (q := ?_)); k_whole; intro D' h' F' N' l1; (try k_lt l1)) | ((with_reducible show wpAny _ _ (eval (.Tuple [_, _] _ _) _) _ _ _); k_dflt (refine tup2 ?_ (Eq.refl true) (Eq.refl true)); k_whole))
  k_with "m:eval List" => (k_here; k_dflt (first | ((with_reducible show wpAny _ _ (eval (.List [_] _) _) _ _ _); refine lst1 ?_ (Eq.refl true)) | ((with_reducible show wpAny _ _ (eval (.List [_, _] _) _) _ _ _); refine lst2 ?_ (Eq.refl true) (Eq.refl true)) | ((with_reducible show wpAny _ _ (eval (.List [_, _, _] _) _) _ _ _); refine lst3 ?_ (Eq.refl true) (Eq.refl true) (Eq.refl true)) | ((with_reducible show wpAny _ _ (eval (.List [_, _, _, _] _) _) _ _ _); refine lst4 ?_ (Eq.refl true) (Eq.refl true) (Eq.refl true) (Eq.refl true))); k_whole)
  k_with "m:eval BinOp" => (k_here; k_dflt (first | ((with_reducible show wpAny _ _ (eval (.BinOp (.Name _ _) _ (.Name _ _) _) _) _ _ _); refine bNN (q := ?_)) | ((with_reducible show wpAny _ _ (eval (.BinOp (.Name _ _) _ (.Constant (.int _) _ _) _) _) _ _ _); refine bNC (q := ?_)) | ((with_reducible show wpAny _ _ (eval (.BinOp (.Name _ _) _ _ _) _) _ _ _); refine bN (q := ?_))); k_whole)
  k_with "m:isTrue Compare" => (k_here; k_dflt (first | ((with_reducible show wpAny _ _ (isTrue (.Compare (.Name _ _) [_] [(.Name _ _)] _) _ _) _ _ _); refine cNN (q := ?_)) | ((with_reducible show wpAny _ _ (isTrue (.Compare (.Name _ _) [_] [(.Constant (.int _) _ _)] _) _ _) _ _ _); refine cNC (q := ?_)) | ((with_reducible show wpAny _ _ (isTrue (.Compare (.Name _ _) [_] [_] _) _ _) _ _ _); refine cN (q := ?_))); k_whole)
  k_with "m:eval Subscript" => (k_here; k_dflt (first | ((with_reducible show wpAny _ _ (eval (.Subscript (.Name _ _) (.Name _ _) _) _) _ _ _); refine gNN (q := ?_)) | ((with_reducible show wpAny _ _ (eval (.Subscript (.Name _ _) (.Constant (.int _) _ _) _) _) _ _ _); refine gNC (q := ?_)) | ((with_reducible show wpAny _ _ (eval (.Subscript (.Name _ _) _ _) _) _ _ _); refine gN (q := ?_))); k_whole)
  trivial
open PySem.Challenge
set_option maxRecDepth 100000
set_option maxHeartbeats 2000000
theorem ok_1 : OkT (Str.ofString "Za b_7-Z") := by unfold OkT; decide +kernel
theorem ok_2 : OkT (Str.ofString "aZZ") := by unfold OkT; decide +kernel
theorem ok_3 : OkT (Str.ofString "éÉßΣ") := by unfold OkT; decide +kernel
theorem ok_4 : OkT (Str.ofString "bÉZ-") := by unfold OkT; decide +kernel
theorem ok_5 : OkT (Str.ofString "") := by unfold OkT; decide +kernel
theorem ok_6 : OkT (Str.ofString "a\n中Z") := by unfold OkT; decide +kernel
theorem ok_7 : OkT (Str.ofString "Σσ a") := by unfold OkT; decide +kernel
theorem ok_8 : OkT (Str.ofString "__ --") := by unfold OkT; decide +kernel
theorem ok_9 : OkT (Str.ofString "Z-é中7") := by unfold OkT; decide +kernel
noncomputable def RowAt (nr : List (Addr × Obj)) (v : Value) : Prop := ∃ R c, v = .ref R ∧ RowOk nr R c
theorem rowAt {nr : List (Addr × Obj)} {R : Addr} {c : Str} (ok : OkT c) (mem : ∃ (P A B : Addr) (n x1 y1 x2 y2 : Int) (tc tn t1 t2 t3 t4 : Tok) (k : Nat), (R, tupO [.str c tc, .int n tn, .ref P]) ∈ nr ∧ (P, listOf #[.ref A, .ref B] k) ∈ nr ∧ (A, tupO [.int x1 t1, .int y1 t2]) ∈ nr ∧ (B, tupO [.int x2 t3, .int y2 t4]) ∈ nr) : RowAt nr (.ref R) := ⟨R, c, rfl, ok, mem⟩
/-- the rows come back -/
noncomputable abbrev RetRows (news : List (Addr × Obj)) (h₀ : Heap) (L : Addr) (m : Str → Option Value) (s : Shared) (Q : Value → Shared → Prop) : Prop :=
  ∀ (D : Addr) (vs : List Value) (nr : List (Addr × Obj)) (h' : Heap) (tk' : Nat), Fr h₀ L h' m → News h₀ L h' (news ++ nr) → (D, listOf vs.toArray 0) ∈ nr → vs.length = 9 → (∀ v ∈ vs, RowAt nr v) → Q (.ref D) { s with heap := h', toks := tk' }
theorem newsApp {h₀ h : Heap} {L : Addr} {a b : List (Addr × Obj)} (Na : News h₀ L h a) (Nb : News h₀ L h b) : News h₀ L h (a ++ b) := fun q hq => (List.mem_append.mp hq).elim (Na q) (Nb q)
theorem RowOk.mono {nr news : List (Addr × Obj)} {R : Addr} {c : Str} (h : RowOk nr R c) (hs : ∀ p ∈ nr, p ∈ news) : RowOk news R c := by
  obtain ⟨ok, P, A, B, n, x1, y1, x2, y2, tc, tn, t1, t2, t3, t4, k, h1, h2, h3, h4⟩ := h
  exact ⟨ok, P, A, B, n, x1, y1, x2, y2, tc, tn, t1, t2, t3, t4, k, hs _ h1, hs _ h2, hs _ h3, hs _ h4⟩
theorem rowUp {own nr : List (Addr × Obj)} {v : Value} (r : RowAt own v) (hs : ∀ p ∈ own, p ∈ nr) : RowAt nr v := Exists.elim r fun R r => Exists.elim r fun c r => ⟨R, c, r.1, r.2.mono hs⟩
/-- one row's display -/
theorem row_eval {prog : Program} {w : World} {A : Around} {env : Env} {Q E : Value → Shared → Prop} {s : Shared} {h₀ : Heap} {L : Addr} {m : Str → Option Value} {news : List (Addr × Obj)} {c : Str} {n x1 y1 x2 y2 : Int} {k1 k2 k3 k4 k5 k6 k7 k8 k10 : Nat} {p1 p2 p3 p4 p5 p6 p7 p8 p9 p10 : Pos} (ok : OkT c) (F : Fr h₀ L s.heap m) (N : News h₀ L s.heap news)
    (h : ∀ R own h' tk', Fr h₀ L h' m → News h₀ L h' (own ++ news) → RowAt own (.ref R) → Q (.ref R) { s with heap := h', toks := tk' }) :
    wpAny (model prog w) A (eval (.Tuple [.Constant (.str c) k1 p1, .Constant (.int n) k2 p2, .List [.Tuple [.Constant (.int x1) k3 p3, .Constant (.int y1) k4 p4] k5 p5, .Tuple [.Constant (.int x2) k6 p6, .Constant (.int y2) k7 p7] k8 p8] p9] k10 p10) env) Q E s := by
  k_steps
  exact h _ [_, _, _, _] _ _ (by k_asm) (by k_asm) (rowAt ok ⟨_, _, _, _, _, _, _, _, _, _, _, _, _, _, _, by k_mem, by k_mem, by k_mem, by k_mem⟩)
theorem kw_RO_1 : True := by
  k_with "m:eval Tuple" => (k_here; (with_reducible show wpAny _ _ (eval (PySem.Expr.Tuple [_, _, PySem.Expr.List _ _] _ _) _) _ _ _); refine' row_eval ?ok ?F ?N ?_; (case ok => first | with_reducible exact ok_1 | with_reducible exact ok_2 | with_reducible exact ok_3 | with_reducible exact ok_4 | with_reducible exact ok_5 | with_reducible exact ok_6 | with_reducible exact ok_7 | with_reducible exact ok_8 | with_reducible exact ok_9); (case F => k_asm); (case N => k_asm); intro R9 o9 h9 tk9 F9 N9 r9)
  trivial
theorem rows_c {w mean mg mb} {news : List (Addr × Obj)} : CbH 2 w mean mg mb 290 news [] (RetRows news) := by
  ((try unfold Cb); (try unfold CbE); (try unfold CbG); (try unfold CbH); k_fill; (try dsimp only [RetV, RetT]); intros; rename_i s0 Q0 E0 B0 F0 X0 N0 T0 hk0 hd0 hu0 hret; refine wpAny_call ?_; k_dflt (refine' code_defP (mu := []) ?k1 ?k2 ?k3 ?k4 ?k5 ?kA ?kF ?kK ?k6 ?k7 ?k8 ?k9 ?kB ?_ ?c2 ?c3 ?c4 ?c5; (case kA => exact rfl); (case kF => exact rfl); (case kK => first | exact rfl | assumption); (case k1 => k_asm); (case k2 => k_asm); (case k4 => exact News.nil); (case k3 => k_asm); (case k5 => k_asm); (case k6 => k_is); (case k7 => k_is); (case k8 => ktr_room); (case k9 => exact BindsTo.of_eq rfl); (case c5 => decide); (case kB => exact locs rfl); (case c2 => exact rfl); (case c3 => exact rfl); (case c4 => exact rfl); k_whole; intro g' L' h' HG0 FG' F' N' B' X' T'; (try dsimp only); (try k_lift B'); (try k_fold)))
  k_steps
  refine hret _ _ _ _ _ (by k_asm) (newsApp (newsKeep N0 HG0 (by k_asm)) (by k_asm)) (.head _) rfl ?_
  repeat (refine List.forall_mem_cons.mpr ⟨rowUp (by with_reducible assumption) (fun p hp => .tail _ (by repeat (first | exact List.mem_append_left _ hp | refine List.mem_append_right _ ?_))), ?_⟩)
  exact List.forall_mem_nil _
end

section
-- RR2
open PySem PySem.W PyProof.Rows PySem.Calls PyProof.V PySem.Spec
theorem kwn_RR2 : True := by
  k_with_none
  w_top off
  trivial
theorem kwo_RR2 : True := by
  k_with "m:omega" => first | with_reducible assumption | decide | with_reducible exact Int.le_refl _ | with_reducible exact Nat.le_refl _ | with_reducible exact rm_u2 | with_reducible exact rm_d2 | with_reducible exact rm_u1 | with_reducible exact rm_d1 | with_reducible exact rm_u0 | with_reducible exact rm_d0 | with_reducible exact n_up | with_reducible exact q_o | with_reducible exact q_c1 | with_reducible exact q_c2 | with_reducible exact q_c3 | with_reducible exact q_c4 | with_reducible exact q_n1 | with_reducible exact q_n2 | with_reducible exact q_n3 | with_reducible exact q_l1 | with_reducible exact q_l2 | with_reducible exact q_t1 | with_reducible exact q_t2 | with_reducible exact q_t3 | with_reducible exact q_t4 | with_reducible exact q_t5 | ((with_reducible show _ ≠ _); first | k_extra "P" | (refine Ne.symm ?_; k_extra "P") | (refine Nat.ne_of_lt ?_; k_extra "P") | (refine Nat.ne_of_gt ?_; k_extra "P"))
  k_with "P" => first | with_reducible assumption | with_reducible exact And.left (by with_reducible assumption) | with_reducible exact And.right (by with_reducible assumption) | with_reducible exact q_r (by with_reducible assumption) | with_reducible exact q_s (by with_reducible assumption) | with_reducible exact q_t (by with_reducible assumption) | with_reducible exact q_u (by with_reducible assumption)
  k_with "D" => ((try simp +zetaDelta only [depth_in1, depth_deeper]); (try dsimp only [ktrTop]); omega)
  k_with "U" => ((try simp +zetaDelta only [units_in1, units_deeper, Around.mark_units]); (try dsimp only [ktrTop]); omega)
  k_with "K5" => ((case k1 => k_asm); (case k2 => k_asm); (case k3 => k_asm); (case k4 => k_asm); (case k5 => k_asm))
  k_with "S" => first | with_reducible assumption | exact .inl rfl | exact .inr (.inl rfl) | exact .inr (.inr rfl) | exact .inr rfl | omega | k_mem | fail | (simp only [PySem.Str.length_append, KOpn.len_one]; omega) | assumption
  k_with "m:eval Call" => (k_here; k_dflt (first | ((with_reducible show wpAny _ _ (eval (.Call (.Name (Str.ofString "len") _) [.Name _ _] [] _) _) _ _ _); refine len_nm (q := ?_)) | ((with_reducible show wpAny _ _ (eval (.Call (.Name (Str.ofString "len") _) [_] [] _) _) _ _ _); refine callLen (h := ?_)) | ((with_reducible show wpAny _ _ (eval (.Call (.Name (Str.ofString "str") _) [_] [] _) _) _ _ _); refine callStr (h := ?_)) | ((with_reducible show wpAny _ _ (eval (.Call (.Name _ _) [_] [] _) _) _ _ _); refine callK1 (h := ?_)) | ((with_reducible show wpAny _ _ (eval (.Call (.Name _ _) [_, _] [] _) _) _ _ _); refine callK2 (h := ?_)) | ((with_reducible show wpAny _ _ (eval (.Call (.Name _ _) [_, _, _] [] _) _) _ _ _); refine callK3 (h := ?_))); k_whole)
  k_with "m:eval Constant int" => (k_here; k_dflt (refine cInt ?_); k_whole)
  k_with "m:eval Constant str" => (k_here; k_dflt (refine cStr ?_); k_whole)
  k_with "m:storeName" => (k_here; k_dflt (refine storeS (q := ?_)); k_whole; intro h' F' N'; (try k_sweep))
  k_with "m:binaryOp Add int int" => (k_here; k_dflt (refine addS ?_); k_whole)
  k_with "m:binaryOp Sub int int" => (k_here; k_dflt (refine subS ?_); k_whole)
  k_with "m:call builtin:len" => (k_here; (with_reducible show wpAny _ _ (call _ [.str _ _]) _ _ _); k_dflt (refine lenS (q := ?_)); k_whole)
  k_with "m:newList" => (k_here; k_dflt (refine lstS (q := ?_) (by first | exact Nat.le_of_ble_eq_true rfl | size_fits)); k_whole; intro l' h' F' N' l1; (try k_lt l1); (try k_sweep))
  k_with "m:execs cons" => (k_here; k_dflt (first | ((with_reducible show wpAny _ _ (execs (.Assign [.Name _ _] _ _ :: _) _) _ _ _); refine sAsg ?_ (Eq.refl true)) | ((with_reducible show wpAny _ _ (execs (.Return (some _) _ :: _) _) _ _ _); refine sRet ?_) | ((with_reducible show wpAny _ _ (execs (.If _ [.Return (some _) _] [] _ :: _) _) _ _ _); refine sIfR ?_) | ((with_reducible show wpAny _ _ (execs (.If _ _ [] _ :: _) _) _ _ _); refine sIf1 ?_)); k_whole)
  k_with "m:eval Tuple" => (k_here; first | ((with_reducible show wpAny _ _ (eval (.Tuple [.Constant (.str _) _ _, .Constant (.str _) _ _] _ _) _) _ _ _); k_dflt (refine tupSS (q := ?_)); k_whole; intro D' h' F' N' l1; (try k_lt l1)) | ((with_reducible show wpAny _ _ (eval (.Tuple [_, _] _ _) _) _ _ _); k_dflt (refine tup2 ?_ (Eq.refl true) (Eq.refl true)); k_whole))
  k_with "m:eval List" => (k_here; k_dflt (first | ((with_reducible show wpAny _ _ (eval (.List [_] _) _) _ _ _); refine lst1 ?_ (Eq.refl true)) | ((with_reducible show wpAny _ _ (eval (.List [_, _] _) _) _ _ _); refine lst2 ?_ (Eq.refl true) (Eq.refl true)) | ((with_reducible show wpAny _ _ (eval (.List [_, _, _] _) _) _ _ _); refine lst3 ?_ (Eq.refl true) (Eq.refl true) (Eq.refl true)) | ((with_reducible show wpAny _ _ (eval (.List [_, _, _, _] _) _) _ _ _); refine lst4 ?_ (Eq.refl true) (Eq.refl true) (Eq.refl true) (Eq.refl true))); k_whole)
  k_with "m:eval BinOp" => (k_here; k_dflt (first | ((with_reducible show wpAny _ _ (eval (.BinOp (.Name _ _) _ (.Name _ _) _) _) _ _ _); refine bNN (q := ?_)) | ((with_reducible show wpAny _ _ (eval (.BinOp (.Name _ _) _ (.Constant (.int _) _ _) _) _) _ _ _); refine bNC (q := ?_)) | ((with_reducible show wpAny _ _ (eval (.BinOp (.Name _ _) _ _ _) _) _ _ _); refine bN (q := ?_))); k_whole)
  k_with "m:isTrue Compare" => (k_here; k_dflt (first | ((with_reducible show wpAny _ _ (isTrue (.Compare (.Name _ _) [_] [(.Name _ _)] _) _ _) _ _ _); refine cNN (q := ?_)) | ((with_reducible show wpAny _ _ (isTrue (.Compare (.Name _ _) [_] [(.Constant (.int _) _ _)] _) _ _) _ _ _); refine cNC (q := ?_)) | ((with_reducible show wpAny _ _ (isTrue (.Compare (.Name _ _) [_] [_] _) _ _) _ _ _); refine cN (q := ?_))); k_whole)
  k_with "m:eval Subscript" => (k_here; k_dflt (first | ((with_reducible show wpAny _ _ (eval (.Subscript (.Name _ _) (.Name _ _) _) _) _ _ _); refine gNN (q := ?_)) | ((with_reducible show wpAny _ _ (eval (.Subscript (.Name _ _) (.Constant (.int _) _ _) _) _) _ _ _); refine gNC (q := ?_)) | ((with_reducible show wpAny _ _ (eval (.Subscript (.Name _ _) _ _) _) _ _ _); refine gN (q := ?_))); k_whole)
  trivial
open PySem.Challenge
set_option maxRecDepth 100000
set_option maxHeartbeats 2000000
/-- the row is right, the pen moved on -/
noncomputable abbrev RetR (g : Obj → List (Addr × Obj)) (h₀ : Heap) (L : Addr) (m : Str → Option Value) (s : Shared) (Q : Value → Shared → Prop) : Prop :=
  ∀ (v' : Int) (t1 : Tok) (n' : Nat) (h' : Heap) (tk' : Nat), Fr h₀ L h' m → News h₀ L h' (g (penO v' t1 n')) → Q (.bool true) { s with heap := h', toks := tk' }
theorem pen_ne {v : Int} {t : Tok} {n k : Nat} {a b : Value} : penO v t n ≠ listOf #[a, b] k := fun e => by
  have := congrArg Obj.data e
  simp [W.listOf] at this
theorem neA1 {a D : Addr} {o : Obj} (h : ∀ p ∈ [(a, o)], p.1 ≠ D) : @Ne Nat a D := h _ (.head _)
theorem neA2 {a b D : Addr} {o o' : Obj} (h : ∀ p ∈ [(a, o), (b, o')], p.1 ≠ D) : (@Ne Nat a D) ∧ (@Ne Nat b D) := ⟨h _ (.head _), h _ (.tail _ (.head _))⟩
theorem kw_RR2_1 : True := by
  k_with "m:call ref" => (k_here; (with_reducible show wpAny _ _ (call (Value.ref 332) _) _ _ _); k_dflt (refine' turned_c ?hc0 ?hc1 _ _ _ _ _ _ _ _ _ _ _ _ _ _ _ _ ?k1 ?k2 ?k3 ?k4 ?k5 ?kK ?kd ?ku ?_); k_extra "K5"; (case kK => first | exact rfl | assumption); (case hc0 => first | k_updF | (k_extra "S")); (case hc1 => first | k_updF | (k_extra "S")); (case kd => (k_extra "D")); (case ku => (k_extra "U")); intro made9 v9 ta9 tb9 n9 h9 tk9 hok9 F9 N9; (try dsimp only); ((have hlm9 := OkT.len hok9); (try dsimp only at N9)); (all_goals (try k_fold)))
  k_with "m:call ref" => (k_here; (with_reducible show wpAny _ _ (call (Value.ref 311) _) _ _ _); k_dflt (refine' heads_c  _ _ _ _ _ _ _ _ _ _ _ _ _ _ _ _ ?k1 ?k2 ?k3 ?k4 ?k5 ?kK ?kd ?ku ?_); k_extra "K5"; (case kK => first | exact rfl | assumption); (case kd => (k_extra "D")); (case ku => (k_extra "U")); intro D9 vs9 h9 tk9 F9 N9 SH9 ne9; (try dsimp only); (have nx9 := neA1 ne9); (all_goals (try k_fold)))
  k_with "m:call ref" => (k_here; (with_reducible show wpAny _ _ (call (Value.ref 318) _) _ _ _); k_dflt (refine' steps_c  _ _ _ _ _ _ _ _ _ _ _ _ _ _ _ _ ?k1 ?k2 ?k3 ?k4 ?k5 ?kK ?kd ?ku ?_); k_extra "K5"; (case kK => first | exact rfl | assumption); (case kd => (k_extra "D")); (case ku => (k_extra "U")); intro D9 vs9 h9 tk9 F9 N9 SS9 ne9; (try dsimp only); (have nx9 := neA2 ne9); (all_goals (try k_fold)))
  k_with "m:call ref" => (k_here; (with_reducible show wpAny _ _ (call (Value.ref 325) _) _ _ _); k_dflt (refine' draw_c ?hc0 ?hc1 ?hc2 _ _ _ _ _ _ _ _ _ _ _ _ _ _ _ _ ?k1 ?k2 ?k3 ?k4 ?k5 ?kK ?kd ?ku ?_); k_extra "K5"; (case kK => first | exact rfl | assumption); (case hc0 => first | k_updF | (k_extra "S")); (case hc1 => first | k_updF | (k_extra "S")); (case hc2 => first | k_updF | (k_extra "S")); (case kd => (k_extra "D")); (case ku => (k_extra "U")); intro ta9 tb9 n9 h9 tk9 F9 N9; (try dsimp only); (try dsimp only at N9); (all_goals (try k_fold)))
  k_with "m:call ref" => (k_here; (with_reducible show wpAny _ _ (call (Value.ref 372) _) _ _ _); k_dflt (refine' case_any_c ?hc0 ?hc1 ?hc2 _ _ _ _ _ _ _ _ _ _ _ _ _ _ _ _ _ ?k1 ?k2 ?k3 ?k4 ?k5 ?kXB ?kTB ?kD ?kT ?kK ?kd ?ku ?_; k_extra "K5"; (case kXB => k_asm); (case kTB => k_asm); (case kD => k_asm); (case kT => first | k_asm | exact KtsTurn.refl); (case kK => first | exact rfl | assumption); (case hc0 => k_extra "S"); (case hc1 => k_extra "S"); (case hc2 => k_extra "S"); (case kd => (k_extra "D")); (case ku => (k_extra "U")); intro g9 kt9 B9 X9 T9 D9; intro t9 h9 tk9 F9 N9; (try dsimp only); (try k_lift B9); (skip); (all_goals (try k_fold))))
  k_with "m:call ref" => (k_here; (with_reducible show wpAny _ _ (call (Value.ref 384) _) _ _ _); k_dflt (refine' words_right_c ?hc0 ?hc1 ?hc2 _ _ _ _ _ _ _ _ _ _ _ _ _ _ _ _ ?k1 ?k2 ?k3 ?k4 ?k5 ?kK ?kd ?ku ?_); k_extra "K5"; (case kK => first | exact rfl | assumption); (case hc0 => first | exact fmod_lo _ (by decide) | exact fmod_hi _ (by decide) | (k_extra "S")); (case hc1 => first | exact fmod_lo _ (by decide) | exact fmod_hi _ (by decide) | (k_extra "S")); (case hc2 => first | exact fmod_lo _ (by decide) | exact fmod_hi _ (by decide) | (k_extra "S")); (case kd => (k_extra "D")); (case ku => (k_extra "U")); intro t9 h9 tk9 F9 N9; (try dsimp only); (skip); (all_goals (try k_fold)))
  k_with "m:subscriptTail Name Constant ref int" => (k_here; (with_reducible show wpAny _ _ (subscriptTail _ _ (Value.ref _) (Value.int _ _)) _ _ _); k_dflt (refine item_tupleT (tupKeep (by with_reducible assumption) (by k_asm)) (by decide) (by decide) (by first | exact (rfl : _ = some 0) | exact (rfl : _ = some 1) | exact (rfl : _ = some 2)) (by first | exact (rfl : _ = some (Value.str _ _)) | exact (rfl : _ = some (Value.ref _)) | exact (rfl : _ = some (Value.int _ _))) ?_))
  k_with "m:call type:range" => (k_here; (rename Fr _ _ _ _ => F'); (rename News _ _ _ _ => N'); (with_unfolding_all refine range1_rows F' N' ?_); intro _ _ _ _ _ _ _ _ _)
  k_with "m:exec For Name Call cons nil" => (k_here; (rename Fr _ _ _ _ => lF'); (with_unfolding_all refine' For_invVF lF' ?k1 ?k2 ?_; (case k1 => exact rfl); (case k2 => exact rfl); k_whole))
  k_with "m:pyIter ref" => (k_here; (with_reducible show wpAny _ _ (pyIter (Value.ref _)) (fun it s₂ => LoopAtV _ _ _ _ _ _ _ _ _ it s₂) _ _); (rename Fr _ _ _ _ => lF'); (rename News _ _ _ _ => lN'); (rename IsRange _ _ _ _ _ _ _ _ => rgX); k_dflt (refine row_loop rfl rgX (fmod_lo _ (by decide)) (fmod_hi _ (by decide)) lF' lN' ?_ ?_); (all_goals clear lF' lN' rgX); (intro j9 k9 t9 us9 uk9 v9 tv9 n9 u9 h9 tk9 own9 ha9 hb9 hj9 hl9 hu9 ho9 F9 N9); rotate_left; (intro us9 uk9 v9 tv9 n9 u9 h9 tk9 hU9 hl9 F9 N9; dsimp only [rLed] at N9); rotate_left; all_goals (try k_fold))
  k_with "m:subscriptTail Name Name ref int" => (k_here; (with_reducible show wpAny _ _ (subscriptTail _ _ (Value.ref _) (Value.int _ _)) _ _ _); k_dflt (refine item_pair (Fr.lst (by k_asm) (by with_reducible assumption)) (by with_reducible assumption) (by with_reducible assumption) (by with_reducible assumption) (by with_reducible assumption) ?_); intro T9 x9 y9 tx9 ty9 hT9)
  k_with "m:subscriptTail Name BinOp ref int" => (k_here; (with_reducible show wpAny _ _ (subscriptTail _ _ (Value.ref _) (Value.int _ _)) _ _ _); k_dflt (first | refine item_strs (News.isList (by k_asm) (by k_mem)) (by with_reducible assumption) heads_ok (fmod_lo _ (by decide)) (fmod_hi _ (by decide)) (by decide) ?_ | refine item_strs (News.isList (by k_asm) (by k_mem)) (by with_reducible assumption) steps_ok (fmod_lo _ (by decide)) (fmod_hi _ (by decide)) (by decide) ?_); intro x9 tx9 hx9)
  k_with "m:assign Tuple" => (k_here; (with_reducible show wpAny _ _ (assign (Expr.Tuple _ _ _) _ (Value.ref _)) _ _ _); k_dflt (refine' unpackN_ ?k1 ?k2 ?k3 ?k4 ?k5 ?k6 ?_; (case k1 => k_asm); (case k2 => k_asm); (case k3 => exact tupKeep (by with_reducible assumption) (by k_asm)); (case k4 => exact rfl); (case k5 => exact rfl); (case k6 => exact rfl); k_whole); intro h' F' N'; (try k_sweep))
  k_with "m:unpackItems ref" => (k_here; k_dflt (refine' unpackItemsN_ ?k1 ?k2 ?k3 ?k4 ?k5 ?_; (case k1 => k_asm); (case k2 => k_asm); (case k3 => exact tupKeep (by with_reducible assumption) (by k_asm)); (case k4 => exact rfl); (case k5 => exact rfl); k_whole); intro h' F' N'; (try k_sweep))
  k_with "m:InvEndN" => (k_here; (rename News _ _ _ _ => nE'); (rename Fr _ _ _ _ => fE'); k_dflt (refine row_end fE' nE' (by kcf_all) (by with_reducible assumption) (by with_reducible assumption) (by omega) ?_); exact fun z h1 h2 h3 => (if_neg h3).trans ((if_neg h2).trans ((if_neg h1).trans (if_neg (notHS h2 h3)))))
  k_with "m:call ref" => (k_here; (with_reducible show wpAny _ _ (call (Value.ref 353) _) _ _ _); k_dflt (refine' lawindex_good_c ?hc0 ?hc1 _ _ _ _ _ _ _ _ _ _ _ _ _ _ _ _ ?k1 ?k2 ?k3 ?k4 ?k5 ?kK ?kd ?ku ?_); k_extra "K5"; (case kK => first | exact rfl | assumption); (case hc0 => k_extra "S"); (case hc1 => k_extra "S"); (case kd => (k_extra "D")); (case ku => (k_extra "U")); intro D9 U9 t9 h9 tk9 F9 N9 ne9 nf9 ng9; (try dsimp only); (skip); (all_goals (try k_fold)))
  k_with "m:call ref" => (k_here; (with_reducible show wpAny _ _ (call (Value.ref 353) _) _ _ _); k_dflt (refine' lawindex_bad_c ?hc0 ?hc1 _ _ _ _ _ _ _ _ _ _ _ _ _ _ _ _ _ ?k1 ?k2 ?k3 ?k4 ?k5 ?kXB ?kTB ?kD ?kT ?kK ?kd ?ku ?_; k_extra "K5"; (case kXB => k_asm); (case kTB => k_asm); (case kD => k_asm); (case kT => first | k_asm | exact KtsTurn.refl); (case kK => first | exact rfl | assumption); (case hc0 => k_extra "S"); (case hc1 => k_extra "S"); (case kd => (k_extra "D")); (case ku => (k_extra "U")); intro g9 kt9 B9 X9 T9 D9; intro D9 U9 ec9 t9 ta9 tb9 tc9 tv9 n9 h9 tk9 F9 N9 S9 ne9 nf9 ng9 nh9 ni9 nj9; (try dsimp only); (try k_lift B9); (skip); (all_goals (try k_fold))))
  k_with "m:call ref" => (k_here; (with_reducible show wpAny _ _ (call (Value.ref 346) _) _ _ _); k_dflt (refine' heard_w_bad ?hc0 ?hc1 ?hc2 ?hc3 ?hc4 _ _ _ _ _ _ _ _ _ _ _ _ _ _ _ _ _ ?k1 ?k2 ?k3 ?k4 ?k5 ?kXB ?kTB ?kD ?kT ?kK ?kd ?ku ?_; k_extra "K5"; (case kXB => k_asm); (case kTB => k_asm); (case kD => k_asm); (case kT => first | k_asm | exact KtsTurn.refl); (case kK => first | exact rfl | assumption); (case hc0 => k_extra "S"); (case hc1 => k_extra "S"); (case hc2 => k_extra "S"); (case hc3 => k_extra "S"); (case hc4 => k_extra "S"); (case kd => (k_extra "D")); (case ku => (k_extra "U")); intro g9 kt9 B9 X9 T9 D9; intro D9 ec9 ta9 tb9 tc9 tv9 n9 h9 tk9 F9 N9 S9 nd9 ne9 nf9; (try dsimp only); (try k_lift B9); (skip); (all_goals (try k_fold))))
  k_with "m:compareOp NotEq ref ref" => (k_here; k_dflt (first | refine nn_nil (News.isTup (by k_asm) (by k_mem)) (News.isTup (by k_asm) (by k_mem)) (by (k_extra "U")) ?_ | refine ne_nil (News.isTup (by k_asm) (by k_mem)) (News.isTup (by k_asm) (by k_mem)) (List.cons_ne_nil _ _) (by (k_extra "U")) ?_ | refine ne_gave (News.isTup (by k_asm) (by k_mem)) (News.isTup (by k_asm) (by k_mem)) (by (k_extra "U")) ?_ | refine ne_fault (News.isTup (by k_asm) (by k_mem)) (News.isTup (by k_asm) (by k_mem)) (News.isTup (by k_asm) (by k_mem)) (News.isTup (by k_asm) (by k_mem)) (by with_reducible assumption) (by with_reducible assumption) (by (k_extra "U")) (by first | with_reducible assumption | exact neOf (by with_reducible assumption) (by k_mem) | exact neN (by omega)) ?_))
  k_with "m:subscriptTail Call Constant ref int" => (k_here; (with_reducible show wpAny _ _ (subscriptTail _ _ (Value.ref _) (Value.int _ _)) _ _ _); k_dflt (refine item_tupleT (News.isTup (by k_asm) (by k_mem)) (by decide) (by decide) (by first | exact (rfl : _ = some 0) | exact (rfl : _ = some 1)) (by first | exact (rfl : _ = some (Value.str _ _)) | exact (rfl : _ = some (Value.ref _)) | exact (rfl : _ = some (Value.int _ _))) ?_))
  k_with "m:exec For Name Name cons nil" => (k_here; k_dflt (refine For_turn rLast (by k_asm) (by k_asm) (by first | k_asm | exact KtsTurn.refl) rfl rfl ?_))
  k_with "m:exec For Name List cons nil" => (k_here; k_dflt (refine For_turn [] (by k_asm) (by k_asm) (by first | k_asm | exact KtsTurn.refl) rfl rfl ?_))
  k_with "m:TLoop" => (k_here; k_dflt (refine tloop (by k_asm) (by k_asm) (by k_asm) (by k_asm) (by k_asm) (by k_asm) (by first | k_asm | exact KtsTurn.refl) rfl (by k_mem) ?_ ?_); (intro i9 v9 u9 g9 h9 tk9 I9 oI9 hv9 G9 F9 N9 o9; (obtain ⟨kt9, B9, X9, T9', D9⟩ := G9); dsimp only [List.cons_append, List.nil_append] at N9; first | ((obtain ⟨cmd9, t9, ev9, hcmd9⟩ := cmdAt2 hv9); subst ev9) | ((obtain ⟨ix9, tx9, ev9, hi9⟩ := IdxL.at (by with_reducible assumption) hv9); subst ev9; rcases idxSplit (by with_reducible assumption) ix9 with ⟨w9, hw9⟩ | ⟨msg9, ecs9, hb9⟩)); rotate_right; (intro u9 g9 h9 tk9 G9 F9 N9; obtain ⟨kt9, B9, X9, T9', D9⟩ := G9); rotate_left; all_goals (try k_fold))
  k_with "m:TPost" => (k_here; first | k_dflt (exact tpost (by first | exact .inl rfl | exact .inr rfl) (by k_asm) (by k_asm) (by k_asm) (by k_asm) (by k_asm) (by k_asm) (by k_asm) (by kcf_all) (fun z h1 h3 => (if_neg h1).trans (if_neg (consNo h3)))) | k_dflt (exact tpost (by first | exact .inl rfl | exact .inr rfl) (by k_asm) (by k_asm) (by k_asm) (by k_asm) (by k_asm) (by k_asm) (by k_asm) (by kcf_all) (fun z h1 h3 => (if_neg (notFC h3).2).trans ((if_neg (show ¬ ([] : List Str).contains z = true from Bool.false_ne_true)).trans ((if_neg (notFC h3).1).trans ((if_neg h1).trans (if_neg (consNo h3))))))))
  trivial
theorem row_right_c {w mean mg mb} {news : List (Addr × Obj)} {g : Obj → List (Addr × Obj)} {pen R : Addr} {v : Int} {t : Tok} {n : Nat} {c : Str} (U : UpdF pen (penO v t n) news g) (hR : RowOk news R c) :
    CbT 200 w mean mg mb 391 news [.ref R, .ref pen] (RetR g) := by
  have hl : (pen, penO v t n) ∈ news := by
    obtain ⟨pre, post, e, _⟩ := U.split
    rw [e]
    exact List.mem_append_right _ (.head _)
  obtain ⟨hok, P, A, B, n0, x1, y1, x2, y2, tc, tn, t1, t2, t3, t4, k, hm1, hm2, hm3, hm4⟩ := hR
  have hlen := hok.len
  ((try unfold CbT); k_fill; intros; rename_i s0 Q0 E0 B0 F0 X0 N0 T0 XB0 TB0 KD0 KT0 hk0 hd0 hu0 hret; refine wpAny_call ?_; k_dflt (refine' code_defT ?k1 ?k2 ?k3 ?k4 ?k5 ?XB ?TB ?D ?T0 ?kA ?k6 ?k7 ?k8 ?k9 ?kB ?_ ?cK ?c2 ?c3 ?c4 ?c5; (case kA => exact rfl); (case k2 => k_asm); (case k1 => k_asm); (case XB => assumption); (case TB => assumption); (case D => assumption); (case T0 => assumption); (case k3 => k_asm); (case k4 => exact newsSub N0 hl); (case k5 => k_asm); (case k6 => k_is); (case k7 => k_is); (case k8 => ktr_room); (case k9 => exact BindsTo.of_eq rfl); (case kB => exact locs rfl); (case cK => first | exact rfl | assumption); (case c2 => exact rfl); (case c3 => exact rfl); (case c4 => exact rfl); (case c5 => decide); k_whole; intro g' L' h' HG0 FG' F' N' B' X' T' D'; (try dsimp only); (try k_lift B'); (try k_fold)); (refine letA ?_); (intro kA); (replace F' : Fr g' L' h' (fun y => List.lookup y [(Str.ofString "pen", _), (Str.ofString "row", _)]) := F'); (generalize Shared.toks _ + List.length _ = tk0))
  have hg1 := tupG N0 HG0 hl rfl hm1
  have hg2 := lstG N0 HG0 hl pen_ne hm2
  have hg3 := tupG N0 HG0 hl rfl hm3
  have hg4 := tupG N0 HG0 hl rfl hm4
  k_steps
  all_goals first
    | (rename_i kg kT kF kN kB kX0 kP kD kX
       exact hret kg kT kB kX0 kP kD _ _ _ _ _ kF (newsUpdT U B0 N0 HG0 KT0 (by k_asm) (by k_asm) kT (newsSub kN (by k_mem))))
end

section
-- WA
open PySem PySem.W PyProof.Rows
theorem kwn_WA : True := by
  k_with_none
  w_top off
  trivial
theorem kwo_WA : True := by
  k_with "m:omega" => first | with_reducible assumption | decide | with_reducible exact Int.le_refl _ | with_reducible exact Nat.le_refl _ | with_reducible exact rm_u2 | with_reducible exact rm_d2 | with_reducible exact rm_u1 | with_reducible exact rm_d1 | with_reducible exact rm_u0 | with_reducible exact rm_d0 | with_reducible exact n_up | with_reducible exact q_o | with_reducible exact q_c1 | with_reducible exact q_c2 | with_reducible exact q_c3 | with_reducible exact q_c4 | with_reducible exact q_n1 | with_reducible exact q_n2 | with_reducible exact q_n3 | with_reducible exact q_l1 | with_reducible exact q_l2 | with_reducible exact q_t1 | with_reducible exact q_t2 | with_reducible exact q_t3 | with_reducible exact q_t4 | with_reducible exact q_t5 | ((with_reducible show _ ≠ _); first | k_extra "P" | (refine Ne.symm ?_; k_extra "P") | (refine Nat.ne_of_lt ?_; k_extra "P") | (refine Nat.ne_of_gt ?_; k_extra "P"))
  k_with "P" => first | with_reducible assumption | with_reducible exact And.left (by with_reducible assumption) | with_reducible exact And.right (by with_reducible assumption) | with_reducible exact q_r (by with_reducible assumption) | with_reducible exact q_s (by with_reducible assumption) | with_reducible exact q_t (by with_reducible assumption) | with_reducible exact q_u (by with_reducible assumption)
  k_with "D" => ((try simp +zetaDelta only [depth_in1, depth_deeper]); (try dsimp only [ktrTop]); omega)
  k_with "U" => ((try simp +zetaDelta only [units_in1, units_deeper, Around.mark_units]); (try dsimp only [ktrTop]); omega)
  k_with "K5" => ((case k1 => k_asm); (case k2 => k_asm); (case k3 => k_asm); (case k4 => k_asm); (case k5 => k_asm))
  k_with "S" => first | with_reducible assumption | exact .inl rfl | exact .inr (.inl rfl) | exact .inr (.inr rfl) | exact .inr rfl | omega | k_mem | fail | (simp only [PySem.Str.length_append, KOpn.len_one]; omega) | assumption
  k_with "m:eval Call" => (k_here; k_dflt (first | ((with_reducible show wpAny _ _ (eval (.Call (.Name (Str.ofString "len") _) [.Name _ _] [] _) _) _ _ _); refine len_nm (q := ?_)) | ((with_reducible show wpAny _ _ (eval (.Call (.Name (Str.ofString "len") _) [_] [] _) _) _ _ _); refine callLen (h := ?_)) | ((with_reducible show wpAny _ _ (eval (.Call (.Name (Str.ofString "str") _) [_] [] _) _) _ _ _); refine callStr (h := ?_)) | ((with_reducible show wpAny _ _ (eval (.Call (.Name _ _) [_] [] _) _) _ _ _); refine callK1 (h := ?_)) | ((with_reducible show wpAny _ _ (eval (.Call (.Name _ _) [_, _] [] _) _) _ _ _); refine callK2 (h := ?_)) | ((with_reducible show wpAny _ _ (eval (.Call (.Name _ _) [_, _, _] [] _) _) _ _ _); refine callK3 (h := ?_))); k_whole)
  k_with "m:eval Constant int" => (k_here; k_dflt (refine cInt ?_); k_whole)
  k_with "m:eval Constant str" => (k_here; k_dflt (refine cStr ?_); k_whole)
  k_with "m:storeName" => (k_here; k_dflt (refine storeS (q := ?_)); k_whole; intro h' F' N'; (try k_sweep))
  k_with "m:binaryOp Add int int" => (k_here; k_dflt (refine addS ?_); k_whole)
  k_with "m:binaryOp Sub int int" => (k_here; k_dflt (refine subS ?_); k_whole)
  k_with "m:call builtin:len" => (k_here; (with_reducible show wpAny _ _ (call _ [.str _ _]) _ _ _); k_dflt (refine lenS (q := ?_)); k_whole)
  k_with "m:newList" => (k_here; k_dflt (refine lstS (q := ?_) (by first | exact Nat.le_of_ble_eq_true rfl | size_fits)); k_whole; intro l' h' F' N' l1; (try k_lt l1); (try k_sweep))
  k_with "m:execs cons" => (k_here; k_dflt (first | ((with_reducible show wpAny _ _ (execs (.Assign [.Name _ _] _ _ :: _) _) _ _ _); refine sAsg ?_ (Eq.refl true)) | ((with_reducible show wpAny _ _ (execs (.Return (some _) _ :: _) _) _ _ _); refine sRet ?_) | ((with_reducible show wpAny _ _ (execs (.If _ [.Return (some _) _] [] _ :: _) _) _ _ _); refine sIfR ?_) | ((with_reducible show wpAny _ _ (execs (.If _ _ [] _ :: _) _) _ _ _); refine sIf1 ?_)); k_whole)
  k_with "m:eval Tuple" => (k_here; first | ((with_reducible show wpAny _ _ (eval (.Tuple [.Constant (.str _) _ _, .Constant (.str _) _ _] _ _) _) _ _ _); k_dflt (refine tupSS (q := ?_)); k_whole; intro D' h' F' N' l1; (try k_lt l1)) | ((with_reducible show wpAny _ _ (eval (.Tuple [_, _] _ _) _) _ _ _); k_dflt (refine tup2 ?_ (Eq.refl true) (Eq.refl true)); k_whole))
  k_with "m:eval List" => (k_here; k_dflt (first | ((with_reducible show wpAny _ _ (eval (.List [_] _) _) _ _ _); refine lst1 ?_ (Eq.refl true)) | ((with_reducible show wpAny _ _ (eval (.List [_, _] _) _) _ _ _); refine lst2 ?_ (Eq.refl true) (Eq.refl true)) | ((with_reducible show wpAny _ _ (eval (.List [_, _, _] _) _) _ _ _); refine lst3 ?_ (Eq.refl true) (Eq.refl true) (Eq.refl true)) | ((with_reducible show wpAny _ _ (eval (.List [_, _, _, _] _) _) _ _ _); refine lst4 ?_ (Eq.refl true) (Eq.refl true) (Eq.refl true) (Eq.refl true))); k_whole)
  k_with "m:eval BinOp" => (k_here; k_dflt (first | ((with_reducible show wpAny _ _ (eval (.BinOp (.Name _ _) _ (.Name _ _) _) _) _ _ _); refine bNN (q := ?_)) | ((with_reducible show wpAny _ _ (eval (.BinOp (.Name _ _) _ (.Constant (.int _) _ _) _) _) _ _ _); refine bNC (q := ?_)) | ((with_reducible show wpAny _ _ (eval (.BinOp (.Name _ _) _ _ _) _) _ _ _); refine bN (q := ?_))); k_whole)
  k_with "m:isTrue Compare" => (k_here; k_dflt (first | ((with_reducible show wpAny _ _ (isTrue (.Compare (.Name _ _) [_] [(.Name _ _)] _) _ _) _ _ _); refine cNN (q := ?_)) | ((with_reducible show wpAny _ _ (isTrue (.Compare (.Name _ _) [_] [(.Constant (.int _) _ _)] _) _ _) _ _ _); refine cNC (q := ?_)) | ((with_reducible show wpAny _ _ (isTrue (.Compare (.Name _ _) [_] [_] _) _ _) _ _ _); refine cN (q := ?_))); k_whole)
  k_with "m:eval Subscript" => (k_here; k_dflt (first | ((with_reducible show wpAny _ _ (eval (.Subscript (.Name _ _) (.Name _ _) _) _) _ _ _); refine gNN (q := ?_)) | ((with_reducible show wpAny _ _ (eval (.Subscript (.Name _ _) (.Constant (.int _) _ _) _) _) _ _ _); refine gNC (q := ?_)) | ((with_reducible show wpAny _ _ (eval (.Subscript (.Name _ _) _ _) _) _ _ _); refine gN (q := ?_))); k_whole)
  trivial
open PySem.Challenge
set_option maxRecDepth 100000
set_option maxHeartbeats 2000000
noncomputable def usageMsg (us : Str) : Str := Str.ofString "wrong # args: should be \"" ++ us ++ Str.ofString "\""
noncomputable abbrev waCodes : List Str := [Str.ofString "TCL", Str.ofString "WRONGARGS"]
/-- an exception stands, its dict and its code's tuple in the ledger -/
noncomputable abbrev RetW (news : List (Addr × Obj)) (msg : Str) (ecs : List Str) (h₀ : Heap) (L : Addr) (m : Str → Option Value) (s : Shared) (Q : Value → Shared → Prop) : Prop :=
  ∀ (e d ec : Addr) (es : List DictEntry) (n n' : Nat) (vs : Array Value) (t1 t2 : Tok) (tv : List Value) (h' : Heap) (tk' : Nat), Fr h₀ L h' m → News h₀ L h' ((d, dictOf es n) :: (ec, { cls := .type "tuple", data := .seq tv.toArray n' }) :: news) → h'.get? e = some (excObj d vs) → vs[1]? = some .none → h₀.get? e = none →
    (∀ q ∈ (d, dictOf es n) :: (ec, ({ cls := .type "tuple", data := .seq tv.toArray n' } : Obj)) :: news, q.1 ≠ e) → e ≠ L →
    getL "code" es = some (some (.int 1 t1)) → getL "value" es = some (some (.str msg t2)) → getL "errorcode" es = some (some (.ref ec)) → StrsAre tv ecs → Q (.ref e) { s with heap := h', toks := tk' }
theorem kw_WA_1 : True := by
  k_with "m:call ref" => (k_here; (with_reducible show wpAny _ _ (call (Value.ref 45) _) _ _ _); k_dflt (refine' error_c  _ _ _ _ _ _ _ _ _ _ _ _ _ _ _ _ _ ?k1 ?k2 ?k3 ?k4 ?k5 ?kK ?kd ?ku ?_); k_extra "K5"; (case kK => first | exact rfl | assumption); (case kd => (k_extra "D")); (case ku => (k_extra "U")); intro e9 d9 es9 n9 vs9 t19 t29 h9 tk9 F9 N9 he9 hv9 hg9 hn9 hL9 g19 g29 g39; (try dsimp only); (skip); (all_goals (try k_fold)))
  trivial
theorem fresh_of {h₀ g : Heap} {L e : Addr} {m : Str → Option Value} (hg : g.get? e = none) (FG : Fr h₀ L g m) : h₀.get? e = none ∧ e ≠ L := by
  obtain ⟨oL, lx, ep, hL, r⟩ := FG.ns
  exact ⟨none_back FG.keep hg, fun q => by rw [q, hL] at hg; cases hg⟩
theorem wrong_args_c {w mean mg mb} {news : List (Addr × Obj)} {us : Str} {t : Tok} (hu : us.length ≤ 1000) : CbG 110 w mean mg mb 52 news [.str us t] (RetW news (usageMsg us) waCodes) := by
  ((try unfold Cb); unfold CbG; k_fill; (try dsimp only [RetV, RetT]); intros; rename_i hret; refine wpAny_call ?_; k_dflt cell_enter; (refine letA ?_); (intro kA); (rename Fr _ _ _ _ => sF); (first | replace sF : Fr _ _ _ (fun y => List.lookup y [(Str.ofString "usage", _)]) := sF | replace sF : Fr _ _ _ (fun y => List.lookup y [(Str.ofString "usage", _)]) := sF); (generalize Shared.toks _ + List.length _ = tk0); k_steps)
  rename _ = some (excObj _ _) => he9
  rename _ = none => hg9
  exact hret _ _ _ _ _ 0 _ _ _ [_, _] _ _ (by k_asm) (by k_asm) he9 (by with_reducible assumption) (fresh_of hg9 (by with_reducible assumption)).1 (by with_reducible assumption) (fresh_of hg9 (by with_reducible assumption)).2 (by with_reducible assumption) (by assumption) (by with_reducible assumption) (.cons _ _ (.cons _ _ .nil))
theorem lenCast (l : List Value) : ((l.toArray.size : Nat) : Int) = (l.length : Int) := by rw [List.size_toArray]
theorem kw_WA_2 : True := by
  k_with "m:call ref" => (k_here; (with_reducible show wpAny _ _ (call (Value.ref 52) _) _ _ _); k_dflt (refine' wrong_args_c ?hc0 _ _ _ _ _ _ _ _ _ _ _ _ _ _ _ _ _ ?k1 ?k2 ?k3 ?k4 ?k5 ?kK ?kd ?ku ?_); k_extra "K5"; (case kK => first | exact rfl | assumption); (case hc0 => first | decide | (k_extra "S")); (case kd => (k_extra "D")); (case ku => (k_extra "U")); intro e9 d9 ec9 es9 n9 nn9 vs9 t19 t29 tv9 h9 tk9 F9 N9 he9 hv9 hg9 hn9 hL9 g19 g29 g39 S9; (try dsimp only); (skip); (all_goals (try k_fold)))
  k_with "m:exec Raise some none" => (k_here; refine Raise_inst rfl ?_)
  k_with "m:call builtin:len" => (k_here; (with_reducible show wpAny _ _ (call (Value.builtin "len") [Value.ref _]) _ _ _); k_dflt (refine' kun_lenL ?k1 ?k2 ?k3 ?_; (case k1 => exact News.isList (by k_asm) (by with_reducible assumption)); (case k2 => exact lenCast _); (case k3 => omega); k_whole))
  trivial
noncomputable abbrev RetNo (h₀ : Heap) (L : Addr) (m : Str → Option Value) (s : Shared) (Q : Value → Shared → Prop) : Prop := False → (Fr h₀ L s.heap m ∧ Q .none s)
theorem span_bad_c {w mean mg mb} {news : List (Addr × Obj)} {ws : Addr} {vs : List Value} {n : Nat} {us : Str} {tu : Tok}
    (hl : (ws, ({ cls := .type "list", data := .seq vs.toArray n } : Obj)) ∈ news) (hk : vs.length < 3 ∨ 5 < vs.length) (hk2 : vs.length ≤ 100) (hu : us.length ≤ 900) :
    CbE 130 w mean mg mb 262 news [.ref ws, .str us tu] RetNo (some (usageMsg us, waCodes)) := by
  unfold CbE
  k_fill
  intros
  rename_i hret herr
  refine wpAny_call ?_
  k_dflt cell_enter
  ((rename Fr _ _ _ _ => sF); (first | replace sF : Fr _ _ _ (fun y => List.lookup y [(Str.ofString "usage", _), (Str.ofString "words", _)]) := sF | replace sF : Fr _ _ _ (fun y => List.lookup y [(Str.ofString "words", _), (Str.ofString "usage", _)]) := sF); (generalize Shared.toks _ + List.length _ = tk0))
  ((refine letA ?_); (intro kA))
  k_steps
  all_goals first | (refine ⟨_, _, _, rfl, (by with_reducible assumption), rfl, rfl, (by with_reducible assumption), Frag.In.keeps (by k_asm) (Fr.keep (by k_asm)), ?_⟩; k_unfold; (try dsimp only); refine leave_first (by k_asm) (by k_asm) (by k_asm) (by with_reducible assumption) (by with_reducible assumption) (by with_reducible assumption) rfl (by with_reducible assumption) (fun hX rX uX => ?_) rfl; exact herr _ _ rfl _ _ _ _ _ _ _ _ _ _ _ _ _ (by k_asm) (rX.drop2 (fun q hq => by first | exact hq | exact .tail _ hq | exact .tail _ (.tail _ hq))) uX (by with_reducible assumption) (by with_reducible assumption) (by with_reducible assumption) (by with_reducible assumption)) | (exfalso; omega)
theorem wordstart_bad_c {w mean mg mb} {news : List (Addr × Obj)} {ws : Addr} {vs : List Value} {n : Nat}
    (hl : (ws, ({ cls := .type "list", data := .seq vs.toArray n } : Obj)) ∈ news) (hk : vs.length < 4 ∨ 4 < vs.length) (hk2 : vs.length ≤ 100) :
    CbE 140 w mean mg mb 255 news [.none, .ref ws] RetNo (some (usageMsg (Str.ofString "string wordstart string index"), waCodes)) := by
  unfold CbE
  k_fill
  intros
  rename_i hret herr
  refine wpAny_call ?_
  k_dflt cell_enter
  ((rename Fr _ _ _ _ => sF); (first | replace sF : Fr _ _ _ (fun y => List.lookup y [(Str.ofString "words", _), (Str.ofString "host", _)]) := sF | replace sF : Fr _ _ _ (fun y => List.lookup y [(Str.ofString "host", _), (Str.ofString "words", _)]) := sF); (generalize Shared.toks _ + List.length _ = tk0))
  ((refine letA ?_); (intro kA))
  k_steps
  all_goals first | (refine ⟨_, _, _, rfl, (by with_reducible assumption), rfl, rfl, (by with_reducible assumption), Frag.In.keeps (by k_asm) (Fr.keep (by k_asm)), ?_⟩; k_unfold; (try dsimp only); refine leave_first (by k_asm) (by k_asm) (by k_asm) (by with_reducible assumption) (by with_reducible assumption) (by with_reducible assumption) rfl (by with_reducible assumption) (fun hX rX uX => ?_) rfl; exact herr _ _ rfl _ _ _ _ _ _ _ _ _ _ _ _ _ (by k_asm) (rX.drop2 (fun q hq => by first | exact hq | exact .tail _ hq | exact .tail _ (.tail _ hq))) uX (by with_reducible assumption) (by with_reducible assumption) (by with_reducible assumption) (by with_reducible assumption)) | (exfalso; omega)
theorem wordend_bad_c {w mean mg mb} {news : List (Addr × Obj)} {ws : Addr} {vs : List Value} {n : Nat}
    (hl : (ws, ({ cls := .type "list", data := .seq vs.toArray n } : Obj)) ∈ news) (hk : vs.length < 4 ∨ 4 < vs.length) (hk2 : vs.length ≤ 100) :
    CbE 140 w mean mg mb 248 news [.none, .ref ws] RetNo (some (usageMsg (Str.ofString "string wordend string index"), waCodes)) := by
  unfold CbE
  k_fill
  intros
  rename_i hret herr
  refine wpAny_call ?_
  k_dflt cell_enter
  ((rename Fr _ _ _ _ => sF); (first | replace sF : Fr _ _ _ (fun y => List.lookup y [(Str.ofString "words", _), (Str.ofString "host", _)]) := sF | replace sF : Fr _ _ _ (fun y => List.lookup y [(Str.ofString "host", _), (Str.ofString "words", _)]) := sF); (generalize Shared.toks _ + List.length _ = tk0))
  ((refine letA ?_); (intro kA))
  k_steps
  all_goals first | (refine ⟨_, _, _, rfl, (by with_reducible assumption), rfl, rfl, (by with_reducible assumption), Frag.In.keeps (by k_asm) (Fr.keep (by k_asm)), ?_⟩; k_unfold; (try dsimp only); refine leave_first (by k_asm) (by k_asm) (by k_asm) (by with_reducible assumption) (by with_reducible assumption) (by with_reducible assumption) rfl (by with_reducible assumption) (fun hX rX uX => ?_) rfl; exact herr _ _ rfl _ _ _ _ _ _ _ _ _ _ _ _ _ (by k_asm) (rX.drop2 (fun q hq => by first | exact hq | exact .tail _ hq | exact .tail _ (.tail _ hq))) uX (by with_reducible assumption) (by with_reducible assumption) (by with_reducible assumption) (by with_reducible assumption)) | (exfalso; omega)
theorem kw_WA_3 : True := by
  k_with "m:call ref" => (k_here; (with_reducible show wpAny _ _ (call (Value.ref 262) _) _ _ _); k_dflt (refine' span_bad_c ?hc0 ?hc1 ?hc2 ?hc3 _ _ _ _ _ _ _ _ _ _ _ _ _ _ _ _ ?k1 ?k2 ?k3 ?k4 ?k5 ?kK ?kd ?ku ?_ ?_); k_extra "K5"; (case kK => first | exact rfl | assumption); (case hc0 => k_extra "S"); (case hc1 => k_extra "S"); (case hc2 => k_extra "S"); (case hc3 => k_extra "S"); (case kd => (k_extra "D")); (case ku => (k_extra "U")); all_goals (first | (intro msg9 ecs9 hb9 g9 e9 d9 ec9 es9 n9 n9' vs9 t19 t29 tv9 h9 tk9 Fg9 R9 U9 c19 c29 c39 S9; (try dsimp only)) | (intro hb9 z9; (try dsimp only); (cases hb9); (all_goals (try k_fold)))))
  trivial
theorem tolower_bad_c {w mean mg mb} {news : List (Addr × Obj)} {ws : Addr} {vs : List Value} {n : Nat}
    (hl : (ws, ({ cls := .type "list", data := .seq vs.toArray n } : Obj)) ∈ news) (hk : vs.length < 3 ∨ 5 < vs.length) (hk2 : vs.length ≤ 100) :
    CbE 140 w mean mg mb 269 news [.none, .ref ws] RetNo (some (usageMsg (Str.ofString "string tolower string ?first? ?last?"), waCodes)) := by
  have hu9 : (Str.ofString "string tolower string ?first? ?last?").length ≤ 900 := by decide
  unfold CbE
  k_fill
  intros
  rename_i hret herr
  refine wpAny_call ?_
  k_dflt cell_enter
  ((rename Fr _ _ _ _ => sF); (first | replace sF : Fr _ _ _ (fun y => List.lookup y [(Str.ofString "words", _), (Str.ofString "host", _)]) := sF | replace sF : Fr _ _ _ (fun y => List.lookup y [(Str.ofString "host", _), (Str.ofString "words", _)]) := sF); (generalize Shared.toks _ + List.length _ = tk0))
  ((refine letA ?_); (intro kA))
  k_steps
  all_goals first | ((try k_unfold); (try dsimp only); refine leave_on (by k_asm) (by k_asm) (by with_reducible assumption) (by with_reducible assumption) (fun hX rX uX => ?_); exact herr _ _ (by with_reducible assumption) _ _ _ _ _ _ _ _ _ _ _ _ _ (by k_asm) (rX.drop2 (fun q hq => by first | exact hq | exact .tail _ hq | exact .tail _ (.tail _ hq) | exact .tail _ (.tail _ (.tail _ hq)))) uX (by with_reducible assumption) (by with_reducible assumption) (by with_reducible assumption) (by with_reducible assumption))
theorem toupper_bad_c {w mean mg mb} {news : List (Addr × Obj)} {ws : Addr} {vs : List Value} {n : Nat}
    (hl : (ws, ({ cls := .type "list", data := .seq vs.toArray n } : Obj)) ∈ news) (hk : vs.length < 3 ∨ 5 < vs.length) (hk2 : vs.length ≤ 100) :
    CbE 140 w mean mg mb 283 news [.none, .ref ws] RetNo (some (usageMsg (Str.ofString "string toupper string ?first? ?last?"), waCodes)) := by
  have hu9 : (Str.ofString "string toupper string ?first? ?last?").length ≤ 900 := by decide
  unfold CbE
  k_fill
  intros
  rename_i hret herr
  refine wpAny_call ?_
  k_dflt cell_enter
  ((rename Fr _ _ _ _ => sF); (first | replace sF : Fr _ _ _ (fun y => List.lookup y [(Str.ofString "words", _), (Str.ofString "host", _)]) := sF | replace sF : Fr _ _ _ (fun y => List.lookup y [(Str.ofString "host", _), (Str.ofString "words", _)]) := sF); (generalize Shared.toks _ + List.length _ = tk0))
  ((refine letA ?_); (intro kA))
  k_steps
  all_goals first | ((try k_unfold); (try dsimp only); refine leave_on (by k_asm) (by k_asm) (by with_reducible assumption) (by with_reducible assumption) (fun hX rX uX => ?_); exact herr _ _ (by with_reducible assumption) _ _ _ _ _ _ _ _ _ _ _ _ _ (by k_asm) (rX.drop2 (fun q hq => by first | exact hq | exact .tail _ hq | exact .tail _ (.tail _ hq) | exact .tail _ (.tail _ (.tail _ hq)))) uX (by with_reducible assumption) (by with_reducible assumption) (by with_reducible assumption) (by with_reducible assumption))
theorem totitle_bad_c {w mean mg mb} {news : List (Addr × Obj)} {ws : Addr} {vs : List Value} {n : Nat}
    (hl : (ws, ({ cls := .type "list", data := .seq vs.toArray n } : Obj)) ∈ news) (hk : vs.length < 3 ∨ 5 < vs.length) (hk2 : vs.length ≤ 100) :
    CbE 140 w mean mg mb 276 news [.none, .ref ws] RetNo (some (usageMsg (Str.ofString "string totitle string ?first? ?last?"), waCodes)) := by
  have hu9 : (Str.ofString "string totitle string ?first? ?last?").length ≤ 900 := by decide
  unfold CbE
  k_fill
  intros
  rename_i hret herr
  refine wpAny_call ?_
  k_dflt cell_enter
  ((rename Fr _ _ _ _ => sF); (first | replace sF : Fr _ _ _ (fun y => List.lookup y [(Str.ofString "words", _), (Str.ofString "host", _)]) := sF | replace sF : Fr _ _ _ (fun y => List.lookup y [(Str.ofString "host", _), (Str.ofString "words", _)]) := sF); (generalize Shared.toks _ + List.length _ = tk0))
  ((refine letA ?_); (intro kA))
  k_steps
  all_goals first | ((try k_unfold); (try dsimp only); refine leave_on (by k_asm) (by k_asm) (by with_reducible assumption) (by with_reducible assumption) (fun hX rX uX => ?_); exact herr _ _ (by with_reducible assumption) _ _ _ _ _ _ _ _ _ _ _ _ _ (by k_asm) (rX.drop2 (fun q hq => by first | exact hq | exact .tail _ hq | exact .tail _ (.tail _ hq) | exact .tail _ (.tail _ (.tail _ hq)))) uX (by with_reducible assumption) (by with_reducible assumption) (by with_reducible assumption) (by with_reducible assumption))
end

section
-- HB
open PySem PySem.W PyProof.Rows
open PySem.Challenge
set_option maxRecDepth 100000
set_option maxHeartbeats 2000000
theorem CbE.weak {d : Nat} {w mean mg mb f news vs Ret Ret'} {x : Str × List Str} (h : CbE d w mean mg mb f news vs Ret (some x)) : CbE d w mean mg mb f news vs Ret' (some x) :=
  fun dp un gd cn cs a ccd outer A₀ base h₀ L m s Q E B F X N T hk h1 h2 _ herr => h dp un gd cn cs a ccd outer A₀ base h₀ L m s Q E B F X N T hk h1 h2 (fun e => nomatch e) herr
noncomputable abbrev uSpan : Str := Str.ofString "string ?first? ?last?"
noncomputable abbrev uIdx : Str := Str.ofString "string index"
noncomputable abbrev dueMsg (cmd us : Str) : Str := Str.ofString "wrong # args: should be \"string " ++ cmd ++ Str.ofString " " ++ us ++ Str.ofString "\""
inductive UsageOk : Str → Str → Int → Prop
  | l0 : UsageOk (Str.ofString "tolower") uSpan 0
  | l4 : UsageOk (Str.ofString "tolower") uSpan 4
  | u0 : UsageOk (Str.ofString "toupper") uSpan 0
  | u4 : UsageOk (Str.ofString "toupper") uSpan 4
  | t0 : UsageOk (Str.ofString "totitle") uSpan 0
  | t4 : UsageOk (Str.ofString "totitle") uSpan 4
  | s1 : UsageOk (Str.ofString "wordstart") uIdx 1
  | s3 : UsageOk (Str.ofString "wordstart") uIdx 3
  | e1 : UsageOk (Str.ofString "wordend") uIdx 1
  | e3 : UsageOk (Str.ofString "wordend") uIdx 3
theorem UsageOk.rng {cmd us : Str} {k : Int} (h : UsageOk cmd us k) : 0 ≤ k ∧ k ≤ 4 := by cases h <;> decide
theorem UsageOk.len {cmd us : Str} {k : Int} (h : UsageOk cmd us k) : cmd.length ≤ 100 ∧ us.length ≤ 100 := by cases h <;> decide
theorem due_l : dueMsg (Str.ofString "tolower") uSpan = usageMsg (Str.ofString "string tolower string ?first? ?last?") := by decide +kernel
theorem due_u : dueMsg (Str.ofString "toupper") uSpan = usageMsg (Str.ofString "string toupper string ?first? ?last?") := by decide +kernel
theorem due_t : dueMsg (Str.ofString "totitle") uSpan = usageMsg (Str.ofString "string totitle string ?first? ?last?") := by decide +kernel
theorem due_s : dueMsg (Str.ofString "wordstart") uIdx = usageMsg (Str.ofString "string wordstart string index") := by decide +kernel
theorem due_e : dueMsg (Str.ofString "wordend") uIdx = usageMsg (Str.ofString "string wordend string index") := by decide +kernel
section
variable {w : World} {mean : ExcName → Option Value} {mg mb : Str → Option Value} {news : List (Addr × Obj)} {ws : Addr} {n : Nat} {t0 t1 : Tok} {v0 : Value} {r : List Value}
theorem hu_l (hk : r.length = 0 ∨ r.length = 4) (hl : (ws, lstO ([v0, .str (Str.ofString "tolower") t1] ++ r) n) ∈ news) : CbT 160 w mean mg mb 346 news [.ref ws] (RetB news (dueMsg (Str.ofString "tolower") uSpan) waCodes) := by
  rw [due_l]
  exact heard_bad_c (f := uIdx) hl (fun _ hm => call_269_c hm rfl (fun _ hm => CbE.weak (tolower_bad_c hm (by simp; omega) (by simp; omega)))) rfl
theorem hu_u (hk : r.length = 0 ∨ r.length = 4) (hl : (ws, lstO ([v0, .str (Str.ofString "toupper") t1] ++ r) n) ∈ news) : CbT 160 w mean mg mb 346 news [.ref ws] (RetB news (dueMsg (Str.ofString "toupper") uSpan) waCodes) := by
  rw [due_u]
  exact heard_bad_c (f := uIdx) hl (fun _ hm => call_283_c hm rfl (fun _ hm => CbE.weak (toupper_bad_c hm (by simp; omega) (by simp; omega)))) rfl
theorem hu_t (hk : r.length = 0 ∨ r.length = 4) (hl : (ws, lstO ([v0, .str (Str.ofString "totitle") t1] ++ r) n) ∈ news) : CbT 160 w mean mg mb 346 news [.ref ws] (RetB news (dueMsg (Str.ofString "totitle") uSpan) waCodes) := by
  rw [due_t]
  exact heard_bad_c (f := uIdx) hl (fun _ hm => call_276_c hm rfl (fun _ hm => CbE.weak (totitle_bad_c hm (by simp; omega) (by simp; omega)))) rfl
theorem hu_s (hk : r.length = 1 ∨ r.length = 3) (hl : (ws, lstO ([v0, .str (Str.ofString "wordstart") t1] ++ r) n) ∈ news) : CbT 160 w mean mg mb 346 news [.ref ws] (RetB news (dueMsg (Str.ofString "wordstart") uIdx) waCodes) := by
  rw [due_s]
  exact heard_bad_c (f := uIdx) hl (fun _ hm => call_255_c hm rfl (fun _ hm => CbE.weak (wordstart_bad_c hm (by simp; omega) (by simp; omega)))) rfl
theorem hu_e (hk : r.length = 1 ∨ r.length = 3) (hl : (ws, lstO ([v0, .str (Str.ofString "wordend") t1] ++ r) n) ∈ news) : CbT 160 w mean mg mb 346 news [.ref ws] (RetB news (dueMsg (Str.ofString "wordend") uIdx) waCodes) := by
  rw [due_e]
  exact heard_bad_c (f := uIdx) hl (fun _ hm => call_248_c hm rfl (fun _ hm => CbE.weak (wordend_bad_c hm (by simp; omega) (by simp; omega)))) rfl
theorem heard_usage_c {cmd us : Str} {k : Int} {v : Value} (hl : (ws, lstO ([v0, .str cmd t1] ++ List.replicate k.toNat v) n) ∈ news) (h : UsageOk cmd us k) : CbT 160 w mean mg mb 346 news [.ref ws] (RetB news (dueMsg cmd us) waCodes) := by
  cases h
  · exact hu_l (.inl rfl) hl
  · exact hu_l (.inr rfl) hl
  · exact hu_u (.inl rfl) hl
  · exact hu_u (.inr rfl) hl
  · exact hu_t (.inl rfl) hl
  · exact hu_t (.inr rfl) hl
  · exact hu_s (.inl rfl) hl
  · exact hu_s (.inr rfl) hl
  · exact hu_e (.inl rfl) hl
  · exact hu_e (.inr rfl) hl
end
theorem fold_rep (v : Value) : ∀ (k : Nat) (a : Array Value), List.foldl (fun x1 x2 => x1 ++ x2) a (List.replicate k #[v]) = a ++ (List.replicate k v).toArray
  | 0, a => by simp
  | k + 1, a => by
    rw [List.replicate_succ, List.foldl_cons, fold_rep v k, List.replicate_succ]
    apply Array.ext'
    simp
theorem mul_one {prog : Program} {w : World} {A : Around} {E : Value → Shared → Prop} {s : Shared} {h₀ : Heap} {L : Addr} {m : Str → Option Value} {news : List (Addr × Obj)} {l : Addr} {v : Value} {k : Nat} {x : Int} {u : Tok} {Q : Value → Shared → Prop}
    (F : Fr h₀ L s.heap m) (N : News h₀ L s.heap news) (hl : (l, lstO [v] k) ∈ news) (h0 : 0 ≤ x) (h1 : x ≤ 100)
    (h : ∀ D h', Fr h₀ L h' m → News h₀ L h' ((D, lstO (List.replicate x.toNat v)) :: news) → (∀ p ∈ news, p.1 < D) → Q (.ref D) { s with heap := h' }) : wpAny (model prog w) A (binaryOp .Mult (.ref l) (.int x u)) Q E s :=
  mul_list F N (N _ hl).1 (by omega) (by omega) (by simp; omega) fun h' F' N' => by
    refine h _ _ F' ?_ fun p hp => Heap.lt_size (N p hp).1
    have e : List.foldl (fun x1 x2 => x1 ++ x2) #[] (List.replicate (if (#[v] : Array Value).isEmpty = true then 0 else x.toNat) #[v]) = (List.replicate x.toNat v).toArray := by
      rw [if_neg (by simp), fold_rep]
      simp
    rw [e] at N'
    exact N'
end

section
-- UR
open PySem PySem.W PyProof.Rows
theorem kwn_UR : True := by
  k_with_none
  w_top off
  trivial
theorem kwo_UR : True := by
  k_with "m:omega" => first | with_reducible assumption | decide | with_reducible exact Int.le_refl _ | with_reducible exact Nat.le_refl _ | with_reducible exact rm_u2 | with_reducible exact rm_d2 | with_reducible exact rm_u1 | with_reducible exact rm_d1 | with_reducible exact rm_u0 | with_reducible exact rm_d0 | with_reducible exact n_up | with_reducible exact q_o | with_reducible exact q_c1 | with_reducible exact q_c2 | with_reducible exact q_c3 | with_reducible exact q_c4 | with_reducible exact q_n1 | with_reducible exact q_n2 | with_reducible exact q_n3 | with_reducible exact q_l1 | with_reducible exact q_l2 | with_reducible exact q_t1 | with_reducible exact q_t2 | with_reducible exact q_t3 | with_reducible exact q_t4 | with_reducible exact q_t5 | ((with_reducible show _ ≠ _); first | k_extra "P" | (refine Ne.symm ?_; k_extra "P") | (refine Nat.ne_of_lt ?_; k_extra "P") | (refine Nat.ne_of_gt ?_; k_extra "P"))
  k_with "P" => first | with_reducible assumption | with_reducible exact And.left (by with_reducible assumption) | with_reducible exact And.right (by with_reducible assumption) | with_reducible exact q_r (by with_reducible assumption) | with_reducible exact q_s (by with_reducible assumption) | with_reducible exact q_t (by with_reducible assumption) | with_reducible exact q_u (by with_reducible assumption)
  k_with "D" => ((try simp +zetaDelta only [depth_in1, depth_deeper]); (try dsimp only [ktrTop]); omega)
  k_with "U" => ((try simp +zetaDelta only [units_in1, units_deeper, Around.mark_units]); (try dsimp only [ktrTop]); omega)
  k_with "K5" => ((case k1 => k_asm); (case k2 => k_asm); (case k3 => k_asm); (case k4 => k_asm); (case k5 => k_asm))
  k_with "S" => first | with_reducible assumption | exact .inl rfl | exact .inr (.inl rfl) | exact .inr (.inr rfl) | exact .inr rfl | omega | k_mem | fail | (simp only [PySem.Str.length_append, KOpn.len_one]; omega) | assumption
  k_with "m:eval Call" => (k_here; k_dflt (first | ((with_reducible show wpAny _ _ (eval (.Call (.Name (Str.ofString "len") _) [.Name _ _] [] _) _) _ _ _); refine len_nm (q := ?_)) | ((with_reducible show wpAny _ _ (eval (.Call (.Name (Str.ofString "len") _) [_] [] _) _) _ _ _); refine callLen (h := ?_)) | ((with_reducible show wpAny _ _ (eval (.Call (.Name (Str.ofString "str") _) [_] [] _) _) _ _ _); refine callStr (h := ?_)) | ((with_reducible show wpAny _ _ (eval (.Call (.Name _ _) [_] [] _) _) _ _ _); refine callK1 (h := ?_)) | ((with_reducible show wpAny _ _ (eval (.Call (.Name _ _) [_, _] [] _) _) _ _ _); refine callK2 (h := ?_)) | ((with_reducible show wpAny _ _ (eval (.Call (.Name _ _) [_, _, _] [] _) _) _ _ _); refine callK3 (h := ?_))); k_whole)
  k_with "m:eval Constant int" => (k_here; k_dflt (refine cInt ?_); k_whole)
  k_with "m:eval Constant str" => (k_here; k_dflt (refine cStr ?_); k_whole)
  k_with "m:storeName" => (k_here; k_dflt (refine storeS (q := ?_)); k_whole; intro h' F' N'; (try k_sweep))
  k_with "m:binaryOp Add int int" => (k_here; k_dflt (refine addS ?_); k_whole)
  k_with "m:binaryOp Sub int int" => (k_here; k_dflt (refine subS ?_); k_whole)
  k_with "m:call builtin:len" => (k_here; (with_reducible show wpAny _ _ (call _ [.str _ _]) _ _ _); k_dflt (refine lenS (q := ?_)); k_whole)
  k_with "m:newList" => (k_here; k_dflt (refine lstS (q := ?_) (by first | exact Nat.le_of_ble_eq_true rfl | size_fits)); k_whole; intro l' h' F' N' l1; (try k_lt l1); (try k_sweep))
  k_with "m:eval Tuple" => (k_here; first | ((with_reducible show wpAny _ _ (eval (.Tuple [.Constant (.str _) _ _, .Constant (.str _) _ _] _ _) _) _ _ _); k_dflt (refine tupSS (q := ?_)); k_whole; intro D' h' F' N' l1; (try k_lt l1)) | ((with_reducible show wpAny _ _ (eval (.Tuple [_, _] _ _) _) _ _ _); k_dflt (refine tup2 ?_ (Eq.refl true) (Eq.refl true)); k_whole))
  k_with "m:eval List" => (k_here; k_dflt (first | ((with_reducible show wpAny _ _ (eval (.List [_] _) _) _ _ _); refine lst1 ?_ (Eq.refl true)) | ((with_reducible show wpAny _ _ (eval (.List [_, _] _) _) _ _ _); refine lst2 ?_ (Eq.refl true) (Eq.refl true)) | ((with_reducible show wpAny _ _ (eval (.List [_, _, _] _) _) _ _ _); refine lst3 ?_ (Eq.refl true) (Eq.refl true) (Eq.refl true)) | ((with_reducible show wpAny _ _ (eval (.List [_, _, _, _] _) _) _ _ _); refine lst4 ?_ (Eq.refl true) (Eq.refl true) (Eq.refl true) (Eq.refl true))); k_whole)
  k_with "m:eval BinOp" => (k_here; k_dflt (first | ((with_reducible show wpAny _ _ (eval (.BinOp (.Name _ _) _ (.Name _ _) _) _) _ _ _); refine bNN (q := ?_)) | ((with_reducible show wpAny _ _ (eval (.BinOp (.Name _ _) _ (.Constant (.int _) _ _) _) _) _ _ _); refine bNC (q := ?_)) | ((with_reducible show wpAny _ _ (eval (.BinOp (.Name _ _) _ _ _) _) _ _ _); refine bN (q := ?_))); k_whole)
  k_with "m:isTrue Compare" => (k_here; k_dflt (first | ((with_reducible show wpAny _ _ (isTrue (.Compare (.Name _ _) [_] [(.Name _ _)] _) _ _) _ _ _); refine cNN (q := ?_)) | ((with_reducible show wpAny _ _ (isTrue (.Compare (.Name _ _) [_] [(.Constant (.int _) _ _)] _) _ _) _ _ _); refine cNC (q := ?_)) | ((with_reducible show wpAny _ _ (isTrue (.Compare (.Name _ _) [_] [_] _) _ _) _ _ _); refine cN (q := ?_))); k_whole)
  k_with "m:eval Subscript" => (k_here; k_dflt (first | ((with_reducible show wpAny _ _ (eval (.Subscript (.Name _ _) (.Name _ _) _) _) _ _ _); refine gNN (q := ?_)) | ((with_reducible show wpAny _ _ (eval (.Subscript (.Name _ _) (.Constant (.int _) _ _) _) _) _ _ _); refine gNC (q := ?_)) | ((with_reducible show wpAny _ _ (eval (.Subscript (.Name _ _) _ _) _) _ _ _); refine gN (q := ?_))); k_whole)
  trivial
open PySem.Challenge
set_option maxRecDepth 100000
set_option maxHeartbeats 400000
noncomputable def UsageRow (led : List (Addr × Obj)) (v : Value) : Prop := ∃ (T S : Addr) (cmd us : Str) (a b : Int) (t1 t2 ta tb : Tok) (n : Nat), v = .ref T ∧ (T, tupO [.str cmd t1, .str us t2, .ref S]) ∈ led ∧ (S, listOf #[.int a ta, .int b tb] n) ∈ led ∧ UsageOk cmd us a ∧ UsageOk cmd us b
theorem UsageRow.mono {own nr : List (Addr × Obj)} {v : Value} (r : UsageRow own v) (hs : ∀ p ∈ own, p ∈ nr) : UsageRow nr v := by
  obtain ⟨T, S, cmd, us, a, b, t1, t2, ta, tb, n, h1, h2, h3, h4⟩ := r
  exact ⟨T, S, cmd, us, a, b, t1, t2, ta, tb, n, h1, hs _ h2, hs _ h3, h4⟩
/-- one usage's display -/
theorem usage_eval {prog : Program} {w : World} {A : Around} {env : Env} {Q E : Value → Shared → Prop} {s : Shared} {h₀ : Heap} {L : Addr} {m : Str → Option Value} {news : List (Addr × Obj)} {cmd us : Str} {a b : Int} {k1 k2 k3 k4 k5 : Nat} {p1 p2 p3 p4 p5 p6 : Pos} (ha : UsageOk cmd us a) (hb : UsageOk cmd us b) (F : Fr h₀ L s.heap m) (N : News h₀ L s.heap news)
    (h : ∀ R own h' tk', Fr h₀ L h' m → News h₀ L h' (own ++ news) → UsageRow own (.ref R) → Q (.ref R) { s with heap := h', toks := tk' }) :
    wpAny (model prog w) A (eval (.Tuple [.Constant (.str cmd) k1 p1, .Constant (.str us) k2 p2, .List [.Constant (.int a) k3 p3, .Constant (.int b) k4 p4] p5] k5 p6) env) Q E s := by
  k_steps
  exact h _ [_, _] _ _ (by k_asm) (by k_asm) ⟨_, _, _, _, _, _, _, _, _, _, _, rfl, by k_mem, by k_mem, ha, hb⟩
theorem newsAdd {h₀ h : Heap} {L : Addr} {led : List (Addr × Obj)} {x : List (Addr × Obj)} {p q : Addr × Obj} (N : News h₀ L h (led ++ x)) (hp : p ∈ led) (hq : q ∈ led) : News h₀ L h (p :: q :: (led ++ x)) := fun z hz => by
  rcases List.mem_cons.mp hz with rfl | hz
  · exact N _ (List.mem_append_left _ hp)
  rcases List.mem_cons.mp hz with rfl | hz
  · exact N _ (List.mem_append_left _ hq)
  · exact N z hz
theorem sizeAt {cmd us : Str} {a b : Int} {ta tb : Tok} {i : Nat} {v : Value} (h : [Value.int a ta, .int b tb][i]? = some v) (ha : UsageOk cmd us a) (hb : UsageOk cmd us b) : ∃ k t, v = .int k t ∧ UsageOk cmd us k ∧ 0 ≤ k ∧ k ≤ 4 := by
  match i, h with
  | 0, h => exact ⟨a, ta, (Option.some.inj h).symm, ha, ha.rng⟩
  | 1, h => exact ⟨b, tb, (Option.some.inj h).symm, hb, hb.rng⟩
noncomputable abbrev urS : List Str := [Str.ofString "command", Str.ofString "usage", Str.ofString "sizes", Str.ofString "due", Str.ofString "size"]
section
variable {A₀ : Around} {base : Heap} {outer : List Env} {w : World} {mean : ExcName → Option Value} {mg mb : Str → Option Value} {g₀ : Heap}
theorem tloopU {prog : Program} {A : Around} {env : Env} {tgt : Expr} {body : List Stmt} {stored : List Str} {Q : Flow → Shared → Prop} {E : Value → Shared → Prop} {s₁ : Shared} {l : Addr} {vs : List Value} {nn : Nat} {g : Heap} {m₀ : Str → Option Value} {led : List (Addr × Obj)}
    (F : Fr g env.locals s₁.heap m₀) (N : News g env.locals s₁.heap led) (B : Below A₀ base outer g) (X : (hd.heap_1 w.params).In g) (P : Top view LS mean mg mb g) (D : KtsDicts (frs outer) g) (T : KtsTurn (frs outer) g₀ g) (hh : A.handled = none) (hl : (l, listOf vs.toArray nn) ∈ led) (hr : ∀ v ∈ vs, UsageRow led v)
    (turn : ∀ (T S : Addr) (cmd us : Str) (a b : Int) (t1 t2 ta tb : Tok) (n : Nat) (u : Str → Option Value) (g' h : Heap) (tk : Nat) (I : Addr) (oI : Obj), UsageOk cmd us a → UsageOk cmd us b → cmd.length ≤ 100 → us.length ≤ 100 → Grd A₀ base outer w mean mg mb g₀ g' → Fr g' env.locals h (fun y => if stored.contains y then u y else m₀ y) →
      News g' env.locals h ((T, tupO [.str cmd t1, .str us t2, .ref S]) :: (S, listOf #[.int a ta, .int b tb] n) :: (led ++ [(I, oI)])) → (∀ p ∈ led, p.1 < I) →
      wpAny (model prog w) A (assign tgt env (.ref T)) (fun _ s₂ => wpAny (model prog w) A (execs body env) (TPostA A₀ base outer w mean mg mb g₀ env.locals stored m₀ (led ++ [(I, oI)]) { s₁ with heap := h, toks := tk } Q) E s₂) E { s₁ with heap := h, toks := tk })
    (done : ∀ (u : Str → Option Value) (g' h : Heap) (tk : Nat), Grd A₀ base outer w mean mg mb g₀ g' → Fr g' env.locals h (fun y => if stored.contains y then u y else m₀ y) → News g' env.locals h led → Q .next { s₁ with heap := h, toks := tk }) :
    TLoopA prog A A₀ base outer w mean mg mb g₀ env tgt body stored Q E (.ref l) s₁ :=
  tloopA F N B X P D T hh hl (fun v hv => by
    obtain ⟨T, _, _, _, _, _, _, _, _, _, _, e, _⟩ := hr v hv
    exact ⟨T, e⟩) (fun i v u g' h tk I oI hv G F N o => by
    obtain ⟨T, S, cmd, us, a, b, t1, t2, ta, tb, n, rfl, h1, h2, h3, h4⟩ := hr v (List.mem_of_getElem? hv)
    exact turn T S cmd us a b t1 t2 ta tb n u g' h tk I oI h3 h4 h3.len.1 h3.len.2 G F (newsAdd N h1 h2) o) done
end
theorem urNo {z : Str} (h : urS.contains z = false) : z ≠ Str.ofString "command" ∧ z ≠ Str.ofString "usage" ∧ z ≠ Str.ofString "sizes" ∧ z ≠ Str.ofString "due" ∧ z ≠ Str.ofString "size" :=
  ⟨fun e => by subst e; exact absurd h (by decide), fun e => by subst e; exact absurd h (by decide), fun e => by subst e; exact absurd h (by decide), fun e => by subst e; exact absurd h (by decide), fun e => by subst e; exact absurd h (by decide)⟩
theorem consNil {z : Str} {x : List Str} (h : x.contains z = false) : ¬ x.contains z = true := by rw [h]; decide
theorem kw_UR_1 : True := by
  k_with "m:exec For Tuple Name cons nil" => (k_here; k_dflt (refine For_turnA urS (by k_asm) (by k_asm) (by first | k_asm | exact KtsTurn.refl) ?_))
  k_with "m:eval Tuple" => (k_here; (with_reducible show wpAny _ _ (eval (PySem.Expr.Tuple [_, _, PySem.Expr.List _ _] _ _) _) _ _ _); refine' usage_eval ?a ?b ?F ?N ?_; (case a => first | with_reducible exact UsageOk.l0 | with_reducible exact UsageOk.u0 | with_reducible exact UsageOk.t0 | with_reducible exact UsageOk.s1 | with_reducible exact UsageOk.e1); (case b => first | with_reducible exact UsageOk.l4 | with_reducible exact UsageOk.u4 | with_reducible exact UsageOk.t4 | with_reducible exact UsageOk.s3 | with_reducible exact UsageOk.e3); (case F => k_asm); (case N => k_asm); intro R9 o9 h9 tk9 F9 N9 r9)
  k_with "m:TLoopA" => (k_here; k_dflt (refine tloopU (by k_asm) (by k_asm) (by k_asm) (by k_asm) (by k_asm) (by k_asm) (by first | k_asm | exact KtsTurn.refl) rfl (by k_mem) (by (repeat (refine List.forall_mem_cons.mpr ⟨UsageRow.mono (by with_reducible assumption) (fun p hp => .tail _ (by repeat (first | exact List.mem_append_left _ hp | refine List.mem_append_right _ ?_))), ?_⟩)); exact List.forall_mem_nil _) ?_ ?_); (intro T9 S9 cmd9 us9 a9 b9 t19 t29 ta9 tb9 n9 u9 g9 h9 tk9 I9 oI9 ha9 hb9 hc9 hu9 G9 F9 N9 o9; obtain ⟨kt9, B9, X9, T9', D9⟩ := G9; clear o9; (generalize (_ ++ [(I9, oI9)] : List (Addr × Obj)) = led9 at N9 ⊢)); rotate_left; (intro u9 g9 h9 tk9 G9 F9 N9; obtain ⟨kt9, B9, X9, T9', D9⟩ := G9); rotate_left; all_goals (try k_fold))
  k_with "m:call ref" => (k_here; (with_reducible show wpAny _ _ (call (Value.ref 346) _) _ _ _); k_dflt (refine' heard_usage_c ?hc0 ?hc1 _ _ _ _ _ _ _ _ _ _ _ _ _ _ _ _ _ ?k1 ?k2 ?k3 ?k4 ?k5 ?kXB ?kTB ?kD ?kT ?kK ?kd ?ku ?_; k_extra "K5"; (case kXB => k_asm); (case kTB => k_asm); (case kD => k_asm); (case kT => first | k_asm | exact KtsTurn.refl); (case kK => first | exact rfl | assumption); (case hc0 => k_extra "S"); (case hc1 => k_extra "S"); (case kd => (k_extra "D")); (case ku => (k_extra "U")); intro g9 kt9 B9 X9 T9 D9; intro D9 ec9 ta9 tb9 tc9 tv9 n9 h9 tk9 F9 N9 S9 nd9 ne9 nf9; (try dsimp only); (try k_lift B9); (skip); (all_goals (try k_fold))))
  k_with "m:binaryOp Mult ref int" => (k_here; k_dflt (refine mul_one (by k_asm) (by k_asm) (by k_mem) (by with_reducible assumption) (by omega) ?_); intro D' h' F' N' l1; (try k_lt l1))
  k_with "m:binaryOp Add ref ref" => (k_here; k_dflt (refine add_us (us := _) (by k_asm) (by k_asm) (by k_mem) (by k_mem) (by (simp only [sizeLine_eq, List.length_cons, List.length_nil, List.length_replicate]; omega)) ?_); intro D' h' F' N' l1; (try k_lt l1))
  k_with "m:exec For Name Name cons nil" => (k_here; k_dflt (refine For_turn [] (by k_asm) (by k_asm) (by first | k_asm | exact KtsTurn.refl) rfl rfl ?_))
  k_with "m:TLoop" => (k_here; k_dflt (refine tloop (by k_asm) (by k_asm) (by k_asm) (by k_asm) (by k_asm) (by k_asm) (by first | k_asm | exact KtsTurn.refl) rfl (by k_mem) ?_ ?_); (intro i9 v9 u9 g9 h9 tk9 I9 oI9 hv9 G9 F9 N9 o9; obtain ⟨k9, t9, ev9, hk9, hk0, hk4⟩ := sizeAt hv9 (by with_reducible assumption) (by with_reducible assumption); subst ev9; obtain ⟨kt9, B9, X9, T9', D9⟩ := G9; dsimp only [List.cons_append, List.nil_append] at N9); rotate_left; (intro u9 g9 h9 tk9 G9 F9 N9; obtain ⟨kt9, B9, X9, T9', D9⟩ := G9); rotate_left; all_goals (try k_fold))
  k_with "m:compareOp NotEq ref ref" => (k_here; k_dflt (refine ne_fault (News.isTup (by k_asm) (by k_mem)) (News.isTup (by k_asm) (by k_mem)) (News.isTup (by k_asm) (by k_mem)) (News.isTup (by k_asm) (by k_mem)) (by with_reducible assumption) (.cons _ _ (.cons _ _ .nil)) (by (k_extra "U")) (by first | with_reducible assumption | exact neOf (by with_reducible assumption) (by k_mem) | exact neN (by omega)) ?_))
  k_with "m:TPost" => (k_here; k_dflt (exact tpost (by first | exact .inl rfl | exact .inr rfl) (by k_asm) (by k_asm) (by k_asm) (by k_asm) (by k_asm) (by k_asm) (by k_asm) (by kcf_all) (fun z h1 h3 => (if_neg h1).trans (if_neg (consNil h3)))))
  k_with "m:TPostA" => (k_here; k_dflt (exact tpostA (by first | exact .inl rfl | exact .inr rfl) (by k_asm) (by k_asm) (by k_asm) (by k_asm) (by k_asm) (by k_asm) (by k_asm) (by kcf_all) (fun z h => (if_neg (urNo h).2.2.2.2).trans ((if_neg (show ¬ ([] : List Str).contains z = true from Bool.false_ne_true)).trans ((if_neg (urNo h).2.2.2.1).trans ((if_neg (urNo h).2.2.1).trans ((if_neg (urNo h).2.1).trans ((if_neg (urNo h).1).trans (if_neg (consNil h))))))))))
  trivial
theorem usages_right_c {w mean mg mb} {news : List (Addr × Obj)} {c : Str} {t : Tok} (hc : c.length ≤ 100) : CbT 200 w mean mg mb 398 news [.str c t] (RetV news fun _ => .bool true) := by
  ((try unfold CbT); k_fill; intros; rename_i s0 Q0 E0 B0 F0 X0 N0 T0 XB0 TB0 KD0 KT0 hk0 hd0 hu0 hret; refine wpAny_call ?_; k_dflt (refine' code_defT (mu := []) ?k1 ?k2 ?k3 ?k4 ?k5 ?XB ?TB ?D ?T0 ?kA ?k6 ?k7 ?k8 ?k9 ?kB ?_ ?cK ?c2 ?c3 ?c4 ?c5; (case kA => exact rfl); (case k2 => k_asm); (case k1 => k_asm); (case XB => assumption); (case TB => assumption); (case D => assumption); (case T0 => assumption); (case k3 => k_asm); (case k4 => exact News.nil); (case k5 => k_asm); (case k6 => k_is); (case k7 => k_is); (case k8 => ktr_room); (case k9 => exact BindsTo.of_eq rfl); (case kB => exact locs rfl); (case cK => first | exact rfl | assumption); (case c2 => exact rfl); (case c3 => exact rfl); (case c4 => exact rfl); (case c5 => decide); k_whole; intro g' L' h' HG0 FG' F' N' B' X' T' D'; (try dsimp only); (try k_lift B'); (try k_fold)); (refine letA ?_); (intro kA); (replace F' : Fr g' L' h' (fun y => List.lookup y [(Str.ofString "text", _)]) := F'); (generalize Shared.toks _ + List.length _ = tk0))
  k_steps
  · rename_i kg kT kF kN kB kX0 kP kD kX
    exact hret kg kT kB kX0 kP kD 0 _ _ kF (newsKeepT B0 N0 News.nil HG0 KT0 (by k_asm) (by k_asm) kT News.nil)
end

section
-- LWa
open PySem PySem.W PyProof.Rows PySem.Calls PyProof.V PySem.Spec
open PySem.Challenge
set_option maxRecDepth 100000
set_option maxHeartbeats 2000000
theorem loose_is : looseW view [Str.ofString "Raised", Str.ofString "error"] = LS := by decide +kernel
/-- a contract for the law itself, whose ground does not turn -/
noncomputable abbrev CbA (d : Nat) (w : World) (mean : ExcName → Option Value) (mg mb : Str → Option Value) (f : Addr) (news : List (Addr × Obj)) (vs : List Value)
    (Ret : Heap → Addr → (Str → Option Value) → Shared → (Value → Shared → Prop) → Prop) : Prop :=
  ∀ (dp un : Nat) (gd : Option (List Code)) (cn : Str) (cs : Scope) (a : Addr) (ccd : Value) (A₀ : Around) (h₀ : Heap) (L : Addr) (m : Str → Option Value) (s : Shared) (Q E : Value → Shared → Prop),
    Below A₀ h₀ [] h₀ → Fr h₀ L s.heap m → (hd.heap_1 w.params).In h₀ → News h₀ L s.heap news → Top view LS mean mg mb h₀ → cs.kind = .function → dp + d < recursionLimit → un + 8 * d < cLine → Ret h₀ L m s Q →
      wpAny (model rw_oj0055_01.row.toRowW.prog w) (ktrTop dp un gd cn cs L a ccd [] []) (call (.ref f) vs) Q E s
theorem frBack {h₀ g h : Heap} {L : Addr} {m : Str → Option Value} (T : KtsTurn [] h₀ g) (F : Fr g L h m) : Fr h₀ L h m := ⟨F.ns, fun b o e => F.keep b o (T.other b o e (by simp)), by rw [← T.size]; exact F.above⟩
theorem newsBack {h₀ g h : Heap} {L : Addr} {l : List (Addr × Obj)} (T : KtsTurn [] h₀ g) (N : News g L h l) : News h₀ L h l := fun q hq => ⟨(N q hq).1, (N q hq).2.1, none_back (fun b o e => T.other b o e (by simp)) (N q hq).2.2⟩
theorem CbT.top {d : Nat} {w mean mg mb f news vs Ret} (C : CbT d w mean mg mb f news vs Ret) (hR : ∀ {h₀ g L m s Q}, KtsTurn [] h₀ g → Ret h₀ L m s Q → Ret g L m s Q) : CbA d w mean mg mb f news vs Ret :=
  fun dp un gd cn cs a ccd A₀ h₀ L m s Q E B F X N T hk h1 h2 hret => C dp un gd cn cs a ccd [] A₀ h₀ h₀ h₀ L m s Q E B F X N T X T (fun _ hb => nomatch hb) KtsTurn.refl hk h1 h2 fun _ kt _ _ _ _ => hR kt hret
theorem CbH.top {d : Nat} {w mean mg mb f news vs Ret} (C : CbH d w mean mg mb f news vs Ret) : CbA d w mean mg mb f news vs Ret :=
  fun dp un gd cn cs a ccd A₀ h₀ L m s Q E B F X N T hk h1 h2 hret => C dp un gd cn cs a ccd [] A₀ h₀ h₀ L m s Q E B F X N T hk h1 h2 hret
section
variable {w : World} {mean : ExcName → Option Value} {mg mb : Str → Option Value} {news : List (Addr × Obj)}
theorem top_row {nr : List (Addr × Obj)} {g : Obj → List (Addr × Obj)} {pen R : Addr} {v : Int} {t : Tok} {n : Nat} {c : Str} (U : UpdF pen (penO v t n) news g) (hR : RowOk nr R c) (hs : ∀ p ∈ nr, p ∈ news) : CbA 200 w mean mg mb 391 news [.ref R, .ref pen] (RetR g) :=
  CbT.top (row_right_c U (hR.mono hs)) fun kt hret v' t1 n' h' tk' F N => hret v' t1 n' h' tk' (frBack kt F) (newsBack kt N)
theorem top_usages {c : Str} {t : Tok} (hc : OkT c) : CbA 200 w mean mg mb 398 news [.str c t] (RetV news fun _ => .bool true) :=
  CbT.top (usages_right_c hc.len) fun kt hret t h' tk' F N => hret t h' tk' (frBack kt F) (newsBack kt N)
theorem top_rows : CbA 2 w mean mg mb 290 news [] (RetRows news) := CbH.top rows_c
theorem top_turned {g : Obj → List (Addr × Obj)} {pen : Addr} {v : Int} {t tc : Tok} {n : Nat} (U : UpdF pen (penO v t n) news g) : CbA 20 w mean mg mb 332 news [.str (Str.ofString "") tc, .ref pen] (RetU pen g) := CbH.top (turned_c U ok_5)
end
section
variable {prog : Program} {w : World} {A : Around} {E : Value → Shared → Prop} {s : Shared} {env : Env} {h₀ : Heap} {body : List Stmt} {Q : Flow → Shared → Prop} {m₀ : Str → Option Value}
noncomputable def KEnd (led : List (Addr × Obj)) (m₀ : Str → Option Value) (k : Nat) : (Str → Option Value) → List (Addr × Obj) → Prop := KstS (fun _ : Unit => led) (fun _ => []) (fun _ => True) (Str.ofString "k") [] m₀ (fun _ _ => True) (rangeKs 0 k)
theorem k_loop {r : Addr} {t₀ u₀ v₀ : Tok} {led : List (Addr × Obj)} (hh : A.handled = none) (hr : IsRange s.heap r 0 9 1 t₀ u₀ v₀) (F : Fr h₀ env.locals s.heap m₀) (N : News h₀ env.locals s.heap led)
    (turn : ∀ (j : Nat) (k : Int) (tk' : Tok) h tk own, 0 ≤ k → k < 9 → OwnOff own (led.map (·.1)) →
      Fr h₀ env.locals h (fun y => if y = Str.ofString "k" then some (.int k tk') else m₀ y) → News h₀ env.locals h (led ++ own) →
      wpAny (model prog w) A (execs body env) (InvPostN h₀ env.locals (KEnd led m₀ j) own (led.map (·.1)) { s with heap := h, toks := tk } Q) E { s with heap := h, toks := tk })
    (done : ∀ (u : Str → Option Value) h tk, Fr h₀ env.locals h (fun y => if y = Str.ofString "k" then u y else m₀ y) → News h₀ env.locals h led → Q .next { s with heap := h, toks := tk }) :
    wpAny (model prog w) A (pyIter (.ref r)) (fun it s₂ => LoopAtV prog w A h₀ env (Str.ofString "k") body Q E it s₂) E s := by
  refine kst_range (σ := Unit) (n := ((9 : Int) - 0).toNat) (fun _ => led) (fun _ => []) (fun _ => True) [] (fun _ _ => True) () hh hr (small_one (by omega) (by omega) (by omega) (by omega)) (rangeSize_nat 0 9) F N trivial (fun _ h => nomatch h) trivial ?_ ?_
  · rintro ⟨⟩ pre k t u h tk own hk hn ho - - F N
    have hn' : pre.length < 9 := hn
    have := turn (pre.length + 1) k t h tk own (by omega) (by omega) ho F N
    unfold KEnd at this
    refine wpAny_mono this (fun f s₂ p => ?_) fun _ _ e => e
    have up : InvEndN h₀ env.locals (KstS (fun _ : Unit => led) (fun _ => []) (fun _ => True) (Str.ofString "k") [] m₀ (fun _ _ => True) (rangeKs 0 (pre.length + 1))) own (led.map (·.1)) { s with heap := h, toks := tk } s₂ →
        InvEndN h₀ env.locals (KstS (fun _ : Unit => led) (fun _ => []) (fun _ => True) (Str.ofString "k") [] m₀ (fun _ _ => True) (pre ++ [k])) own (led.map (·.1)) { s with heap := h, toks := tk } s₂ := by
      rintro ⟨h', tk', m', news', nx', e', F', N', hn', ho', ha, c', e1, e2, e3, e4, _⟩
      exact ⟨h', tk', m', news', nx', e', F', N', hn', ho', ha, c', e1, e2, e3, e4, trivial⟩
    cases f with
    | ret v => exact p
    | brk => exact p
    | next => exact up p
    | cont => exact up p
  · rintro ⟨⟩ u h tk - - F N
    exact done u h tk F N
theorem k_end {L : Addr} {led : List (Addr × Obj)} {h' : Heap} {m' : Str → Option Value} {own news' : List (Addr × Obj)} {adr : List Addr} {s₁ : Shared} {tk j : Nat} (F : Fr h₀ L h' m') (N : News h₀ L h' news') (hl : ∀ p ∈ led, p ∈ news') (ho : ∀ p ∈ own, p ∈ news') (ha : led.map (·.1) = adr)
    (hr : ∀ z, z ≠ Str.ofString "k" → m' z = m₀ z) : InvEndN h₀ L (KEnd led m₀ j) own adr s₁ { s₁ with heap := h', toks := tk } :=
  kst_end () F N hl ho ha trivial (fun _ h => nomatch h) (fun z h1 _ _ => hr z h1) trivial
end
theorem item_row {prog : Program} {w : World} {A : Around} {E : Value → Shared → Prop} {s : Shared} {value slice : PySem.Expr} {D : Addr} {vs : List Value} {nr : List (Addr × Obj)} {k : Int} {u : Tok} {Q : Value → Shared → Prop}
    (hl : s.heap.IsList D vs.toArray) (h9 : vs.length = 9) (hr : ∀ v ∈ vs, RowAt nr v) (h0 : 0 ≤ k) (h1 : k < 9) (h : ∀ R c, RowOk nr R c → Q (.ref R) s)
    (hs : subscripted slice false (.ref D) (.int k u) = operate [.ref D, .int k u] (getItem (.ref D) (.int k u)) := by with_unfolding_all rfl) :
    wpAny (model prog w) A (subscriptTail value slice (.ref D) (.int k u)) Q E s := by
  have hi : k.toNat < vs.length := by omega
  obtain ⟨R, c, e, hR⟩ := hr _ (List.getElem_mem hi)
  exact item_lst hl h0 (by omega) (v := .ref R) (by rw [← e]; simpa using List.getElem?_eq_getElem hi) (h R c hR) hs
end

section
-- LX
open PySem PySem.W PyProof.Rows PySem.Calls PyProof.V PySem.Spec
open PySem.Challenge
set_option maxRecDepth 100000
set_option maxHeartbeats 1000000
theorem ints_get {vs : List Value} {ns : List Int} (h : IntsAre vs ns) : ∀ (i : Nat) (v : Value), vs[i]? = some v → ∃ n t, v = .int n t := by
  induction h with
  | nil => intro i v e; simp at e
  | cons n t _ ih =>
    intro i v e
    cases i with
    | zero => exact ⟨n, t, by simpa using e.symm⟩
    | succ i => exact ih i v (by simpa using e)
theorem ints_mem {vs : List Value} {ns : List Int} (h : IntsAre vs ns) : ∀ (i : Nat) (v : Value), vs[i]? = some v → ∃ n t, v = .int n t ∧ n ∈ ns := by
  induction h with
  | nil => intro i v e; simp at e
  | cons n t _ ih =>
    intro i v e
    cases i with
    | zero => exact ⟨n, t, by simpa using e.symm, .head _⟩
    | succ i => obtain ⟨n', t', e1, e2⟩ := ih i v (by simpa using e); exact ⟨n', t', e1, .tail _ e2⟩
theorem ints_pick {vs : List Value} {ns : List Int} (h : IntsAre vs ns) (lo hi st : Option Int) : ∃ ms, IntsAre (slicePick vs.toArray lo hi st).toList ms ∧ (∀ n ∈ ms, n ∈ ns) ∧ ms.length ≤ ns.length := by
  have hz := slicePick_size_le vs.toArray lo hi st
  have key : ∀ is : List Nat, ∃ ms, IntsAre (is.filterMap (vs.toArray[·]?)) ms ∧ ∀ n ∈ ms, n ∈ ns := by
    intro is
    induction is with
    | nil => exact ⟨[], .nil, fun _ h => nomatch h⟩
    | cons i is ih =>
      obtain ⟨ms, hm, hs⟩ := ih
      rw [List.filterMap_cons]
      cases e : vs.toArray[i]? with
      | none => exact ⟨ms, hm, hs⟩
      | some v =>
        obtain ⟨n, t, rfl, hn⟩ := ints_mem h i v (by simpa using e)
        exact ⟨n :: ms, .cons n t hm, fun x hx => (List.mem_cons.mp hx).elim (fun e => e ▸ hn) (hs x)⟩
  obtain ⟨ms, hm, hs⟩ := key (sliceRange (sliceBounds lo hi st vs.toArray.size).1 (sliceBounds lo hi st vs.toArray.size).2.1 (sliceBounds lo hi st vs.toArray.size).2.2)
  refine ⟨ms, hm, hs, ?_⟩
  have e : (slicePick vs.toArray lo hi st).toList.length = ms.length := IntsAre.length hm
  rw [Array.length_toList] at e
  have e2 := h.length
  have e3 : vs.toArray.size = vs.length := List.size_toArray ..
  exact e ▸ e2 ▸ e3 ▸ hz
theorem bits_sum {b : Nat} : ∀ (ns : List Int), (∀ n ∈ ns, Builtin.Int.intBits n ≤ b) → Builtin.Int.intBits ns.sum ≤ b + ns.length
  | [], _ => by rw [List.sum_nil]; exact Nat.le_trans (by decide) (Nat.zero_le _)
  | n :: r, h => by
    rw [List.sum_cons, List.length_cons]
    have h1 := h n (.head _)
    have h2 := bits_sum r fun x hx => h x (.tail _ hx)
    exact Nat.le_trans (bits_add h1 h2) (by omega)
section
variable {prog : Program} {w : World} {A : Around} {E : Value → Shared → Prop} {s : Shared} {h₀ : Heap} {L l : Addr} {m : Str → Option Value} {news : List (Addr × Obj)} {value slice : PySem.Expr} {vs : List Value} {ns : List Int} {vl vu vk : Value} {lo hi st : Option Int} {ops : List Value} {Q : Value → Shared → Prop}
/-- a slice with a step, of a list of ints: some list of ints -/
theorem step_ints (F : Fr h₀ L s.heap m) (N : News h₀ L s.heap news) (hl : s.heap.IsList l vs.toArray) (hi' : IntsAre vs ns) (pl : IsPart vl lo) (pu : IsPart vu hi) (pk : IsPart vk st) (h0 : st ≠ some 0)
    (h : ∀ D ws ms h', Fr h₀ L h' m → News h₀ L h' ((D, listOf (List.toArray ws) 0) :: news) → IntsAre ws ms → (∀ n ∈ ms, n ∈ ns) → ms.length ≤ ns.length → Q (.ref D) { s with heap := h' })
    (hs : subscripted slice false (.ref l) (.ref s.heap.objs.size) = operate ops (getItem (.ref l) (.ref s.heap.objs.size))) (ht : ∀ r, letTemporaryGo value (.ref l) r = pure ()) (hz : vs.toArray.size ≤ sizeLine) :
    wpAny (model prog w) A (subscriptTail value slice (.ref l) (.ref s.heap.objs.size)) Q E { s with heap := s.heap.push { cls := .type "slice", data := .fields #[vl, vu, vk] } } := by
  obtain ⟨ms, hm, hs1, hs2⟩ := ints_pick hi' lo hi st
  refine slice_list3 F N hl pl pu pk h0 (fun h' F' N' => h _ (slicePick vs.toArray lo hi st).toList ms h' F' ?_ hm hs1 hs2) hs ht hz
  rw [Array.toArray_toList]
  exact N'
/-- the sum of a list of ints: some int -/
theorem sum_some (F : Fr h₀ L s.heap m) (N : News h₀ L s.heap news) (hh : A.handled = none) (hl : s.heap.IsList l vs.toArray) (hi : IntsAre vs ns)
    (h : ∀ (x : Int) h' tk t', Fr h₀ L h' m → News h₀ L h' news → Q (.int x t') { s with heap := h', toks := tk }) : wpAny (model prog w) A (call (.builtin "sum") [.ref l]) Q E s :=
  PyProof.Rows.LSm.sum_ints F N hh hl hi (h ns.sum)
theorem sum_bits {b : Nat} (F : Fr h₀ L s.heap m) (N : News h₀ L s.heap news) (hh : A.handled = none) (hl : s.heap.IsList l vs.toArray) (hi : IntsAre vs ns) (hb : ∀ n ∈ ns, Builtin.Int.intBits n ≤ b)
    (h : ∀ (x : Int) h' tk t', Fr h₀ L h' m → News h₀ L h' news → Builtin.Int.intBits x ≤ b + ns.length → Q (.int x t') { s with heap := h', toks := tk }) : wpAny (model prog w) A (call (.builtin "sum") [.ref l]) Q E s :=
  PyProof.Rows.LSm.sum_ints F N hh hl hi fun h' tk t' F' N' => h ns.sum h' tk t' F' N' (bits_sum ns hb)
end
end

section
-- LWb
open PySem PySem.W PyProof.Rows PySem.Calls PyProof.V PySem.Spec
theorem kwn_LWb : True := by
  k_with_none
  w_top off
  trivial
theorem kwo_LWb : True := by
  k_with "m:omega" => first | with_reducible assumption | decide | with_reducible exact Int.le_refl _ | with_reducible exact Nat.le_refl _ | with_reducible exact rm_u2 | with_reducible exact rm_d2 | with_reducible exact rm_u1 | with_reducible exact rm_d1 | with_reducible exact rm_u0 | with_reducible exact rm_d0 | with_reducible exact n_up | with_reducible exact q_o | with_reducible exact q_c1 | with_reducible exact q_c2 | with_reducible exact q_c3 | with_reducible exact q_c4 | with_reducible exact q_n1 | with_reducible exact q_n2 | with_reducible exact q_n3 | with_reducible exact q_l1 | with_reducible exact q_l2 | with_reducible exact q_t1 | with_reducible exact q_t2 | with_reducible exact q_t3 | with_reducible exact q_t4 | with_reducible exact q_t5 | ((with_reducible show _ ≠ _); first | k_extra "P" | (refine Ne.symm ?_; k_extra "P") | (refine Nat.ne_of_lt ?_; k_extra "P") | (refine Nat.ne_of_gt ?_; k_extra "P"))
  k_with "P" => first | with_reducible assumption | with_reducible exact And.left (by with_reducible assumption) | with_reducible exact And.right (by with_reducible assumption) | with_reducible exact q_r (by with_reducible assumption) | with_reducible exact q_s (by with_reducible assumption) | with_reducible exact q_t (by with_reducible assumption) | with_reducible exact q_u (by with_reducible assumption)
  k_with "K5" => ((case k1 => k_asm); (case k2 => k_asm); (case k3 => k_asm); (case k4 => k_asm); (case k5 => k_asm))
  k_with "S" => first | with_reducible assumption | exact .inl rfl | exact .inr (.inl rfl) | exact .inr (.inr rfl) | exact .inr rfl | omega | k_mem | fail | (simp only [PySem.Str.length_append, KOpn.len_one]; omega) | assumption
  k_with "m:eval Call" => (k_here; k_dflt (first | ((with_reducible show wpAny _ _ (eval (.Call (.Name (Str.ofString "len") _) [.Name _ _] [] _) _) _ _ _); refine len_nm (q := ?_)) | ((with_reducible show wpAny _ _ (eval (.Call (.Name (Str.ofString "len") _) [_] [] _) _) _ _ _); refine callLen (h := ?_)) | ((with_reducible show wpAny _ _ (eval (.Call (.Name (Str.ofString "str") _) [_] [] _) _) _ _ _); refine callStr (h := ?_)) | ((with_reducible show wpAny _ _ (eval (.Call (.Name _ _) [_] [] _) _) _ _ _); refine callK1 (h := ?_)) | ((with_reducible show wpAny _ _ (eval (.Call (.Name _ _) [_, _] [] _) _) _ _ _); refine callK2 (h := ?_)) | ((with_reducible show wpAny _ _ (eval (.Call (.Name _ _) [_, _, _] [] _) _) _ _ _); refine callK3 (h := ?_))); k_whole)
  k_with "m:eval Constant int" => (k_here; k_dflt (refine cInt ?_); k_whole)
  k_with "m:eval Constant str" => (k_here; k_dflt (refine cStr ?_); k_whole)
  k_with "m:storeName" => (k_here; k_dflt (refine storeS (q := ?_)); k_whole; intro h' F' N'; (try k_sweep))
  k_with "m:binaryOp Add int int" => (k_here; k_dflt (refine addS ?_); k_whole)
  k_with "m:binaryOp Sub int int" => (k_here; k_dflt (refine subS ?_); k_whole)
  k_with "m:call builtin:len" => (k_here; (with_reducible show wpAny _ _ (call _ [.str _ _]) _ _ _); k_dflt (refine lenS (q := ?_)); k_whole)
  k_with "m:newList" => (k_here; k_dflt (refine lstS (q := ?_) (by first | exact Nat.le_of_ble_eq_true rfl | size_fits)); k_whole; intro l' h' F' N' l1; (try k_lt l1); (try k_sweep))
  k_with "m:execs cons" => (k_here; k_dflt (first | ((with_reducible show wpAny _ _ (execs (.Assign [.Name _ _] _ _ :: _) _) _ _ _); refine sAsg ?_ (Eq.refl true)) | ((with_reducible show wpAny _ _ (execs (.Return (some _) _ :: _) _) _ _ _); refine sRet ?_) | ((with_reducible show wpAny _ _ (execs (.If _ [.Return (some _) _] [] _ :: _) _) _ _ _); refine sIfR ?_) | ((with_reducible show wpAny _ _ (execs (.If _ _ [] _ :: _) _) _ _ _); refine sIf1 ?_)); k_whole)
  k_with "m:eval Tuple" => (k_here; first | ((with_reducible show wpAny _ _ (eval (.Tuple [.Constant (.str _) _ _, .Constant (.str _) _ _] _ _) _) _ _ _); k_dflt (refine tupSS (q := ?_)); k_whole; intro D' h' F' N' l1; (try k_lt l1)) | ((with_reducible show wpAny _ _ (eval (.Tuple [_, _] _ _) _) _ _ _); k_dflt (refine tup2 ?_ (Eq.refl true) (Eq.refl true)); k_whole))
  k_with "m:eval List" => (k_here; k_dflt (first | ((with_reducible show wpAny _ _ (eval (.List [_] _) _) _ _ _); refine lst1 ?_ (Eq.refl true)) | ((with_reducible show wpAny _ _ (eval (.List [_, _] _) _) _ _ _); refine lst2 ?_ (Eq.refl true) (Eq.refl true)) | ((with_reducible show wpAny _ _ (eval (.List [_, _, _] _) _) _ _ _); refine lst3 ?_ (Eq.refl true) (Eq.refl true) (Eq.refl true)) | ((with_reducible show wpAny _ _ (eval (.List [_, _, _, _] _) _) _ _ _); refine lst4 ?_ (Eq.refl true) (Eq.refl true) (Eq.refl true) (Eq.refl true))); k_whole)
  k_with "m:eval BinOp" => (k_here; k_dflt (first | ((with_reducible show wpAny _ _ (eval (.BinOp (.Name _ _) _ (.Name _ _) _) _) _ _ _); refine bNN (q := ?_)) | ((with_reducible show wpAny _ _ (eval (.BinOp (.Name _ _) _ (.Constant (.int _) _ _) _) _) _ _ _); refine bNC (q := ?_)) | ((with_reducible show wpAny _ _ (eval (.BinOp (.Name _ _) _ _ _) _) _ _ _); refine bN (q := ?_))); k_whole)
  k_with "m:isTrue Compare" => (k_here; k_dflt (first | ((with_reducible show wpAny _ _ (isTrue (.Compare (.Name _ _) [_] [(.Name _ _)] _) _ _) _ _ _); refine cNN (q := ?_)) | ((with_reducible show wpAny _ _ (isTrue (.Compare (.Name _ _) [_] [(.Constant (.int _) _ _)] _) _ _) _ _ _); refine cNC (q := ?_)) | ((with_reducible show wpAny _ _ (isTrue (.Compare (.Name _ _) [_] [_] _) _ _) _ _ _); refine cN (q := ?_))); k_whole)
  k_with "m:eval Subscript" => (k_here; k_dflt (first | ((with_reducible show wpAny _ _ (eval (.Subscript (.Name _ _) (.Name _ _) _) _) _ _ _); refine gNN (q := ?_)) | ((with_reducible show wpAny _ _ (eval (.Subscript (.Name _ _) (.Constant (.int _) _ _) _) _) _ _ _); refine gNC (q := ?_)) | ((with_reducible show wpAny _ _ (eval (.Subscript (.Name _ _) _ _) _) _ _ _); refine gN (q := ?_))); k_whole)
  trivial
open PySem.Challenge
set_option maxRecDepth 100000
set_option maxHeartbeats 1000000
theorem lenNine {vs : List Value} (h : vs.length = 9) : ((vs.toArray.size : Nat) : Int) = 9 := by rw [List.size_toArray, h]; rfl
theorem kw_LWb_1 : True := by
  k_with "m:call ref" => (k_here; (with_reducible show wpAny _ _ (call (Value.ref 290) _) _ _ _); k_dflt (refine' top_rows  _ _ _ _ _ _ _ _ _ _ _ _ _ _ ?k1 ?k2 ?k3 ?k4 ?k5 ?kK ?kd ?ku ?_); k_extra "K5"; (case kK => first | exact rfl | assumption); (case kd => decide); (case ku => decide); intro D9 vs9 nr9 h9 tk9 F9 N9 hD9 hn9 hr9; (try dsimp only); (try dsimp only [List.cons_append, List.nil_append] at N9); (all_goals (try k_fold)))
  k_with "m:call ref" => (k_here; (with_reducible show wpAny _ _ (call (Value.ref 391) _) _ _ _); k_dflt (refine' top_row ?hc0 ?hc1 ?hc2 _ _ _ _ _ _ _ _ _ _ _ _ _ _ ?k1 ?k2 ?k3 ?k4 ?k5 ?kK ?kd ?ku ?_); k_extra "K5"; (case kK => first | exact rfl | assumption); (case hc1 => with_reducible assumption); (case hc2 => kcf_all); (case hc0 => k_updF); (case kd => decide); (case ku => decide); intro v9 ta9 n9 h9 tk9 F9 N9; (try dsimp only); (try dsimp only at N9); (all_goals (try k_fold)))
  k_with "m:call ref" => (k_here; (with_reducible show wpAny _ _ (call (Value.ref 398) _) _ _ _); k_dflt (refine' top_usages ?hc0 _ _ _ _ _ _ _ _ _ _ _ _ _ _ ?k1 ?k2 ?k3 ?k4 ?k5 ?kK ?kd ?ku ?_); k_extra "K5"; (case kK => first | exact rfl | assumption); (case hc0 => k_extra "S"); (case kd => decide); (case ku => decide); intro t9 h9 tk9 F9 N9; (try dsimp only); (skip); (all_goals (try k_fold)))
  k_with "m:call ref" => (k_here; (with_reducible show wpAny _ _ (call (Value.ref 332) _) _ _ _); k_dflt (refine' top_turned ?hc0 _ _ _ _ _ _ _ _ _ _ _ _ _ _ ?k1 ?k2 ?k3 ?k4 ?k5 ?kK ?kd ?ku ?_); k_extra "K5"; (case kK => first | exact rfl | assumption); (case hc0 => k_updF); (case kd => decide); (case ku => decide); intro made9 v9 ta9 tb9 n9 h9 tk9 hok9 F9 N9; (try dsimp only); (try dsimp only at N9); (all_goals (try k_fold)))
  k_with "m:call builtin:len" => (k_here; (with_reducible show wpAny _ _ (call (Value.builtin "len") [Value.ref _]) _ _ _); k_dflt (refine' kun_lenL ?k1 ?k2 ?k3 ?_; (case k1 => exact News.isList (by k_asm) (by kcf_m)); (case k2 => exact lenNine (by with_reducible assumption)); (case k3 => decide); k_whole))
  k_with "m:call type:range" => (k_here; (rename Fr _ _ _ _ => F'); (rename News _ _ _ _ => N'); (with_unfolding_all refine range1_rows F' N' ?_); intro _ _ _ _ _ _ _ _ _)
  k_with "m:exec For Name Call cons nil" => (k_here; (rename Fr _ _ _ _ => lF'); (with_unfolding_all refine' For_invVF lF' ?k1 ?k2 ?_; (case k1 => exact rfl); (case k2 => exact rfl); k_whole))
  k_with "m:pyIter ref" => (k_here; (with_reducible show wpAny _ _ (pyIter (Value.ref _)) (fun it s₂ => LoopAtV _ _ _ _ _ _ _ _ _ it s₂) _ _); (rename Fr _ _ _ _ => lF'); (rename News _ _ _ _ => lN'); (rename IsRange _ _ _ _ _ _ _ _ => rgX); k_dflt (refine k_loop rfl rgX lF' lN' ?_ ?_); (all_goals clear lF' lN' rgX); (intro j9 k9 t9 h9 tk9 own9 ha9 hb9 ho9 F9 N9; (try dsimp only [envOf, List.cons_append, List.nil_append] at N9); (try dsimp only [envOf] at F9)); rotate_left; (intro u9 h9 tk9 F9 N9; (try dsimp only [envOf] at F9); (try dsimp only [envOf] at N9)); rotate_left; all_goals (try k_fold))
  k_with "m:subscriptTail Name Name ref int" => (k_here; (with_reducible show wpAny _ _ (subscriptTail _ _ (Value.ref _) (Value.int _ _)) _ _ _); k_dflt (refine item_row (News.isList (by k_asm) (by kcf_m)) (by with_reducible assumption) (by with_reducible assumption) (by with_reducible assumption) (by with_reducible assumption) ?_); intro R9 c9 hR9)
  k_with "m:InvEndN" => (k_here; (rename News _ _ _ _ => nE'); (rename Fr _ _ _ _ => fE'); k_dflt (refine k_end fE' nE' (by kcf_all) (by kcf_all) rfl ?_); exact fun z h1 => if_neg h1)
  k_with "m:subscriptTail Name Slice ref ref" => (k_here; (with_reducible show wpAny _ _ (subscriptTail _ (PySem.Expr.Slice _ _ (some _) _) (Value.ref _) (Value.ref _)) _ _ _); k_dflt (refine' step_ints ?zF9 ?zN9 ?zl9 ?zi9 ?zp9 ?zq9 ?zk9 ?zo9 ?_ ?zs9 ?zt9 ?zz9; (case zF9 => k_asm); (case zN9 => k_asm); (case zl9 => exact News.isList (by k_asm) (by kcf_m)); (case zi9 => l_ints); (case zp9 => kmk_part); (case zq9 => kmk_part); (case zk9 => kmk_part); (case zo9 => decide); (case zs9 => with_unfolding_all rfl); (case zt9 => kmk_pure); (case zz9 => kmk_size)); intro D8 ws8 ms8 h8 F8 N8 hI8 hM8 hL8)
  trivial
theorem bits_57 : Builtin.Int.intBits (10 ^ 30 + 57) ≤ 128 := by decide +kernel
theorem kw_LWb_2 : True := by
  k_with "m:call builtin:sum" => (k_here; (with_reducible show wpAny _ _ (call (Value.builtin "sum") [Value.ref _]) _ _ _); (rename IntsAre _ _ => hI9'); k_dflt (refine' sum_some ?F ?N ?h ?l hI9' ?_; (case F => k_asm); (case N => k_asm); (case h => first | exact rfl | assumption); (case l => exact News.isList (by k_asm) (by kcf_m))); intro x8 h8 tk8 t8 F8 N8)
  k_with "m:call builtin:sum" => (k_here; (with_reducible show wpAny _ _ (call (Value.builtin "sum") [Value.ref _]) _ _ _); (rename IntsAre _ _ => hI9'); (rename ∀ n ∈ _, n ∈ List.take _ _ => hM9'); k_dflt (refine' sum_bits (b := 2 ^ 20) ?F ?N ?h ?l hI9' (fun n hn => PyData.bits_item_of_ints (by with_reducible assumption) (List.mem_of_mem_take (hM9' n hn))) ?_; (case F => k_asm); (case N => k_asm); (case h => first | exact rfl | assumption); (case l => exact News.isList (by k_asm) (by kcf_m))); intro x8 h8 tk8 t8 F8 N8 hX8)
  k_with "m:binaryOp Mult int int" => (k_here; (with_reducible show wpAny _ _ (binaryOp _ (Value.int _ _) (Value.int _ _)) _ _ _); (rename Builtin.Int.intBits _ ≤ _ => hX8'); k_dflt (refine mul_int ?_ (mulOk_of_bits (m := 2 ^ 20 + 63) (n := 128) (Nat.le_trans hX8' (by omega)) bits_57 (by omega))); k_whole)
  trivial
local macro_rules | `(tactic| k_qdec) => `(tactic| decide +kernel)
theorem law_holds : PySem.Challenge.rw_oj0055_01.Holds := hd (by
  k_go0
  all_goals (try k_fold)
  rename Top _ _ _ _ _ _ => T9
  rename Below _ _ _ _ => K9
  dsimp only [Top.heap] at K9
  rw [loose_is] at T9
  k_steps

  all_goals (fail "left"))
end
end Mine
theorem PySem.Challenge.cw_oj0055_01_holds : PySem.Challenge.rw_oj0055_01.Holds :=
  Mine.law_holds
