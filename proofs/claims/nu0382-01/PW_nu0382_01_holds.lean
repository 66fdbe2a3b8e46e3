import PyProof.Rows.All
import Wide.All
import OpenK.AllK
import Wide.FinOn
import Lean
import PySem.Challenge.RW_nu0382_01
open PySem PySem.W PyProof.Rows PySem.Calls PySem.Spec
set_option Elab.async false
set_option maxRecDepth 100000
set_option linter.all false
namespace Mine
-- part Head
def q : Program := view PySem.Challenge.pw_nu0382_01 [33]
def loose : List PySem.Str := ["_wall", "LendError", "TraitFault", "head_pairs", "could_be", "match_type", "match_all", "MOST_DEEP", "last_name", "names_of", "matches_impl", "is_plainly_copy", "Selection", "select", "holds", "ImplRow", "World", "_law_pool", "_law_take", "_law_one", "_law_closed", "_law_heads", "_law_fit", "_law_hits", "_law_holds", "_law_told", "_law_asked_right", "_law_open_right"]
theorem said1 : (sreFenced PySem.Challenge.rw_nu0382_01.row.prog.main && ((moduleNames PySem.Challenge.rw_nu0382_01.row.prog.main.body).isEmpty || lookedIntoSs (moduleNames PySem.Challenge.rw_nu0382_01.row.prog.main.body) PySem.Challenge.rw_nu0382_01.row.prog.main.body)) = true := by kernel_rfl
theorem said2 : namesResolve PySem.Challenge.rw_nu0382_01.row.prog = true := by kernel_rfl
theorem said3 : PySem.Challenge.rw_nu0382_01.row.prog.boundNames.all (fun n => !worldNames.contains n) = true := by kernel_rfl
theorem said4 : noRoadLSs { strict := !(importedModules PySem.Challenge.rw_nu0382_01.row.prog.main.body).all cThrough.contains, foot := none, bare := (["vars", "dir", "locals"] : List Str).filter (readsOut PySem.Challenge.rw_nu0382_01.row.prog PySem.Challenge.rw_nu0382_01.row.prog.main.body) } PySem.Challenge.rw_nu0382_01.row.prog.main.body = true := by kernel_rfl
theorem said5 : (namesMeet PySem.Challenge.rw_nu0382_01.row.prog PySem.Challenge.rw_nu0382_01.row.prog.main.body fun _ n => attrL n) = true := by kernel_rfl
theorem said6 : looksOpen PySem.Challenge.rw_nu0382_01.row.prog = true := look_both (look_both (look_both (look_both said1 said2) said3) said4) said5
theorem said7 : PySem.Challenge.rw_nu0382_01.row.wellSaid = true := by
  unfold OpenRow.wellSaid OpenRow.partSaid
  rw [said6]
  kernel_rfl
theorem said9 : PySem.Challenge.rw_nu0382_01.wellSaid = true := by
  unfold OpenLaw.wellSaid
  rw [said7]
  kernel_rfl
local macro_rules | `(tactic| o_law) => `(tactic| refine holds_law said9 fun said => ?_)
local macro_rules | `(tactic| o_head $H) => `(tactic| (
  refine holds_open (q := q) (loose := loose) (Xt := fun s => xlAt q [] s && recOk (RowW.records (OpenRow.toRowW (PySem.Challenge.rw_nu0382_01.row))) s) (XP := XL q []) (Yf := Hook.obs $H) (Ya := Hook.val $H) (YP := Hook.says $H) (N := 5000) ?hl (Hook.of $H) (Hook.keeps $H) (fun s e => xl_of s (Bool.and_eq_true_iff.mp e).1) XL.keeps (by rfl) (by rfl) (by rfl) (fun s e => recFacts_of (Bool.and_eq_true_iff.mp e).2) (by rfl) (by first | assumption | decide +kernel) (by decide +kernel) ⟨rfl, rfl, rfl, rfl, rfl, by decide +kernel⟩ ?hw ?hc
  (case hl =>
    intro w
    first
    | (rw [PySem.W.Fast.te14364793385576792824]
       unfold openEnds fencedOpening
       rw [PySem.W.Fast.te10274390034422433532, PySem.W.Fast.te14289696077712309145]
       unfold topFrom
       rw [PySem.W.Fast.te14082659384304107361, PySem.W.Fast.te4187177175401517315]
       kernel_rfl)
    | kernel_rfl)))
set_option maxRecDepth 100000 in
set_option maxHeartbeats 8000000 in
open_top hd for PySem.Challenge.rw_nu0382_01

-- part Base
theorem off9 : True := by
  w_top off
  trivial
theorem filled_all : (fun (_ : OpenLaw) (_ : Params → Frag) => True) PySem.Challenge.rw_nu0382_01 hd.heap_1 := by
  k_fill
  trivial
local macro_rules | `(tactic| walk_at $s:str) => `(tactic| ((fail_if_success (plain_pass)); k_extra $s))
local macro_rules | `(tactic| k_mem) => `(tactic| k_extra "k_mem")
local macro_rules | `(tactic| k_all) => `(tactic| k_extra "k_all")
local macro_rules | `(tactic| k_ne) => `(tactic| k_extra "k_ne")
local macro_rules | `(tactic| k_room) => `(tactic| k_extra "k_room")
inductive Ty where
  | int | bool | S | T | X | V | I
  | box (t : Ty) | ref (t : Ty) | W (t : Ty) | tup (t u : Ty)
deriving DecidableEq

noncomputable abbrev tupObj (vs : List Value) (n : Nat) : Obj := { cls := .type "tuple", data := .seq vs.toArray n }

inductive TyIn (N : List (Addr × Obj)) : Value → Ty → Prop
  | int {a n t u} : (a, tupObj [.str (Str.ofString "int") t, .str (Str.ofString "i32") u] n) ∈ N → TyIn N (.ref a) .int
  | bool {a n t} : (a, tupObj [.str (Str.ofString "bool") t] n) ∈ N → TyIn N (.ref a) .bool
  | S {a n t u b c k l} : (a, tupObj [.str (Str.ofString "adt") t, .str (Str.ofString "S") u, .ref b, .ref c] n) ∈ N → (b, tupObj [] k) ∈ N → (c, tupObj [] l) ∈ N → TyIn N (.ref a) .S
  | T {a n t u} : (a, tupObj [.str (Str.ofString "param") t, .str (Str.ofString "T") u] n) ∈ N → TyIn N (.ref a) .T
  | X {a n t u} : (a, tupObj [.str (Str.ofString "param") t, .str (Str.ofString "X") u] n) ∈ N → TyIn N (.ref a) .X
  | V {a n t u} : (a, tupObj [.str (Str.ofString "var") t, .int 0 u] n) ∈ N → TyIn N (.ref a) .V
  | I {a n t u} : (a, tupObj [.str (Str.ofString "intvar") t, .int 0 u] n) ∈ N → TyIn N (.ref a) .I
  | box {a n t v y} : (a, tupObj [.str (Str.ofString "box") t, v] n) ∈ N → TyIn N v y → TyIn N (.ref a) (.box y)
  | ref {a n t v y} : (a, tupObj [.str (Str.ofString "ref") t, .none, .bool false, v] n) ∈ N → TyIn N v y → TyIn N (.ref a) (.ref y)
  | W {a n t u b c k l v y} : (a, tupObj [.str (Str.ofString "adt") t, .str (Str.ofString "W") u, .ref b, .ref c] n) ∈ N → (b, tupObj [] k) ∈ N → (c, tupObj [v] l) ∈ N → TyIn N v y → TyIn N (.ref a) (.W y)
  | tup {a n t c l v w y z} : (a, tupObj [.str (Str.ofString "tuple") t, .ref c] n) ∈ N → (c, tupObj [v, w] l) ∈ N → TyIn N v y → TyIn N w z → TyIn N (.ref a) (.tup y z)

theorem TyIn.mono {N N' : List (Addr × Obj)} (hs : ∀ p ∈ N, p ∈ N') {v : Value} {t : Ty} (h : TyIn N v t) : TyIn N' v t := by
  induction h with
  | int h => exact .int (hs _ h)
  | bool h => exact .bool (hs _ h)
  | S h h1 h2 => exact .S (hs _ h) (hs _ h1) (hs _ h2)
  | T h => exact .T (hs _ h)
  | X h => exact .X (hs _ h)
  | V h => exact .V (hs _ h)
  | I h => exact .I (hs _ h)
  | box h _ ih => exact .box (hs _ h) ih
  | ref h _ ih => exact .ref (hs _ h) ih
  | W h h1 h2 _ ih => exact .W (hs _ h) (hs _ h1) (hs _ h2) ih
  | tup h h1 _ _ ih1 ih2 => exact .tup (hs _ h) (hs _ h1) ih1 ih2

inductive PairsIn (N M : List (Addr × Obj)) : List Value → List (Ty × Ty) → Prop
  | nil : PairsIn N M [] []
  | cons {a n v w t u vs ps} : (a, tupObj [v, w] n) ∈ M → TyIn N v t → TyIn N w u → PairsIn N M vs ps → PairsIn N M (.ref a :: vs) ((t, u) :: ps)

noncomputable def Ty.kind : Ty → Str
  | .int => "int" | .bool => "bool" | .S => "adt" | .T => "param" | .X => "param" | .V => "var" | .I => "intvar"
  | .box _ => "box" | .ref _ => "ref" | .W _ => "adt" | .tup _ _ => "tuple"

noncomputable def hp : Ty → Ty → Option (List (Ty × Ty))
  | .int, .int => some [] | .bool, .bool => some [] | .S, .S => some [] | .T, .T => some [] | .X, .X => some [] | .V, .V => some [] | .I, .I => some []
  | .box t, .box u => some [(t, u)] | .ref t, .ref u => some [(t, u)] | .W t, .W u => some [(t, u)]
  | .tup a b, .tup c d => some [(a, c), (b, d)]
  | _, _ => none

inductive First (N : List (Addr × Obj)) (v : Value) (t : Ty) : Prop
  | mk (a : Addr) (n : Nat) (k : Tok) (rest : List Value) : v = .ref a → (a, tupObj (.str t.kind k :: rest) n) ∈ N → First N v t
theorem TyIn.first {N : List (Addr × Obj)} {v : Value} {t : Ty} (h : TyIn N v t) : First N v t := by
  induction h <;> exact ⟨_, _, _, _, rfl, by assumption⟩

section
variable {h₀ : Heap} {L : Addr} {N : List (Addr × Obj)} {s : Shared} {E : Value → Shared → Prop} {w : World}
theorem item_first {A : Around} {value slice : Expr} {t : Addr} {r : List Value} {u : Tok} {x : Value} {n : Nat} {Q : Value → Shared → Prop} (N1 : News h₀ L s.heap N) (hm : (t, tupObj (x :: r) n) ∈ N) (h : Q x s)
    (hs : subscripted slice false (.ref t) (.int 0 u) = operate [.ref t, .int 0 u] (getItem (.ref t) (.int 0 u)) := by with_unfolding_all rfl) :
    wpAny (model PySem.Challenge.pw_nu0382_01 w) A (subscriptTail value slice (.ref t) (.int 0 u)) Q E s :=
  item_tupleT (News.isTup N1 hm) (by decide) (by decide) (j := 0) (by simp [seqIndex?]) rfl h hs
end
theorem allne_lt {d : Addr} {l : List (Addr × Obj)} (h : AllLt d l) : ∀ p ∈ l, p.1 ≠ d := fun p hp => Nat.ne_of_lt (ktn_ltOf h p hp)
theorem allne_lt' {d : Addr} {l : List (Addr × Obj)} (h : ∀ p ∈ l, p.1 < d) : ∀ p ∈ l, p.1 ≠ d := fun p hp => Nat.ne_of_lt (h p hp)
theorem allne_gt {d : Addr} {l : List (Addr × Obj)} (h : ∀ p ∈ l, d < p.1) : ∀ p ∈ l, p.1 ≠ d := fun p hp => Nat.ne_of_gt (h p hp)
theorem allne_app {d : Addr} {l k : List (Addr × Obj)} (h : ∀ p ∈ l, p.1 ≠ d) (g : ∀ p ∈ k, p.1 ≠ d) : ∀ p ∈ l ++ k, p.1 ≠ d := fun p hp => (List.mem_append.mp hp).elim (h p) (g p)
theorem alllt_app {d : Addr} {l k : List (Addr × Obj)} (h : AllLt d (l ++ k)) : AllLt d l ∧ AllLt d k := ⟨allLt_of fun p hp => ktn_ltOf h p (List.mem_append_left _ hp), allLt_of fun p hp => ktn_ltOf h p (List.mem_append_right _ hp)⟩

noncomputable def nth {α : Type} : List α → Nat → Option α
  | [], _ => none
  | x :: _, 0 => some x
  | _ :: l, n + 1 => nth l n
theorem mem_ix {α : Type} {x : α} : ∀ {l : List α} (i : Nat), nth l i = some x → x ∈ l
  | [], _, h => nomatch h
  | _ :: _, 0, h => Option.some.inj h ▸ List.mem_cons_self
  | _ :: _, i + 1, h => List.mem_cons_of_mem _ (mem_ix i h)
theorem mem_dr {α : Type} {x : α} {l : List α} (k : Nat) (h : x ∈ l.drop k) : x ∈ l := List.mem_of_mem_drop h
theorem let_env {M : Model} {A : Around} {env : Env} {b : List Stmt} {Q : Flow → Shared → Prop} {E : Value → Shared → Prop} {s : Shared} (h : let A9 := A; let env9 := env; let Q9 := Q; let E9 := E; wpAny M A9 (execs b env9) Q9 E9 s) : wpAny M A (execs b env) Q E s := h
theorem allne_sub {l r : List (Addr × Obj)} {d : Addr} (h : ∀ p ∈ l, p.1 < d) (s : ∀ p ∈ r, p ∈ l) : ∀ p ∈ r, p.1 ≠ d := fun p hp => Nat.ne_of_lt (h p (s p hp))
theorem lt_mem {l : List (Addr × Obj)} {x D : Addr} {o : Obj} (h : ∀ p ∈ l, p.1 < D) (hm : (x, o) ∈ l) : x < D := h _ hm
theorem allne_cons {l r : List (Addr × Obj)} {a : Addr × Obj} {d : Addr} (e : l = a :: r) (h1 : a.1 ≠ d) (h2 : ∀ p ∈ r, p.1 ≠ d) : ∀ p ∈ l, p.1 ≠ d := e ▸ List.forall_mem_cons.mpr ⟨h1, h2⟩
theorem with_goal {P : Prop} (h : ∀ G : Prop, (P → G) → G) : P := h P id
noncomputable def Stop (p : Prop) : Prop := p
theorem stop_intro {p : Prop} (h : Stop p) : p := h
theorem stop_elim {p : Prop} (h : p) : Stop p := h
theorem news_sub0 {h₀ h : Heap} {L : Addr} {x : Addr × Obj} {M : List (Addr × Obj)} (N : News h₀ L h (x :: M)) : News h₀ L h M := fun p hp => N p (List.mem_cons_of_mem _ hp)
theorem let_fr {h₀ h : Heap} {L : Addr} {m : Str → Option Value} {G : Prop} (F : Fr h₀ L h m) (k : let m9 := m; Fr h₀ L h m9 → G) : G := k F
theorem fa_nil {α : Type} {p : α → Prop} : ∀ x ∈ ([] : List α), p x := fun _ h => nomatch h
theorem fa_cons {α : Type} {p : α → Prop} {a : α} {l : List α} (h : p a) (t : ∀ x ∈ l, p x) : ∀ x ∈ a :: l, p x := List.forall_mem_cons.mpr ⟨h, t⟩
theorem fa_app {α : Type} {p : α → Prop} {k l : List α} (h : ∀ x ∈ k, p x) (t : ∀ x ∈ l, p x) : ∀ x ∈ k ++ l, p x := List.forall_mem_append.mpr ⟨h, t⟩
theorem fa_tail {α : Type} {p : α → Prop} {a : α} {l : List α} (t : ∀ x ∈ a :: l, p x) : ∀ x ∈ l, p x := fun x h => t x (List.mem_cons_of_mem _ h)
theorem sb_tail {α : Type} {a : α} {l k : List α} (t : ∀ x ∈ l, x ∈ k) : ∀ x ∈ l, x ∈ a :: k := fun x h => List.mem_cons_of_mem _ (t x h)
theorem sb_left {α : Type} {l k j : List α} (t : ∀ x ∈ l, x ∈ k) : ∀ x ∈ l, x ∈ k ++ j := fun x h => List.mem_append_left _ (t x h)
theorem sb_right {α : Type} {l k j : List α} (t : ∀ x ∈ l, x ∈ k) : ∀ x ∈ l, x ∈ j ++ k := fun x h => List.mem_append_right _ (t x h)
theorem sb_refl {α : Type} {l : List α} : ∀ x ∈ l, x ∈ l := fun _ h => h
/-- an entry is the only one at its address -/
theorem ent9 {h : Heap} {b : Addr} {o' : Obj} {M : List (Addr × Obj)} (e : h.get? b = some o') (m : (b, o') ∈ M) : ∀ o, h.get? b = some o → (b, o) ∈ M := fun o q => by rw [Option.some.inj (q.symm.trans e)]; exact m
theorem own_sub {h : Heap} {own M : List (Addr × Obj)} {fp : List Addr} (hown : ∀ p ∈ own, p.1 ∈ fp) (hval : ∀ p ∈ own, h.get? p.1 = some p.2) (hf : ∀ b ∈ fp, ∀ o, h.get? b = some o → (b, o) ∈ M) : ∀ p ∈ own, p ∈ M :=
  fun p hp => hf p.1 (hown p hp) p.2 (hval p hp)
theorem mm0 {α : Type} {x : α} {l : List α} : x ∈ x :: l := List.mem_cons_self
theorem mm1 {α : Type} {a x : α} {l : List α} : x ∈ a :: x :: l := List.mem_cons_of_mem _ List.mem_cons_self
theorem mm2 {α : Type} {a b x : α} {l : List α} : x ∈ a :: b :: x :: l := List.mem_cons_of_mem _ mm1
theorem mm3 {α : Type} {a b c x : α} {l : List α} : x ∈ a :: b :: c :: x :: l := List.mem_cons_of_mem _ mm2
theorem mmt2 {α : Type} {a b x : α} {l : List α} (h : x ∈ l) : x ∈ a :: b :: l := List.mem_cons_of_mem _ (List.mem_cons_of_mem _ h)
theorem mmt4 {α : Type} {a b c d x : α} {l : List α} (h : x ∈ l) : x ∈ a :: b :: c :: d :: l := mmt2 (mmt2 h)
theorem sb_tail2 {α : Type} {a b : α} {l k : List α} (t : ∀ x ∈ l, x ∈ k) : ∀ x ∈ l, x ∈ a :: b :: k := fun x h => mmt2 (t x h)
theorem own_sub' {h : Heap} {own M : List (Addr × Obj)} {fp : List Addr} (hown : ∀ p ∈ own, p.1 ∈ fp) (hval : ∀ p ∈ own, h.get? p.1 = some p.2) (hf : ∀ b ∈ fp, ∀ o, h.get? b = some o → (b, o) ∈ own → (b, o) ∈ M) : ∀ p ∈ own, p ∈ M :=
  fun p hp => hf p.1 (hown p hp) p.2 (hval p hp) hp
theorem fa_not {α : Type} {b : α} {l : List α} (h : ∀ x ∈ l, x ≠ b) : b ∉ l := fun hb => h b hb rfl
theorem news_sub9 {h₀ h : Heap} {L : Addr} {M M' : List (Addr × Obj)} (Nw : News h₀ L h M) (sb : ∀ p ∈ M', p ∈ M) : News h₀ L h M' := fun p hp => Nw p (sb p hp)
inductive Item3 (news : List (Addr × Obj)) (ys : List Value) (i : Nat) (v : Value) : Prop
  | mk (t : Addr) (x y z : Value) (n : Nat) : v = .ref t → (t, tupObj [x, y, z] n) ∈ news → ys[i]? = some x → Item3 news ys i v
theorem Item3.mono {N M : List (Addr × Obj)} {ys : List Value} {i : Nat} {v : Value} (h : Item3 N ys i v) (s : ∀ p ∈ N, p ∈ M) : Item3 M ys i v := match h with | ⟨t, x, y, z, n, e, m, q⟩ => ⟨t, x, y, z, n, e, s _ m, q⟩
theorem no_some {α : Type} {x : α} {P : Prop} (h : (none : Option α) = some x) : P := nomatch h
theorem no_true {P : Prop} (h : false = true) : P := nomatch h
section
variable {x a b K M l : Nat}
theorem rmA0 (h : x + K < l) : x < l := Nat.lt_of_le_of_lt (Nat.le_add_right x K) h
theorem rmA1 (h : x + K < l) (c : Nat.ble a K = true) : x + a < l := Nat.lt_of_le_of_lt (Nat.add_le_add_left (Nat.le_of_ble_eq_true c) x) h
theorem rmA2 (h : x + K < l) (c : Nat.ble (a + b) K = true) : x + a + b < l := Nat.add_assoc x a b ▸ rmA1 h c
theorem rmB0 (h : x + M + K < l) : x < l := rmA0 (rmA0 h)
theorem rmB1 (h : x + M + K < l) (c : Nat.ble a K = true) : x + a < l := rmA1 (K := K) (Nat.lt_of_le_of_lt (Nat.add_le_add_right (Nat.le_add_right x M) K) h) c
theorem rmB2 (h : x + M + K < l) (c : Nat.ble (a + b) K = true) : x + a + b < l := Nat.add_assoc x a b ▸ rmB1 h c
theorem rmC1 (h : x + K + M < l) (c : Nat.ble a K = true) : x + a < l := rmA1 (rmA0 h) c
theorem rmC2 (h : x + K + M < l) (c : Nat.ble (a + b) K = true) : x + a + b < l := rmA2 (rmA0 h) c
theorem rmU {d : Nat} (h : x + K < l) (hd : d ≤ 4) (c : Nat.ble (a + 10) K = true) : x + a + 2 * d + 2 < l :=
  Nat.lt_of_le_of_lt (by rw [Nat.add_assoc, Nat.add_assoc]; exact Nat.add_le_add_left (Nat.le_trans (Nat.add_le_add_left (Nat.add_le_add_right (Nat.mul_le_mul_left 2 hd) 2) a) (Nat.le_of_ble_eq_true c)) x) h
/-- the same with a part that both have -/
theorem rmD2 (h : x + M + K < l) (c : Nat.ble (a + b) K = true) : x + a + M + b < l := by
  rw [Nat.add_right_comm x a M, Nat.add_assoc]
  exact rmA1 h c
end
structure UOk (A : Around) : Prop where
  h : A.units < cLine

-- part Ops
noncomputable def Ty.data : Ty → PyData
  | .int => .tuple [.str (Str.ofString "int"), .str (Str.ofString "i32")]
  | .bool => .tuple [.str (Str.ofString "bool")]
  | .S => .tuple [.str (Str.ofString "adt"), .str (Str.ofString "S"), .tuple [], .tuple []]
  | .T => .tuple [.str (Str.ofString "param"), .str (Str.ofString "T")]
  | .X => .tuple [.str (Str.ofString "param"), .str (Str.ofString "X")]
  | .V => .tuple [.str (Str.ofString "var"), .int 0]
  | .I => .tuple [.str (Str.ofString "intvar"), .int 0]
  | .box t => .tuple [.str (Str.ofString "box"), t.data]
  | .ref t => .tuple [.str (Str.ofString "ref"), .none, .bool false, t.data]
  | .W t => .tuple [.str (Str.ofString "adt"), .str (Str.ofString "W"), .tuple [], .tuple [t.data]]
  | .tup t u => .tuple [.str (Str.ofString "tuple"), .tuple [t.data, u.data]]
noncomputable def Ty.dep : Ty → Nat
  | .box t => t.dep + 1 | .ref t => t.dep + 1 | .W t => t.dep + 1 | .tup t u => max t.dep u.dep + 1 | _ => 0
theorem Ty.eqv_data : ∀ t u : Ty, PyData.eqv t.data u.data = decide (t = u) := by
  have ss (x : Str) : (x == x) = true := by simp
  intro t
  induction t with
  | box t ih => intro u; induction u using Ty.casesOn <;> first | with_unfolding_all rfl | (rename_i v; have := ih v; simp only [Ty.data, PyData.eqv, PyData.eqvAll, this, ss, Bool.true_and, Bool.and_true, Ty.box.injEq])
  | ref t ih => intro u; induction u using Ty.casesOn <;> first | with_unfolding_all rfl | (rename_i v; have := ih v; simp only [Ty.data, PyData.eqv, PyData.eqvAll, this, ss, Bool.true_and, Bool.and_true, Ty.ref.injEq, beq_self_eq_true])
  | W t ih => intro u; induction u using Ty.casesOn <;> first | with_unfolding_all rfl | (rename_i v; have := ih v; simp only [Ty.data, PyData.eqv, PyData.eqvAll, this, ss, Bool.true_and, Bool.and_true, Ty.W.injEq])
  | tup t t' ih ih' => intro u; induction u using Ty.casesOn <;> first | with_unfolding_all rfl | (rename_i v v'; have := ih v; have := ih' v'; simp only [Ty.data, PyData.eqv, PyData.eqvAll, ih, ih', ss, Bool.true_and, Bool.and_true, Ty.tup.injEq, Bool.decide_and])
  | _ => intro u; induction u using Ty.casesOn <;> with_unfolding_all rfl
theorem Ty.lay_data (t : Ty) : t.data.canLay0 = true := by
  have h1 : PyData.strOk (Str.ofString "box") = true := by decide +kernel
  have h2 : PyData.strOk (Str.ofString "ref") = true := by decide +kernel
  have h3 : PyData.strOk (Str.ofString "adt") = true := by decide +kernel
  have h4 : PyData.strOk (Str.ofString "W") = true := by decide +kernel
  have h5 : PyData.strOk (Str.ofString "tuple") = true := by decide +kernel
  induction t with
  | box t ih => simp only [Ty.data, PyData.canLay0, PyData.canLayAll0, ih, h1, Bool.and_self]
  | ref t ih => simp only [Ty.data, PyData.canLay0, PyData.canLayAll0, ih, h2, Bool.and_self]
  | W t ih => simp only [Ty.data, PyData.canLay0, PyData.canLayAll0, ih, h3, h4, Bool.and_self]
  | tup t t' ih ih' => simp only [Ty.data, PyData.canLay0, PyData.canLayAll0, ih, ih', h5, Bool.and_self]
  | _ => simp only [Ty.data, PyData.canLay0, PyData.canLayAll0]; decide +kernel
theorem mx9 {a b n : Nat} (h1 : a ≤ n) (h2 : b ≤ n) : max a b ≤ n := Nat.max_le.mpr ⟨h1, h2⟩
theorem dd9 {a b : Nat} (h : a ≤ b) : 2 * a + 2 ≤ 2 * b + 2 := Nat.add_le_add_right (Nat.mul_le_mul_left 2 h) 2
theorem Ty.depth_data (t : Ty) : t.data.depth ≤ 2 * t.dep + 2 := by
  have z : ∀ {n : Nat}, 0 ≤ n := Nat.zero_le _
  induction t with
  | box t ih => exact Nat.succ_le_succ (mx9 z (mx9 (Nat.le_succ_of_le ih) z) : max 0 (max t.data.depth 0) ≤ 2 * t.dep + 2 + 1)
  | ref t ih => exact Nat.succ_le_succ (mx9 z (mx9 z (mx9 z (mx9 (Nat.le_succ_of_le ih) z))) : max 0 (max 0 (max 0 (max t.data.depth 0))) ≤ 2 * t.dep + 2 + 1)
  | W t ih => exact Nat.succ_le_succ (mx9 z (mx9 z (mx9 (Nat.succ_le_succ z) (mx9 (Nat.succ_le_succ (mx9 ih z)) z))) : max 0 (max 0 (max 1 (max (max t.data.depth 0 + 1) 0))) ≤ 2 * t.dep + 2 + 1)
  | tup t t' ih ih' => exact Nat.succ_le_succ (mx9 z (mx9 (Nat.succ_le_succ (mx9 (Nat.le_trans ih (dd9 (Nat.le_max_left _ _))) (mx9 (Nat.le_trans ih' (dd9 (Nat.le_max_right _ _))) z))) z) : max 0 (max (max t.data.depth (max t'.data.depth 0) + 1) 0) ≤ 2 * max t.dep t'.dep + 2 + 1)
  | S => exact Nat.le_refl 2
  | _ => exact Nat.le_succ 1
section
variable {h₀ h : Heap} {L : Addr} {N : List (Addr × Obj)}
theorem reads_tup (Nw : News h₀ L h N) {a : Addr} {vs : List Value} {n : Nat} {xs : List PyData} (hm : (a, tupObj vs n) ∈ N) (hi : ReadsAll h vs xs []) : Reads h (.ref a) (.tuple xs) [] :=
  reads_tuple_at (Nw.get hm) rfl rfl (by simpa using hi)
theorem rAll1 {v : Value} {vs : List Value} {d : PyData} {ds : List PyData} (h1 : Reads h v d []) (h2 : ReadsAll h vs ds []) : ReadsAll h (v :: vs) (d :: ds) [] := .cons h1 h2
theorem TyIn.reads (Nw : News h₀ L h N) {v : Value} {t : Ty} (R : TyIn N v t) : Reads h v t.data [] := by
  induction R with
  | int m => exact reads_tup Nw m (rAll1 (.str _ _) (rAll1 (.str _ _) .nil))
  | bool m => exact reads_tup Nw m (rAll1 (.str _ _) .nil)
  | S m m1 m2 => exact reads_tup Nw m (rAll1 (.str _ _) (rAll1 (.str _ _) (rAll1 (reads_tup Nw m1 .nil) (rAll1 (reads_tup Nw m2 .nil) .nil))))
  | T m => exact reads_tup Nw m (rAll1 (.str _ _) (rAll1 (.str _ _) .nil))
  | X m => exact reads_tup Nw m (rAll1 (.str _ _) (rAll1 (.str _ _) .nil))
  | V m => exact reads_tup Nw m (rAll1 (.str _ _) (rAll1 (.int _ _) .nil))
  | I m => exact reads_tup Nw m (rAll1 (.str _ _) (rAll1 (.int _ _) .nil))
  | box m _ ih => exact reads_tup Nw m (rAll1 (.str _ _) (rAll1 ih .nil))
  | ref m _ ih => exact reads_tup Nw m (rAll1 (.str _ _) (rAll1 .none (rAll1 (.bool _) (rAll1 ih .nil))))
  | W m m1 m2 _ ih => exact reads_tup Nw m (rAll1 (.str _ _) (rAll1 (.str _ _) (rAll1 (reads_tup Nw m1 .nil) (rAll1 (reads_tup Nw m2 (rAll1 ih .nil)) .nil))))
  | tup m m1 _ _ ih ih' => exact reads_tup Nw m (rAll1 (.str _ _) (rAll1 (reads_tup Nw m1 (rAll1 ih (rAll1 ih' .nil))) .nil))
end
section
variable {prog : Program} {w : World} {A : Around} {h₀ : Heap} {L : Addr} {N M : List (Addr × Obj)} {s : Shared} {E Q : Value → Shared → Prop}
theorem ty_eq (Nw : News h₀ L s.heap M) {N N' : List (Addr × Obj)} {v u : Value} {t t' : Ty} (R : TyIn N v t) (R2 : TyIn N' u t') (sn : ∀ p ∈ N, p ∈ M) (sn' : ∀ p ∈ N', p ∈ M) (hu : A.units + 2 * t.dep + 2 < cLine) (h : Q (.bool (decide (t = t'))) s) :
    wpAny (model prog w) A (compareOp .Eq v u) Q E s := by
  refine SeqAt.compareEq_reads ((R.mono sn).reads Nw) ((R2.mono sn').reads Nw) t.lay_data t'.lay_data ?_ (by rw [Ty.eqv_data]; exact h)
  exact Nat.lt_of_le_of_lt (Nat.add_le_add_left (Nat.le_trans (Nat.min_le_left _ _) t.depth_data) _) (by rw [← Nat.add_assoc]; exact hu)
theorem ne_nil {l e : Addr} {vs : List Value} {n k : Nat} (Nw : News h₀ L s.heap M) (m1 : (l, listOf vs.toArray n) ∈ M) (m2 : (e, listOf #[] k) ∈ M) (hu : A.units < cLine) {b : Bool} (hb : vs.isEmpty = b) (h : Q (.bool (!b)) s) :
    wpAny (model prog w) A (compareOp .NotEq (.ref l) (.ref e)) Q E s := by
  subst hb
  induction vs using List.casesOn with
  | nil => exact SeqAt.RcNeAt.lists (e := fun _ => true) (Nw.isList m1) (Nw.isList m2) rfl hu (fun j h1 _ => absurd h1 (Nat.not_lt_zero _)) prog w E Q h
  | cons v vs => exact SeqAt.RcNeAt.lists_lengths (Nw.isList m1) (Nw.isList m2) (by simp) hu prog w E Q h
theorem eq_nil {l e : Addr} {vs : List Value} {n k : Nat} (Nw : News h₀ L s.heap M) (m1 : (l, listOf vs.toArray n) ∈ M) (m2 : (e, listOf #[] k) ∈ M) (hu : A.units < cLine) {b : Bool} (hb : vs.isEmpty = b) (h : Q (.bool b) s) :
    wpAny (model prog w) A (compareOp .Eq (.ref l) (.ref e)) Q E s := by
  subst hb
  induction vs using List.casesOn with
  | nil => exact SeqAt.RcAt.lists (e := fun _ => true) (Nw.isList m1) (Nw.isList m2) rfl hu (fun j h1 _ => absurd h1 (Nat.not_lt_zero _)) prog w E Q h
  | cons v vs => exact SeqAt.RcAt.lists_lengths (Nw.isList m1) (Nw.isList m2) (by simp) hu prog w E Q h
end
theorem news_sub {h₀ h : Heap} {L : Addr} {M M' : List (Addr × Obj)} (Nw : News h₀ L h M) (sb : ∀ p ∈ M', p ∈ M) : News h₀ L h M' := fun p hp => Nw p (sb p hp)

-- part Ev
theorem words_Ev : True := by
  k_with "ev" => (first | exact ev_str | exact ev_int | exact ev_none | exact ev_bool | (refine' ev_name ?kq_F ?kq_v ?kq_k; (case kq_F => k_asm); (case kq_k => exact rfl); (case kq_v => exact rfl)) | (refine' ev_cell ?kq_N ?kq_c ?kq_m ?kq_d ?kq_k; (case kq_k => exact rfl); (case kq_N => k_asm); (case kq_c => exact rfl); (case kq_m => k_mem); (case kq_d => k_asm)) | (refine' ev_sub ?kq_N ?kq_e ?kq_m ?kq_x; (case kq_e => k_extra "ev"); (case kq_N => k_asm); (case kq_m => k_mem); (case kq_x => exact rfl)) | (refine' ev_first ?kq_N ?kq_e ?kq_m; (case kq_e => k_extra "ev"); (case kq_N => k_asm); (case kq_m => k_mem)) | fail "no")
  k_with "evl" => (first | exact evl_nil | (refine' evl_cons ?kq_a ?kq_b ?kq_c; (case kq_c => intro _; exact rfl); (case kq_a => k_extra "ev"); (case kq_b => k_extra "evl")) | fail "no")
  k_with "hb" => (first | ((fail_if_success (fail_if_success (decide +kernel))); kernel_rfl) | fail "no")
  k_with "hbn" => (first | exact Bool.eq_false_iff.mpr (by k_extra "mine_not") | fail "no")
  k_with "hby" => (first | k_extra "mine_fact" | fail "no")
  k_with "tst" => (first | (refine' tst_eqc ?kq_a ?kq_b; (case kq_a => k_extra "ev"); (case kq_b => k_extra "hb")) | (refine' tst_nec ?kq_a ?kq_b; (case kq_a => k_extra "ev"); (case kq_b => k_extra "hb")) | (refine' tst_eqv ?kq_a ?kq_b ?kq_c ?kq_d; (case kq_c => exact rfl); (case kq_a => k_extra "ev"); (case kq_b => k_extra "ev"); (case kq_d => k_extra "hb")) | (refine' tst_nev ?kq_a ?kq_b ?kq_c ?kq_d; (case kq_c => exact rfl); (case kq_a => k_extra "ev"); (case kq_b => k_extra "ev"); (case kq_d => k_extra "hb")) | fail "no")
  k_with "tstn" => (first | (refine' tst_eqc ?kq_a ?kq_b; (case kq_a => k_extra "ev"); (case kq_b => k_extra "hbn")) | (refine' tst_nec ?kq_a ?kq_b; (case kq_a => k_extra "ev"); (case kq_b => k_extra "hbn")) | (refine' tst_eqv ?kq_a ?kq_b ?kq_c ?kq_d; (case kq_c => exact rfl); (case kq_a => k_extra "ev"); (case kq_b => k_extra "ev"); (case kq_d => k_extra "hbn")) | (refine' tst_nev ?kq_a ?kq_b ?kq_c ?kq_d; (case kq_c => exact rfl); (case kq_a => k_extra "ev"); (case kq_b => k_extra "ev"); (case kq_d => k_extra "hbn")) | fail "no")
  k_with "tsty" => (first | (refine' tst_eqc ?kq_a ?kq_b; (case kq_a => k_extra "ev"); (case kq_b => k_extra "hby")) | (refine' tst_nec ?kq_a ?kq_b; (case kq_a => k_extra "ev"); (case kq_b => k_extra "hby")) | (refine' tst_eqv ?kq_a ?kq_b ?kq_c ?kq_d; (case kq_c => exact rfl); (case kq_a => k_extra "ev"); (case kq_b => k_extra "ev"); (case kq_d => k_extra "hby")) | (refine' tst_nev ?kq_a ?kq_b ?kq_c ?kq_d; (case kq_c => exact rfl); (case kq_a => k_extra "ev"); (case kq_b => k_extra "ev"); (case kq_d => k_extra "hby")) | fail "no")
  k_with "execs cons If" => (first | (k_here; (with_reducible show wpAny _ _ (execs (Stmt.If (Expr.Compare _ _ _ _) _ _ _ :: _) _) _ _ _); (first | (with_reducible show wpAny _ _ (execs (Stmt.If (Expr.Compare (Expr.Name _ _) [CmpOp.Eq] [(Expr.Constant _ _ _)] _) _ _ _ :: _) _) _ _ _) | (with_reducible show wpAny _ _ (execs (Stmt.If (Expr.Compare (Expr.Name _ _) [CmpOp.Eq] [(Expr.Name _ _)] _) _ _ _ :: _) _) _ _ _) | (with_reducible show wpAny _ _ (execs (Stmt.If (Expr.Compare (Expr.Name _ _) [CmpOp.Eq] [(Expr.Subscript (Expr.Name _ _) (Expr.Constant _ _ _) _)] _) _ _ _ :: _) _) _ _ _) | (with_reducible show wpAny _ _ (execs (Stmt.If (Expr.Compare (Expr.Name _ _) [CmpOp.NotEq] [(Expr.Constant _ _ _)] _) _ _ _ :: _) _) _ _ _) | (with_reducible show wpAny _ _ (execs (Stmt.If (Expr.Compare (Expr.Name _ _) [CmpOp.NotEq] [(Expr.Name _ _)] _) _ _ _ :: _) _) _ _ _) | (with_reducible show wpAny _ _ (execs (Stmt.If (Expr.Compare (Expr.Name _ _) [CmpOp.NotEq] [(Expr.Subscript (Expr.Name _ _) (Expr.Constant _ _ _) _)] _) _ _ _ :: _) _) _ _ _) | (with_reducible show wpAny _ _ (execs (Stmt.If (Expr.Compare (Expr.Subscript (Expr.Name _ _) (Expr.Constant _ _ _) _) [CmpOp.Eq] [(Expr.Constant _ _ _)] _) _ _ _ :: _) _) _ _ _) | (with_reducible show wpAny _ _ (execs (Stmt.If (Expr.Compare (Expr.Subscript (Expr.Name _ _) (Expr.Constant _ _ _) _) [CmpOp.Eq] [(Expr.Name _ _)] _) _ _ _ :: _) _) _ _ _) | (with_reducible show wpAny _ _ (execs (Stmt.If (Expr.Compare (Expr.Subscript (Expr.Name _ _) (Expr.Constant _ _ _) _) [CmpOp.Eq] [(Expr.Subscript (Expr.Name _ _) (Expr.Constant _ _ _) _)] _) _ _ _ :: _) _) _ _ _) | (with_reducible show wpAny _ _ (execs (Stmt.If (Expr.Compare (Expr.Subscript (Expr.Name _ _) (Expr.Constant _ _ _) _) [CmpOp.NotEq] [(Expr.Constant _ _ _)] _) _ _ _ :: _) _) _ _ _) | (with_reducible show wpAny _ _ (execs (Stmt.If (Expr.Compare (Expr.Subscript (Expr.Name _ _) (Expr.Constant _ _ _) _) [CmpOp.NotEq] [(Expr.Name _ _)] _) _ _ _ :: _) _) _ _ _) | (with_reducible show wpAny _ _ (execs (Stmt.If (Expr.Compare (Expr.Subscript (Expr.Name _ _) (Expr.Constant _ _ _) _) [CmpOp.NotEq] [(Expr.Subscript (Expr.Name _ _) (Expr.Constant _ _ _) _)] _) _ _ _ :: _) _) _ _ _) | (with_reducible show wpAny _ _ (execs (Stmt.If (Expr.Compare (Expr.Subscript (Expr.Subscript (Expr.Name _ _) (Expr.Constant _ _ _) _) (Expr.Constant _ _ _) _) [CmpOp.Eq] [(Expr.Constant _ _ _)] _) _ _ _ :: _) _) _ _ _) | (with_reducible show wpAny _ _ (execs (Stmt.If (Expr.Compare (Expr.Subscript (Expr.Subscript (Expr.Name _ _) (Expr.Constant _ _ _) _) (Expr.Constant _ _ _) _) [CmpOp.Eq] [(Expr.Name _ _)] _) _ _ _ :: _) _) _ _ _) | (with_reducible show wpAny _ _ (execs (Stmt.If (Expr.Compare (Expr.Subscript (Expr.Subscript (Expr.Name _ _) (Expr.Constant _ _ _) _) (Expr.Constant _ _ _) _) [CmpOp.Eq] [(Expr.Subscript (Expr.Name _ _) (Expr.Constant _ _ _) _)] _) _ _ _ :: _) _) _ _ _) | (with_reducible show wpAny _ _ (execs (Stmt.If (Expr.Compare (Expr.Subscript (Expr.Subscript (Expr.Name _ _) (Expr.Constant _ _ _) _) (Expr.Constant _ _ _) _) [CmpOp.NotEq] [(Expr.Constant _ _ _)] _) _ _ _ :: _) _) _ _ _) | (with_reducible show wpAny _ _ (execs (Stmt.If (Expr.Compare (Expr.Subscript (Expr.Subscript (Expr.Name _ _) (Expr.Constant _ _ _) _) (Expr.Constant _ _ _) _) [CmpOp.NotEq] [(Expr.Name _ _)] _) _ _ _ :: _) _) _ _ _) | (with_reducible show wpAny _ _ (execs (Stmt.If (Expr.Compare (Expr.Subscript (Expr.Subscript (Expr.Name _ _) (Expr.Constant _ _ _) _) (Expr.Constant _ _ _) _) [CmpOp.NotEq] [(Expr.Subscript (Expr.Name _ _) (Expr.Constant _ _ _) _)] _) _ _ _ :: _) _) _ _ _)); k_dflt (first | (refine' if_n ?kq_t ?_; (case kq_t => k_extra "tst"); k_whole) | (refine' if_o ?kq_t ?_; (case kq_t => k_extra "tst"); k_whole) | (refine' if_y ?kq_t ?_; (case kq_t => k_extra "tst"); k_whole) | (refine' if_n ?kq_t ?_; (case kq_t => k_extra "tstn"); k_whole) | (refine' if_o ?kq_t ?_; (case kq_t => k_extra "tstn"); k_whole) | (refine' if_y ?kq_t ?_; (case kq_t => k_extra "tsty"); k_whole)); (try dsimp only)) | fail "no")
  k_with "execs cons Return" => (first | (k_here; (first | (with_reducible show wpAny _ _ (execs (Stmt.Return (some (Expr.Subscript _ _ _)) _ :: _) _) _ _ _) | (with_reducible show wpAny _ _ (execs (Stmt.Return (some (Expr.Constant _ _ _)) _ :: _) _) _ _ _) | (with_reducible show wpAny _ _ (execs (Stmt.Return (some (Expr.Name _ _)) _ :: _) _) _ _ _)); k_dflt (refine' ret_ev ?kq_t ?_; (case kq_t => k_extra "ev"); k_whole); (try dsimp only)) | fail "no")
  k_with "execs cons Assign" => (first | (k_here; (first | (with_reducible show wpAny _ _ (execs (Stmt.Assign [Expr.Name _ _] (Expr.Subscript _ _ _) _ :: _) _) _ _ _) | (with_reducible show wpAny _ _ (execs (Stmt.Assign [Expr.Name _ _] (Expr.Constant _ _ _) _ :: _) _) _ _ _) | (with_reducible show wpAny _ _ (execs (Stmt.Assign [Expr.Name _ _] (Expr.Name _ _) _ :: _) _) _ _ _)); k_dflt (refine' asg_ev ?kq_F ?kq_N ?kq_t ?kq_k ?_ ?kq_s; (case kq_k => exact rfl); (case kq_s => exact rfl); (case kq_F => k_asm); (case kq_N => k_asm); (case kq_t => k_extra "ev"); k_whole); intro h' t' m' F' N'; (try dsimp only); (try k_sweep)) | fail "no")
  k_with "spliced" => (first | (k_here; k_dflt (refine' evl_use ?kq_t ?_; (case kq_t => k_extra "evl"); k_whole); (try dsimp only [List.cons_append, List.nil_append])) | fail "no")
  k_with "eval Subscript" => (first | (k_here; k_dflt (refine' ev_use ?kq_t ?_; (case kq_t => k_extra "ev"); k_whole); (try dsimp only)) | fail "no")
  k_with "isTrue Compare" => (first | (k_here; (first | (with_reducible show wpAny _ _ (isTrue (Expr.Compare (Expr.Name _ _) [CmpOp.Eq] [(Expr.Constant _ _ _)] _) _ _) _ _ _) | (with_reducible show wpAny _ _ (isTrue (Expr.Compare (Expr.Name _ _) [CmpOp.Eq] [(Expr.Name _ _)] _) _ _) _ _ _) | (with_reducible show wpAny _ _ (isTrue (Expr.Compare (Expr.Name _ _) [CmpOp.Eq] [(Expr.Subscript (Expr.Name _ _) (Expr.Constant _ _ _) _)] _) _ _) _ _ _) | (with_reducible show wpAny _ _ (isTrue (Expr.Compare (Expr.Name _ _) [CmpOp.NotEq] [(Expr.Constant _ _ _)] _) _ _) _ _ _) | (with_reducible show wpAny _ _ (isTrue (Expr.Compare (Expr.Name _ _) [CmpOp.NotEq] [(Expr.Name _ _)] _) _ _) _ _ _) | (with_reducible show wpAny _ _ (isTrue (Expr.Compare (Expr.Name _ _) [CmpOp.NotEq] [(Expr.Subscript (Expr.Name _ _) (Expr.Constant _ _ _) _)] _) _ _) _ _ _) | (with_reducible show wpAny _ _ (isTrue (Expr.Compare (Expr.Subscript (Expr.Name _ _) (Expr.Constant _ _ _) _) [CmpOp.Eq] [(Expr.Constant _ _ _)] _) _ _) _ _ _) | (with_reducible show wpAny _ _ (isTrue (Expr.Compare (Expr.Subscript (Expr.Name _ _) (Expr.Constant _ _ _) _) [CmpOp.Eq] [(Expr.Name _ _)] _) _ _) _ _ _) | (with_reducible show wpAny _ _ (isTrue (Expr.Compare (Expr.Subscript (Expr.Name _ _) (Expr.Constant _ _ _) _) [CmpOp.Eq] [(Expr.Subscript (Expr.Name _ _) (Expr.Constant _ _ _) _)] _) _ _) _ _ _) | (with_reducible show wpAny _ _ (isTrue (Expr.Compare (Expr.Subscript (Expr.Name _ _) (Expr.Constant _ _ _) _) [CmpOp.NotEq] [(Expr.Constant _ _ _)] _) _ _) _ _ _) | (with_reducible show wpAny _ _ (isTrue (Expr.Compare (Expr.Subscript (Expr.Name _ _) (Expr.Constant _ _ _) _) [CmpOp.NotEq] [(Expr.Name _ _)] _) _ _) _ _ _) | (with_reducible show wpAny _ _ (isTrue (Expr.Compare (Expr.Subscript (Expr.Name _ _) (Expr.Constant _ _ _) _) [CmpOp.NotEq] [(Expr.Subscript (Expr.Name _ _) (Expr.Constant _ _ _) _)] _) _ _) _ _ _) | (with_reducible show wpAny _ _ (isTrue (Expr.Compare (Expr.Subscript (Expr.Subscript (Expr.Name _ _) (Expr.Constant _ _ _) _) (Expr.Constant _ _ _) _) [CmpOp.Eq] [(Expr.Constant _ _ _)] _) _ _) _ _ _) | (with_reducible show wpAny _ _ (isTrue (Expr.Compare (Expr.Subscript (Expr.Subscript (Expr.Name _ _) (Expr.Constant _ _ _) _) (Expr.Constant _ _ _) _) [CmpOp.Eq] [(Expr.Name _ _)] _) _ _) _ _ _) | (with_reducible show wpAny _ _ (isTrue (Expr.Compare (Expr.Subscript (Expr.Subscript (Expr.Name _ _) (Expr.Constant _ _ _) _) (Expr.Constant _ _ _) _) [CmpOp.Eq] [(Expr.Subscript (Expr.Name _ _) (Expr.Constant _ _ _) _)] _) _ _) _ _ _) | (with_reducible show wpAny _ _ (isTrue (Expr.Compare (Expr.Subscript (Expr.Subscript (Expr.Name _ _) (Expr.Constant _ _ _) _) (Expr.Constant _ _ _) _) [CmpOp.NotEq] [(Expr.Constant _ _ _)] _) _ _) _ _ _) | (with_reducible show wpAny _ _ (isTrue (Expr.Compare (Expr.Subscript (Expr.Subscript (Expr.Name _ _) (Expr.Constant _ _ _) _) (Expr.Constant _ _ _) _) [CmpOp.NotEq] [(Expr.Name _ _)] _) _ _) _ _ _) | (with_reducible show wpAny _ _ (isTrue (Expr.Compare (Expr.Subscript (Expr.Subscript (Expr.Name _ _) (Expr.Constant _ _ _) _) (Expr.Constant _ _ _) _) [CmpOp.NotEq] [(Expr.Subscript (Expr.Name _ _) (Expr.Constant _ _ _) _)] _) _ _) _ _ _)); k_dflt (first | (refine' tst_use (b := false) ?kq_t ?_; (case kq_t => k_extra "tst"); k_whole) | (refine' tst_use (b := true) ?kq_t ?_; (case kq_t => k_extra "tst"); k_whole) | (refine' tst_use (b := false) ?kq_t ?_; (case kq_t => k_extra "tstn"); k_whole) | (refine' tst_use (b := true) ?kq_t ?_; (case kq_t => k_extra "tsty"); k_whole)); (try dsimp only)) | fail "no")
  k_with "newTuple" => (k_here; (with_reducible show wpAny _ _ (newTuple _) _ _ _); k_dflt (refine' nt_step ?kq_F ?kq_N ?_ ?kq_z; (case kq_F => k_asm); (case kq_N => k_asm); (case kq_z => exact Nat.le_trans (Nat.le_of_ble_eq_true rfl : _ ≤ 100) (by decide)); k_whole); intro D' h' t' F' N' l1; (try k_lt l1); (try k_sweep))
  k_with "newList" => (k_here; (with_reducible show wpAny _ _ (newList _) _ _ _); k_dflt (refine' nl_step ?kq_F ?kq_N ?_ ?kq_z; (case kq_F => k_asm); (case kq_N => k_asm); (case kq_z => exact Nat.le_trans (Nat.le_of_ble_eq_true rfl : _ ≤ 100) (by decide)); k_whole); intro l' h' t' F' N' l1; (try k_lt l1); (try k_sweep))
  k_with "storeName" => (k_here; (with_reducible show wpAny _ _ (storeName _ _ _) _ _ _); k_dflt (refine' st_step ?kq_F ?kq_N ?kq_k ?_; (case kq_F => k_asm); (case kq_N => k_asm); (case kq_k => exact rfl); k_whole); intro h' t' m' F' N'; (try k_sweep))
  trivial
-- needs Ops
section
variable {prog : Program} {w : World} {A : Around}
/-- e is worked out without a change of the heap, in n units of the token, whatever comes behind -/
structure Ev (prog : Program) (w : World) (A : Around) (env : Env) (h : Heap) (e : Expr) (n : Nat) (f : Nat → Value) : Prop where
  go : ∀ (s : Shared) (Q E : Value → Shared → Prop), s.heap = h → Q (f s.toks) { s with toks := s.toks + n } → wpAny (model prog w) A (eval e env) Q E s
structure EvL (prog : Program) (w : World) (A : Around) (env : Env) (h : Heap) (es : List Expr) (n : Nat) (f : Nat → List Value) : Prop where
  go : ∀ (s : Shared) (pos : Pos) (Q : List Value → Shared → Prop) (E : Value → Shared → Prop), s.heap = h → Q (f s.toks) { s with toks := s.toks + n } → wpAny (model prog w) A (spliced (backTo pos (starEach es env))) Q E s
  pl : ∀ pos, (backTo pos (starEach es env)).any (·.1) = false
  ar : ∀ (fv : Value) (s : Shared) (pos : Pos) (Q : Args → Shared → Prop) (E : Value → Shared → Prop), s.heap = h → Q ⟨f s.toks, []⟩ { s with toks := s.toks + n } → wpAny (model prog w) A (evalArgs fv true (backTo pos (starEach es env)) []) Q E s
structure Tst (prog : Program) (w : World) (A : Around) (env : Env) (h : Heap) (e : Expr) (n : Nat) (b : Bool) : Prop where
  go : ∀ (s : Shared) (Q : Bool → Shared → Prop) (E : Value → Shared → Prop), s.heap = h → Q b { s with toks := s.toks + n } → wpAny (model prog w) A (isTrue e env (eval e env)) Q E s
noncomputable def isLoc (env : Env) (x : Str) : Bool := match env.scope.kind, env.kindOf x with | .function, some .local => !(x == ("__debug__" : Str)) | _, _ => false
noncomputable def isCel (env : Env) (x : Str) : Bool := match env.scope.kind, env.kindOf x with | .function, some .cell => !(x == ("__debug__" : Str)) | _, _ => false
noncomputable def atIdx (k : Int) (l : List Value) : Option Value := if -(2 ^ 63) ≤ k ∧ k < 2 ^ 63 then (seqIndex? k l.length).bind (l[·]?) else none
theorem isLoc_is {env : Env} {x : Str} (h : isLoc env x = true) : env.scope.kind = .function ∧ env.kindOf x = some .local ∧ (x == ("__debug__" : Str)) = false := by
  unfold isLoc at h; split at h
  · exact ⟨by assumption, by assumption, by simpa using h⟩
  · cases h
theorem isCel_is {env : Env} {x : Str} (h : isCel env x = true) : env.scope.kind = .function ∧ env.kindOf x = some .cell ∧ (x == ("__debug__" : Str)) = false := by
  unfold isCel at h; split at h
  · exact ⟨by assumption, by assumption, by simpa using h⟩
  · cases h
theorem ev_name {cn : Str} {cs : Scope} {L a : Addr} {ccd : Value} {cl : List (Str × Addr)} {h₀ h : Heap} {m : Str → Option Value} (F : Fr h₀ L h m) {x : Str} {pos : Pos} {v : Value} (hv : m x = some v) (hk : isLoc (envX cn cs L a ccd cl) x = true) :
    Ev prog w A (envX cn cs L a ccd cl) h (.Name x pos) 0 fun _ => v := ⟨fun _ _ _ e q => let ⟨k1, k2, k3⟩ := isLoc_is hk; nameX_L (e.symm ▸ F) hv q k1 k2 k3⟩
theorem ev_cell {cn : Str} {cs : Scope} {L a : Addr} {ccd : Value} {cl : List (Str × Addr)} {h₀ h : Heap} {news : List (Addr × Obj)} (N : News h₀ L h news) {x : Str} {pos : Pos} {v : Value} {c : Addr} {o : Obj} (hc : cl.lookup x = some c) (hm : (c, o) ∈ news) (hd : o.data = .cell (some v)) (hk : isCel (envX cn cs L a ccd cl) x = true) :
    Ev prog w A (envX cn cs L a ccd cl) h (.Name x pos) 0 fun _ => v := ⟨fun _ _ _ e q => let ⟨k1, k2, k3⟩ := isCel_is hk; nameX_C (e.symm ▸ N) hc hm hd q k1 k2 k3⟩
theorem ev_str {env : Env} {h : Heap} {x : Str} {k : Nat} {pos : Pos} : Ev prog w A env h (.Constant (.str x) k pos) 1 fun t => .str x t := ⟨fun _ _ _ _ q => Constant_str q⟩
theorem ev_int {env : Env} {h : Heap} {x : Int} {k : Nat} {pos : Pos} : Ev prog w A env h (.Constant (.int x) k pos) 1 fun t => .int x t := ⟨fun _ _ _ _ q => wpAny_Constant_int q⟩
theorem ev_none {env : Env} {h : Heap} {k : Nat} {pos : Pos} : Ev prog w A env h (.Constant .none k pos) 0 fun _ => .none := ⟨fun _ _ _ _ q => wpAny_Constant_none q⟩
theorem ev_bool {env : Env} {h : Heap} {b : Bool} {k : Nat} {pos : Pos} : Ev prog w A env h (.Constant (.bool b) k pos) 0 fun _ => .bool b := ⟨fun _ _ _ _ q => wpAny_Constant_bool q⟩
theorem atIdx_is {k : Int} {l : List Value} {v : Value} (h : atIdx k l = some v) : -(2 ^ 63) ≤ k ∧ k < 2 ^ 63 ∧ ∃ j, seqIndex? k l.length = some j ∧ l[j]? = some v := by
  unfold atIdx at h; split at h
  · rename_i hb; exact ⟨hb.1, hb.2, Option.bind_eq_some_iff.mp h⟩
  · cases h
theorem ev_sub {h₀ h : Heap} {L : Addr} {news : List (Addr × Obj)} (N : News h₀ L h news) {env : Env} {value : Expr} {n c : Nat} {t : Addr} {l : List Value} {k : Int} {kk : Nat} {p2 pos : Pos} {v : Value} (he : Ev prog w A env h value n fun _ => .ref t) (hm : (t, tupObj l c) ∈ news) (hx : atIdx k l = some v) :
    Ev prog w A env h (.Subscript value (.Constant (.int k) kk p2) pos) (n + 1) fun _ => v := ⟨fun s _ _ e q =>
  let ⟨h1, h2, _, h3, h4⟩ := atIdx_is hx
  Subscript_ (he.go s _ _ e (wpAny_Constant_int (item_tupleT (News.isTup (e.symm ▸ N) hm) h1 h2 h3 h4 q)))⟩
theorem ev_first {h₀ h : Heap} {L : Addr} {news : List (Addr × Obj)} (N : News h₀ L h news) {env : Env} {value : Expr} {n c : Nat} {t : Addr} {l : List Value} {kk : Nat} {p2 pos : Pos} {v : Value} (he : Ev prog w A env h value n fun _ => .ref t) (hm : (t, tupObj (v :: l) c) ∈ news) :
    Ev prog w A env h (.Subscript value (.Constant (.int 0) kk p2) pos) (n + 1) fun _ => v := ev_sub N he hm (by
  have : seqIndex? 0 (v :: l).length = some 0 := by simp [seqIndex?]
  unfold atIdx; rw [if_pos (by decide), this]; rfl)
theorem evl_nil {env : Env} {h : Heap} : EvL prog w A env h [] 0 fun _ => [] := ⟨fun _ _ _ _ _ q => args_nil q, fun _ => rfl, fun _ _ _ _ _ _ q => evalArgs_nil3 q⟩
theorem evl_cons {env : Env} {h : Heap} {e : Expr} {es : List Expr} {n k : Nat} {f : Nat → Value} {g : Nat → List Value} (he : Ev prog w A env h e n f) (hr : EvL prog w A env h es k g) (hs : ∀ env', starEach (e :: es) env' = (false, eval e env') :: starEach es env') :
    EvL prog w A env h (e :: es) (n + k) fun t => f t :: g (t + n) :=
  have go : ∀ (s : Shared) (pos : Pos) (Q : List Value → Shared → Prop) (E : Value → Shared → Prop), s.heap = h → Q (f s.toks :: g (s.toks + n)) { s with toks := s.toks + (n + k) } → wpAny (model prog w) A (spliced (backTo pos (starEach (e :: es) env))) Q E s :=
    fun s _ _ _ e9 q => args_cons (he.go s _ _ e9 (hr.go _ _ _ _ e9 (by dsimp only; rw [Nat.add_assoc]; exact q))) (hs env)
  ⟨go, fun pos => by rw [hs env]; exact hr.pl pos, fun fv s pos Q E e9 q => by
    have h1 := go s pos (fun vs s' => Q ⟨vs, []⟩ s') E e9 q
    rw [hs env] at h1 ⊢
    exact Calls.evalArgs_plain h1⟩
section
variable {g : Array GenState} {d : Drawn} {t : Nat} {o : OsState} {h : Heap}
theorem ev_use {env : Env} {e : Expr} {n : Nat} {f : Nat → Value} {Q E : Value → Shared → Prop} (he : Ev prog w A env h e n f) (q : Q (f t) ⟨h, g, d, t + n, o⟩) : wpAny (model prog w) A (eval e env) Q E ⟨h, g, d, t, o⟩ := he.go _ Q E rfl q
theorem evl_use {env : Env} {es : List Expr} {pos : Pos} {n : Nat} {f : Nat → List Value} {Q : List Value → Shared → Prop} {E : Value → Shared → Prop} (he : EvL prog w A env h es n f) (q : Q (f t) ⟨h, g, d, t + n, o⟩) : wpAny (model prog w) A (spliced (backTo pos (starEach es env))) Q E ⟨h, g, d, t, o⟩ := he.go _ pos Q E rfl q
theorem tst_use {env : Env} {e : Expr} {n : Nat} {b : Bool} {Q : Bool → Shared → Prop} {E : Value → Shared → Prop} (he : Tst prog w A env h e n b) (q : Q b ⟨h, g, d, t + n, o⟩) : wpAny (model prog w) A (isTrue e env (eval e env)) Q E ⟨h, g, d, t, o⟩ := he.go _ Q E rfl q
end
theorem tst_cmp {env : Env} {h : Heap} {l r : Expr} {op : CmpOp} {pos : Pos} {n k : Nat} {f g : Nat → Value} {b : Bool} (h1 : Ev prog w A env h l n f) (h2 : Ev prog w A env h r k g) (hm : behindInMarks op r = false)
    (hc : ∀ t (s : Shared) (Q E : Value → Shared → Prop), Q (.bool b) s → wpAny (model prog w) A (compareOp op (f t) (g (t + n))) Q E s) : Tst prog w A env h (.Compare l [op] [r] pos) (n + k) b := ⟨fun s _ _ e q =>
  wpAny_isTrue_Compare1 (h1.go s _ _ e (h2.go _ _ _ e (hc _ _ _ _ (wpAny_truthy_bool (by dsimp only; rw [Nat.add_assoc]; exact q))))) hm⟩
theorem tst_eqv {env : Env} {h : Heap} {l r : Expr} {pos : Pos} {n k : Nat} {x y : Str} {f g : Tok} {b : Bool} (h1 : Ev prog w A env h l n fun _ => .str x f) (h2 : Ev prog w A env h r k fun _ => .str y g) (hm : behindInMarks .Eq r = false) (hb : (x == y) = b) :
    Tst prog w A env h (.Compare l [.Eq] [r] pos) (n + k) b := tst_cmp h1 h2 hm fun _ _ _ _ q => PyProof.Rows.eq_str (by rw [hb]; exact q)
theorem tst_nev {env : Env} {h : Heap} {l r : Expr} {pos : Pos} {n k : Nat} {x y : Str} {f g : Tok} {b : Bool} (h1 : Ev prog w A env h l n fun _ => .str x f) (h2 : Ev prog w A env h r k fun _ => .str y g) (hm : behindInMarks .NotEq r = false) (hb : (x != y) = b) :
    Tst prog w A env h (.Compare l [.NotEq] [r] pos) (n + k) b := tst_cmp h1 h2 hm fun _ _ _ _ q => PyProof.Rows.ne_str (by rw [hb]; exact q)
theorem tst_eqc {env : Env} {h : Heap} {l : Expr} {pos p2 : Pos} {n kk : Nat} {x y : Str} {f : Tok} {b : Bool} (h1 : Ev prog w A env h l n fun _ => .str x f) (hb : (x == y) = b) :
    Tst prog w A env h (.Compare l [.Eq] [.Constant (.str y) kk p2] pos) (n + 1) b := tst_cmp h1 ev_str rfl fun _ _ _ _ q => PyProof.Rows.eq_str (by rw [hb]; exact q)
theorem tst_nec {env : Env} {h : Heap} {l : Expr} {pos p2 : Pos} {n kk : Nat} {x y : Str} {f : Tok} {b : Bool} (h1 : Ev prog w A env h l n fun _ => .str x f) (hb : (x != y) = b) :
    Tst prog w A env h (.Compare l [.NotEq] [.Constant (.str y) kk p2] pos) (n + 1) b := tst_cmp h1 ev_str rfl fun _ _ _ _ q => PyProof.Rows.ne_str (by rw [hb]; exact q)
theorem tst_not {env : Env} {h : Heap} {e : Expr} {pos : Pos} {n : Nat} {b : Bool} (ht : Tst prog w A env h e n b) : Tst prog w A env h (.UnaryOp .Not e pos) n !b := ⟨fun s _ _ e9 q => wpAny_isTrue_Not (ht.go s _ _ e9 q)⟩
section
variable {env : Env} {E : Value → Shared → Prop} {Q : Flow → Shared → Prop} {rest : List Stmt} {g : Array GenState} {d : Drawn} {t : Nat} {o : OsState} {h : Heap}
theorem if_n {test : Expr} {body : List Stmt} {pos : Pos} {n : Nat} (ht : Tst prog w A env h test n false) (q : wpAny (model prog w) A (execs rest env) Q E ⟨h, g, d, t + n, o⟩) :
    wpAny (model prog w) A (execs (.If test body [] pos :: rest) env) Q E ⟨h, g, d, t, o⟩ := wpAny_execs_cons (wpAny_If (ht.go _ _ _ rfl (wpAny_execs_nil q)))
theorem if_y {test : Expr} {body orelse : List Stmt} {pos : Pos} {n : Nat} (ht : Tst prog w A env h test n true)
    (q : wpAny (model prog w) A (execs body env) (fun f s' => match f with | .next => wpAny (model prog w) A (execs rest env) Q E s' | f => Q f s') E ⟨h, g, d, t + n, o⟩) :
    wpAny (model prog w) A (execs (.If test body orelse pos :: rest) env) Q E ⟨h, g, d, t, o⟩ := wpAny_execs_cons (wpAny_If (ht.go _ _ _ rfl q))
theorem if_o {test : Expr} {body orelse : List Stmt} {pos : Pos} {n : Nat} (ht : Tst prog w A env h test n false)
    (q : wpAny (model prog w) A (execs orelse env) (fun f s' => match f with | .next => wpAny (model prog w) A (execs rest env) Q E s' | f => Q f s') E ⟨h, g, d, t + n, o⟩) :
    wpAny (model prog w) A (execs (.If test body orelse pos :: rest) env) Q E ⟨h, g, d, t, o⟩ := wpAny_execs_cons (wpAny_If (ht.go _ _ _ rfl q))
theorem ret_ev {e : Expr} {pos : Pos} {n : Nat} {f : Nat → Value} (he : Ev prog w A env h e n f) (q : Q (.ret (f t)) ⟨h, g, d, t + n, o⟩) :
    wpAny (model prog w) A (execs (.Return (some e) pos :: rest) env) Q E ⟨h, g, d, t, o⟩ := wpAny_execs_cons (wpAny_Return_some (he.go _ _ _ rfl q))
end
theorem asg_ev {cn : Str} {cs : Scope} {L a : Addr} {ccd : Value} {cl : List (Str × Addr)} {h₀ h : Heap} {m : Str → Option Value} {news : List (Addr × Obj)} {g : Array GenState} {d : Drawn} {t : Nat} {o : OsState} {Q : Flow → Shared → Prop} {E : Value → Shared → Prop} {rest : List Stmt}
    (F : Fr h₀ L h m) (N : News h₀ L h news) {e : Expr} {x : Str} {px pos : Pos} {n : Nat} {f : Nat → Value} (he : Ev prog w A (envX cn cs L a ccd cl) h e n f) (hk : isLoc (envX cn cs L a ccd cl) x = true)
    (q : ∀ h' t', let m' := fun y => if y = x then some (f t) else m y; Fr h₀ L h' m' → News h₀ L h' news → wpAny (model prog w) A (execs rest (envX cn cs L a ccd cl)) Q E ⟨h', g, d, t', o⟩)
    (hs : swapsWith e (some (.Name x px)) pos.line (envX cn cs L a ccd cl) = pure false) :
    wpAny (model prog w) A (execs (.Assign [.Name x px] e pos :: rest) (envX cn cs L a ccd cl)) Q E ⟨h, g, d, t, o⟩ :=
  wpAny_execs_cons (wpAny_Assign_Name (he.go _ _ _ rfl (storeX_L (s := ⟨h, g, d, t + n, o⟩) F N (fun h' => q h' _) (isLoc_is hk).1 (isLoc_is hk).2.1)) hs)
end
section
variable {M : Model} {A : Around} {h₀ : Heap} {L : Addr} {m : Str → Option Value} {news : List (Addr × Obj)} {g : Array GenState} {d : Drawn} {t : Nat} {o : OsState} {h : Heap} {E : Value → Shared → Prop}
theorem nt_step {vs : List Value} {Q : Value → Shared → Prop} (F : Fr h₀ L h m) (N : News h₀ L h news) (k : ∀ D h' t', Fr h₀ L h' m → News h₀ L h' ((D, tupObj vs 0) :: news) → (∀ p ∈ news, p.1 < D) → Q (.ref D) ⟨h', g, d, t', o⟩) (hz : vs.length ≤ sizeLine) : wpAny M A (newTuple vs) Q E ⟨h, g, d, t, o⟩ :=
  kup_newTuple F N (fun D h' => k D h' t) hz
theorem nl_step {vs : List Value} {Q : Value → Shared → Prop} (F : Fr h₀ L h m) (N : News h₀ L h news) (k : ∀ D h' t', Fr h₀ L h' m → News h₀ L h' ((D, listOf vs.toArray 0) :: news) → (∀ p ∈ news, p.1 < D) → Q (.ref D) ⟨h', g, d, t', o⟩) (hz : vs.length ≤ sizeLine) : wpAny M A (newList vs) Q E ⟨h, g, d, t, o⟩ :=
  newList_K F N (fun D h' => k D h' t) hz
theorem st_step {cn : Str} {cs : Scope} {a : Addr} {ccd v : Value} {cl : List (Str × Addr)} {x : Str} {Q : Unit → Shared → Prop} (F : Fr h₀ L h m) (N : News h₀ L h news) (hk : isLoc (envX cn cs L a ccd cl) x = true) (k : ∀ h' t', let m' := fun y => if y = x then some v else m y; Fr h₀ L h' m' → News h₀ L h' news → Q () ⟨h', g, d, t', o⟩) :
    wpAny M A (storeName (envX cn cs L a ccd cl) x v) Q E ⟨h, g, d, t, o⟩ := storeX_L F N (fun h' => k h' _) (isLoc_is hk).1 (isLoc_is hk).2.1
end

-- part Ev2
theorem words_Ev2 : True := by
  k_with "ev" => (first | ((with_reducible show Ev _ _ _ _ _ (Expr.Attribute _ _ _) _ _); refine' ev_attr ?ka_F ?ka_N ?ka_X ?ka_v ?ka_k ?ka_1 ?ka_2 ?ka_g ?ka_h ?ka_a ?ka_n ?ka_l ?ka_d; (case ka_F => k_asm); (case ka_N => k_asm); (case ka_X => k_asm); (case ka_k => exact rfl); (case ka_v => exact rfl); (case ka_1 => k_mem); (case ka_2 => k_mem); (case ka_g => k_is); (case ka_h => k_is); (case ka_a => k_is); (case ka_n => k_is); (case ka_l => k_get); (case ka_d => k_handed)) | fail "no")
  k_with "hba" => (first | assumption | k_extra "hb" | k_extra "hbn" | k_extra "hby" | fail "no")
  k_with "tsa" => (first | (refine' tsa_neT ?kr_F ?kr_N ?kr_a ?kr_m ?kr_u ?kr_b; (case kr_F => k_asm); (case kr_N => k_asm); (case kr_a => k_extra "ev"); (case kr_m => k_mem); (case kr_b => first | assumption | exact rfl); (case kr_u => first | assumption | exact UOk.h (by assumption) | k_extra "mine_units")) | (refine' tsa_neF ?kr_F ?kr_N ?kr_a ?kr_m ?kr_u ?kr_b; (case kr_F => k_asm); (case kr_N => k_asm); (case kr_a => k_extra "ev"); (case kr_m => k_mem); (case kr_b => first | assumption | exact rfl); (case kr_u => first | assumption | exact UOk.h (by assumption) | k_extra "mine_units")) | (refine' tsa_eqT ?kr_F ?kr_N ?kr_a ?kr_m ?kr_u ?kr_b; (case kr_F => k_asm); (case kr_N => k_asm); (case kr_a => k_extra "ev"); (case kr_m => k_mem); (case kr_b => first | assumption | exact rfl); (case kr_u => first | assumption | exact UOk.h (by assumption) | k_extra "mine_units")) | (refine' tsa_eqF ?kr_F ?kr_N ?kr_a ?kr_m ?kr_u ?kr_b; (case kr_F => k_asm); (case kr_N => k_asm); (case kr_a => k_extra "ev"); (case kr_m => k_mem); (case kr_b => first | assumption | exact rfl); (case kr_u => first | assumption | exact UOk.h (by assumption) | k_extra "mine_units")) | (refine' tsa_in ?kr_F ?kr_N ?kr_a ?kr_e ?kr_i ?kr_z ?kr_m ?kr_b; (case kr_F => k_asm); (case kr_N => k_asm); (case kr_m => exact rfl); (case kr_a => k_extra "ev"); (case kr_e => k_extra "evl"); (case kr_z => intro _; exact Nat.le_of_ble_eq_true rfl); (case kr_i => intro _; kde_strs); (case kr_b => k_extra "hba")) | fail "no")
  k_with "tsti" => (first | (refine' tst_in ?kr_N ?kr_a ?kr_c ?kr_m ?kr_i ?kr_z ?kr_b; (case kr_N => k_asm); (case kr_z => exact rfl); (case kr_a => k_extra "ev"); (case kr_c => k_extra "ev"); (case kr_m => k_mem); (case kr_i => kde_strs); (case kr_b => k_extra "hba")) | fail "no")
  k_with "execs cons If" => (first | (k_here; (first | (with_reducible show wpAny _ _ (execs (Stmt.If (Expr.Compare _ [CmpOp.In] [(Expr.Tuple _ _ _)] _) _ _ _ :: _) _) _ _ _) | (with_reducible show wpAny _ _ (execs (Stmt.If (Expr.Compare _ [CmpOp.NotEq] [(Expr.List [] _)] _) _ _ _ :: _) _) _ _ _) | (with_reducible show wpAny _ _ (execs (Stmt.If (Expr.Compare _ [CmpOp.Eq] [(Expr.List [] _)] _) _ _ _ :: _) _) _ _ _)); k_dflt (first | (refine' if_nA ?kq_t ?_; (case kq_t => k_extra "tsa"); k_whole) | (refine' if_oA ?kq_t ?_; (case kq_t => k_extra "tsa"); k_whole) | (refine' if_yA ?kq_t ?_; (case kq_t => k_extra "tsa"); k_whole)); intro h' t' F' N'; (try dsimp only); (try k_sweep)) | (k_here; (first | (with_reducible show wpAny _ _ (execs (Stmt.If (Expr.Compare (Expr.Constant _ _ _) [CmpOp.In] [(Expr.Name _ _)] _) _ _ _ :: _) _) _ _ _)); k_dflt (first | (refine' if_n ?kq_t ?_; (case kq_t => k_extra "tsti"); k_whole) | (refine' if_o ?kq_t ?_; (case kq_t => k_extra "tsti"); k_whole) | (refine' if_y ?kq_t ?_; (case kq_t => k_extra "tsti"); k_whole)); (try dsimp only)) | fail "no")
  k_with "isTrue Compare" => (first | (k_here; (fail_if_success (with_reducible show wpAny _ _ (isTrue _ (compEnvC _ _ _ _) _) _ _ _)); (first | (with_reducible show wpAny _ _ (isTrue (Expr.Compare _ [CmpOp.In] [(Expr.Tuple _ _ _)] _) _ _) _ _ _) | (with_reducible show wpAny _ _ (isTrue (Expr.Compare _ [CmpOp.NotEq] [(Expr.List [] _)] _) _ _) _ _ _) | (with_reducible show wpAny _ _ (isTrue (Expr.Compare _ [CmpOp.Eq] [(Expr.List [] _)] _) _ _) _ _ _)); k_dflt (first | (refine' tsa_use (b := true) ?kq_t ?_; (case kq_t => k_extra "tsa"); k_whole) | (refine' tsa_use (b := false) ?kq_t ?_; (case kq_t => k_extra "tsa"); k_whole)); intro h' t' F' N'; (try dsimp only); (try k_sweep)) | (k_here; (fail_if_success (with_reducible show wpAny _ _ (isTrue _ (compEnvC _ _ _ _) _) _ _ _)); (first | (with_reducible show wpAny _ _ (isTrue (Expr.Compare (Expr.Constant _ _ _) [CmpOp.In] [(Expr.Name _ _)] _) _ _) _ _ _)); k_dflt (first | (refine' tst_use (b := false) ?kq_t ?_; (case kq_t => k_extra "tsti"); k_whole) | (refine' tst_use (b := true) ?kq_t ?_; (case kq_t => k_extra "tsti"); k_whole)); (try dsimp only)) | fail "no")
  k_with "eval Tuple" => (first | (k_here; (fail_if_success (with_reducible show wpAny _ _ (eval _ (compEnvC _ _ _ _)) _ _ _)); k_dflt (refine' tup_step ?ks_F ?ks_N ?ks_e ?_ ?ks_z; (case ks_F => k_asm); (case ks_N => k_asm); (case ks_e => k_extra "evl"); (case ks_z => intro _; exact Nat.le_of_ble_eq_true rfl); k_whole); intro D' h' t' F' N' l1; (try dsimp only [List.cons_append, List.nil_append]); (try k_lt l1); (try k_sweep)) | fail "no")
  k_with "eval List" => (first | (k_here; (fail_if_success (with_reducible show wpAny _ _ (eval _ (compEnvC _ _ _ _)) _ _ _)); k_dflt (refine' lst_step ?ks_F ?ks_N ?ks_e ?_ ?ks_z; (case ks_F => k_asm); (case ks_N => k_asm); (case ks_e => k_extra "evl"); (case ks_z => intro _; exact Nat.le_of_ble_eq_true rfl); k_whole); intro D' h' t' F' N' l1; (try dsimp only [List.cons_append, List.nil_append]); (try k_lt l1); (try k_sweep)) | fail "no")
  k_with "eval Call" => (first | (k_here; (fail_if_success (with_reducible show wpAny _ _ (eval _ (compEnvC _ _ _ _)) _ _ _)); (with_reducible show wpAny _ _ (eval (Expr.Call (Expr.Name _ _) _ [] _) _) _ _ _); (fail_if_success (first | (with_reducible show wpAny _ _ (eval (Expr.Call (Expr.Name (PySem.Str.ofString "len") _) _ [] _) _) _ _ _) | (with_reducible show wpAny _ _ (eval (Expr.Call (Expr.Name (PySem.Str.ofString "isinstance") _) _ [] _) _) _ _ _) | (with_reducible show wpAny _ _ (eval (Expr.Call (Expr.Name (PySem.Str.ofString "max") _) _ [] _) _) _ _ _) | (with_reducible show wpAny _ _ (eval (Expr.Call (Expr.Name (PySem.Str.ofString "min") _) _ [] _) _) _ _ _) | (with_reducible show wpAny _ _ (eval (Expr.Call (Expr.Name (PySem.Str.ofString "list") _) _ [] _) _) _ _ _) | (with_reducible show wpAny _ _ (eval (Expr.Call (Expr.Name (PySem.Str.ofString "tuple") _) _ [] _) _) _ _ _) | (with_reducible show wpAny _ _ (eval (Expr.Call (Expr.Name (PySem.Str.ofString "int") _) _ [] _) _) _ _ _) | (with_reducible show wpAny _ _ (eval (Expr.Call (Expr.Name (PySem.Str.ofString "zip") _) _ [] _) _) _ _ _) | (with_reducible show wpAny _ _ (eval (Expr.Call (Expr.Name (PySem.Str.ofString "str") _) _ [] _) _) _ _ _) | (with_reducible show wpAny _ _ (eval (Expr.Call (Expr.Name (PySem.Str.ofString "range") _) _ [] _) _) _ _ _))); k_dflt (refine' def_step ?ks_F ?ks_X ?ks_T ?ks_n ?ks_p ?ks_k ?ks_e ?_; (case ks_e => k_extra "evl"); (case ks_k => exact rfl); (case ks_F => k_asm); (case ks_X => k_asm); (case ks_T => k_asm); (case ks_n => k_is); (case ks_p => k_is); k_whole); (try dsimp only)) | fail "no")
  k_with "eval Call" => (first | (k_here; (fail_if_success (with_reducible show wpAny _ _ (eval _ (compEnvC _ _ _ _)) _ _ _)); (first | (with_reducible show wpAny _ _ (eval (Expr.Call (Expr.Name (PySem.Str.ofString "len") _) _ [] _) _) _ _ _) | (with_reducible show wpAny _ _ (eval (Expr.Call (Expr.Name (PySem.Str.ofString "isinstance") _) _ [] _) _) _ _ _) | (with_reducible show wpAny _ _ (eval (Expr.Call (Expr.Name (PySem.Str.ofString "max") _) _ [] _) _) _ _ _) | (with_reducible show wpAny _ _ (eval (Expr.Call (Expr.Name (PySem.Str.ofString "min") _) _ [] _) _) _ _ _)); k_dflt (refine' blt_step ?ks_F ?ks_X ?ks_T ?ks_n ?ks_p ?ks_k ?ks_e ?_; (case ks_e => k_extra "evl"); (case ks_k => exact rfl); (case ks_F => k_asm); (case ks_X => k_asm); (case ks_T => k_asm); (case ks_n => k_is); (case ks_p => boot_fast); k_whole); (try dsimp only)) | fail "no")
  k_with "eval Call" => (first | (k_here; (fail_if_success (with_reducible show wpAny _ _ (eval _ (compEnvC _ _ _ _)) _ _ _)); (first | (with_reducible show wpAny _ _ (eval (Expr.Call (Expr.Name (PySem.Str.ofString "list") _) _ [] _) _) _ _ _) | (with_reducible show wpAny _ _ (eval (Expr.Call (Expr.Name (PySem.Str.ofString "tuple") _) _ [] _) _) _ _ _) | (with_reducible show wpAny _ _ (eval (Expr.Call (Expr.Name (PySem.Str.ofString "int") _) _ [] _) _) _ _ _) | (with_reducible show wpAny _ _ (eval (Expr.Call (Expr.Name (PySem.Str.ofString "zip") _) _ [] _) _) _ _ _) | (with_reducible show wpAny _ _ (eval (Expr.Call (Expr.Name (PySem.Str.ofString "str") _) _ [] _) _) _ _ _) | (with_reducible show wpAny _ _ (eval (Expr.Call (Expr.Name (PySem.Str.ofString "range") _) _ [] _) _) _ _ _)); k_dflt (refine' typ_step ?ks_F ?ks_X ?ks_T ?ks_n ?ks_p ?ks_k ?ks_e ?_; (case ks_e => k_extra "evl"); (case ks_k => exact rfl); (case ks_F => k_asm); (case ks_X => k_asm); (case ks_T => k_asm); (case ks_n => k_is); (case ks_p => boot_fast); k_whole); (try dsimp only)) | fail "no")
  k_with "eval Attribute Name" => (first | (k_here; k_dflt (refine' ev_use ?kq_t ?_; (case kq_t => k_extra "ev"); k_whole); (try dsimp only)) | fail "no")
  k_with "assign Tuple" => (first | (k_here; (with_reducible show wpAny _ _ (assign (Expr.Tuple [Expr.Name _ _, Expr.Name _ _] _ _) _ (Value.ref _)) _ _ _); k_dflt (refine' pair_step ?ks_F ?ks_N ?ks_m ?ks_h ?ks_x ?ks_y ?_; (case ks_x => exact rfl); (case ks_y => exact rfl); (case ks_F => k_asm); (case ks_N => k_asm); (case ks_m => k_mem); (case ks_h => exact rfl); k_whole); intro h' t' m' F' N'; (try k_sweep)) | fail "no")
  trivial
-- needs Ev
noncomputable def isGlo (env : Env) (x : Str) : Bool := match env.scope.kind, env.kindOf x with | .function, some .globalImplicit => !(x == ("__debug__" : Str)) && !(x == ("__name__" : Str)) | _, _ => false
theorem isGlo_is {env : Env} {x : Str} (h : isGlo env x = true) : env.scope.kind = .function ∧ env.kindOf x = some .globalImplicit ∧ (x == ("__debug__" : Str)) = false ∧ x ≠ "__name__" := by
  unfold isGlo at h; split at h
  · simp only [Bool.and_eq_true, Bool.not_eq_eq_eq_not, Bool.not_true] at h
    exact ⟨by assumption, by assumption, h.1, by simpa using h.2⟩
  · cases h
section
variable {prog : Program} {w : World} {A : Around} {K : Frag} {h₀ : Heap} {L a : Addr} {m mg mb : Str → Option Value} {cn : Str} {cs : Scope} {ccd : Value} {cl : List (Str × Addr)} {p : Program} {loose : List Str} {mean : ExcName → Option Value} {news : List (Addr × Obj)}
  {h : Heap} {g : Array GenState} {d : Drawn} {t : Nat} {o : OsState} {Q E : Value → Shared → Prop}
theorem tup_step {env : Env} {elts : List Expr} {kk : Nat} {pos : Pos} {n : Nat} {f : Nat → List Value} (F : Fr h₀ L h m) (N : News h₀ L h news) (he : EvL prog w A env h elts n f)
    (k : ∀ D h' t', Fr h₀ L h' m → News h₀ L h' ((D, tupObj (f t) 0) :: news) → (∀ p ∈ news, p.1 < D) → Q (.ref D) ⟨h', g, d, t', o⟩) (hz : ∀ u, (f u).length ≤ 100) :
    wpAny (model prog w) A (eval (.Tuple elts kk pos) env) Q E ⟨h, g, d, t, o⟩ := Tuple_ (he.go _ _ _ _ rfl (nt_step F N k (Nat.le_trans (hz _) (by decide))))
theorem lst_step {env : Env} {elts : List Expr} {pos : Pos} {n : Nat} {f : Nat → List Value} (F : Fr h₀ L h m) (N : News h₀ L h news) (he : EvL prog w A env h elts n f)
    (k : ∀ D h' t', Fr h₀ L h' m → News h₀ L h' ((D, listOf (f t).toArray 0) :: news) → (∀ p ∈ news, p.1 < D) → Q (.ref D) ⟨h', g, d, t', o⟩) (hz : ∀ u, (f u).length ≤ 100) :
    wpAny (model prog w) A (eval (.List elts pos) env) Q E ⟨h, g, d, t, o⟩ := List_ (he.go _ _ _ _ rfl (nl_step F N k (Nat.le_trans (hz _) (by decide))))
/-- a call of a def of the module, its arguments worked out without a change of the heap -/
theorem def_step {f : Str} {fp pos : Pos} {fa : Addr} {es : List Expr} {n : Nat} {vs : Nat → List Value} (F : Fr h₀ L h m) (X : K.In h₀) (T : Top p loose mean mg mb h₀) (e : nsIn K mainGlobals f = some (some (.ref fa))) (hke : keepIn K (.ref fa) = true)
    (hk : isGlo (envX cn cs L a ccd cl) f = true) (he : EvL prog w A (envX cn cs L a ccd cl) h es n vs) (q : wpAny (model prog w) A (call (.ref fa) (vs t)) Q E ⟨h, g, d, t + n, o⟩) :
    wpAny (model prog w) A (eval (.Call (.Name f fp) es [] pos) (envX cn cs L a ccd cl)) Q E ⟨h, g, d, t, o⟩ :=
  Call_ (nameX_K (s := ⟨h, g, d, t, o⟩) F X (topRead_of T) e (callWith_of (P := fun h => K.In h) (by rw [he.pl]; rfl) (keeps_K hke) (he.ar _ _ _ _ _ rfl ⟨X.keeps F.keep, q⟩)) (isGlo_is hk).1 (isGlo_is hk).2.1 (isGlo_is hk).2.2.1)
theorem blt_step {f : Str} {id : String} {fp pos : Pos} {es : List Expr} {n : Nat} {vs : Nat → List Value} (F : Fr h₀ L h m) (X : K.In h₀) (T : Top p loose mean mg mb h₀) (e : nsIn K mainGlobals f = some none) (hv : bootBuiltins f = some (.builtin id))
    (hk : isGlo (envX cn cs L a ccd cl) f = true) (he : EvL prog w A (envX cn cs L a ccd cl) h es n vs) (q : wpAny (model prog w) A (call (.builtin id) (vs t)) Q E ⟨h, g, d, t + n, o⟩) :
    wpAny (model prog w) A (eval (.Call (.Name f fp) es [] pos) (envX cn cs L a ccd cl)) Q E ⟨h, g, d, t, o⟩ :=
  Call_ (nameX_B (s := ⟨h, g, d, t, o⟩) F X (topRead_of T) e hv (isGlo_is hk).2.2.2 (Calls.callWith_builtin (he.pl _) (he.ar _ _ _ _ _ rfl q)) (isGlo_is hk).1 (isGlo_is hk).2.1 (isGlo_is hk).2.2.1)
theorem typ_step {f : Str} {id : String} {fp pos : Pos} {es : List Expr} {n : Nat} {vs : Nat → List Value} (F : Fr h₀ L h m) (X : K.In h₀) (T : Top p loose mean mg mb h₀) (e : nsIn K mainGlobals f = some none) (hv : bootBuiltins f = some (.type id))
    (hk : isGlo (envX cn cs L a ccd cl) f = true) (he : EvL prog w A (envX cn cs L a ccd cl) h es n vs) (q : wpAny (model prog w) A (call (.type id) (vs t)) Q E ⟨h, g, d, t + n, o⟩) :
    wpAny (model prog w) A (eval (.Call (.Name f fp) es [] pos) (envX cn cs L a ccd cl)) Q E ⟨h, g, d, t, o⟩ :=
  Call_ (nameX_B (s := ⟨h, g, d, t, o⟩) F X (topRead_of T) e hv (isGlo_is hk).2.2.2 (PyProof.Rows.callWith_type (he.pl _) (he.ar _ _ _ _ _ rfl q)) (isGlo_is hk).1 (isGlo_is hk).2.1 (isGlo_is hk).2.2.1)
/-- an attribute of an object that a local name holds -/
theorem ev_attr {x at' : Str} {xp pos : Pos} {y C dx : Addr} {sl : Array (Option Value)} {es : List DictEntry} {c : Nat} {attr : Option Value} {v : Value} (F : Fr h₀ L h m) (N : News h₀ L h news) (X : K.In h₀) (hv : m x = some (.ref y)) (hk : isLoc (envX cn cs L a ccd cl) x = true)
    (h1 : (y, (⟨.ref C, some dx, .plain, sl⟩ : Obj)) ∈ news) (h2 : (dx, dictOf es c) ∈ news) (hg : plainGet K C at' = true) (hh : hasDictIn K C = true) (ha : findIn K (.ref C) at' = some attr) (hn : noGet K attr = true) (hl : getL at' es = some (some v)) (hd : handedIn v = true) :
    Ev prog w A (envX cn cs L a ccd cl) h (.Attribute (.Name x xp) at' pos) 1 fun _ => v := ⟨fun s Q E e q => by
  subst e
  exact Attribute_Name_ (nameX_L F hv (get_own F X (InstAt.of_news N h1 h2) hg hh ha hn hl hd q) (isLoc_is hk).1 (isLoc_is hk).2.1 (isLoc_is hk).2.2)⟩
/-- a test that may lay down what nobody keeps -/
structure TsA (prog : Program) (w : World) (A : Around) (h₀ : Heap) (L : Addr) (m : Str → Option Value) (news : List (Addr × Obj)) (env : Env) (h : Heap) (e : Expr) (b : Bool) : Prop where
  go : ∀ (s : Shared) (Q : Bool → Shared → Prop) (E : Value → Shared → Prop), s.heap = h → (∀ h' t', Fr h₀ L h' m → News h₀ L h' news → Q b ⟨h', s.gens, s.drawn, t', s.os⟩) → wpAny (model prog w) A (isTrue e env (eval e env)) Q E s
theorem tsa_in {env : Env} {l : Expr} {elts : List Expr} {kk : Nat} {tp pos : Pos} {n k : Nat} {x : Str} {u : Tok} {f : Nat → List Value} {ys : List Str} {b : Bool} (F : Fr h₀ L h m) (N : News h₀ L h news) (h1 : Ev prog w A env h l n fun _ => .str x u) (he : EvL prog w A env h elts k f)
    (hi : ∀ t, StrsAre (f t) ys) (hz : ∀ t, (f t).length ≤ 100) (hm : behindInMarks .In (.Tuple elts kk tp) = false) (hb : ys.any (· == x) = b) : TsA prog w A h₀ L m news env h (.Compare l [.In] [.Tuple elts kk tp] pos) b := ⟨fun s Q E e q => by
  subst e
  refine wpAny_isTrue_Compare1 (h1.go s _ _ rfl (tup_step (h := s.heap) (g := s.gens) (d := s.drawn) (o := s.os) F N he (fun D h' t' F' N' _ => ?_) hz)) hm
  refine in_tuple_strs (News.isTup N' List.mem_cons_self) (hi _) (wpAny_truthy_bool ?_)
  rw [hb]
  exact q h' t' F' (news_sub0 N')⟩
theorem tsa_neT {env : Env} {l : Expr} {lp pos : Pos} {n c : Nat} {D : Addr} {vs : List Value} (F : Fr h₀ L h m) (N : News h₀ L h news) (h1 : Ev prog w A env h l n fun _ => .ref D) (hmem : (D, listOf vs.toArray c) ∈ news)
    (hu : A.units < cLine) (hb : vs.isEmpty = false) : TsA prog w A h₀ L m news env h (.Compare l [.NotEq] [.List [] lp] pos) true := ⟨fun s Q E e q => by
  subst e
  refine wpAny_isTrue_Compare1 (h1.go s _ _ rfl (lst_step (h := s.heap) (g := s.gens) (d := s.drawn) (o := s.os) F N evl_nil (fun D h' t' F' N' _ => ?_) (fun _ => Nat.zero_le _))) rfl
  exact ne_nil N' (List.mem_cons_of_mem _ hmem) List.mem_cons_self hu hb (wpAny_truthy_bool (q h' t' F' (news_sub0 N')))⟩
theorem tsa_neF {env : Env} {l : Expr} {lp pos : Pos} {n c : Nat} {D : Addr} {vs : List Value} (F : Fr h₀ L h m) (N : News h₀ L h news) (h1 : Ev prog w A env h l n fun _ => .ref D) (hmem : (D, listOf vs.toArray c) ∈ news)
    (hu : A.units < cLine) (hb : vs.isEmpty = true) : TsA prog w A h₀ L m news env h (.Compare l [.NotEq] [.List [] lp] pos) false := ⟨fun s Q E e q => by
  subst e
  refine wpAny_isTrue_Compare1 (h1.go s _ _ rfl (lst_step (h := s.heap) (g := s.gens) (d := s.drawn) (o := s.os) F N evl_nil (fun D h' t' F' N' _ => ?_) (fun _ => Nat.zero_le _))) rfl
  exact ne_nil N' (List.mem_cons_of_mem _ hmem) List.mem_cons_self hu hb (wpAny_truthy_bool (q h' t' F' (news_sub0 N')))⟩
theorem tsa_eqT {env : Env} {l : Expr} {lp pos : Pos} {n c : Nat} {D : Addr} {vs : List Value} (F : Fr h₀ L h m) (N : News h₀ L h news) (h1 : Ev prog w A env h l n fun _ => .ref D) (hmem : (D, listOf vs.toArray c) ∈ news)
    (hu : A.units < cLine) (hb : vs.isEmpty = true) : TsA prog w A h₀ L m news env h (.Compare l [.Eq] [.List [] lp] pos) true := ⟨fun s Q E e q => by
  subst e
  refine wpAny_isTrue_Compare1 (h1.go s _ _ rfl (lst_step (h := s.heap) (g := s.gens) (d := s.drawn) (o := s.os) F N evl_nil (fun D h' t' F' N' _ => ?_) (fun _ => Nat.zero_le _))) rfl
  exact eq_nil N' (List.mem_cons_of_mem _ hmem) List.mem_cons_self hu hb (wpAny_truthy_bool (q h' t' F' (news_sub0 N')))⟩
theorem tsa_eqF {env : Env} {l : Expr} {lp pos : Pos} {n c : Nat} {D : Addr} {vs : List Value} (F : Fr h₀ L h m) (N : News h₀ L h news) (h1 : Ev prog w A env h l n fun _ => .ref D) (hmem : (D, listOf vs.toArray c) ∈ news)
    (hu : A.units < cLine) (hb : vs.isEmpty = false) : TsA prog w A h₀ L m news env h (.Compare l [.Eq] [.List [] lp] pos) false := ⟨fun s Q E e q => by
  subst e
  refine wpAny_isTrue_Compare1 (h1.go s _ _ rfl (lst_step (h := s.heap) (g := s.gens) (d := s.drawn) (o := s.os) F N evl_nil (fun D h' t' F' N' _ => ?_) (fun _ => Nat.zero_le _))) rfl
  exact eq_nil N' (List.mem_cons_of_mem _ hmem) List.mem_cons_self hu hb (wpAny_truthy_bool (q h' t' F' (news_sub0 N')))⟩
theorem tst_in {env : Env} {l r : Expr} {pos : Pos} {n k c : Nat} {x : Str} {u : Tok} {T : Addr} {vs : List Value} {ys : List Str} {b : Bool} (N : News h₀ L h news) (h1 : Ev prog w A env h l n fun _ => .str x u) (h2 : Ev prog w A env h r k fun _ => .ref T) (hmem : (T, tupObj vs c) ∈ news) (hi : StrsAre vs ys)
    (hm : behindInMarks .In r = false) (hb : ys.any (· == x) = b) : Tst prog w A env h (.Compare l [.In] [r] pos) (n + k) b := ⟨fun s Q E e q => by
  subst e
  refine wpAny_isTrue_Compare1 (h1.go s _ _ rfl (h2.go _ _ _ rfl ?_)) hm
  refine in_tuple_strs (News.isTup N hmem) hi (wpAny_truthy_bool ?_)
  rw [hb]
  dsimp only
  rw [Nat.add_assoc]
  exact q⟩
theorem tsa_use {env : Env} {e : Expr} {b : Bool} {Q : Bool → Shared → Prop} (ht : TsA prog w A h₀ L m news env h e b) (q : ∀ h' t', Fr h₀ L h' m → News h₀ L h' news → Q b ⟨h', g, d, t', o⟩) :
    wpAny (model prog w) A (isTrue e env (eval e env)) Q E ⟨h, g, d, t, o⟩ := ht.go _ Q E rfl q
section
variable {env : Env} {Q : Flow → Shared → Prop} {rest : List Stmt}
theorem if_nA {test : Expr} {body : List Stmt} {pos : Pos} (ht : TsA prog w A h₀ L m news env h test false) (q : ∀ h' t', Fr h₀ L h' m → News h₀ L h' news → wpAny (model prog w) A (execs rest env) Q E ⟨h', g, d, t', o⟩) :
    wpAny (model prog w) A (execs (.If test body [] pos :: rest) env) Q E ⟨h, g, d, t, o⟩ := wpAny_execs_cons (wpAny_If (ht.go _ _ _ rfl fun h' t' F N => wpAny_execs_nil (q h' t' F N)))
theorem if_yA {test : Expr} {body orelse : List Stmt} {pos : Pos} (ht : TsA prog w A h₀ L m news env h test true)
    (q : ∀ h' t', Fr h₀ L h' m → News h₀ L h' news → wpAny (model prog w) A (execs body env) (fun f s' => match f with | .next => wpAny (model prog w) A (execs rest env) Q E s' | f => Q f s') E ⟨h', g, d, t', o⟩) :
    wpAny (model prog w) A (execs (.If test body orelse pos :: rest) env) Q E ⟨h, g, d, t, o⟩ := wpAny_execs_cons (wpAny_If (ht.go _ _ _ rfl q))
theorem if_oA {test : Expr} {body orelse : List Stmt} {pos : Pos} (ht : TsA prog w A h₀ L m news env h test false)
    (q : ∀ h' t', Fr h₀ L h' m → News h₀ L h' news → wpAny (model prog w) A (execs orelse env) (fun f s' => match f with | .next => wpAny (model prog w) A (execs rest env) Q E s' | f => Q f s') E ⟨h', g, d, t', o⟩) :
    wpAny (model prog w) A (execs (.If test body orelse pos :: rest) env) Q E ⟨h, g, d, t, o⟩ := wpAny_execs_cons (wpAny_If (ht.go _ _ _ rfl q))
end
/-- a pair is taken apart into two local names -/
theorem pair_step {x y : Str} {xp yp tp : Pos} {kk : Nat} {T : Addr} {v u : Value} {c : Nat} {Q : Unit → Shared → Prop} (F : Fr h₀ L h m) (N : News h₀ L h news) (hm : (T, tupObj [v, u] c) ∈ news) (hh : A.handled = none) (hx : isLoc (envX cn cs L a ccd cl) x = true) (hy : isLoc (envX cn cs L a ccd cl) y = true)
    (k : ∀ h' t', let m' := fun z => if z = y then some u else if z = x then some v else m z; Fr h₀ L h' m' → News h₀ L h' news → Q () ⟨h', g, d, t', o⟩) :
    wpAny (model prog w) A (assign (.Tuple [.Name x xp, .Name y yp] kk tp) (envX cn cs L a ccd cl) (.ref T)) Q E ⟨h, g, d, t, o⟩ :=
  unpackN_ (s := ⟨h, g, d, t, o⟩) F N (News.isTup N hm) hh rfl rfl fun h1 F1 N1 => assignInOrder_cons (wpAny_assign_Name (st_step F1 N1 hx fun h2 t2 F2 N2 => assignInOrder_cons (wpAny_assign_Name (st_step F2 N2 hy fun h3 t3 F3 N3 => assignInOrder_nil (k h3 t3 F3 N3)))))
end
inductive Cells1 (cm : Str → Option Value) (n1 : Str) (c1 : Addr) (cells : List (Addr × Obj)) : Prop
  | mk (o1 : Obj) : cells = [(c1, o1)] → o1.data = .cell (cm n1) → Cells1 cm n1 c1 cells
theorem cells1 {cm : Str → Option Value} {n1 : Str} {c1 : Addr} {cells : List (Addr × Obj)} (Y : CellsAre cm [(n1, c1)] cells) : Cells1 cm n1 c1 cells :=
  let ⟨o1, e, d1⟩ := CellsAre.one Y
  ⟨o1, e, d1⟩
inductive Cells2 (cm : Str → Option Value) (n1 n2 : Str) (c1 c2 : Addr) (cells : List (Addr × Obj)) : Prop
  | mk (o1 o2 : Obj) : cells = [(c1, o1), (c2, o2)] → o1.data = .cell (cm n1) → o2.data = .cell (cm n2) → Cells2 cm n1 n2 c1 c2 cells
theorem cells2 {cm : Str → Option Value} {n1 n2 : Str} {c1 c2 : Addr} {cells : List (Addr × Obj)} (Y : CellsAre cm [(n1, c1), (n2, c2)] cells) : Cells2 cm n1 n2 c1 c2 cells :=
  let ⟨o1, o2, e, d1, d2⟩ := CellsAre.two Y
  ⟨o1, o2, e, d1, d2⟩
inductive Cells3 (cm : Str → Option Value) (n1 n2 n3 : Str) (c1 c2 c3 : Addr) (cells : List (Addr × Obj)) : Prop
  | mk (o1 o2 o3 : Obj) : cells = [(c1, o1), (c2, o2), (c3, o3)] → o1.data = .cell (cm n1) → o2.data = .cell (cm n2) → o3.data = .cell (cm n3) → Cells3 cm n1 n2 n3 c1 c2 c3 cells
theorem cells3 {cm : Str → Option Value} {n1 n2 n3 : Str} {c1 c2 c3 : Addr} {cells : List (Addr × Obj)} (Y : CellsAre cm [(n1, c1), (n2, c2), (n3, c3)] cells) : Cells3 cm n1 n2 n3 c1 c2 c3 cells :=
  let ⟨o1, o2, o3, e, d1, d2, d3⟩ := CellsAre.three Y
  ⟨o1, o2, o3, e, d1, d2, d3⟩

-- part Spec
-- needs Ops
noncomputable def Ty.size : Ty → Nat
  | .box t => t.size + 1 | .ref t => t.size + 1 | .W t => t.size + 1 | .tup t u => t.size + u.size + 1 | _ => 1
theorem Ty.size_pos (t : Ty) : 1 ≤ t.size := by induction t using Ty.casesOn <;> simp [Ty.size]
theorem Ty.dep_lt (t : Ty) : t.dep < t.size := by
  induction t with
  | tup t u ih ih' => simp only [Ty.dep, Ty.size]; omega
  | _ => simp only [Ty.dep, Ty.size]; omega
theorem PairsIn.mono {N M M' : List (Addr × Obj)} (hs : ∀ p ∈ M, p ∈ M') {vs : List Value} {ps : List (Ty × Ty)} (h : PairsIn N M vs ps) : PairsIn N M' vs ps := by
  induction h with
  | nil => exact .nil
  | cons a b c _ ih => exact .cons (hs _ a) b c ih
theorem PairsIn.app {N M : List (Addr × Obj)} {vs ws : List Value} {ps qs : List (Ty × Ty)} (h : PairsIn N M vs ps) (g : PairsIn N M ws qs) : PairsIn N M (vs ++ ws) (ps ++ qs) := by
  induction h with
  | nil => exact g
  | cons a b c _ ih => exact .cons a b c ih
theorem PairsIn.len {N M : List (Addr × Obj)} {vs : List Value} {ps : List (Ty × Ty)} (h : PairsIn N M vs ps) : vs.length = ps.length := by
  induction h with
  | nil => rfl
  | cons a b c _ ih => simp [ih]
inductive PLast (N M : List (Addr × Obj)) (vs : List Value) (ps : List (Ty × Ty)) : Prop
  | mk (ws : List Value) (a : Addr) (n : Nat) (v w : Value) (t u : Ty) (qs : List (Ty × Ty)) : vs = ws ++ [.ref a] → ps = qs ++ [(t, u)] → PairsIn N M ws qs → (a, tupObj [v, w] n) ∈ M → TyIn N v t → TyIn N w u → PLast N M vs ps
theorem PLast.cons {N M : List (Addr × Obj)} {vs : List Value} {ps : List (Ty × Ty)} {a : Addr} {n : Nat} {v w : Value} {t u : Ty} (x : (a, tupObj [v, w] n) ∈ M) (b : TyIn N v t) (c : TyIn N w u) (h : PLast N M vs ps) : PLast N M (.ref a :: vs) ((t, u) :: ps) :=
  match h with | ⟨ws, a', n', v', w', t', u', qs, e1, e2, h1, h2, h3, h4⟩ => ⟨_ :: ws, a', n', v', w', t', u', _ :: qs, congrArg (List.cons _) e1, congrArg (List.cons _) e2, .cons x b c h1, h2, h3, h4⟩
theorem PairsIn.last {N M : List (Addr × Obj)} {vs : List Value} {ps : List (Ty × Ty)} (h : PairsIn N M vs ps) : vs ≠ [] → PLast N M vs ps := by
  induction h with
  | nil => exact fun h => absurd rfl h
  | @cons a n v w t u vs ps x b c h ih =>
    intro _
    induction vs using List.casesOn with
    | nil => exact (List.eq_nil_of_length_eq_zero h.len.symm : ps = []) ▸ ⟨[], a, n, v, w, t, u, [], rfl, rfl, .nil, x, b, c⟩
    | cons v' vs' => exact .cons x b c (ih (List.cons_ne_nil _ _))
inductive XAt (N : List (Addr × Obj)) (v : Value) : Prop
  | mk (a : Addr) (n : Nat) (t u : Tok) : v = .ref a → (a, tupObj [.str (Str.ofString "param") t, .str (Str.ofString "X") u] n) ∈ N → XAt N v
theorem TyIn.X_at {N : List (Addr × Obj)} {v : Value} (h : TyIn N v .X) : XAt N v := by
  cases h; exact ⟨_, _, _, _, rfl, by assumption⟩
inductive TAt (N : List (Addr × Obj)) (a : Addr) : Prop
  | mk (n : Nat) (t u : Tok) : (a, tupObj [.str (Str.ofString "param") t, .str (Str.ofString "T") u] n) ∈ N → TAt N a
theorem TyIn.T_at {N : List (Addr × Obj)} {a : Addr} (h : TyIn N (.ref a) .T) : TAt N a := by
  cases h; exact ⟨_, _, _, by assumption⟩
theorem kl_last_app {ws : List Value} {y : Value} : kl_last (ws ++ [y]) = some (ws, y) := by
  induction ws with
  | nil => rfl
  | cons x ws ih => simp only [List.cons_append, kl_last, ih]
theorem fr_at2 {h₀ h : Heap} {L : Addr} {m : Str → Option Value} {x y : Str} {a b : Value} (F : Fr h₀ L h m) (e1 : m x = some a) (e2 : m y = some b) : Fr h₀ L h (fun z => if z = x then some a else if z = y then some b else m z) := by
  have : m = (fun z => if z = x then some a else if z = y then some b else m z) := by
    funext z
    split
    · rename_i e; rw [e, e1]
    · split
      · rename_i e; rw [e, e2]
      · rfl
  exact this ▸ F
theorem not_decide {p : Prop} [Decidable p] (h : ¬ p) : ¬ decide p = true := fun e => h (of_decide_eq_true e)
theorem bnot_t {b : Bool} (h : b = false) : (!b) = true := by rw [h]; rfl
theorem bnot_f {b : Bool} (h : b = true) : ¬ (!b) = true := by rw [h]; decide
theorem ite_yes {c : Prop} [Decidable c] {t e : Prop} (h : c) (ht : t) : ite c t e := by rw [if_pos h]; exact ht
theorem ite_no {c : Prop} [Decidable c] {t e : Prop} (h : ¬ c) (he : e) : ite c t e := by rw [if_neg h]; exact he
theorem any_V {x : Str} : ([x, Ty.V.kind].any fun x => x == Str.ofString "var") = true := by
  show ((x == _) || (Ty.V.kind == Str.ofString "var" || false)) = true
  have : (Ty.V.kind == Str.ofString "var") = true := by decide
  rw [this]; simp
theorem any_I0 {x : Str} (h : x ≠ Str.ofString "var") : ¬ ([x, Ty.I.kind].any fun x => x == Str.ofString "var") = true := by
  show ¬ ((x == _) || (Ty.I.kind == Str.ofString "var" || false)) = true
  have : (Ty.I.kind == Str.ofString "var") = false := by decide
  rw [this]; simp [h]
theorem any_I {x : Str} : ([x, Ty.I.kind].any fun x => x == Str.ofString "intvar") = true := by
  show ((x == _) || (Ty.I.kind == Str.ofString "intvar" || false)) = true
  have : (Ty.I.kind == Str.ofString "intvar") = true := by decide
  rw [this]; simp
theorem any_ni {x : Str} (h : x ≠ Str.ofString "int") (h2 : x ≠ Str.ofString "intvar") : (![Str.ofString "int", Str.ofString "intvar"].any fun y => y == x) = true := by
  show (!((_ == x) || ((_ == x) || false))) = true
  simp [Ne.symm h, Ne.symm h2]

-- part Spec2
-- needs Spec
inductive Ans where
  | yes | maybe | no
deriving DecidableEq
noncomputable def Ans.str : Ans → Str
  | .yes => Str.ofString "yes" | .maybe => Str.ofString "maybe" | .no => Str.ofString "no"
noncomputable def Ans.or : Ans → Ans → Ans
  | .no, _ => .no | _, .no => .no | .maybe, _ => .maybe | _, .maybe => .maybe | .yes, .yes => .yes
theorem Ans.or_assoc (a b c : Ans) : (a.or b).or c = a.or (b.or c) := by induction a using Ans.casesOn <;> induction b using Ans.casesOn <;> induction c using Ans.casesOn <;> rfl
theorem Ans.or_comm (a b : Ans) : a.or b = b.or a := by induction a using Ans.casesOn <;> induction b using Ans.casesOn <;> rfl
theorem Ans.or_yes (a : Ans) : a.or .yes = a := by induction a using Ans.casesOn <;> rfl
theorem Ans.yes_or (a : Ans) : Ans.or .yes a = a := by induction a using Ans.casesOn <;> rfl
theorem Ans.or_no (a : Ans) : a.or .no = .no := by induction a using Ans.casesOn <;> rfl
theorem Ans.no_or (a : Ans) : Ans.or .no a = .no := by induction a using Ans.casesOn <;> rfl
noncomputable def mu : List (Ty × Ty) → Nat
  | [] => 0
  | (t, u) :: ps => t.size + u.size + mu ps
theorem mu_app (ps qs : List (Ty × Ty)) : mu (ps ++ qs) = mu ps + mu qs := by
  induction ps with
  | nil => simp [mu]
  | cons p ps ih => simp only [List.cons_append, mu, ih]; omega
theorem mu_len (ps : List (Ty × Ty)) : ps.length ≤ mu ps := by
  induction ps with
  | nil => simp [mu]
  | cons p ps ih => have := p.1.size_pos; simp only [List.length_cons, mu]; omega
noncomputable def Ty.plain : Ty → Bool
  | .T => false | .X => false | .V => false | .I => false | _ => true
noncomputable def Ty.vi : Ty → Bool
  | .V => true | .I => true | _ => false
noncomputable def HpM (M : Ty → Ty → List (Ty × Ty) → Prop) (p t : Ty) : Option (List (Ty × Ty)) → Prop
  | none => True
  | some ps => M p t ps
theorem hp_m (M : Ty → Ty → List (Ty × Ty) → Prop) (h0 : ∀ a, hp a a = some [] → M a a []) (h1 : ∀ a b, M (.box a) (.box b) [(a, b)]) (h2 : ∀ a b, M (.ref a) (.ref b) [(a, b)]) (h3 : ∀ a b, M (.W a) (.W b) [(a, b)]) (h4 : ∀ a b c d, M (.tup a b) (.tup c d) [(a, c), (b, d)]) (p t : Ty) : HpM M p t (hp p t) := by
  induction p using Ty.casesOn <;> induction t using Ty.casesOn <;> first | exact trivial | exact h0 _ rfl | exact h1 _ _ | exact h2 _ _ | exact h3 _ _ | exact h4 _ _ _ _
theorem hp_elim (M : Ty → Ty → List (Ty × Ty) → Prop) (h0 : ∀ a, hp a a = some [] → M a a []) (h1 : ∀ a b, M (.box a) (.box b) [(a, b)]) (h2 : ∀ a b, M (.ref a) (.ref b) [(a, b)]) (h3 : ∀ a b, M (.W a) (.W b) [(a, b)]) (h4 : ∀ a b c d, M (.tup a b) (.tup c d) [(a, c), (b, d)]) {p t : Ty} {ps : List (Ty × Ty)} (h : hp p t = some ps) : M p t ps := by
  have := hp_m M h0 h1 h2 h3 h4 p t
  rw [h] at this
  exact this
theorem mu_one {a b : Nat} : a + b + 0 < a + 1 + (b + 1) := Nat.lt_of_lt_of_le (Nat.lt_succ_self _) (Nat.add_le_add (Nat.le_succ a) (Nat.le_refl (b + 1)))
theorem mu_hp {t u : Ty} {ps : List (Ty × Ty)} (h : hp t u = some ps) : mu ps < t.size + u.size :=
  hp_elim (fun t u ps => mu ps < t.size + u.size) (fun a _ => Nat.lt_of_lt_of_le a.size_pos (Nat.le_add_right _ _)) (fun _ _ => mu_one) (fun _ _ => mu_one) (fun _ _ => mu_one)
    (fun a b c d => by show a.size + c.size + (b.size + d.size + 0) < a.size + b.size + 1 + (c.size + d.size + 1); exact Nat.add_add_add_comm a.size b.size c.size d.size ▸ mu_one) h
/-- the pattern p against t: what match_type says of it -/
noncomputable def m1 : Ty → Ty → Ans
  | .T, _ => .yes
  | .int, .I => .maybe
  | _, .V => .maybe
  | .int, .int => .yes | .bool, .bool => .yes | .S, .S => .yes
  | .box p, .box t => m1 p t | .ref p, .ref t => m1 p t | .W p, .W t => m1 p t
  | .tup p q, .tup a b => (m1 p a).or (m1 q b)
  | _, _ => .no
/-- does it meet the open name? -/
noncomputable def ht : Ty → Ty → Bool
  | .T, _ => true
  | .box p, .box t => ht p t | .ref p, .ref t => ht p t | .W p, .W t => ht p t
  | .tup p q, .tup a b => ht p a || ht q b
  | _, _ => false
/-- the open name stands for u wherever it is met -/
noncomputable def lt (u : Ty) : Ty → Ty → Prop
  | .T, t => t = u
  | .box p, .box t => lt u p t | .ref p, .ref t => lt u p t | .W p, .W t => lt u p t
  | .tup p q, .tup a b => lt u p a ∧ lt u q b
  | _, _ => True
noncomputable def Ty.okp : Ty → Bool
  | .int => true | .bool => true | .S => true | .T => true | .X => false | .V => false | .I => false
  | .box p => p.okp | .ref p => p.okp | .W p => p.okp | .tup p q => p.okp && q.okp
noncomputable def Ty.hasT : Ty → Bool
  | .T => true | .box p => p.hasT | .ref p => p.hasT | .W p => p.hasT | .tup p q => p.hasT || q.hasT | _ => false
noncomputable def ms : List (Ty × Ty) → Ans
  | [] => .yes
  | (p, t) :: ps => (m1 p t).or (ms ps)
noncomputable def hs : List (Ty × Ty) → Bool
  | [] => false
  | (p, t) :: ps => ht p t || hs ps
theorem ms_app (ps qs : List (Ty × Ty)) : ms (ps ++ qs) = (ms ps).or (ms qs) := by
  induction ps with
  | nil => exact (Ans.yes_or _).symm
  | cons p ps ih => simp only [List.cons_append, ms, ih, Ans.or_assoc]
theorem hs_app (ps qs : List (Ty × Ty)) : hs (ps ++ qs) = (hs ps || hs qs) := by
  induction ps with
  | nil => rfl
  | cons p ps ih => simp only [List.cons_append, hs, ih, Bool.or_assoc]
theorem Ty.okp_plain {p : Ty} (h : p.okp = true) (hT : p ≠ .T) : p.plain = true := by induction p using Ty.casesOn <;> first | rfl | (exact absurd rfl hT) | exact absurd h (by decide)
theorem m1_hp {p t : Ty} (h1 : p.plain = true) (h2 : t.vi = false) : m1 p t = match hp p t with | none => .no | some ps => ms ps := by
  induction p using Ty.casesOn <;> first | exact Bool.noConfusion h1 | (induction t using Ty.casesOn <;> first | exact Bool.noConfusion h2 | rfl | exact (Ans.or_yes _).symm | exact congrArg _ (Ans.or_yes _).symm)
theorem ht_hp {p t : Ty} {ps : List (Ty × Ty)} (h1 : p.plain = true) (h : hp p t = some ps) : ht p t = hs ps :=
  hp_elim (fun p t ps => p.plain = true → ht p t = hs ps) (fun a h0 h => by induction a using Ty.casesOn <;> first | rfl | exact Bool.noConfusion h | (cases h0; done)) (fun _ _ _ => (Bool.or_false _).symm) (fun _ _ _ => (Bool.or_false _).symm) (fun _ _ _ => (Bool.or_false _).symm) (fun _ _ _ _ _ => congrArg _ (Bool.or_false _).symm) h h1
structure PG (nm : Bool) (u p t : Ty) : Prop where
  ok : p.okp = true
  d1 : p.dep ≤ 4
  d2 : t.dep ≤ 4
  n : p.hasT = true → nm = true
  l : lt u p t
theorem PG.one {nm : Bool} {u p t p' t' : Ty} (g : PG nm u p t) (e1 : p.okp = p'.okp) (e2 : p.dep = p'.dep + 1) (e3 : t.dep = t'.dep + 1) (e4 : p.hasT = p'.hasT) (e5 : lt u p t = lt u p' t') : ∀ q ∈ [(p', t')], PG nm u q.1 q.2 := fun q hq => by
  rw [List.mem_singleton.mp hq]
  exact ⟨e1 ▸ g.ok, Nat.le_of_succ_le (show p'.dep + 1 ≤ 4 from e2 ▸ g.d1), Nat.le_of_succ_le (show t'.dep + 1 ≤ 4 from e3 ▸ g.d2), fun h => g.n (e4.trans h), e5 ▸ g.l⟩
theorem PG.hp {nm : Bool} {u p t : Ty} {ps : List (Ty × Ty)} (h1 : p.plain = true) (h : hp p t = some ps) (g : PG nm u p t) : ∀ q ∈ ps, PG nm u q.1 q.2 :=
  hp_elim (fun p t ps => PG nm u p t → ∀ q ∈ ps, PG nm u q.1 q.2) (fun _ _ _ _ hq => nomatch hq) (fun _ _ g => PG.one g rfl rfl rfl rfl rfl) (fun _ _ g => PG.one g rfl rfl rfl rfl rfl) (fun _ _ g => PG.one g rfl rfl rfl rfl rfl)
    (fun a b c d g q hq => by
      have d1 : max a.dep b.dep ≤ 4 := Nat.le_of_succ_le g.d1
      have d2 : max c.dep d.dep ≤ 4 := Nat.le_of_succ_le g.d2
      have o := Bool.and_eq_true_iff.mp g.ok
      exact (List.mem_cons.mp hq).elim (fun e => e ▸ ⟨o.1, Nat.le_trans (Nat.le_max_left _ _) d1, Nat.le_trans (Nat.le_max_left _ _) d2, fun h => g.n (Bool.or_eq_true_iff.mpr (.inl h)), g.l.1⟩)
        fun hq => List.mem_singleton.mp hq ▸ ⟨o.2, Nat.le_trans (Nat.le_max_right _ _) d1, Nat.le_trans (Nat.le_max_right _ _) d2, fun h => g.n (Bool.or_eq_true_iff.mpr (.inr h)), g.l.2⟩) h g
theorem m1_V {p : Ty} (h1 : p ≠ .T) : m1 p .V = .maybe := by induction p using Ty.casesOn <;> first | rfl | exact absurd rfl h1
theorem m1_I {p : Ty} (h1 : p ≠ .T) (h2 : p ≠ .int) : m1 p .I = .no := by induction p using Ty.casesOn <;> first | rfl | exact absurd rfl h1 | exact absurd rfl h2
theorem ht_vi {p t : Ty} (h1 : p ≠ .T) (h2 : t.vi = true) : ht p t = false := by
  induction t using Ty.casesOn <;> first | exact Bool.noConfusion h2 | (induction p using Ty.casesOn <;> first | rfl | exact absurd rfl h1)
noncomputable abbrev fnd : Option Value → List (Str × Value)
  | none => []
  | some v => [(Str.ofString "T", v)]
theorem any_vi {x : Str} (h : x ≠ Str.ofString "var") (h2 : x ≠ Str.ofString "intvar") : ¬ ([Str.ofString "var", Str.ofString "intvar"].any fun y => y == x) = true := by
  show ¬ ((_ == x) || ((_ == x) || false)) = true
  simp [Ne.symm h, Ne.symm h2]
theorem plain_kind {p : Ty} (h : p.plain = true) : p.kind ≠ Str.ofString "param" ∧ p.kind ≠ Str.ofString "var" ∧ p.kind ≠ Str.ofString "intvar" := by
  induction p using Ty.casesOn <;> first | exact absurd h (by decide) | (refine ⟨?_, ?_, ?_⟩ <;> (simp only [Ty.kind]; decide))
theorem vi_kind {t : Ty} (h : t.vi = false) : t.kind ≠ Str.ofString "var" ∧ t.kind ≠ Str.ofString "intvar" := by
  induction t using Ty.casesOn <;> first | exact absurd h (by decide) | (refine ⟨?_, ?_⟩ <;> (simp only [Ty.kind]; decide))
theorem kind_int {p : Ty} (h : p ≠ .int) : p.kind ≠ Str.ofString "int" := by
  induction p using Ty.casesOn <;> first | exact absurd rfl h | (simp only [Ty.kind]; decide)
inductive FO1 (N : List (Addr × Obj)) (u : Ty) (b : Bool) (f : Option Value) : Prop
  | mk (v : Value) : f = some v → b = true → TyIn N v u → FO1 N u b f
noncomputable def FOk (N : List (Addr × Obj)) (u : Ty) (b : Bool) (f : Option Value) : Prop := (f = none ∧ b = false) ∨ FO1 N u b f
inductive InS (N : List (Addr × Obj)) (xs : List Value) : Prop
  | mk (u : Tok) (b c : Addr) (k l : Nat) : xs = [.str (Str.ofString "S") u, .ref b, .ref c] → (b, tupObj [] k) ∈ N → (c, tupObj [] l) ∈ N → InS N xs
inductive InB (N : List (Addr × Obj)) (y : Ty) (xs : List Value) : Prop
  | mk (v : Value) : xs = [v] → TyIn N v y → InB N y xs
inductive InR (N : List (Addr × Obj)) (y : Ty) (xs : List Value) : Prop
  | mk (v : Value) : xs = [.none, .bool false, v] → TyIn N v y → InR N y xs
inductive InW (N : List (Addr × Obj)) (y : Ty) (xs : List Value) : Prop
  | mk (u : Tok) (b c : Addr) (k l : Nat) (v : Value) : xs = [.str (Str.ofString "W") u, .ref b, .ref c] → (b, tupObj [] k) ∈ N → (c, tupObj [v] l) ∈ N → TyIn N v y → InW N y xs
inductive InP (N : List (Addr × Obj)) (y z : Ty) (xs : List Value) : Prop
  | mk (c : Addr) (l : Nat) (v w : Value) : xs = [.ref c] → (c, tupObj [v, w] l) ∈ N → TyIn N v y → TyIn N w z → InP N y z xs
noncomputable def Inn (N : List (Addr × Obj)) : Ty → List Value → Prop
  | .int, xs => ∃ u, xs = [.str (Str.ofString "i32") u] | .bool, xs => xs = []
  | .S, xs => InS N xs | .box y, xs => InB N y xs | .ref y, xs => InR N y xs | .W y, xs => InW N y xs | .tup y z, xs => InP N y z xs
  | _, _ => True
inductive View (N : List (Addr × Obj)) (v : Value) (t : Ty) : Prop
  | mk (a : Addr) (n : Nat) (k : Tok) (xs : List Value) : v = .ref a → (a, tupObj (.str t.kind k :: xs) n) ∈ N → Inn N t xs → View N v t
theorem TyIn.view {N : List (Addr × Obj)} {v : Value} {t : Ty} (h : TyIn N v t) : View N v t := by
  induction h with
  | int m => exact ⟨_, _, _, _, rfl, m, ⟨_, rfl⟩⟩
  | bool m => exact ⟨_, _, _, _, rfl, m, rfl⟩
  | S m m1 m2 => exact ⟨_, _, _, _, rfl, m, .mk _ _ _ _ _ rfl m1 m2⟩
  | T m => exact ⟨_, _, _, _, rfl, m, trivial⟩
  | X m => exact ⟨_, _, _, _, rfl, m, trivial⟩
  | V m => exact ⟨_, _, _, _, rfl, m, trivial⟩
  | I m => exact ⟨_, _, _, _, rfl, m, trivial⟩
  | box m r _ => exact ⟨_, _, _, _, rfl, m, .mk _ rfl r⟩
  | ref m r _ => exact ⟨_, _, _, _, rfl, m, .mk _ rfl r⟩
  | W m m1 m2 r _ => exact ⟨_, _, _, _, rfl, m, .mk _ _ _ _ _ _ rfl m1 m2 r⟩
  | tup m m1 r1 r2 _ _ => exact ⟨_, _, _, _, rfl, m, .mk _ _ _ _ rfl m1 r1 r2⟩

-- part Zip
theorem words_Zip : True := by
  k_with "zne" => (first | assumption | exact Nat.ne_of_lt (by assumption) | exact Nat.ne_of_gt (by assumption) | exact O.p0 | exact Ne.symm O.p0 | exact O.p1 | exact Ne.symm O.p1 | exact O.p2 | exact Ne.symm O.p2 | exact O.p3 | exact Ne.symm O.p3 | exact O.p4 | exact Ne.symm O.p4 | exact O.p5 | exact Ne.symm O.p5 | exact O.p6 | exact Ne.symm O.p6 | exact O.p7 | exact Ne.symm O.p7 | exact O.p8 | exact Ne.symm O.p8 | exact O.p9 | exact Ne.symm O.p9 | exact O.p10 | exact Ne.symm O.p10 | exact O.p11 | exact Ne.symm O.p11 | exact O.p12 | exact Ne.symm O.p12 | exact O.p13 | exact Ne.symm O.p13 | exact O.p14 | exact Ne.symm O.p14 | exact O.p15 | exact Ne.symm O.p15 | exact O.p16 | exact Ne.symm O.p16 | exact O.p17 | exact Ne.symm O.p17 | exact O.p18 | exact Ne.symm O.p18 | exact O.p19 | exact Ne.symm O.p19 | exact ZipO.u0 O (by assumption) | exact Ne.symm (ZipO.u0 O (by assumption)) | exact ZipO.u1 O (by assumption) | exact Ne.symm (ZipO.u1 O (by assumption)) | exact ZipO.u2 O (by assumption) | exact Ne.symm (ZipO.u2 O (by assumption)) | exact ZipO.u3 O (by assumption) | exact Ne.symm (ZipO.u3 O (by assumption)) | exact ZipO.u4 O (by assumption) | exact Ne.symm (ZipO.u4 O (by assumption)) | exact ZipO.u5 O (by assumption) | exact Ne.symm (ZipO.u5 O (by assumption)) | exact ZipO.u6 O (by assumption) | exact Ne.symm (ZipO.u6 O (by assumption)) | omega)
  trivial
-- needs Ops
section
variable {prog : Program} {w : World} {A : Around} {E : Value → Shared → Prop} {s : Shared}
theorem nextOf_tup {it t : Addr} {i : Nat} {items : Array Value} {x : Value} {Q : Value → Shared → Prop} (hit : IsTupIter s.heap it t i) (ht : IsTup s.heap t items) (hx : items[i]? = some x)
    (hQ : ∀ h', IsTupIter h' it t (i + 1) → Heap.SameBut it s.heap h' → Q x { s with heap := h' }) : wpAny (model prog w) A (Builtin.SmallTypes.nextOf (.ref it)) Q E s := by
  have key := hit
  obtain ⟨⟨c, dd, dt, sl⟩, ho, hc, hd⟩ := key
  obtain ⟨ol, hol, _, nl, hdl⟩ := ht
  simp only at hc hd
  subst hc hd
  unfold Builtin.SmallTypes.nextOf
  refine wpAny_bind (wpAny_callSpecial?_slot (name := Str.ofString "__next__") hit.typeIs slot_tupleiter_next (wpAny_call_entry slot_tupleiter_next hit.typeIs entry_tupleiter_next ?_ (args_tupleiter_next _)))
  show wpAny _ _ (field (.ref it) 0 >>= _) _ _ s
  refine wpAny_bind (wpAny_field ho rfl (x := .ref t) rfl ?_)
  show wpAny _ _ (field (.ref it) 1 >>= _) _ _ s
  refine wpAny_bind (wpAny_field ho rfl (x := .int i 0) rfl ?_)
  show wpAny _ _ (seqItems? (.ref t) >>= _) _ _ s
  refine wpAny_bind (wpAny_seqItems hol hdl ?_)
  simp only [Int.toNat_natCast, hx]
  refine wpAny_bind (wpAny_setField ho rfl (by simp) (wpAny_pure ⟨x, rfl, wpAny_pure (hQ _ ⟨_, Heap.get?_update_self _ ho rfl, rfl, ?_⟩ (Heap.SameBut.update ..))⟩))
  simp [Obj.mapFields, rawInt]
theorem nextOf_tup_end {it t : Addr} {i : Nat} {items : Array Value} {Q : Value → Shared → Prop} (hh : A.handled = none) (hit : IsTupIter s.heap it t i) (ht : IsTup s.heap t items) (hx : items[i]? = none)
    (hE : ∀ h' e, Heap.ExtBut it s.heap h' → (∃ o, h'.get? e = some o ∧ o.cls = .type "StopIteration") → E (.ref e) { s with heap := h' }) : wpAny (model prog w) A (Builtin.SmallTypes.nextOf (.ref it)) Q E s := by
  have key := hit
  obtain ⟨⟨c, dd, dt, sl⟩, ho, hc, hd⟩ := key
  obtain ⟨ol, hol, _, nl, hdl⟩ := ht
  simp only at hc hd
  subst hc hd
  unfold Builtin.SmallTypes.nextOf
  refine wpAny_bind (wpAny_callSpecial?_slot (name := Str.ofString "__next__") hit.typeIs slot_tupleiter_next (wpAny_call_entry slot_tupleiter_next hit.typeIs entry_tupleiter_next ?_ (args_tupleiter_next _)))
  show wpAny _ _ (field (.ref it) 0 >>= _) _ _ s
  refine wpAny_bind (wpAny_field ho rfl (x := .ref t) rfl ?_)
  show wpAny _ _ (field (.ref it) 1 >>= _) _ _ s
  refine wpAny_bind (wpAny_field ho rfl (x := .int i 0) rfl ?_)
  show wpAny _ _ (seqItems? (.ref t) >>= _) _ _ s
  refine wpAny_bind (wpAny_seqItems hol hdl ?_)
  simp only [Int.toNat_natCast, hx]
  have hh1 : A.in1.handled = none := hh
  refine wpAny_bind (wpAny_rule (wpAny_bind (wpAny_setField ho rfl (by simp) ?_)))
  wp_walk
  simp only [raiseNew]
  refine wpAny_bind (wpAny_handled ?_)
  rw [hh1]
  refine wpAny_bind (wpAny_pure (wpAny_throw ?_))
  exact hE _ _ (((Heap.SameBut.update ..).extBut.push _).push _) ⟨_, Heap.get?_push_size _ rfl, rfl⟩

structure ZipT (z TI TO i1 i2 t1 t2 : Addr) (h : Heap) (xs ys : Array Value) (k : Nat) (f0 f1 : Value) : Prop where
  z : h.get? z = some { cls := .type "zip", data := .fields #[f0, f1, .bool false, .ref TI, .ref TO] }
  TI : h.get? TI = some { cls := .type "tuple", data := .seq #[.ref i1, .ref i2] }
  TO : ∃ a b n, h.get? TO = some { cls := .type "tuple", data := .seq #[a, b] n }
  i1 : IsTupIter h i1 t1 k
  i2 : IsTupIter h i2 t2 k
  t1 : IsTup h t1 xs
  t2 : IsTup h t2 ys
/-- the five new addresses, in their order, above the two tuples -/
structure ZipO (z TI TO i1 i2 t1 t2 n : Nat) : Prop where
  a : i1 = n
  b : i2 = n + 1
  c : TI = n + 2
  d : TO = n + 3
  e : z = n + 4
  f : t1 < n
  g : t2 < n

theorem zadd {n a b : Nat} (h : a ≠ b) : n + a ≠ n + b := fun e => h (Nat.add_left_cancel e)
theorem ZipO.p0 {z TI TO i1 i2 t1 t2 n : Nat} (O : ZipO z TI TO i1 i2 t1 t2 n) : z ≠ TI := by rw [O.e, O.c]; exact zadd (a := 4) (b := 2) (by decide)
theorem ZipO.p1 {z TI TO i1 i2 t1 t2 n : Nat} (O : ZipO z TI TO i1 i2 t1 t2 n) : z ≠ TO := by rw [O.e, O.d]; exact zadd (a := 4) (b := 3) (by decide)
theorem ZipO.p2 {z TI TO i1 i2 t1 t2 n : Nat} (O : ZipO z TI TO i1 i2 t1 t2 n) : z ≠ i1 := by rw [O.e, O.a]; exact zadd (a := 4) (b := 0) (by decide)
theorem ZipO.p3 {z TI TO i1 i2 t1 t2 n : Nat} (O : ZipO z TI TO i1 i2 t1 t2 n) : z ≠ i2 := by rw [O.e, O.b]; exact zadd (a := 4) (b := 1) (by decide)
theorem ZipO.p4 {z TI TO i1 i2 t1 t2 n : Nat} (O : ZipO z TI TO i1 i2 t1 t2 n) : z ≠ t1 := by rw [O.e]; exact Nat.ne_of_gt (Nat.lt_of_lt_of_le O.f (Nat.le_add_right n 4))
theorem ZipO.p5 {z TI TO i1 i2 t1 t2 n : Nat} (O : ZipO z TI TO i1 i2 t1 t2 n) : z ≠ t2 := by rw [O.e]; exact Nat.ne_of_gt (Nat.lt_of_lt_of_le O.g (Nat.le_add_right n 4))
theorem ZipO.p6 {z TI TO i1 i2 t1 t2 n : Nat} (O : ZipO z TI TO i1 i2 t1 t2 n) : TI ≠ TO := by rw [O.c, O.d]; exact zadd (a := 2) (b := 3) (by decide)
theorem ZipO.p7 {z TI TO i1 i2 t1 t2 n : Nat} (O : ZipO z TI TO i1 i2 t1 t2 n) : TI ≠ i1 := by rw [O.c, O.a]; exact zadd (a := 2) (b := 0) (by decide)
theorem ZipO.p8 {z TI TO i1 i2 t1 t2 n : Nat} (O : ZipO z TI TO i1 i2 t1 t2 n) : TI ≠ i2 := by rw [O.c, O.b]; exact zadd (a := 2) (b := 1) (by decide)
theorem ZipO.p9 {z TI TO i1 i2 t1 t2 n : Nat} (O : ZipO z TI TO i1 i2 t1 t2 n) : TI ≠ t1 := by rw [O.c]; exact Nat.ne_of_gt (Nat.lt_of_lt_of_le O.f (Nat.le_add_right n 2))
theorem ZipO.p10 {z TI TO i1 i2 t1 t2 n : Nat} (O : ZipO z TI TO i1 i2 t1 t2 n) : TI ≠ t2 := by rw [O.c]; exact Nat.ne_of_gt (Nat.lt_of_lt_of_le O.g (Nat.le_add_right n 2))
theorem ZipO.p11 {z TI TO i1 i2 t1 t2 n : Nat} (O : ZipO z TI TO i1 i2 t1 t2 n) : TO ≠ i1 := by rw [O.d, O.a]; exact zadd (a := 3) (b := 0) (by decide)
theorem ZipO.p12 {z TI TO i1 i2 t1 t2 n : Nat} (O : ZipO z TI TO i1 i2 t1 t2 n) : TO ≠ i2 := by rw [O.d, O.b]; exact zadd (a := 3) (b := 1) (by decide)
theorem ZipO.p13 {z TI TO i1 i2 t1 t2 n : Nat} (O : ZipO z TI TO i1 i2 t1 t2 n) : TO ≠ t1 := by rw [O.d]; exact Nat.ne_of_gt (Nat.lt_of_lt_of_le O.f (Nat.le_add_right n 3))
theorem ZipO.p14 {z TI TO i1 i2 t1 t2 n : Nat} (O : ZipO z TI TO i1 i2 t1 t2 n) : TO ≠ t2 := by rw [O.d]; exact Nat.ne_of_gt (Nat.lt_of_lt_of_le O.g (Nat.le_add_right n 3))
theorem ZipO.p15 {z TI TO i1 i2 t1 t2 n : Nat} (O : ZipO z TI TO i1 i2 t1 t2 n) : i1 ≠ i2 := by rw [O.a, O.b]; exact zadd (a := 0) (b := 1) (by decide)
theorem ZipO.p16 {z TI TO i1 i2 t1 t2 n : Nat} (O : ZipO z TI TO i1 i2 t1 t2 n) : i1 ≠ t1 := by rw [O.a]; exact Nat.ne_of_gt (Nat.lt_of_lt_of_le O.f (Nat.le_add_right n 0))
theorem ZipO.p17 {z TI TO i1 i2 t1 t2 n : Nat} (O : ZipO z TI TO i1 i2 t1 t2 n) : i1 ≠ t2 := by rw [O.a]; exact Nat.ne_of_gt (Nat.lt_of_lt_of_le O.g (Nat.le_add_right n 0))
theorem ZipO.p18 {z TI TO i1 i2 t1 t2 n : Nat} (O : ZipO z TI TO i1 i2 t1 t2 n) : i2 ≠ t1 := by rw [O.b]; exact Nat.ne_of_gt (Nat.lt_of_lt_of_le O.f (Nat.le_add_right n 1))
theorem ZipO.p19 {z TI TO i1 i2 t1 t2 n : Nat} (O : ZipO z TI TO i1 i2 t1 t2 n) : i2 ≠ t2 := by rw [O.b]; exact Nat.ne_of_gt (Nat.lt_of_lt_of_le O.g (Nat.le_add_right n 1))
theorem ZipO.u0 {z TI TO i1 i2 t1 t2 n x : Nat} (O : ZipO z TI TO i1 i2 t1 t2 n) (h : z < x) : x ≠ z := Nat.ne_of_gt h
theorem ZipO.u1 {z TI TO i1 i2 t1 t2 n x : Nat} (O : ZipO z TI TO i1 i2 t1 t2 n) (h : z < x) : x ≠ TI := by rw [O.c]; exact Nat.ne_of_gt (Nat.lt_trans (Nat.add_lt_add_left (by decide : 2 < 4) n) (O.e ▸ h))
theorem ZipO.u2 {z TI TO i1 i2 t1 t2 n x : Nat} (O : ZipO z TI TO i1 i2 t1 t2 n) (h : z < x) : x ≠ TO := by rw [O.d]; exact Nat.ne_of_gt (Nat.lt_trans (Nat.add_lt_add_left (by decide : 3 < 4) n) (O.e ▸ h))
theorem ZipO.u3 {z TI TO i1 i2 t1 t2 n x : Nat} (O : ZipO z TI TO i1 i2 t1 t2 n) (h : z < x) : x ≠ i1 := by rw [O.a]; exact Nat.ne_of_gt (Nat.lt_trans (Nat.add_lt_add_left (by decide : 0 < 4) n) (O.e ▸ h))
theorem ZipO.u4 {z TI TO i1 i2 t1 t2 n x : Nat} (O : ZipO z TI TO i1 i2 t1 t2 n) (h : z < x) : x ≠ i2 := by rw [O.b]; exact Nat.ne_of_gt (Nat.lt_trans (Nat.add_lt_add_left (by decide : 1 < 4) n) (O.e ▸ h))
theorem ZipO.u5 {z TI TO i1 i2 t1 t2 n x : Nat} (O : ZipO z TI TO i1 i2 t1 t2 n) (h : z < x) : x ≠ t1 := Nat.ne_of_gt (Nat.lt_trans (Nat.lt_of_lt_of_le O.f (Nat.le_add_right n 4)) (O.e ▸ h))
theorem ZipO.u6 {z TI TO i1 i2 t1 t2 n x : Nat} (O : ZipO z TI TO i1 i2 t1 t2 n) (h : z < x) : x ≠ t2 := Nat.ne_of_gt (Nat.lt_trans (Nat.lt_of_lt_of_le O.g (Nat.le_add_right n 4)) (O.e ▸ h))
noncomputable abbrev zh1 (h : Heap) (t1 : Addr) : Heap := h.push { cls := .type "tuple_iterator", data := .fields #[.ref t1, .int 0 0] }
noncomputable abbrev zh2 (h : Heap) (t1 t2 : Addr) : Heap := (zh1 h t1).push { cls := .type "tuple_iterator", data := .fields #[.ref t2, .int 0 0] }
noncomputable abbrev zh3 (h : Heap) (t1 t2 : Addr) : Heap := (zh2 h t1 t2).push { cls := .type "tuple", data := .seq #[.ref h.objs.size, .ref (zh1 h t1).objs.size] }
noncomputable abbrev zh4 (h : Heap) (t1 t2 : Addr) : Heap := (zh3 h t1 t2).push { cls := .type "tuple", data := .seq #[.none, .none] }
noncomputable abbrev zh5 (h : Heap) (t1 t2 : Addr) : Heap := (zh4 h t1 t2).push { cls := .type "zip", data := .fields #[.none, .bool false, .bool false, .ref (zh2 h t1 t2).objs.size, .ref (zh3 h t1 t2).objs.size] }
theorem IsTup.pushed {h : Heap} {t : Addr} {xs : Array Value} (x : IsTup h t xs) (o : Obj) : IsTup (h.push o) t xs := let ⟨p, hp, r⟩ := x; ⟨p, Heap.get?_push_of_some _ hp, r⟩
theorem zip_meets (t1 t2 : Addr) (xs ys : Array Value) :
    Meets (Builtin.«zip.__new__» ⟨[.type "zip", .ref t1, .ref t2], []⟩) (fun _ R s => IsTup s.heap t1 xs ∧ IsTup s.heap t2 ys ∧ R (.ok (.ret (.ref (zh4 s.heap t1 t2).objs.size))) { s with heap := zh5 s.heap t1 t2 }) :=
  .of_wp fun prog w A R s hh => by
    obtain ⟨hp, g, d, tk, os⟩ := s
    obtain ⟨p1, p2, h⟩ := hh
    have hsub := sub_zip
    have q1 : IsTup (Shared.heap ⟨hp, g, d, tk, os⟩) t1 xs := p1
    have q2 : IsTup (Shared.heap ⟨hp.push { cls := .type "tuple_iterator", data := .fields #[.ref t1, .int 0 0] }, g, d, tk, os⟩) t2 ys := IsTup.pushed p2 _
    wp_walk using iter_tuple q1, iter_tuple q2
    exact ⟨_, rfl, h⟩
theorem zip_new {t1 t2 : Addr} {xs ys : Array Value} {Q : Value → Shared → Prop} (h1 : IsTup s.heap t1 xs) (h2 : IsTup s.heap t2 ys)
    (h : ∀ h', ZipT (s.heap.objs.size + 4) (s.heap.objs.size + 2) (s.heap.objs.size + 3) s.heap.objs.size (s.heap.objs.size + 1) t1 t2 h' xs ys 0 .none (.bool false) → h'.objs.size = s.heap.objs.size + 5 →
      (∀ c o, s.heap.get? c = some o → h'.get? c = some o) → Q (.ref (s.heap.objs.size + 4)) { s with heap := h' }) :
    wpAny (model prog w) A (call (.type "zip") [.ref t1, .ref t2]) Q E s := by
  refine callType_new F.called_zip (by decide) (F.typeCall_zip_2 _ _) (F.newCall_zip_2 _ _) (fun obj => F.args_object_init_3 obj _ _) F.entry_zip_new (zip_meets t1 t2 xs ys) ⟨h1, h2, ?_⟩
  have z1 : (zh1 s.heap t1).objs.size = s.heap.objs.size + 1 := Heap.size_push ..
  have z2 : (zh2 s.heap t1 t2).objs.size = s.heap.objs.size + 2 := by rw [Heap.size_push, z1]
  have z3 : (zh3 s.heap t1 t2).objs.size = s.heap.objs.size + 3 := by rw [Heap.size_push, z2]
  have z4 : (zh4 s.heap t1 t2).objs.size = s.heap.objs.size + 4 := by rw [Heap.size_push, z3]
  have z5 : (zh5 s.heap t1 t2).objs.size = s.heap.objs.size + 5 := by rw [Heap.size_push, z4]
  have g5 : (zh5 s.heap t1 t2).get? (zh4 s.heap t1 t2).objs.size = some _ := Heap.get?_push_size _ rfl
  have g4 : (zh5 s.heap t1 t2).get? (zh3 s.heap t1 t2).objs.size = some _ := Heap.get?_push_of_some _ (Heap.get?_push_size _ rfl)
  have g3 : (zh5 s.heap t1 t2).get? (zh2 s.heap t1 t2).objs.size = some _ := Heap.get?_push_of_some _ (Heap.get?_push_of_some _ (Heap.get?_push_size _ rfl))
  have g2 : (zh5 s.heap t1 t2).get? (zh1 s.heap t1).objs.size = some _ := Heap.get?_push_of_some _ (Heap.get?_push_of_some _ (Heap.get?_push_of_some _ (Heap.get?_push_size _ rfl)))
  have g1 : (zh5 s.heap t1 t2).get? s.heap.objs.size = some _ := Heap.get?_push_of_some _ (Heap.get?_push_of_some _ (Heap.get?_push_of_some _ (Heap.get?_push_of_some _ (Heap.get?_push_size _ rfl))))
  have up : ∀ c o, s.heap.get? c = some o → (zh5 s.heap t1 t2).get? c = some o := fun c o x =>
    Heap.get?_push_of_some _ (Heap.get?_push_of_some _ (Heap.get?_push_of_some _ (Heap.get?_push_of_some _ (Heap.get?_push_of_some _ x))))
  show _ ∧ _
  rw [z2, z3, z4] at g5
  rw [z1, z2] at g3
  rw [z3] at g4
  rw [z1] at g2
  rw [z4]
  exact ⟨⟨_, g5, rfl⟩, h _ ⟨g5, g3, ⟨_, _, _, g4⟩, ⟨_, g1, rfl, rfl⟩, ⟨_, g2, rfl, rfl⟩, let ⟨o, p, r⟩ := h1; ⟨o, up _ _ p, r⟩, let ⟨o, p, r⟩ := h2; ⟨o, up _ _ p, r⟩⟩ z5 up⟩
theorem tupIter_keep {h h' : Heap} {i t k : Addr} (x : IsTupIter h i t k) (e : ∀ o, h.get? i = some o → h'.get? i = some o) : IsTupIter h' i t k := let ⟨o, p, r⟩ := x; ⟨o, e o p, r⟩
theorem isTup_keep {h h' : Heap} {t : Addr} {xs : Array Value} (x : IsTup h t xs) (e : ∀ o, h.get? t = some o → h'.get? t = some o) : IsTup h' t xs := let ⟨o, p, r⟩ := x; ⟨o, e o p, r⟩
theorem zip_next_free {z TI TO i1 i2 t1 t2 n : Addr} {xs ys : Array Value} {k : Nat} {x y : Value} {Q : Value → Shared → Prop} (O : ZipO z TI TO i1 i2 t1 t2 n) (Z : ZipT z TI TO i1 i2 t1 t2 s.heap xs ys k .none (.bool false)) (hx : xs[k]? = some x) (hy : ys[k]? = some y)
    (hQ : ∀ h', ZipT z TI TO i1 i2 t1 t2 h' xs ys (k + 1) (rawInt s.heap.objs.size) (.bool false) → h'.get? s.heap.objs.size = some { cls := .type "tuple", data := .seq #[x, y] } → h'.objs.size = s.heap.objs.size + 1 →
      (∀ c o, c ≠ z → c ≠ TO → c ≠ i1 → c ≠ i2 → s.heap.get? c = some o → h'.get? c = some o) → Q (.ref s.heap.objs.size) { s with heap := h' }) :
    wpAny (model prog w) A (Builtin.«zip.__next__» ⟨[.ref z], []⟩) (fun fin s' => ∃ v, fin = .done (.ret v) ∧ Q v s') E s := by
  obtain ⟨hz, hTI, ⟨a, b, n0, hTO⟩, h1, h2, ht1, ht2⟩ := Z
  have oa := O.a; have ob := O.b; have oc := O.c; have od := O.d; have oe := O.e; have of' := O.f; have og := O.g
  show wpAny _ _ (field (.ref z) 2 >>= _) _ _ _
  refine wpAny_bind (wpAny_field hz rfl (x := .bool false) rfl ?_)
  show wpAny _ _ (field (.ref z) 3 >>= _) _ _ _
  refine wpAny_bind (wpAny_field hz rfl (x := .ref TI) rfl (wpAny_bind (wpAny_seqItems hTI rfl ?_)))
  show wpAny _ _ (Builtin.SmallTypes.ownedTupleIsFree (.ref z) >>= _) _ _ _
  refine wpAny_bind ?_
  unfold Builtin.SmallTypes.ownedTupleIsFree
  refine wpAny_bind (wpAny_field hz rfl (x := .none) rfl (wpAny_pure ?_))
  simp only [if_true]
  refine wpAny_bind (wpAny_rule (wpAny_bind (wpAny_field hz rfl (x := .ref TO) rfl (wpAny_bind (wpAny_setField_rec hz (by simp) fun k1 g1 c1 => ?_)))))
  refine wpAny_bind ?_
  simp only [List.zipIdx_cons, List.zipIdx_nil, List.forIn_cons, List.forIn_nil]
  -- the first item
  refine wpAny_bind (wpAny_bind (wpAny_onRaise ?_))
  show wpAny _ _ (Builtin.SmallTypes.nextOf (.ref i1) >>= _) _ _ _
  refine wpAny_bind (nextOf_tup (h1.extBut c1.extBut (neN (by walk_at "zne"))) (isTup_keep ht1 fun o e => c1.extBut _ _ (neN (by walk_at "zne")) e) hx fun k2 g2 c2 => wpAny_pure ?_)
  have e2 : k2.get? TO = some { cls := .type "tuple", data := .seq #[a, b] n0 } := c2.extBut _ _ (neN (by walk_at "zne")) (c1.extBut _ _ (neN (by walk_at "zne")) hTO)
  refine wpAny_bind (wpAny_seqItems e2 rfl (wpAny_bind (wpAny_updateSeq e2 rfl (wpAny_bind (wpAny_letGo (wpAny_pure ?_))))))
  have c3 : Heap.SameBut TO k2 (k2.update TO (Obj.mapSeq (·.setIfInBounds 0 x))) := Heap.SameBut.update ..
  have e3 : (k2.update TO (Obj.mapSeq (·.setIfInBounds 0 x))).get? TO = some { cls := .type "tuple", data := .seq #[x, b] n0 } := by
    rw [Heap.get?_update_self _ e2 rfl]; simp [Obj.mapSeq]
  generalize k2.update TO (Obj.mapSeq (·.setIfInBounds 0 x)) = k3 at c3 e3
  -- the second
  refine wpAny_bind (wpAny_bind (wpAny_onRaise ?_))
  show wpAny _ _ (Builtin.SmallTypes.nextOf (.ref i2) >>= _) _ _ _
  refine wpAny_bind (nextOf_tup (((h2.extBut c1.extBut (neN (by walk_at "zne"))).extBut c2.extBut (neN (by walk_at "zne"))).extBut c3.extBut (neN (by walk_at "zne")))
    (isTup_keep ht2 fun o e => c3.extBut _ _ (neN (by walk_at "zne")) (c2.extBut _ _ (neN (by walk_at "zne")) (c1.extBut _ _ (neN (by walk_at "zne")) e))) hy fun k4 g4 c4 => wpAny_pure ?_)
  have e4 : k4.get? TO = some { cls := .type "tuple", data := .seq #[x, b] n0 } := c4.extBut _ _ (neN (by walk_at "zne")) e3
  refine wpAny_bind (wpAny_seqItems e4 rfl (wpAny_bind (wpAny_updateSeq e4 rfl (wpAny_bind (wpAny_letGo (wpAny_pure (wpAny_pure ?_)))))))
  have c5 : Heap.SameBut TO k4 (k4.update TO (Obj.mapSeq (·.setIfInBounds 1 y))) := Heap.SameBut.update ..
  have e5 : (k4.update TO (Obj.mapSeq (·.setIfInBounds 1 y))).get? TO = some { cls := .type "tuple", data := .seq #[x, y] n0 } := by
    rw [Heap.get?_update_self _ e4 rfl]; simp [Obj.mapSeq]
  generalize k4.update TO (Obj.mapSeq (·.setIfInBounds 1 y)) = k5 at c5 e5
  refine wpAny_bind (wpAny_seqItems e5 rfl (wpAny_bind (wpAny_newTuple ?_)))
  have sz : k5.objs.size = s.heap.objs.size := by rw [c5.1, c4.1, c3.1, c2.1, c1.1]
  have g5 : k5.get? z = some { cls := .type "zip", data := .fields #[.ellipsis, .bool false, .bool false, .ref TI, .ref TO] } :=
    c5.extBut _ _ (neN (by walk_at "zne")) (c4.extBut _ _ (neN (by walk_at "zne")) (c3.extBut _ _ (neN (by walk_at "zne")) (c2.extBut _ _ (neN (by walk_at "zne")) g1)))
  have zlt := Heap.lt_size g5
  have tlt := Heap.lt_size e5
  have up5 : ∀ c o, c ≠ z → c ≠ TO → c ≠ i1 → c ≠ i2 → s.heap.get? c = some o → k5.get? c = some o := fun c o n1 n2 n3 n4 e =>
    c5.extBut _ _ n2 (c4.extBut _ _ n4 (c3.extBut _ _ n2 (c2.extBut _ _ n3 (c1.extBut _ _ n1 e))))
  show wpAny _ _ (Builtin.SmallTypes.ownedTupleHandOut (.ref z) (.ref k5.objs.size) >>= _) _ _ _
  unfold Builtin.SmallTypes.ownedTupleHandOut
  refine wpAny_bind (wpAny_bind (wpAny_setField_rec (Heap.get?_push_of_some _ g5) (by simp) fun k6 g6 c6 => wpAny_setField_rec g6 (by simp) fun k7 g7 c7 => wpAny_pure ⟨_, rfl, ?_⟩))
  have up7 : ∀ c o, c ≠ z → k5.get? c = some o → k7.get? c = some o := fun c o n1 e => c7.extBut _ _ n1 (c6.extBut _ _ n1 (Heap.get?_push_of_some _ e))
  have new7 : k7.get? k5.objs.size = some { cls := .type "tuple", data := .seq #[x, y] } := c7.extBut _ _ (Nat.ne_of_gt zlt) (c6.extBut _ _ (Nat.ne_of_gt zlt) (Heap.get?_push_size _ rfl))
  rw [sz] at new7 g7 ⊢
  refine hQ k7 ⟨g7, up7 _ _ (neN (by walk_at "zne")) (up5 _ _ (neN (by walk_at "zne")) (neN (by walk_at "zne")) (neN (by walk_at "zne")) (neN (by walk_at "zne")) hTI), ⟨x, y, n0, up7 _ _ (neN (by walk_at "zne")) e5⟩, ?_, ?_, ?_, ?_⟩ new7 (by rw [c7.1, c6.1, Heap.size_push, sz]) fun c o n1 n2 n3 n4 e => up7 _ _ n1 (up5 _ _ n1 n2 n3 n4 e)
  · exact tupIter_keep g2 fun o e => up7 _ _ (neN (by walk_at "zne")) (c5.extBut _ _ (neN (by walk_at "zne")) (c4.extBut _ _ (neN (by walk_at "zne")) (c3.extBut _ _ (neN (by walk_at "zne")) e)))
  · exact tupIter_keep g4 fun o e => up7 _ _ (neN (by walk_at "zne")) (c5.extBut _ _ (neN (by walk_at "zne")) e)
  · exact isTup_keep ht1 fun o e => up7 _ _ (neN (by walk_at "zne")) (up5 _ _ (neN (by walk_at "zne")) (neN (by walk_at "zne")) (neN (by walk_at "zne")) (neN (by walk_at "zne")) e)
  · exact isTup_keep ht2 fun o e => up7 _ _ (neN (by walk_at "zne")) (up5 _ _ (neN (by walk_at "zne")) (neN (by walk_at "zne")) (neN (by walk_at "zne")) (neN (by walk_at "zne")) e)
theorem zip_next_kept {z TI TO i1 i2 t1 t2 n q : Nat} {xs ys : Array Value} {k : Nat} {x y f1 : Value} {oq : Obj} {Q : Value → Shared → Prop} (O : ZipO z TI TO i1 i2 t1 t2 n) (Z : ZipT z TI TO i1 i2 t1 t2 s.heap xs ys k (rawInt q) f1) (hq : s.heap.get? q = some oq) (hx : xs[k]? = some x) (hy : ys[k]? = some y)
    (hQ : ∀ h', ZipT z TI TO i1 i2 t1 t2 h' xs ys (k + 1) (rawInt q) (.bool true) → h'.get? s.heap.objs.size = some { cls := .type "tuple", data := .seq #[x, y] } → h'.objs.size = s.heap.objs.size + 1 →
      (∀ c o, c ≠ z → c ≠ i1 → c ≠ i2 → s.heap.get? c = some o → h'.get? c = some o) → Q (.ref s.heap.objs.size) { s with heap := h' }) (hf : f1 = .bool false ∨ f1 = .bool true) :
    wpAny (model prog w) A (Builtin.«zip.__next__» ⟨[.ref z], []⟩) (fun fin s' => ∃ v, fin = .done (.ret v) ∧ Q v s') E s := by
  obtain ⟨hz, hTI, ⟨a, b, n0, hTO⟩, h1, h2, ht1, ht2⟩ := Z
  have oa := O.a; have ob := O.b; have oc := O.c; have od := O.d; have oe := O.e; have of' := O.f; have og := O.g
  show wpAny _ _ (field (.ref z) 2 >>= _) _ _ _
  refine wpAny_bind (wpAny_field hz rfl (x := .bool false) rfl ?_)
  show wpAny _ _ (field (.ref z) 3 >>= _) _ _ _
  refine wpAny_bind (wpAny_field hz rfl (x := .ref TI) rfl (wpAny_bind (wpAny_seqItems hTI rfl ?_)))
  show wpAny _ _ (Builtin.SmallTypes.ownedTupleIsFree (.ref z) >>= _) _ _ _
  refine wpAny_bind ?_
  unfold Builtin.SmallTypes.ownedTupleIsFree
  refine wpAny_bind (wpAny_field hz rfl (x := rawInt q) rfl ?_)
  show wpAny _ _ (loadIfAlive (Int.toNat (q : Int)) >>= _) _ _ _
  rw [Int.toNat_natCast]
  have alive : ∀ {R : Option Obj → Shared → Prop}, R (some oq) s → wpAny (model prog w) A (loadIfAlive q) R E s := fun h Γ p _ => by
    show Sem.wp _ Γ (.loadIfAlive q .pure) _ _ p s
    rw [Sem.wp_loadIfAlive, hq]; exact h
  refine wpAny_bind (alive ?_)
  show wpAny _ _ (field (.ref z) 1 >>= _) _ _ _
  refine wpAny_bind (wpAny_field hz rfl (x := f1) rfl ?_)
  refine wpAny_mono (Q := fun b s' => b = false ∧ ∃ k1, s' = { s with heap := k1 } ∧ k1.get? z = some { cls := .type "zip", data := .fields #[rawInt q, .bool true, .bool false, .ref TI, .ref TO] } ∧ Heap.SameBut z s.heap k1) ?_ ?_ (fun _ _ e => e)
  · rcases hf with rfl | rfl
    · refine wpAny_ite_true rfl ?_
      exact wpAny_bind (wpAny_setField_rec hz (by simp) fun k1 g1 c1 => wpAny_pure ⟨rfl, k1, rfl, g1, c1⟩)
    · refine wpAny_ite_false rfl ?_
      exact wpAny_pure ⟨rfl, s.heap, rfl, hz, ⟨rfl, fun _ _ => rfl⟩⟩
  rintro b s' ⟨rfl, k1, rfl, g1, c1⟩
  simp only [Bool.false_eq_true, if_false]
  refine wpAny_bind ?_
  simp only [List.forIn_toArray, List.forIn_cons, List.forIn_nil]
  refine wpAny_bind (wpAny_bind (wpAny_holding ?_))
  show wpAny _ _ (Builtin.SmallTypes.nextOf (.ref i1) >>= _) _ _ _
  refine wpAny_bind (nextOf_tup (h1.extBut c1.extBut (neN (by walk_at "zne"))) (isTup_keep ht1 fun o e => c1.extBut _ _ (neN (by walk_at "zne")) e) hx fun k2 g2 c2 => wpAny_pure (wpAny_pure ?_))
  refine wpAny_bind (wpAny_bind (wpAny_holding ?_))
  show wpAny _ _ (Builtin.SmallTypes.nextOf (.ref i2) >>= _) _ _ _
  refine wpAny_bind (nextOf_tup ((h2.extBut c1.extBut (neN (by walk_at "zne"))).extBut c2.extBut (neN (by walk_at "zne"))) (isTup_keep ht2 fun o e => c2.extBut _ _ (neN (by walk_at "zne")) (c1.extBut _ _ (neN (by walk_at "zne")) e)) hy fun k3 g3 c3 => wpAny_pure (wpAny_pure (wpAny_pure ?_)))
  refine wpAny_bind (wpAny_newTuple (hsz := by first | size_fits | (simp [sizeLine]; done) | decide) ?_)
  refine wpAny_pure ⟨_, rfl, ?_⟩
  have up : ∀ c o, c ≠ z → c ≠ i1 → c ≠ i2 → s.heap.get? c = some o → k3.get? c = some o := fun c o n1 n2 n3 e => c3.extBut _ _ n3 (c2.extBut _ _ n2 (c1.extBut _ _ n1 e))
  have sz : k3.objs.size = s.heap.objs.size := by rw [c3.1, c2.1, c1.1]
  show Q (.ref k3.objs.size) _
  rw [sz]
  have new := Heap.get?_push_size k3 (o := { cls := .type "tuple", data := .seq #[x, y] }) rfl
  rw [sz] at new
  refine hQ _ ⟨Heap.get?_push_of_some _ (c3.extBut _ _ (neN (by walk_at "zne")) (c2.extBut _ _ (neN (by walk_at "zne")) g1)), Heap.get?_push_of_some _ (up _ _ (neN (by walk_at "zne")) (neN (by walk_at "zne")) (neN (by walk_at "zne")) hTI), ⟨a, b, n0, Heap.get?_push_of_some _ (up _ _ (neN (by walk_at "zne")) (neN (by walk_at "zne")) (neN (by walk_at "zne")) hTO)⟩, ?_, ?_, ?_, ?_⟩ new (by rw [Heap.size_push, sz]) fun c o n1 n2 n3 e => Heap.get?_push_of_some _ (up c o n1 n2 n3 e)
  · exact tupIter_keep g2 fun o e => Heap.get?_push_of_some _ (c3.extBut _ _ (neN (by walk_at "zne")) e)
  · exact tupIter_keep g3 fun o e => Heap.get?_push_of_some _ e
  · exact isTup_keep ht1 fun o e => Heap.get?_push_of_some _ (up _ _ (neN (by walk_at "zne")) (neN (by walk_at "zne")) (neN (by walk_at "zne")) e)
  · exact isTup_keep ht2 fun o e => Heap.get?_push_of_some _ (up _ _ (neN (by walk_at "zne")) (neN (by walk_at "zne")) (neN (by walk_at "zne")) e)

theorem zip_end_free {z TI TO i1 i2 t1 t2 n : Addr} {xs ys : Array Value} {k : Nat} {Q : Fin → Shared → Prop} (hh : A.handled = none) (O : ZipO z TI TO i1 i2 t1 t2 n) (Z : ZipT z TI TO i1 i2 t1 t2 s.heap xs ys k .none (.bool false)) (hx : xs[k]? = none)
    (hE : ∀ h' e, (∀ c o, c ≠ z → c ≠ i1 → s.heap.get? c = some o → h'.get? c = some o) → (∃ o, h'.get? e = some o ∧ o.cls = .type "StopIteration") → E (.ref e) { s with heap := h' }) :
    wpAny (model prog w) A (Builtin.«zip.__next__» ⟨[.ref z], []⟩) Q E s := by
  obtain ⟨hz, hTI, ⟨a, b, n0, hTO⟩, h1, h2, ht1, ht2⟩ := Z
  have oa := O.a; have ob := O.b; have oc := O.c; have od := O.d; have oe := O.e; have of' := O.f; have og := O.g
  show wpAny _ _ (field (.ref z) 2 >>= _) _ _ _
  refine wpAny_bind (wpAny_field hz rfl (x := .bool false) rfl ?_)
  show wpAny _ _ (field (.ref z) 3 >>= _) _ _ _
  refine wpAny_bind (wpAny_field hz rfl (x := .ref TI) rfl (wpAny_bind (wpAny_seqItems hTI rfl ?_)))
  show wpAny _ _ (Builtin.SmallTypes.ownedTupleIsFree (.ref z) >>= _) _ _ _
  refine wpAny_bind ?_
  unfold Builtin.SmallTypes.ownedTupleIsFree
  refine wpAny_bind (wpAny_field hz rfl (x := .none) rfl (wpAny_pure ?_))
  simp only [if_true]
  refine wpAny_bind (wpAny_rule (wpAny_bind (wpAny_field hz rfl (x := .ref TO) rfl (wpAny_bind (wpAny_setField_rec hz (by simp) fun k1 g1 c1 => ?_)))))
  refine wpAny_bind ?_
  simp only [List.zipIdx_cons, List.zipIdx_nil, List.forIn_cons, List.forIn_nil]
  refine wpAny_bind (wpAny_bind (wpAny_onRaise ?_))
  show wpAny _ _ (Builtin.SmallTypes.nextOf (.ref i1) >>= _) _ _ _
  refine wpAny_bind (nextOf_tup_end hh (h1.extBut c1.extBut (neN (by walk_at "zne"))) (isTup_keep ht1 fun o e => c1.extBut _ _ (neN (by walk_at "zne")) e) hx fun k2 e c2 he => ?_)
  obtain ⟨oe', hoe, hce⟩ := he
  have g2 := c2 _ _ (neN (by walk_at "zne")) g1
  have hez : e ≠ z := fun x => by subst x; rw [g2] at hoe; cases hoe; simp at hce
  refine wpAny_setField_rec g2 (by simp) fun k3 _ c3 => hE k3 e (fun c o n1 n2 x => c3.extBut _ _ n1 (c2 _ _ n2 (c1.extBut _ _ n1 x))) ⟨oe', c3.extBut _ _ hez hoe, hce⟩
theorem zip_end_kept {z TI TO i1 i2 t1 t2 n q : Nat} {xs ys : Array Value} {k : Nat} {f1 : Value} {oq : Obj} {Q : Fin → Shared → Prop} (hh : A.handled = none) (O : ZipO z TI TO i1 i2 t1 t2 n) (Z : ZipT z TI TO i1 i2 t1 t2 s.heap xs ys k (rawInt q) f1) (hq : s.heap.get? q = some oq) (hx : xs[k]? = none)
    (hE : ∀ h' e, (∀ c o, c ≠ z → c ≠ i1 → s.heap.get? c = some o → h'.get? c = some o) → (∃ o, h'.get? e = some o ∧ o.cls = .type "StopIteration") → E (.ref e) { s with heap := h' }) (hf : f1 = .bool false ∨ f1 = .bool true) :
    wpAny (model prog w) A (Builtin.«zip.__next__» ⟨[.ref z], []⟩) Q E s := by
  obtain ⟨hz, hTI, ⟨a, b, n0, hTO⟩, h1, h2, ht1, ht2⟩ := Z
  have oa := O.a; have ob := O.b; have oc := O.c; have od := O.d; have oe := O.e; have of' := O.f; have og := O.g
  show wpAny _ _ (field (.ref z) 2 >>= _) _ _ _
  refine wpAny_bind (wpAny_field hz rfl (x := .bool false) rfl ?_)
  show wpAny _ _ (field (.ref z) 3 >>= _) _ _ _
  refine wpAny_bind (wpAny_field hz rfl (x := .ref TI) rfl (wpAny_bind (wpAny_seqItems hTI rfl ?_)))
  show wpAny _ _ (Builtin.SmallTypes.ownedTupleIsFree (.ref z) >>= _) _ _ _
  refine wpAny_bind ?_
  unfold Builtin.SmallTypes.ownedTupleIsFree
  refine wpAny_bind (wpAny_field hz rfl (x := rawInt q) rfl ?_)
  show wpAny _ _ (loadIfAlive (Int.toNat (q : Int)) >>= _) _ _ _
  rw [Int.toNat_natCast]
  have alive : ∀ {R : Option Obj → Shared → Prop}, R (some oq) s → wpAny (model prog w) A (loadIfAlive q) R E s := fun h Γ p _ => by
    show Sem.wp _ Γ (.loadIfAlive q .pure) _ _ p s
    rw [Sem.wp_loadIfAlive, hq]; exact h
  refine wpAny_bind (alive ?_)
  show wpAny _ _ (field (.ref z) 1 >>= _) _ _ _
  refine wpAny_bind (wpAny_field hz rfl (x := f1) rfl ?_)
  refine wpAny_mono (Q := fun b s' => b = false ∧ ∃ k1, s' = { s with heap := k1 } ∧ k1.get? z = some { cls := .type "zip", data := .fields #[rawInt q, .bool true, .bool false, .ref TI, .ref TO] } ∧ Heap.SameBut z s.heap k1) ?_ ?_ (fun _ _ e => e)
  · rcases hf with rfl | rfl
    · refine wpAny_ite_true rfl ?_
      exact wpAny_bind (wpAny_setField_rec hz (by simp) fun k1 g1 c1 => wpAny_pure ⟨rfl, k1, rfl, g1, c1⟩)
    · refine wpAny_ite_false rfl ?_
      exact wpAny_pure ⟨rfl, s.heap, rfl, hz, ⟨rfl, fun _ _ => rfl⟩⟩
  rintro b s' ⟨rfl, k1, rfl, g1, c1⟩
  simp only [Bool.false_eq_true, if_false]
  refine wpAny_bind ?_
  simp only [List.forIn_toArray, List.forIn_cons, List.forIn_nil]
  refine wpAny_bind (wpAny_bind (wpAny_holding ?_))
  show wpAny _ _ (Builtin.SmallTypes.nextOf (.ref i1) >>= _) _ _ _
  refine wpAny_bind (nextOf_tup_end hh (h1.extBut c1.extBut (neN (by walk_at "zne"))) (isTup_keep ht1 fun o e => c1.extBut _ _ (neN (by walk_at "zne")) e) hx fun k2 e c2 he => ?_)
  exact hE k2 e (fun c o n1 n2 x => c2 _ _ n2 (c1.extBut _ _ n1 x)) he
theorem pyNext_zip {z : Addr} {o : Obj} {Q : Option Value → Shared → Prop} (hz : s.heap.get? z = some o) (hc : o.cls = .type "zip")
    (h : wpAny (model prog w) A.in1 (Builtin.«zip.__next__» ⟨[.ref z], []⟩) (fun fin s' => ∃ v, fin = .done (.ret v) ∧ Q (some v) s') (fun e s' => ∃ a o, e = .ref a ∧ s'.heap.get? a = some o ∧ o.cls = .type "StopIteration" ∧ Q none s') s) : wpAny (model prog w) A (pyNext (.ref z)) Q E s := by
  have hT : s.TypeIs (.ref z) "zip" := ⟨_, hz, hc⟩
  unfold pyNext
  refine wpAny_bind (wpAny_attempt (wpAny_callSpecial?_slot (name := Str.ofString "__next__") hT PySem.F.slot_zip_next
    (wpAny_call_entry PySem.F.slot_zip_next hT PySem.F.entry_zip_next (wpAny_mono h ?_ ?_) (PySem.F.args_zip_next_1 _))))
  · rintro fin s' ⟨v, rfl, hq⟩
    exact ⟨v, rfl, wpAny_pure hq⟩
  · rintro e s' ⟨a, o, rfl, ho, hc, hq⟩
    refine wpAny_bind (wpAny_isInstance (T := "StopIteration") (b := true) ⟨o, ho, hc⟩ isSubtype_stop ?_)
    exact wpAny_pure hq
end

-- part LZ
-- needs Zip
theorem zip_no_len : typeLookup (.type "zip") "__len__" = pure none := by rw [typeLookup_type, builtinLookup_eq_fast]; kernel_rfl
theorem zip_no_hint : typeLookup (.type "zip") "__length_hint__" = pure none := by rw [typeLookup_type, builtinLookup_eq_fast]; kernel_rfl
inductive ZSt (z TI TO i1 i2 t1 t2 S : Nat) (h : Heap) (xs ys : Array Value) (k : Nat) : Prop
  | inl : k = 0 → ZipT z TI TO i1 i2 t1 t2 h xs ys 0 .none (.bool false) → ZSt z TI TO i1 i2 t1 t2 S h xs ys k
  | inr (q : Nat) (f1 : Value) (oq : Obj) : ZipT z TI TO i1 i2 t1 t2 h xs ys k (rawInt q) f1 → (f1 = .bool false ∨ f1 = .bool true) → h.get? q = some oq → S < q → z < q → ZSt z TI TO i1 i2 t1 t2 S h xs ys k
inductive ZPair (xs ys : Array Value) (h : Heap) (j : Nat) (a : Addr) : Prop
  | mk (x y : Value) : xs[j]? = some x → ys[j]? = some y → h.get? a = some { cls := .type "tuple", data := .seq #[x, y] } → ZPair xs ys h j a
theorem ZPair.keep {xs ys : Array Value} {h h' : Heap} {j : Nat} {a : Addr} (z : ZPair xs ys h j a) (e : ∀ o, h.get? a = some o → h'.get? a = some o) : ZPair xs ys h' j a := by
  cases z with | mk x y e1 e2 e3 => exact ⟨x, y, e1, e2, e _ e3⟩
structure ZipG (xs ys : Array Value) (S z : Nat) (h : Heap) (as : List Addr) : Prop where
  above : ∀ a ∈ as, S < a ∧ z < a
  pairs : ∀ (j : Nat) (a : Addr), as[j]? = some a → ZPair xs ys h j a
theorem ZipT.keep {z TI TO i1 i2 t1 t2 : Addr} {h h' : Heap} {xs ys : Array Value} {k : Nat} {f0 f1 : Value} (Z : ZipT z TI TO i1 i2 t1 t2 h xs ys k f0 f1)
    (e : ∀ b ∈ [z, TI, TO, i1, i2, t1, t2], ∀ o, h.get? b = some o → h'.get? b = some o) : ZipT z TI TO i1 i2 t1 t2 h' xs ys k f0 f1 :=
  ⟨e _ mm0 _ Z.z, e _ mm1 _ Z.TI, Z.TO.imp fun _ q => q.imp fun _ q => q.imp fun _ q => e _ mm2 _ q, tupIter_keep Z.i1 (e _ mm3), tupIter_keep Z.i2 (e _ (mmt4 mm0)), isTup_keep Z.t1 (e _ (mmt4 mm1)), isTup_keep Z.t2 (e _ (mmt4 mm2))⟩
section
variable {prog : Program} {w : World} {A : Around} {s : Shared} {E : Value → Shared → Prop} {z TI TO i1 i2 t1 t2 n : Nat} {xs ys : Array Value}
theorem zst_item {S k : Nat} {x y : Value} {Q : Option Value → Shared → Prop} (O : ZipO z TI TO i1 i2 t1 t2 n) (Z : ZSt z TI TO i1 i2 t1 t2 S s.heap xs ys k) (hS : S < s.heap.objs.size) (hx : xs[k]? = some x) (hy : ys[k]? = some y)
    (hQ : ∀ h', ZSt z TI TO i1 i2 t1 t2 S h' xs ys (k + 1) → h'.get? s.heap.objs.size = some { cls := .type "tuple", data := .seq #[x, y] } → h'.objs.size = s.heap.objs.size + 1 → z < s.heap.objs.size →
      (∀ c o, c ≠ z → c ≠ TO → c ≠ i1 → c ≠ i2 → s.heap.get? c = some o → h'.get? c = some o) → Q (some (.ref s.heap.objs.size)) { s with heap := h' }) : wpAny (model prog w) A (pyNext (.ref z)) Q E s := by
  have oa := O.a; have ob := O.b; have oc := O.c; have od := O.d; have oe := O.e; have of' := O.f; have og := O.g
  rcases Z with ⟨rfl, Z⟩ | ⟨q, f1, oq, Z, hf, hq, hSq, hzq⟩
  · have hzl := Heap.lt_size Z.z
    exact pyNext_zip Z.z rfl (wpAny_mono (zip_next_free (Q := fun v s' => Q (some v) s') O Z hx hy fun h' Z' g sz up => hQ h' (.inr _ _ _ Z' (.inl rfl) g hS hzl) g sz hzl up) (fun _ _ h => h) (fun _ _ h => h))
  · have hzl := Heap.lt_size Z.z
    refine pyNext_zip Z.z rfl (wpAny_mono (zip_next_kept (Q := fun v s' => Q (some v) s') O Z hq hx hy (fun h' Z' g sz up => ?_) hf) (fun _ _ h => h) (fun _ _ h => h))
    exact hQ h' (.inr q _ oq Z' (.inr rfl) (up q oq (neN (by walk_at "zne")) (neN (by walk_at "zne")) (neN (by walk_at "zne")) hq) hSq hzq) g sz hzl fun c o n1 _ n3 n4 e => up c o n1 n3 n4 e
theorem zst_end {S k : Nat} {Q : Option Value → Shared → Prop} (hh : A.handled = none) (O : ZipO z TI TO i1 i2 t1 t2 n) (Z : ZSt z TI TO i1 i2 t1 t2 S s.heap xs ys k) (hx : xs[k]? = none)
    (hQ : ∀ h', (∀ c o, c ≠ z → c ≠ i1 → s.heap.get? c = some o → h'.get? c = some o) → Q none { s with heap := h' }) : wpAny (model prog w) A (pyNext (.ref z)) Q E s := by
  rcases Z with ⟨rfl, Z⟩ | ⟨q, f1, oq, Z, hf, hq, hSq, hzq⟩
  · exact pyNext_zip Z.z rfl (zip_end_free (A := A.in1) hh O Z hx fun h' e up he => ⟨e, _, rfl, he.choose_spec.1, he.choose_spec.2, hQ h' up⟩)
  · exact pyNext_zip Z.z rfl (zip_end_kept (A := A.in1) hh O Z hq hx (fun h' e up he => ⟨e, _, rfl, he.choose_spec.1, he.choose_spec.2, hQ h' up⟩) hf)
theorem zip_loop {R : Result → Shared → Prop} {S : Nat} (hh : A.handled = none) (O : ZipO z TI TO i1 i2 t1 t2 n) (hS1 : z < S) (he : xs.size = ys.size) (hn : xs.size ≤ sizeLine) (res : Value) {h₁ : Heap}
    (hR : ∀ h' acc c as, (∀ b o, b ≠ S → b ≠ z → b ≠ TO → b ≠ i1 → b ≠ i2 → h₁.get? b = some o → h'.get? b = some o) → h'.get? S = some { cls := .type "list", dict := none, data := .seq acc c, slots := #[] } → as.length = xs.size → ZipG xs ys S z h' as →
      acc.toList = as.map Value.ref → R (.ok (.ret res)) { s with heap := h' }) :
    ∀ (m k : Nat) (h : Heap) (c : Nat) (acc : Array Value) (as : List Addr), xs.size - k = m → k ≤ xs.size → ZSt z TI TO i1 i2 t1 t2 S h xs ys k → (∀ b o, b ≠ S → b ≠ z → b ≠ TO → b ≠ i1 → b ≠ i2 → h₁.get? b = some o → h.get? b = some o) →
      h.get? S = some { cls := .type "list", dict := none, data := .seq acc c, slots := #[] } → acc.toList = as.map Value.ref → as.length = k → ZipG xs ys S z h as →
      codeAny (model prog w) A (.builtin "list.extend.loop" ⟨[.ref S, .ref z, res], []⟩) R { s with heap := h } := by
  have oa := O.a; have ob := O.b; have oc := O.c; have od := O.d; have oe := O.e; have of' := O.f; have og := O.g
  intro m
  induction m with
  | zero =>
    intro k h c acc as hk hi hst hkeep hS hacc hal hG
    refine codeAny_builtin PySem.F.entry_extend_loop ?_
    rw [Around.under_plainId PySem.F.plain_extend_loop _]
    show wpAny _ A.in1 (pyNext (.ref z) >>= _) _ _ _
    refine wpAny_bind (zst_end (s := { s with heap := h }) (A := A.in1) hh O hst (Array.getElem?_eq_none (by omega)) fun h' up => ?_)
    refine wpAny_pure (hR h' acc c as (fun b o h1 h2 h3 h4 h5 e => up b o h2 h4 (hkeep b o h1 h2 h3 h4 h5 e)) (up S _ (neN (by walk_at "zne")) (neN (by walk_at "zne")) hS) (by omega) ⟨hG.above, fun j a hj => ?_⟩ hacc)
    have hb := (hG.above a (List.mem_of_getElem? hj)).2
    exact (hG.pairs j a hj).keep fun o e => up a o (O.u0 hb) (O.u3 hb) e
  | succ m ih =>
    intro k h c acc as hk hi hst hkeep hS hacc hal hG
    have hlt : k < xs.size := by omega
    have hx : xs[k]? = some xs[k] := Array.getElem?_eq_getElem hlt
    have hy : ys[k]? = some (ys[k]'(by omega)) := Array.getElem?_eq_getElem (by omega)
    have hsz : acc.size = k := by rw [← Array.length_toList, hacc, List.length_map, hal]
    have hSl : S < h.objs.size := Heap.lt_size hS
    refine codeAny_builtin PySem.F.entry_extend_loop ?_
    rw [Around.under_plainId PySem.F.plain_extend_loop _]
    show wpAny _ A.in1 (pyNext (.ref z) >>= _) _ _ _
    refine wpAny_bind (zst_item (s := { s with heap := h }) O hst hSl hx hy fun h' hst' g sz hzl up => ?_)
    dsimp only at g sz hzl up ⊢
    have hS' := up S _ (neN (by walk_at "zne")) (neN (by walk_at "zne")) (neN (by walk_at "zne")) (neN (by walk_at "zne")) hS
    have up2 : ∀ b o, b ≠ S → h'.get? b = some o → (h'.update S (Obj.mapSeq (·.push (Value.ref h.objs.size)))).get? b = some o := fun b o hb e => (Heap.get?_update_other _ _ (Ne.symm hb)).trans e
    show wpAny _ A.in1 (updateSeq S (·.push (Value.ref h.objs.size)) >>= _) _ _ _
    refine wpAny_bind ?_
    refine wpAny_updateSeq hS' rfl (wpAny_pure ⟨plainId_quiet PySem.F.plain_extend_loop _, ih (k + 1) _ _ (acc.push (Value.ref h.objs.size)) (as ++ [h.objs.size]) (by omega) hlt ?_
      (fun b o h1 h2 h3 h4 h5 e => up2 b o h1 (up b o h2 h3 h4 h5 (hkeep b o h1 h2 h3 h4 h5 e))) (Heap.get?_update_self _ hS' rfl) (by rw [Array.toList_push, hacc, List.map_append]; rfl) (by rw [List.length_append, hal]; rfl) ⟨?_, ?_⟩⟩) (by rw [hsz]; omega) (by show (acc.push (Value.ref h.objs.size)).size ≤ sizeLine + 1; rw [Array.size_push, hsz]; omega)
    · rcases hst' with ⟨e, _⟩ | ⟨q, f1, oq, Z, hf, hq, hSq, hzq⟩
      · exact absurd e (Nat.succ_ne_zero _)
      · exact .inr q f1 oq (Z.keep fun b hb o e => up2 b o (fa_cons (p := fun b : Nat => b ≠ S) (Ne.symm (O.u0 hS1)) (fa_cons (Ne.symm (O.u1 hS1)) (fa_cons (Ne.symm (O.u2 hS1)) (fa_cons (Ne.symm (O.u3 hS1)) (fa_cons (Ne.symm (O.u4 hS1)) (fa_cons (Ne.symm (O.u5 hS1)) (fa_cons (Ne.symm (O.u6 hS1)) fa_nil)))))) b hb) e) hf (up2 q oq (Nat.ne_of_gt hSq) hq) hSq hzq
    · intro a ha
      rcases List.mem_append.mp ha with ha | ha
      · exact hG.above a ha
      · rw [List.mem_singleton.mp ha]; exact ⟨hSl, hzl⟩
    · intro j b hj
      rcases Nat.lt_trichotomy j as.length with h1 | h1 | h1
      · rw [List.getElem?_append_left h1] at hj
        have hb := hG.above b (List.mem_of_getElem? hj)
        exact (hG.pairs j b hj).keep fun o e => up2 b o (Nat.ne_of_gt hb.1) (up b o (O.u0 hb.2) (O.u2 hb.2) (O.u3 hb.2) (O.u4 hb.2) e)
      · subst h1
        have hb : h.objs.size = b := by simpa using hj
        subst hb
        exact ⟨_, _, by rw [hal]; exact hx, by rw [hal]; exact hy, up2 _ _ (Nat.ne_of_gt hSl) g⟩
      · have hnone : (as ++ [h.objs.size])[j]? = none := List.getElem?_eq_none (by rw [List.length_append, List.length_singleton]; omega)
        rw [hnone] at hj; cases hj
theorem zip_extend {R : Result → Shared → Prop} {S : Nat} (hh : A.handled = none) (O : ZipO z TI TO i1 i2 t1 t2 n) (Z : ZipT z TI TO i1 i2 t1 t2 s.heap xs ys 0 .none (.bool false)) (hS1 : z < S) (he : xs.size = ys.size) (hn : xs.size ≤ sizeLine) (res : Value) (c₀ : Nat) (hS : s.heap.get? S = some { cls := .type "list", data := .seq #[] c₀ })
    (hR : ∀ h' acc c as, (∀ b o, b ≠ S → b ≠ z → b ≠ TO → b ≠ i1 → b ≠ i2 → s.heap.get? b = some o → h'.get? b = some o) → h'.get? S = some { cls := .type "list", dict := none, data := .seq acc c, slots := #[] } → as.length = xs.size → ZipG xs ys S z h' as →
      acc.toList = as.map Value.ref → R (.ok (.ret res)) { s with heap := h' }) :
    wpAny (model prog w) A.in1 (Builtin.List.listExtendWith (.ref S) (.ref z) res)
      (fun fin s' => match fin with | .done f => R (.ok f) s' | .again c' => c'.quiet = true ∧ codeAny (model prog w) A c' R s') (fun e s' => R (.error e) s') s := by
  have oa := O.a; have ob := O.b; have oc := O.c; have od := O.d; have oe := O.e; have of' := O.f; have og := O.g
  have hT : s.TypeIs (.ref z) "zip" := ⟨_, Z.z, rfl⟩
  unfold Builtin.List.listExtendWith
  refine wpAny_bind (wpAny_typeOf (T := "zip") hT ?_)
  have hne : ¬ (S = z) := by omega
  have h1 : Builtin.List.listSameRef (.ref S) (.ref z) = false := by simp [Builtin.List.listSameRef, hne]
  have h2 : (Value.type "zip" == Value.type "list") = false := by decide
  have h3 : (Value.type "zip" == Value.type "tuple") = false := by decide
  simp only [h1, h2, h3, Bool.or_false, Bool.false_eq_true, if_false]
  refine wpAny_bind (wpAny_pyIter_zip Z.z ?_)
  refine wpAny_bind (wpAny_holding ?_)
  unfold Builtin.List.listLengthHint
  refine wpAny_bind (wpAny_specialOf hT zip_no_len ?_)
  show wpAny _ A.in1 (specialOf (Value.ref z) (Str.ofString "__length_hint__") >>= _) _ _ _
  refine wpAny_bind (wpAny_specialOf hT zip_no_hint ?_)
  refine wpAny_pure ?_
  show wpAny _ A.in1 (rule "list.extend.makes-room" >>= fun _ => Builtin.List.listTouch (.ref S) >>= fun _ =>
    again (.builtin "list.extend.loop" ⟨[.ref S, .ref z, res], []⟩)) _ _ _
  refine wpAny_bind (wpAny_rule ?_)
  refine wpAny_bind ?_
  show wpAny _ A.in1 (updateSeq S (·.push .none) >>= fun _ => updateSeq S (·.pop)) _ _ _
  refine wpAny_bind (wpAny_updateSeq hS rfl ?_)
  have hS₂ := Heap.get?_update_self (Obj.mapSeq (·.push Value.none)) hS rfl
  refine wpAny_updateSeq (hz := by seq_fits) hS₂ rfl ?_
  have hS₃ := Heap.get?_update_self (Obj.mapSeq (·.pop)) hS₂ rfl
  have oth : ∀ b o, b ≠ S → s.heap.get? b = some o → ((s.heap.update S (Obj.mapSeq (·.push Value.none))).update S (Obj.mapSeq (·.pop))).get? b = some o :=
    fun b o hb e => (Heap.get?_update_other _ _ (Ne.symm hb)).trans ((Heap.get?_update_other _ _ (Ne.symm hb)).trans e)
  refine wpAny_pure ⟨plainId_quiet PySem.F.plain_extend_loop _, zip_loop (s := s) (h₁ := s.heap) hh O hS1 he hn res hR _ 0 _ _ _ [] rfl (Nat.zero_le _)
    (.inl rfl (Z.keep fun b hb o e => oth b o (fa_cons (p := fun b : Nat => b ≠ S) (Ne.symm (O.u0 hS1)) (fa_cons (Ne.symm (O.u1 hS1)) (fa_cons (Ne.symm (O.u2 hS1)) (fa_cons (Ne.symm (O.u3 hS1)) (fa_cons (Ne.symm (O.u4 hS1)) (fa_cons (Ne.symm (O.u5 hS1)) (fa_cons (Ne.symm (O.u6 hS1)) fa_nil)))))) b hb) e)) (fun b o h1 _ _ _ _ e => oth b o h1 e) hS₃ rfl rfl ⟨(fun _ h => nomatch h), fun j a hj => by simp at hj⟩⟩
theorem zip_list {Q : Value → Shared → Prop} (hh : A.handled = none) (O : ZipO z TI TO i1 i2 t1 t2 n) (Z : ZipT z TI TO i1 i2 t1 t2 s.heap xs ys 0 .none (.bool false)) (he : xs.size = ys.size) (hn : xs.size ≤ sizeLine)
    (hQ : ∀ h' acc c as, (∀ b o, b ≠ z → b ≠ TO → b ≠ i1 → b ≠ i2 → s.heap.get? b = some o → h'.get? b = some o) → h'.get? s.heap.objs.size = some { cls := .type "list", dict := none, data := .seq acc c, slots := #[] } → as.length = xs.size → ZipG xs ys s.heap.objs.size z h' as →
      acc.toList = as.map Value.ref → Q (.ref s.heap.objs.size) { s with heap := h' }) :
    wpAny (model prog w) A (call (.type "list") [.ref z]) Q E s := by
  refine callType_codes (Q₁ := fun obj s₁ => obj = .ref s.heap.objs.size ∧ s₁ = { s with heap := s.heap.push { cls := .type "list", data := .seq #[] } }) PySem.F.called_list (PySem.F.typeCall_list_1 _) PySem.F.entry_list_init
    (code_list_new _ ⟨rfl, rfl⟩) fun obj s₁ h₁ => ?_
  obtain ⟨rfl, rfl⟩ := h₁
  have hS : (s.heap.push { cls := .type "list", data := .seq #[] }).get? s.heap.objs.size = some { cls := .type "list", data := .seq #[] } := Heap.get?_push_size _ rfl
  refine ⟨⟨_, hS, rfl⟩, PySem.F.args_list_init_2 _ _, ?_⟩
  have hzl : z < s.heap.objs.size := Heap.lt_size Z.z
  show wpAny _ _ (do let old ← Builtin.List.listItems (.ref s.heap.objs.size); Builtin.List.listUpdate (.ref s.heap.objs.size) (fun _ => #[]); letGo old.toList.reverse; Builtin.List.listExtendWith (.ref s.heap.objs.size) (.ref z) .none) _ _ _
  refine wpAny_bind ?_
  unfold Builtin.List.listItems
  refine wpAny_bind (wpAny_seqItems hS rfl (wpAny_pure ?_))
  show wpAny _ _ (updateSeq s.heap.objs.size (fun _ => #[]) >>= fun _ => letGo (#[] : Array Value).toList.reverse >>= fun _ => Builtin.List.listExtendWith (.ref s.heap.objs.size) (.ref z) .none) _ _ _
  refine wpAny_bind (wpAny_updateSeq hS rfl ?_)
  have hS₂ := Heap.get?_update_self (Obj.mapSeq (fun _ => (#[] : Array Value))) hS rfl
  have oth : ∀ b o, b ≠ s.heap.objs.size → s.heap.get? b = some o → ((s.heap.push { cls := .type "list", data := .seq #[] }).update s.heap.objs.size (Obj.mapSeq (fun _ => (#[] : Array Value)))).get? b = some o :=
    fun b o hb e => (Heap.get?_update_other _ _ (Ne.symm hb)).trans (Heap.get?_push_of_some _ e)
  refine wpAny_bind (wpAny_letGo ?_)
  have lt {b : Addr} {o : Obj} (e : s.heap.get? b = some o) : b ≠ s.heap.objs.size := Nat.ne_of_lt (Heap.lt_size e)
  have keep : ∀ b o, s.heap.get? b = some o → _ := fun b o e => oth b o (lt e) e
  refine zip_extend (A := A.in1) hh O (Z.keep fun b _ o e => keep b o e) hzl he hn .none _ hS₂ fun h' acc c as hk hS' hl hG hacc => ?_
  exact ⟨rfl, hQ h' acc c as (fun b o h1 h2 h3 h4 e => hk b o (lt e) h1 h2 h3 h4 (keep b o e)) hS' hl hG hacc⟩
theorem list_zip {t1 t2 : Addr} {xs ys : Array Value} {Q : Value → Shared → Prop} (hh : A.handled = none) (h1 : IsTup s.heap t1 xs) (h2 : IsTup s.heap t2 ys) (he : xs.size = ys.size) (hn : xs.size ≤ sizeLine)
    (hQ : ∀ h' acc c as, (∀ b o, s.heap.get? b = some o → h'.get? b = some o) → h'.get? (s.heap.objs.size + 5) = some { cls := .type "list", dict := none, data := .seq acc c, slots := #[] } → as.length = xs.size → ZipG xs ys (s.heap.objs.size + 5) (s.heap.objs.size + 4) h' as →
      acc.toList = as.map Value.ref → Q (.ref (s.heap.objs.size + 5)) { s with heap := h' }) :
    wpAny (model prog w) A (call (.type "zip") [.ref t1, .ref t2]) (fun v s' => wpAny (model prog w) A (call (.type "list") [v]) Q E s') E s := by
  refine zip_new h1 h2 fun h' Z sz up => ?_
  have l1 : t1 < s.heap.objs.size := let ⟨_, x, _⟩ := h1; Heap.lt_size x
  have l2 : t2 < s.heap.objs.size := let ⟨_, x, _⟩ := h2; Heap.lt_size x
  refine zip_list (n := s.heap.objs.size) hh ⟨rfl, rfl, rfl, rfl, rfl, l1, l2⟩ Z he hn fun h'' acc c as hk hS hl hG hacc => ?_
  dsimp only at hS hG ⊢
  rw [sz] at hS hG ⊢
  refine hQ h'' acc c as (fun b o e => ?_) hS hl hG hacc
  have lb : b < s.heap.objs.size := Heap.lt_size e
  have lb' : ∀ k : Nat, b ≠ s.heap.objs.size + k := fun k => neN (Nat.ne_of_lt (Nat.lt_of_lt_of_le lb (Nat.le_add_right _ _)))
  exact hk b o (lb' 4) (lb' 3) (lb' 0) (lb' 1) (up b o e)
end

-- part LZK
theorem words_LZK : True := by
  k_with "call type:zip" => ((k_here; (with_reducible show wpAny _ _ (call (Value.type _) [Value.ref _, Value.ref _]) _ _ _); (with_unfolding_all refine' kz_new ?k1 ?k2 ?k3 ?k4 ?_; (case k1 => k_asm); (case k2 => k_asm); (case k3 => k_mem); (case k4 => k_mem); k_whole); intro n' h' Z' lz' F' N'))
  k_with "call type:list" => ((k_here; (with_reducible show wpAny _ _ (call (Value.type _) [Value.ref _]) _ _ _); first | (with_unfolding_all refine' kz_list0 ?k0 ?k1 ?k2 ?k3 ?k4 ?_; (case k0 => exact rfl); (case k1 => k_asm); (case k2 => k_asm); (case k3 => assumption); (case k4 => assumption); k_whole; intro l' c' h' hl' F' N') | (with_unfolding_all refine' kz_list1 ?k0 ?k1 ?k2 ?k3 ?k4 ?_; (case k0 => exact rfl); (case k1 => k_asm); (case k2 => k_asm); (case k3 => assumption); (case k4 => assumption); k_whole; intro l' c' a' h' hl' l1' F' N') | (with_unfolding_all refine' kz_list2 ?k0 ?k1 ?k2 ?k3 ?k4 ?_; (case k0 => exact rfl); (case k1 => k_asm); (case k2 => k_asm); (case k3 => assumption); (case k4 => assumption); k_whole; intro l' c' a' b' h' hl' l1' F' N')); (try dsimp only))
  k_with "mine_below" => (first | assumption | exact ktn_ltOf (by assumption) | exact List.forall_mem_nil _ | (refine' List.forall_mem_cons.mpr ⟨?a, ?b⟩; (case a => first | assumption | (dsimp only; omega)); (case b => k_extra "mine_below")) | exact fun q hq => (by assumption : ∀ p ∈ _ :: _, p.1 < _) q (List.mem_cons_of_mem _ hq))
  k_with "mine_lts" => (((repeat (rename (_ ∧ _) => hx; obtain ⟨hx1, hx2⟩ := hx)); first | assumption | exact lts_nil | (refine' lts_cons ?a ?b; (case a => k_extra "mine_below"); (case b => k_extra "mine_lts")) | (refine' lts_app ?a ?b; (case a => k_extra "mine_lts"); (case b => k_extra "mine_lts")) | exact lts_at (by assumption) (by k_mem) | exact lts_sub (by assumption) (by k_extra "mine_sub")))
  trivial
-- needs LZ
noncomputable def Lts (N tl : List (Addr × Obj)) : Prop := ∀ q ∈ N, ∀ p ∈ tl, q.1 < p.1
section
variable {prog : Program} {w : World} {A : Around} {s : Shared} {E : Value → Shared → Prop} {h₀ : Heap} {L : Addr} {m : Str → Option Value} {news : List (Addr × Obj)} {Q : Value → Shared → Prop}
noncomputable def zipLed : List Addr → List Value → List Value → List (Addr × Obj)
  | a :: as, x :: xs, y :: ys => (a, tupObj [x, y] 0) :: zipLed as xs ys
  | _, _, _ => []
structure ZipK (h₀ : Heap) (L n : Nat) (t1 t2 : Addr) (xs ys : List Value) (h : Heap) : Prop where
  Z : ZipT (n + 4) (n + 2) (n + 3) n (n + 1) t1 t2 h xs.toArray ys.toArray 0 .none (.bool false)
  O : ZipO (n + 4) (n + 2) (n + 3) n (n + 1) t1 t2 n
  sz : h.objs.size = n + 5
  old : ∀ k : Nat, h₀.get? (n + k) = none
  Ln : L < n
theorem kz_new {t1 t2 : Addr} {xs ys : List Value} {n1 n2 : Nat} (F : Fr h₀ L s.heap m) (N : News h₀ L s.heap news) (m1 : (t1, tupObj xs n1) ∈ news) (m2 : (t2, tupObj ys n2) ∈ news)
    (rest : ∀ n h', ZipK h₀ L n t1 t2 xs ys h' → (∀ p ∈ news, p.1 < n) → Fr h₀ L h' m → News h₀ L h' news → Q (.ref (n + 4)) { s with heap := h' }) :
    wpAny (model prog w) A (call (.type "zip") [.ref t1, .ref t2]) Q E s := by
  have h1 : IsTup s.heap t1 xs.toArray := News.isTup N m1
  have h2 : IsTup s.heap t2 ys.toArray := News.isTup N m2
  refine zip_new h1 h2 fun h' Z sz up => ?_
  exact rest _ _ ⟨Z, ⟨rfl, rfl, rfl, rfl, rfl, Heap.lt_size (N _ m1).1, Heap.lt_size (N _ m2).1⟩, sz, fun k => ktu_new F (Nat.le_add_right _ _), F.ns.lt⟩ (fun p hp => Heap.lt_size (N p hp).1) (F.keeps up) (N.grown up)
/-- what holds of each pair holds of each entry -/
theorem zipLed_all {P : Addr × Obj → Prop} : ∀ {as : List Addr} {xs ys : List Value}, (∀ (j : Nat) (a : Addr) (x y : Value), as[j]? = some a → xs[j]? = some x → ys[j]? = some y → P (a, tupObj [x, y] 0)) → ∀ p ∈ zipLed as xs ys, P p
  | a :: _, x :: _, y :: _, h => fa_cons (h 0 a x y rfl rfl rfl) (zipLed_all fun j a x y e1 e2 e3 => h (j + 1) a x y e1 e2 e3)
  | [], _, _, _ => fa_nil
  | _ :: _, [], _, _ => fa_nil
  | _ :: _, _ :: _, [], _ => fa_nil
theorem kz_list {n : Nat} {t1 t2 : Addr} {xs ys : List Value} (hh : A.handled = none) (F : Fr h₀ L s.heap m) (N : News h₀ L s.heap news) (Z : ZipK h₀ L n t1 t2 xs ys s.heap) (hn : ∀ p ∈ news, p.1 < n) (he : xs.length = ys.length) (hz : xs.length ≤ sizeLine)
    (rest : ∀ l c as h', as.length = xs.length → (∀ p ∈ news, p.1 < l) → Lts news (zipLed as xs ys) → Fr h₀ L h' m → News h₀ L h' ((l, listOf (as.map Value.ref).toArray c) :: (zipLed as xs ys ++ news)) → Q (.ref l) { s with heap := h' }) :
    wpAny (model prog w) A (call (.type "list") [.ref (n + 4)]) Q E s := by
  have hzl : n + 4 < s.heap.objs.size := Heap.lt_size Z.Z.z
  have hL := Z.Ln
  have ltn := fun p (hp : p ∈ news) => hn p hp
  refine zip_list hh Z.O Z.Z (by simpa using he) (by simpa using hz) fun h' acc c as hk hS hl hG hacc => ?_
  have up : ∀ b o, b < n → s.heap.get? b = some o → h'.get? b = some o := fun b o hb e => hk b o (Nat.ne_of_lt (Nat.lt_add_right 4 hb)) (Nat.ne_of_lt (Nat.lt_add_right 3 hb)) (Nat.ne_of_lt hb) (Nat.ne_of_lt (Nat.lt_add_right 1 hb)) e
  have h0lt : ∀ b o, h₀.get? b = some o → b < n := fun b o e => by
    rcases Nat.lt_or_ge b n with h | h
    · exact h
    · have := Z.old (b - n)
      rw [Nat.add_sub_cancel' h, e] at this
      cases this
  have F' : Fr h₀ L h' m := ⟨F.ns.at' fun o e => up L o hL e, fun b o e => up b o (h0lt b o e) (F.keep b o e), F.above⟩
  have N' : News h₀ L h' news := fun p hp => ⟨up _ _ (hn p hp) (N p hp).1, (N p hp).2⟩
  have ge : ∀ b : Nat, n ≤ b → h₀.get? b = none := fun b hb => by have := Z.old (b - n); rwa [Nat.add_sub_cancel' hb] at this
  have hsz := Z.sz
  have led : ∀ p ∈ zipLed as xs ys, s.heap.objs.size < p.1 ∧ h'.get? p.1 = some p.2 := zipLed_all fun j a x y e1 e2 e3 => ⟨(hG.above _ (List.mem_of_getElem? e1)).1, by
    cases hG.pairs j a e1 with | mk x' y' g1 g2 g3 =>
    have hx : x' = x := by simpa [e2] using g1.symm
    have hy : y' = y := by simpa [e3] using g2.symm
    rw [g3, hx, hy]⟩
  have hac : acc = (as.map Value.ref).toArray := by rw [← hacc]
  subst hac
  have h5 : L < s.heap.objs.size := by rw [hsz]; exact Nat.lt_of_lt_of_le hL (Nat.le_add_right _ _)
  have h6 : n ≤ s.heap.objs.size := by rw [hsz]; exact Nat.le_add_right _ _
  exact rest _ c as h' (by simpa using hl) (fun p hp => Nat.lt_of_lt_of_le (hn p hp) h6) (fun q hq p hp => Nat.lt_of_lt_of_le (hn q hq) (Nat.le_trans h6 (Nat.le_of_lt (led p hp).1))) F'
    (fa_cons ⟨hS, Nat.ne_of_gt h5, ge _ h6⟩ (fa_app (fun p hp => ⟨(led p hp).2, Nat.ne_of_gt (Nat.lt_trans h5 (led p hp).1), ge _ (Nat.le_trans h6 (Nat.le_of_lt (led p hp).1))⟩) N'))
theorem kz_list0 {n : Nat} {t1 t2 : Addr} (hh : A.handled = none) (F : Fr h₀ L s.heap m) (N : News h₀ L s.heap news) (Z : ZipK h₀ L n t1 t2 [] [] s.heap) (hn : ∀ p ∈ news, p.1 < n)
    (rest : ∀ l c h', (∀ p ∈ news, p.1 < l) → Fr h₀ L h' m → News h₀ L h' ((l, listOf #[] c) :: news) → Q (.ref l) { s with heap := h' }) :
    wpAny (model prog w) A (call (.type "list") [.ref (n + 4)]) Q E s :=
  kz_list hh F N Z hn rfl (by decide) fun l c as h' ha hl _ F' N' => rest l c h' hl F' (by obtain rfl := List.length_eq_zero_iff.mp ha; exact N')
theorem kz_list1 {n : Nat} {t1 t2 : Addr} {x y : Value} (hh : A.handled = none) (F : Fr h₀ L s.heap m) (N : News h₀ L s.heap news) (Z : ZipK h₀ L n t1 t2 [x] [y] s.heap) (hn : ∀ p ∈ news, p.1 < n)
    (rest : ∀ l c a h', (∀ p ∈ news, p.1 < l) → Lts news [(a, tupObj [x, y] 0)] → Fr h₀ L h' m → News h₀ L h' ((l, listOf #[.ref a] c) :: (a, tupObj [x, y] 0) :: news) → Q (.ref l) { s with heap := h' }) :
    wpAny (model prog w) A (call (.type "list") [.ref (n + 4)]) Q E s :=
  kz_list hh F N Z hn rfl (Nat.le_of_ble_eq_true rfl) fun l c as h' ha hl l9 F' N' => by obtain ⟨a, rfl⟩ := List.length_eq_one_iff.mp ha; exact rest l c a h' hl l9 F' N'
theorem kz_list2 {n : Nat} {t1 t2 : Addr} {x y x' y' : Value} (hh : A.handled = none) (F : Fr h₀ L s.heap m) (N : News h₀ L s.heap news) (Z : ZipK h₀ L n t1 t2 [x, x'] [y, y'] s.heap) (hn : ∀ p ∈ news, p.1 < n)
    (rest : ∀ l c a b h', (∀ p ∈ news, p.1 < l) → Lts news [(a, tupObj [x, y] 0), (b, tupObj [x', y'] 0)] → Fr h₀ L h' m → News h₀ L h' ((l, listOf #[.ref a, .ref b] c) :: (a, tupObj [x, y] 0) :: (b, tupObj [x', y'] 0) :: news) → Q (.ref l) { s with heap := h' }) :
    wpAny (model prog w) A (call (.type "list") [.ref (n + 4)]) Q E s :=
  kz_list hh F N Z hn rfl (Nat.le_of_ble_eq_true rfl) fun l c as h' ha hl l9 F' N' => by
    match as, ha with
    | [a, b], _ => exact rest l c a b h' hl l9 F' N'
end

theorem news_t1 {h₀ h : Heap} {L : Addr} {M N : List (Addr × Obj)} {p1 : Addr × Obj} (Nw : News h₀ L h M) (sb : ∀ p ∈ N, p ∈ M) (m1 : p1 ∈ M) : News h₀ L h (N ++ [p1]) := news_sub9 Nw (fa_app sb (fa_cons m1 fa_nil))
theorem news_t2 {h₀ h : Heap} {L : Addr} {M N : List (Addr × Obj)} {p1 p2 : Addr × Obj} (Nw : News h₀ L h M) (sb : ∀ p ∈ N, p ∈ M) (m1 : p1 ∈ M) (m2 : p2 ∈ M) : News h₀ L h (N ++ [p1, p2]) := news_sub9 Nw (fa_app sb (fa_cons m1 (fa_cons m2 fa_nil)))
theorem news_t3 {h₀ h : Heap} {L : Addr} {M N : List (Addr × Obj)} {p1 p2 p3 : Addr × Obj} (Nw : News h₀ L h M) (sb : ∀ p ∈ N, p ∈ M) (m1 : p1 ∈ M) (m2 : p2 ∈ M) (m3 : p3 ∈ M) : News h₀ L h (N ++ [p1, p2, p3]) := news_sub9 Nw (fa_app sb (fa_cons m1 (fa_cons m2 (fa_cons m3 fa_nil))))
theorem lts_nil {N : List (Addr × Obj)} : Lts N [] := fun _ _ _ h => nomatch h
theorem lts_cons {N tl : List (Addr × Obj)} {p : Addr × Obj} (h : ∀ q ∈ N, q.1 < p.1) (t : Lts N tl) : Lts N (p :: tl) := fun q hq => fa_cons (h q hq) (t q hq)
theorem lts_app {N tl tl' : List (Addr × Obj)} (h : Lts N tl) (t : Lts N tl') : Lts N (tl ++ tl') := fun q hq => fa_app (h q hq) (t q hq)
theorem lts_sub {N M tl : List (Addr × Obj)} (h : Lts M tl) (sb : ∀ p ∈ N, p ∈ M) : Lts N tl := fun q hq => h q (sb q hq)
theorem lts_tl {N tl tl' : List (Addr × Obj)} {p : Addr × Obj} (h : Lts N (p :: tl)) : Lts N tl := fun q hq r hr => h q hq r (List.mem_cons_of_mem _ hr)
theorem lts_at {N tl : List (Addr × Obj)} {p : Addr × Obj} (h : Lts N tl) (m : p ∈ tl) : ∀ q ∈ N, q.1 < p.1 := fun q hq => h q hq p m

-- part MTS
-- needs Spec2 LZK
theorem sizeLine_ge : 100000 ≤ sizeLine := by decide
theorem isEmpty_app {ws : List Value} {y : Value} : (ws ++ [y]).isEmpty = false := by induction ws using List.casesOn <;> rfl
theorem fr_at4 {h₀ h : Heap} {L : Addr} {m : Str → Option Value} {x y z v : Str} {a b c d : Value} (F : Fr h₀ L h m) (e1 : m x = some a) (e2 : m y = some b) (e3 : m z = some c) (e4 : m v = some d) :
    Fr h₀ L h (fun k => if k = x then some a else if k = y then some b else if k = z then some c else if k = v then some d else m k) := by
  have : m = (fun k => if k = x then some a else if k = y then some b else if k = z then some c else if k = v then some d else m k) := by
    funext k
    split
    · rename_i e; rw [e, e1]
    · split
      · rename_i e; rw [e, e2]
      · split
        · rename_i e; rw [e, e3]
        · split
          · rename_i e; rw [e, e4]
          · rfl
  exact this ▸ F
inductive mtJ (w : World) (N₁ N : List (Addr × Obj)) (l fd nl : Addr) (fin : Ans) (hb : Bool) (u : Ty) (nm : Bool) (n : Nat) (m : Str → Option Value) (news : List (Addr × Obj)) : Prop
  | mk : ∀ (ans : Ans), ∀ (vs : List Value), ∀ (c : Nat), ∀ (tk : Tok), ∀ (ps : List (Ty × Ty)), ∀ (tl : List (Addr × Obj)), ∀ (o : Obj), ∀ (f : Option Value), m (Str.ofString "left") = some (.ref l) → m (Str.ofString "answer") = some (.str (Ans.str ans) tk) → m (Str.ofString "names") = some (.ref nl) → m (Str.ofString "found") = some (.ref fd) → news = (l, listOf (List.toArray vs) c) :: (fd, o) :: (N ++ tl) → PairsIn N₁ (N ++ tl) vs ps → (∀ p ∈ N ++ tl, p.1 ≠ l) → (∀ p ∈ N ++ tl, p.1 ≠ fd) → l ≠ fd → o.IsDictOf (strKind PySem.Challenge.pw_nu0382_01 w) (fnd f) → (f = none ∨ ∃ v, f = some v ∧ TyIn N₁ v u) → ans.or (ms ps) = fin → (f.isSome || hs ps) = hb → (∀ q ∈ ps, PG nm u q.1 q.2) → mu ps = n → n ≤ 400 → ans ≠ .no → mtJ w N₁ N l fd nl fin hb u nm n m news
section
variable {prog : Program} {w : World} {A : Around} {E : Value → Shared → Prop} {Q : Flow → Shared → Prop} {s : Shared} {env : Env} {h₀ : Heap} {L l D fd nl : Addr} {test : Expr} {body : List Stmt} {pos : Pos} {m : Str → Option Value} {N N₁ : List (Addr × Obj)} {c d : Nat} {u : Tok} {v1 v2 : Value} {p t y : Ty} {o : Obj} {nm : Bool}
theorem mt_while (F : Fr h₀ L s.heap m) (Nw : News h₀ L s.heap ((l, listOf #[.ref D] c) :: (D, tupObj [v1, v2] d) :: (fd, o) :: N)) (e1 : m (Str.ofString "left") = some (.ref l)) (e2 : m (Str.ofString "answer") = some (.str (Ans.str .yes) u))
    (e3 : m (Str.ofString "names") = some (.ref nl)) (e4 : m (Str.ofString "found") = some (.ref fd)) (hd : o.IsDictOf (strKind PySem.Challenge.pw_nu0382_01 w) (fnd none))
    (hD : D ≠ l) (hN : ∀ p ∈ N, p.1 ≠ l) (hD2 : D ≠ fd) (hN2 : ∀ p ∈ N, p.1 ≠ fd) (hlf : l ≠ fd) (R1 : TyIn N₁ v1 p) (R2 : TyIn N₁ v2 t) (hP : PG nm y p t) (hsz : p.size + t.size ≤ 400)
    (turn : ∀ n m₁ news₁ h₁ tk₁, Fr h₀ L h₁ m₁ → News h₀ L h₁ news₁ → mtJ w N₁ N l fd nl (m1 p t) (ht p t) y nm n m₁ news₁ →
      wpAny (model prog w) A (isTrue test env (eval test env)) (fun b s₂ =>
        if b = true then wpAny (model prog w) A (execs body env) (WhileStep2 h₀ L s (mtJ w N₁ N l fd nl (m1 p t) (ht p t) y nm) Q n) E s₂ else Q .next s₂) E { s with heap := h₁, toks := tk₁ })
    (hE : PassesOwn (model prog w) A env E := by passes_own) :
    wpAny (model prog w) A (exec (.While test body [] pos) env) Q E s := by
  refine While_inv2 (mtJ w N₁ N l fd nl (m1 p t) (ht p t) y nm) (n₀ := mu [(p, t)]) (news := (l, listOf (List.toArray [.ref D]) c) :: (fd, o) :: (N ++ [(D, tupObj [v1, v2] d)])) F (news_sub Nw ?_)
    ⟨.yes, [.ref D], c, u, [(p, t)], [(D, tupObj [v1, v2] d)], o, none, e1, e2, e3, e4, rfl, .cons (List.mem_append_right _ List.mem_cons_self) R1 R2 .nil, ?_, ?_, hlf, hd, .inl rfl, (Ans.yes_or _).trans (Ans.or_yes _), by simp [hs], ?_, rfl, hsz, by decide⟩ turn hE
  · intro p hp
    rcases List.mem_cons.mp hp with rfl | hp
    · exact List.mem_cons_self
    rcases List.mem_cons.mp hp with rfl | hp
    · exact List.mem_cons_of_mem _ (List.mem_cons_of_mem _ List.mem_cons_self)
    · rcases List.mem_append.mp hp with hp | hp
      · exact List.mem_cons_of_mem _ (List.mem_cons_of_mem _ (List.mem_cons_of_mem _ hp))
      · rw [List.mem_singleton.mp hp]; exact List.mem_cons_of_mem _ List.mem_cons_self
  · intro p hp
    rcases List.mem_append.mp hp with hp | hp
    · exact hN p hp
    · rw [List.mem_singleton.mp hp]; exact hD
  · intro p hp
    rcases List.mem_append.mp hp with hp | hp
    · exact hN2 p hp
    · rw [List.mem_singleton.mp hp]; exact hD2
  · intro q hq
    rw [List.mem_singleton.mp hq]; exact hP
theorem mt_next {f : Flow} {s₃ : Shared} {h' : Heap} {tk : Nat} {fin : Ans} {hb : Bool} {n : Nat} {tl M : List (Addr × Obj)} {vs : List Value} {ans : Ans} {ps : List (Ty × Ty)} {fo : Option Value}
    (hf : f = .next ∨ f = .cont) (F : Fr h₀ L h' m) (Nw : News h₀ L h' M) (hs : s₃ = { s with heap := h', toks := tk }) (ml : (l, listOf vs.toArray c) ∈ M) (mf : (fd, o) ∈ M) (sb : ∀ p ∈ N ++ tl, p ∈ M)
    (e1 : m (Str.ofString "left") = some (.ref l)) (e2 : m (Str.ofString "answer") = some (.str (Ans.str ans) u)) (e3 : m (Str.ofString "names") = some (.ref nl)) (e4 : m (Str.ofString "found") = some (.ref fd))
    (P : PairsIn N₁ (N ++ tl) vs ps) (hne : ∀ p ∈ N ++ tl, p.1 ≠ l) (hne2 : ∀ p ∈ N ++ tl, p.1 ≠ fd) (hlf : l ≠ fd) (hd : o.IsDictOf (strKind PySem.Challenge.pw_nu0382_01 w) (fnd fo)) (hfo : fo = none ∨ ∃ v, fo = some v ∧ TyIn N₁ v y)
    (hfin : ans.or (ms ps) = fin) (hhb : (fo.isSome || Mine.hs ps) = hb) (hG : ∀ q ∈ ps, PG nm y q.1 q.2) (hmu : mu ps < n) (hn : n ≤ 400) (han : ans ≠ .no) : WhileStep2 h₀ L s (mtJ w N₁ N l fd nl fin hb y nm) Q n f s₃ := by
  have key : ∃ h' tk m₂ news₂ n', s₃ = { s with heap := h', toks := tk } ∧ Fr h₀ L h' m₂ ∧ News h₀ L h' news₂ ∧ n' < n ∧ mtJ w N₁ N l fd nl fin hb y nm n' m₂ news₂ :=
    ⟨h', tk, m, (l, listOf vs.toArray c) :: (fd, o) :: (N ++ tl), mu ps, hs, F, news_sub Nw (fun p hp => (List.mem_cons.mp hp).elim (fun e => e ▸ ml) fun hp => (List.mem_cons.mp hp).elim (fun e => e ▸ mf) (sb p)), hmu,
      ans, vs, c, u, ps, tl, o, fo, e1, e2, e3, e4, rfl, P, hne, hne2, hlf, hd, hfo, hfin, hhb, hG, rfl, by omega, han⟩
  rcases hf with rfl | rfl <;> exact key
end
theorem truthy_l {prog : Program} {w : World} {A : Around} {E : Value → Shared → Prop} {s : Shared} {h₀ : Heap} {L l : Addr} {M : List (Addr × Obj)} {vs : List Value} {n : Nat} {Q : Bool → Shared → Prop} (Nw : News h₀ L s.heap M) (hm : (l, listOf vs.toArray n) ∈ M) (hz : vs.length ≤ 1000) {b : Bool} (hb : vs.isEmpty = b)
    (h : Q (!b) { s with toks := s.toks + 1 + 1 }) : wpAny (model prog w) A (truthy (.ref l)) Q E s := by
  refine wpAny_truthy_list (Nw.isList hm) (by simp; omega) ?_
  have e : vs.toArray.isEmpty = b := by subst hb; induction vs using List.casesOn <;> rfl
  rw [e]; exact h
section
variable {prog : Program} {w : World} {A : Around} {E : Value → Shared → Prop} {s : Shared} {h₀ h : Heap} {L D b : Addr} {m : Str → Option Value} {news : List (Addr × Obj)} {n n2 : Nat}
theorem kl_turnE {pre post : List (Addr × Obj)} {its its' : Array Value} (f : Array Value → Array Value) (N : News h₀ L h (pre ++ (D, listOf its n) :: post)) (a : ∀ p ∈ pre, p.1 ≠ D) (b : ∀ p ∈ post, p.1 ≠ D) (he : f its = its') :
    ∃ n', News h₀ L (h.update D (Obj.mapSeq f)) (pre ++ (D, listOf its' n') :: post) := by
  have q := PySem.IsL.update (N (D, listOf its n) (List.mem_append.mpr (.inr (.head _)))).1 f
  rw [he] at q
  exact ⟨_, news_set N a b (Heap.SameBut.update ..) q⟩
theorem kx_extend {xs ys : List Value} {g : Obj → List (Addr × Obj)} {Q : Value → Shared → Prop} (F : Fr h₀ L s.heap m) (N : News h₀ L s.heap news) (hb : (b, listOf ys.toArray n2) ∈ news)
    (U : UpdF D (listOf xs.toArray n) news g) (hz : xs.length + ys.length ≤ sizeLine)
    (h : ∀ h' n', Fr h₀ L h' m → News h₀ L h' (g (listOf (xs ++ ys).toArray n')) → Q .none { s with heap := h' }) : wpAny (model prog w) A (call (.builtin "list.extend") [.ref D, .ref b]) Q E s := by
  obtain ⟨pre, post, rfl, hg, a, c⟩ := U.split
  have z := N (D, listOf xs.toArray n) (List.mem_append.mpr (.inr (.head _)))
  have hd : ¬(!xs.toArray.isEmpty && Builtin.List.listTooLong (xs.toArray.size + ys.toArray.size)) = true := by
    have : ¬ (sizeLine < xs.length + ys.length) := by omega
    simp [Builtin.List.listTooLong, this]
  obtain ⟨n', N'⟩ := kl_turnE (its' := (xs ++ ys).toArray) (fun x => x ++ ys.toArray) N a c (by simp)
  rw [← hg] at N'
  exact call_meets PySem.F.slot_list_extend ⟨_, z.1, rfl⟩ PySem.F.entry_list_extend (PySem.F.args_list_extend_2 _ _) (PySem.AutoSeq1.list_extend_list_list_0 D xs.toArray n b ys.toArray n2 hd (by simp; omega) (by simp; omega)) ⟨z.1, (N _ hb).1, h _ n' (F.change (Heap.SameBut.update ..) z.2.1 z.2.2) N'⟩
end
theorem mt_ne {N tl tl9 M : List (Addr × Obj)} {d : Addr} {o : Obj} (h : ∀ p ∈ N ++ tl, p.1 ≠ d) (hm : (d, o) ∈ M) (hl : Lts M tl9) : ∀ p ∈ N ++ (tl ++ tl9), p.1 ≠ d := fun p hp => by
  rcases List.mem_append.mp hp with hp | hp
  · exact h p (List.mem_append_left _ hp)
  rcases List.mem_append.mp hp with hp | hp
  · exact h p (List.mem_append_right _ hp)
  · exact Nat.ne_of_gt (hl _ hm p hp)

-- part Spec3
-- needs MTS
inductive Tr where
  | A | B | C
deriving DecidableEq
noncomputable def Tr.str : Tr → Str
  | .A => Str.ofString "A" | .B => Str.ofString "B" | .C => Str.ofString "C"
structure Rw where
  num : Nat
  tr : Tr
  hd : Ty
  asks : List Tr
noncomputable abbrev ent (P : Params) (x : String) (k : Tok) (v : Value) : DictEntry := ⟨PyData.keyHash P (Str.ofString x), .str (Str.ofString x) k, v⟩
inductive Prm (N : List (Addr × Obj)) (b : Bool) (ps : List Value) (asks : List Tr) : Prop
  | mk : b = true → ∀ (pt aa : Addr) (tT : Tok) (vs : List Value) (n4 n5 : Nat), ps = [.ref pt] → (pt, tupObj [.str (Str.ofString "T") tT, .ref aa] n4) ∈ N → (aa, tupObj vs n5) ∈ N → StrsAre vs (asks.map Tr.str) → Prm N b ps asks
inductive RowIn (P : Params) (N : List (Addr × Obj)) : Value → Rw → Prop
  | mk {a d : Addr} {k1 k2 k3 k4 k5 k6 k7 k8 kn kt : Tok} {reg ms sp : Value} {par ta : Addr} {st : Value} {n n2 n3 : Nat} {ps : List Value} {num : Nat} {tr : Tr} {hd : Ty} {asks : List Tr} :
    (a, instObj 185 d) ∈ N →
    (d, dictOf [ent P "number" k1 (.int num kn), ent P "regions" k2 reg, ent P "params" k3 (.ref par), ent P "trait" k4 (.str tr.str kt), ent P "trait_args" k5 (.ref ta), ent P "self_type" k6 st, ent P "methods" k7 ms, ent P "spot" k8 sp] n) ∈ N →
    (par, listOf ps.toArray n2) ∈ N → (ta, tupObj [] n3) ∈ N → TyIn N st hd →
    ((hd.hasT = false ∧ ps = []) ∨ Prm N hd.hasT ps asks) →
    RowIn P N (.ref a) ⟨num, tr, hd, asks⟩
theorem kn1 {m : Str → Option Value} {x : Str} {a : Value} (e : m x = some a) : m = fun k => if k = x then some a else m k := by
  funext k
  split
  · rename_i h; rw [h, e]
  · rfl
inductive maJ (w : World) (N₁ N : List (Addr × Obj)) (nl fd : Addr) (y pt t : Ty) (i : Nat) (m : Str → Option Value) (nx : List (Addr × Obj)) : Prop
  | mk : ∀ (o : Obj), ∀ (f : Option Value), ∀ (ans : Ans), ∀ (tk : Tok), m (Str.ofString "names") = some (.ref nl) → m (Str.ofString "found") = some (.ref fd) → m (Str.ofString "answer") = some (.str (Ans.str ans) tk) → nx = (fd, o) :: N → o.IsDictOf (strKind PySem.Challenge.pw_nu0382_01 w) (fnd f) → ((i = 0 ∧ f = none ∧ ans = .yes) ∨ (i = 1 ∧ ans = m1 pt t ∧ FOk N₁ y (ht pt t) f)) → maJ w N₁ N nl fd y pt t i m nx
theorem off1_all {D : Addr} : ∀ {l : List (Addr × Obj)}, LCg.Off1 D l → ∀ p ∈ l, p.1 ≠ D
  | [], _, _, h => nomatch h
  | q :: r, x, p, h => by
    rcases List.mem_cons.mp h with rfl | h
    · exact x.1
    · exact off1_all x.2 p h
theorem RowIn.mono {P : Params} {N N' : List (Addr × Obj)} (hs : ∀ p ∈ N, p ∈ N') {v : Value} {r : Rw} (h : RowIn P N v r) : RowIn P N' v r := by
  obtain ⟨h1, h2, h3, h4, h5, h6⟩ := h
  refine .mk (hs _ h1) (hs _ h2) (hs _ h3) (hs _ h4) (h5.mono hs) ?_
  rcases h6 with h6 | ⟨h, pt, aa, tT, vs, n4, n5, e, a1, a2, a3⟩
  · exact .inl h6
  · exact .inr ⟨h, pt, aa, tT, vs, n4, n5, e, hs _ a1, hs _ a2, a3⟩
theorem news_lt {h₀ h : Heap} {L : Addr} {M : List (Addr × Obj)} (Nw : News h₀ L h M) : ∀ q ∈ M, q.1 < h.objs.size := fun q hq => Heap.lt_size (Nw q hq).1
inductive NeedsIn (x : Value) (tl : List (Addr × Obj)) : List Value → List Tr → Prop
  | nil : NeedsIn x tl [] []
  | cons {a : Addr} {n : Nat} {tk : Tok} {tr : Tr} {vs : List Value} {ts : List Tr} : (a, tupObj [.str tr.str tk, x] n) ∈ tl → NeedsIn x tl vs ts → NeedsIn x tl (.ref a :: vs) (tr :: ts)
inductive ndJ (N : List (Addr × Obj)) (x : Value) (ts : List Tr) (l c1 c2 : Addr) (o2 : Obj) (i : Nat) (m : Str → Option Value) (nx : List (Addr × Obj)) : Prop
  | mk : m (Str.ofString "needs") = some (.ref l) → ∀ (o1 : Obj), ∀ (vs : List Value), ∀ (tl : List (Addr × Obj)), ∀ (c : Nat), ∀ (nv : Option Value), nx = (l, listOf (List.toArray vs) c) :: (c1, o1) :: (c2, o2) :: (tl ++ N) → o1.data = Data.cell nv → (i = 0 → vs = [] ∧ tl = []) → (i = 1 → NeedsIn x tl vs ts ∧ ∀ p ∈ tl, l < p.1) → ndJ N x ts l c1 c2 o2 i m nx
theorem notin1 {I : Addr} {nx : List (Addr × Obj)} (h : ∀ p ∈ nx, p.1 ≠ I) : ∀ p ∈ nx, p.1 ∉ [I] := fun p hp hI => h p hp (List.mem_singleton.mp hI)
inductive RowV (P : Params) (N : List (Addr × Obj)) (v : Value) (num : Nat) (tr : Tr) (hd : Ty) (asks : List Tr) : Prop
  | mk {a d : Addr} {k1 k2 k3 k4 k5 k6 k7 k8 kn kt kk : Tok} {reg ms sp : Value} {par ta b : Addr} {n n2 n3 n4 : Nat} {ps j : List Value} : v = .ref a → (a, instObj 185 d) ∈ N →
    (d, dictOf [ent P "number" k1 (.int num kn), ent P "regions" k2 reg, ent P "params" k3 (.ref par), ent P "trait" k4 (.str tr.str kt), ent P "trait_args" k5 (.ref ta), ent P "self_type" k6 (.ref b), ent P "methods" k7 ms, ent P "spot" k8 sp] n) ∈ N →
    (par, listOf ps.toArray n2) ∈ N → (ta, tupObj [] n3) ∈ N → TyIn N (.ref b) hd → (b, tupObj (.str hd.kind kk :: j) n4) ∈ N → ((hd.hasT = false ∧ ps = []) ∨ Prm N hd.hasT ps asks) → RowV P N v num tr hd asks
theorem RowIn.v {P : Params} {N : List (Addr × Obj)} {v : Value} {num : Nat} {tr : Tr} {hd : Ty} {asks : List Tr} (h : RowIn P N v ⟨num, tr, hd, asks⟩) : RowV P N v num tr hd asks := by
  cases h with
  | mk h1 h2 h3 h4 h5 h6 =>
    obtain ⟨b, n, k, j, rfl, m⟩ := h5.first
    exact .mk rfl h1 h2 h3 h4 h5 m h6

-- part Spec4
-- needs Spec3
/-- closed types, as the law makes them -/
noncomputable def Ty.cl : Ty → Bool
  | .int => true | .bool => true | .S => true | .X => true | .T => false | .V => false | .I => false
  | .box t => t.cl | .ref t => t.cl | .W t => t.cl | .tup t u => t.cl && (t == u)
theorem kind_cl {t : Ty} (h : t ≠ .X) (hc : t.cl = true) : t.kind ≠ Str.ofString "param" := by
  induction t using Ty.casesOn <;> first | exact absurd rfl h | exact absurd hc (by decide) | (simp only [Ty.kind]; decide)
theorem kind_box {t : Ty} (h : ¬ ∃ q, t = .box q) : t.kind ≠ Str.ofString "box" := by
  induction t using Ty.casesOn <;> first | exact absurd ⟨_, rfl⟩ h | (simp only [Ty.kind]; decide)
/-- the eleven heads -/
noncomputable def heads : List Ty := [.int, .bool, .S, .T, .box .T, .ref .T, .W .T, .tup .T .T, .tup .T .bool, .box (.box .T), .W .bool]
/-- what the open name stands for -/
noncomputable def ut : Ty → Ty → Option Ty
  | .T, t => some t
  | .box p, .box t => ut p t | .ref p, .ref t => ut p t | .W p, .W t => ut p t
  | .tup p q, .tup a b => (ut p a).orElse fun _ => ut q b
  | _, _ => none
structure Env9 where
  rows : List Rw
  bs : List Tr
noncomputable def ok (e : Env9) (tr : Tr) (t : Ty) : Bool :=
  (t == .X && e.bs.contains tr) || e.rows.any fun r => r.tr == tr && m1 r.hd t == .yes && (match ut r.hd t with | none => true | some u => if h : u.size < t.size then r.asks.all fun a => ok e a u else true)
termination_by t.size
noncomputable def cand (e : Env9) (tr : Tr) (t : Ty) (r : Rw) : Bool := r.tr == tr && m1 r.hd t == .yes && (match ut r.hd t with | none => true | some u => if u.size < t.size then r.asks.all fun a => ok e a u else true)
theorem ok_eq (e : Env9) (tr : Tr) (t : Ty) : ok e tr t = ((t == .X && e.bs.contains tr) || e.rows.any (cand e tr t)) := by
  rw [ok]
  rfl
/-- a row as the law makes them -/
structure RowOk (r : Rw) : Prop where
  hd : r.hd ∈ heads
  asks : r.asks.length ≤ 2
  t : r.hd = .T → r.asks = []
structure HeadF (p t y : Ty) : Prop where
  pg : PG p.hasT y p t
  yn : m1 p t = .yes ∨ m1 p t = .no
  y : m1 p t = .yes → ht p t = p.hasT ∧ ((p.hasT = true ∧ ut p t = some y ∧ y.cl = true ∧ (p = .T ∨ (y.size < t.size ∧ y.dep < t.dep))) ∨ (p.hasT = false ∧ ut p t = none))
inductive HdY (p t y : Ty) : Prop
  | yes : p.hasT = true → ut p t = some y → y.cl = true → (p = .T ∨ (y.size < t.size ∧ y.dep < t.dep)) → HdY p t y
  | no : p.hasT = false → ut p t = none → HdY p t y
theorem HeadF.v {p t y : Ty} (h : HeadF p t y) (e : m1 p t = .yes) : HdY p t y := by
  obtain ⟨-, ⟨a, b, c, d⟩ | ⟨a, b⟩⟩ := h.y e
  · exact .yes a b c d
  · exact .no a b
theorem no_ne : ¬ Ans.no = Ans.yes := by decide
theorem head_n {p t : Ty} (a : p.okp = true) (b : p.dep ≤ 4) (hd : t.dep ≤ 4) (e : m1 p t = .no) (l : lt .int p t) : HeadF p t .int := ⟨⟨a, b, hd, fun h => h, l⟩, .inr e, fun h => absurd (e ▸ h) no_ne⟩
theorem head_y {p t u : Ty} (a : p.okp = true) (b : p.dep ≤ 4) (hd : t.dep ≤ 4) (hT : p.hasT = true) (e : m1 p t = .yes) (l : lt u p t) (h1 : ht p t = true) (h2 : ut p t = some u) (hc : u.cl = true) (h3 : u.size < t.size ∧ u.dep < t.dep) : HeadF p t u :=
  ⟨⟨a, b, hd, fun h => h, l⟩, .inl e, fun _ => ⟨h1.trans hT.symm, .inl ⟨hT, h2, hc, .inr h3⟩⟩⟩
theorem head_f {p t : Ty} (a : p.okp = true) (b : p.dep ≤ 4) (hd : t.dep ≤ 4) (hT : p.hasT = false) (e : m1 p t = .yes ∨ m1 p t = .no) (l : lt .int p t) (h1 : ht p t = false) (h2 : ut p t = none) : HeadF p t .int :=
  ⟨⟨a, b, hd, fun h => h, l⟩, e, fun _ => ⟨h1.trans hT.symm, .inr ⟨hT, h2⟩⟩⟩
theorem tup_cl {a b : Ty} (h : (Ty.tup a b).cl = true) : a.cl = true ∧ a = b := ⟨(Bool.and_eq_true_iff.mp h).1, of_decide_eq_true (Bool.and_eq_true_iff.mp h).2⟩
theorem head_T {t : Ty} (hc : t.cl = true) (hd : t.dep ≤ 4) : HeadF .T t t := ⟨⟨rfl, by decide, hd, fun _ => rfl, rfl⟩, .inl rfl, fun _ => ⟨rfl, .inl ⟨rfl, rfl, hc, .inl rfl⟩⟩⟩
theorem head_int {t : Ty} (hc : t.cl = true) (hd : t.dep ≤ 4) : HeadF .int t .int := by
  induction t using Ty.casesOn <;> first | exact no_true hc | exact head_f rfl (Nat.zero_le _) hd rfl (.inl rfl) trivial rfl rfl | exact head_f rfl (Nat.zero_le _) hd rfl (.inr rfl) trivial rfl rfl
theorem head_bool {t : Ty} (hc : t.cl = true) (hd : t.dep ≤ 4) : HeadF .bool t .int := by
  induction t using Ty.casesOn <;> first | exact no_true hc | exact head_f rfl (Nat.zero_le _) hd rfl (.inl rfl) trivial rfl rfl | exact head_f rfl (Nat.zero_le _) hd rfl (.inr rfl) trivial rfl rfl
theorem head_S {t : Ty} (hc : t.cl = true) (hd : t.dep ≤ 4) : HeadF .S t .int := by
  induction t using Ty.casesOn <;> first | exact no_true hc | exact head_f rfl (Nat.zero_le _) hd rfl (.inl rfl) trivial rfl rfl | exact head_f rfl (Nat.zero_le _) hd rfl (.inr rfl) trivial rfl rfl
theorem head_box {t : Ty} (hc : t.cl = true) (hd : t.dep ≤ 4) : ∃ y, HeadF (.box .T) t y := by
  induction t using Ty.casesOn <;> first | exact no_true hc | exact ⟨_, head_n rfl (Nat.le_of_ble_eq_true rfl) hd rfl trivial⟩ | exact ⟨_, head_y rfl (Nat.le_of_ble_eq_true rfl) hd rfl rfl rfl rfl rfl hc ⟨Nat.lt_succ_self _, Nat.lt_succ_self _⟩⟩
theorem head_ref {t : Ty} (hc : t.cl = true) (hd : t.dep ≤ 4) : ∃ y, HeadF (.ref .T) t y := by
  induction t using Ty.casesOn <;> first | exact no_true hc | exact ⟨_, head_n rfl (Nat.le_of_ble_eq_true rfl) hd rfl trivial⟩ | exact ⟨_, head_y rfl (Nat.le_of_ble_eq_true rfl) hd rfl rfl rfl rfl rfl hc ⟨Nat.lt_succ_self _, Nat.lt_succ_self _⟩⟩
theorem head_W {t : Ty} (hc : t.cl = true) (hd : t.dep ≤ 4) : ∃ y, HeadF (.W .T) t y := by
  induction t using Ty.casesOn <;> first | exact no_true hc | exact ⟨_, head_n rfl (Nat.le_of_ble_eq_true rfl) hd rfl trivial⟩ | exact ⟨_, head_y rfl (Nat.le_of_ble_eq_true rfl) hd rfl rfl rfl rfl rfl hc ⟨Nat.lt_succ_self _, Nat.lt_succ_self _⟩⟩
theorem tt_lt (u : Ty) : u.size < (Ty.tup u u).size ∧ u.dep < (Ty.tup u u).dep := ⟨Nat.lt_succ_of_le (Nat.le_add_right _ _), Nat.lt_succ_of_le (Nat.le_max_left _ _)⟩
theorem head_tupTT {t : Ty} (hc : t.cl = true) (hd : t.dep ≤ 4) : ∃ y, HeadF (.tup .T .T) t y := by
  induction t using Ty.casesOn with
  | tup u v =>
    have e := (tup_cl hc).2
    subst e
    exact ⟨_, head_y rfl (Nat.le_of_ble_eq_true rfl) hd rfl rfl ⟨rfl, rfl⟩ rfl rfl (tup_cl hc).1 (tt_lt u)⟩
  | _ => first | exact no_true hc | exact ⟨_, head_n rfl (Nat.le_of_ble_eq_true rfl) hd rfl trivial⟩
theorem m1_bool {t : Ty} (hc : t.cl = true) : m1 .bool t = if t = .bool then .yes else .no := by
  induction t using Ty.casesOn <;> first | rfl | exact no_true hc
theorem bool_f {t : Ty} (hc : t.cl = true) : (m1 .bool t = .yes ∨ m1 .bool t = .no) ∧ lt .int .bool t ∧ ht .bool t = false ∧ ut .bool t = none ∧ ∀ u, lt u .bool t := by
  induction t using Ty.casesOn <;> first | exact no_true hc | exact ⟨.inr rfl, trivial, rfl, rfl, fun _ => trivial⟩ | exact ⟨.inl rfl, trivial, rfl, rfl, fun _ => trivial⟩
theorem yes_or9 {a : Ans} : Ans.or .yes a = a := Ans.yes_or a
theorem head_tupTb {t : Ty} (hc : t.cl = true) (hd : t.dep ≤ 4) : ∃ y, HeadF (.tup .T .bool) t y := by
  induction t using Ty.casesOn with
  | tup u v =>
    have e := (tup_cl hc).2
    subst e
    have b := bool_f (tup_cl hc).1
    have k : m1 (.tup .T .bool) (.tup u u) = m1 .bool u := Ans.yes_or _
    exact ⟨u, ⟨⟨rfl, Nat.le_of_ble_eq_true rfl, hd, fun h => h, rfl, b.2.2.2.2 u⟩, k ▸ b.1, fun _ => ⟨rfl, .inl ⟨rfl, rfl, (tup_cl hc).1, .inr (tt_lt u)⟩⟩⟩⟩
  | _ => first | exact no_true hc | exact ⟨_, head_n rfl (Nat.le_of_ble_eq_true rfl) hd rfl trivial⟩
theorem head_boxbox {t : Ty} (hc : t.cl = true) (hd : t.dep ≤ 4) : ∃ y, HeadF (.box (.box .T)) t y := by
  induction t using Ty.casesOn with
  | box u =>
    have hc : u.cl = true := hc
    induction u using Ty.casesOn <;> first | exact no_true hc | exact ⟨_, head_n rfl (Nat.le_of_ble_eq_true rfl) hd rfl trivial⟩ | exact ⟨_, head_y rfl (Nat.le_of_ble_eq_true rfl) hd rfl rfl rfl rfl rfl hc ⟨Nat.lt_succ_of_le (Nat.le_succ _), Nat.lt_succ_of_le (Nat.le_succ _)⟩⟩
  | _ => first | exact no_true hc | exact ⟨_, head_n rfl (Nat.le_of_ble_eq_true rfl) hd rfl trivial⟩
theorem head_Wb {t : Ty} (hc : t.cl = true) (hd : t.dep ≤ 4) : ∃ y, HeadF (.W .bool) t y := by
  induction t using Ty.casesOn with
  | W u =>
    have b := bool_f (t := u) hc
    exact ⟨.int, head_f rfl (Nat.le_of_ble_eq_true rfl) hd rfl b.1 b.2.1 b.2.2.1 b.2.2.2.1⟩
  | _ => first | exact no_true hc | exact ⟨_, head_n rfl (Nat.le_of_ble_eq_true rfl) hd rfl trivial⟩
theorem heads_all {M : Ty → Prop} (h1 : M .int) (h2 : M .bool) (h3 : M .S) (h4 : M .T) (h5 : M (.box .T)) (h6 : M (.ref .T)) (h7 : M (.W .T)) (h8 : M (.tup .T .T)) (h9 : M (.tup .T .bool)) (h10 : M (.box (.box .T))) (h11 : M (.W .bool)) {p : Ty} (hp : p ∈ heads) : M p := by
  have c : ∀ {a : Ty} {l : List Ty}, M a → (p ∈ l → M p) → p ∈ a :: l → M p := fun x y h => (List.mem_cons.mp h).elim (fun e => e ▸ x) y
  exact c h1 (c h2 (c h3 (c h4 (c h5 (c h6 (c h7 (c h8 (c h9 (c h10 (c h11 fun h => absurd h List.not_mem_nil)))))))))) hp
theorem headF {p t : Ty} (hp : p ∈ heads) (hc : t.cl = true) (hd : t.dep ≤ 4) : ∃ y, HeadF p t y :=
  heads_all (M := fun p => ∃ y, HeadF p t y) ⟨_, head_int hc hd⟩ ⟨_, head_bool hc hd⟩ ⟨_, head_S hc hd⟩ ⟨t, head_T hc hd⟩ (head_box hc hd) (head_ref hc hd) (head_W hc hd) (head_tupTT hc hd) (head_tupTb hc hd) (head_boxbox hc hd) (head_Wb hc hd) hp

-- part Spec5
-- needs Spec4
inductive RowsIn (P : Params) (N : List (Addr × Obj)) : List Value → List Rw → Prop
  | nil : RowsIn P N [] []
  | cons {v : Value} {r : Rw} {vs : List Value} {rs : List Rw} : RowIn P N v r → RowsIn P N vs rs → RowsIn P N (v :: vs) (r :: rs)
theorem RowsIn.mono {P : Params} {N N' : List (Addr × Obj)} (hs : ∀ p ∈ N, p ∈ N') {vs : List Value} {rs : List Rw} (h : RowsIn P N vs rs) : RowsIn P N' vs rs := by
  induction h with
  | nil => exact .nil
  | cons a _ ih => exact .cons (a.mono hs) ih
theorem RowsIn.len {P : Params} {N : List (Addr × Obj)} {vs : List Value} {rs : List Rw} (h : RowsIn P N vs rs) : vs.length = rs.length := by
  induction h with
  | nil => rfl
  | cons _ _ ih => simp [ih]
theorem RowsIn.get {P : Params} {N : List (Addr × Obj)} {vs : List Value} {rs : List Rw} (h : RowsIn P N vs rs) : ∀ {i : Nat} {v : Value}, vs[i]? = some v → ∃ r, rs[i]? = some r ∧ RowIn P N v r := by
  induction h with
  | nil => intro i v h; simp at h
  | cons a _ ih =>
    intro i v h
    induction i using Nat.casesOn with
    | zero => simp at h; subst h; exact ⟨_, rfl, a⟩
    | succ i => exact ih (by simpa using h)
inductive RowAt (P : Params) (N : List (Addr × Obj)) (rs : List Rw) (i : Nat) (v : Value) : Prop
  | mk (num : Nat) (tr : Tr) (hd : Ty) (asks : List Tr) : rs[i]? = some ⟨num, tr, hd, asks⟩ → RowIn P N v ⟨num, tr, hd, asks⟩ → RowAt P N rs i v
theorem RowsIn.at {P : Params} {N : List (Addr × Obj)} {vs : List Value} {rs : List Rw} (h : RowsIn P N vs rs) {i : Nat} {v : Value} (hx : vs[i]? = some v) : RowAt P N rs i v := let ⟨r, h1, h2⟩ := h.get hx; ⟨r.num, r.tr, r.hd, r.asks, h1, h2⟩
theorem prm_yes {N : List (Addr × Obj)} {b : Bool} {ps : List Value} {asks : List Tr} (h : (b = false ∧ ps = []) ∨ Prm N b ps asks) (e : b = true) : Prm N b ps asks := h.elim (fun h => by rw [e] at h; cases h.1) id
inductive TrAt (ts : List Tr) (i : Nat) (v : Value) : Prop
  | mk (q : Tr) (t : Tok) : v = .str q.str t → ts[i]? = some q → TrAt ts i v
theorem tr_at {vs : List Value} {ts : List Tr} (h : StrsAre vs (ts.map Tr.str)) {i : Nat} {v : Value} (hi : vs[i]? = some v) : TrAt ts i v := by
  obtain ⟨y, t, rfl, hy⟩ := h.item i v hi
  rw [List.getElem?_map] at hy
  obtain ⟨tr, e, rfl⟩ := Option.map_eq_some_iff.mp hy
  exact ⟨tr, t, rfl, e⟩
inductive WorldIn (P : Params) (N : List (Addr × Obj)) : Value → List Rw → Prop
  | mk {a d il : Addr} {k1 k2 k3 k4 k5 k6 k7 k8 : Tok} {v1 v2 v3 v4 v5 v7 v8 : Value} {n n2 : Nat} {vs : List Value} {rows : List Rw} : (a, instObj 214 d) ∈ N →
    (d, dictOf [ent P "modules" k1 v1, ent P "adts" k2 v2, ent P "variants" k3 v3, ent P "sigs" k4 v4, ent P "traits" k5 v5, ent P "impls" k6 (.ref il), ent P "consts" k7 v7, ent P "bodies" k8 v8] n) ∈ N →
    (il, listOf vs.toArray n2) ∈ N → RowsIn P N vs rows → WorldIn P N (.ref a) rows
inductive BdX (N : List (Addr × Obj)) (kvs : List (Str × Value)) (bs : List Tr) : Prop
  | mk (ba : Addr) (vs : List Value) (n : Nat) : kvs = [(Str.ofString "X", .ref ba)] → (ba, tupObj vs n) ∈ N → StrsAre vs (bs.map Tr.str) → BdX N kvs bs
noncomputable def BdIn (N : List (Addr × Obj)) (kvs : List (Str × Value)) (bs : List Tr) : Prop :=
  (kvs = [] ∧ bs = []) ∨ BdX N kvs bs
inductive SelIn (w : World) (N : List (Addr × Obj)) (v : Value) (e : Env9) : Prop
  | mk {a d bd : Addr} {k1 k2 : Tok} {wv : Value} {n : Nat} {o : Obj} {kvs : List (Str × Value)} : v = .ref a → (a, instObj 149 d) ∈ N → (d, dictOf [ent w.params "world" k1 wv, ent w.params "bounds" k2 (.ref bd)] n) ∈ N →
    WorldIn w.params N wv e.rows → (bd, o) ∈ N → (bd == sysModules) = false → o.IsDictOf (strKind PySem.Challenge.pw_nu0382_01 w) kvs → BdIn N kvs e.bs → SelIn w N v e
theorem WorldIn.mono {P : Params} {N N' : List (Addr × Obj)} (hs : ∀ p ∈ N, p ∈ N') {v : Value} {rows : List Rw} (h : WorldIn P N v rows) : WorldIn P N' v rows := by
  obtain ⟨h1, h2, h3, h4⟩ := h
  exact .mk (hs _ h1) (hs _ h2) (hs _ h3) (h4.mono hs)
theorem SelIn.mono {w : World} {N N' : List (Addr × Obj)} (hs : ∀ p ∈ N, p ∈ N') {v : Value} {e : Env9} (h : SelIn w N v e) : SelIn w N' v e := by
  obtain ⟨h0, h1, h2, h3, h4, h5, h6, h7⟩ := h
  refine .mk h0 (hs _ h1) (hs _ h2) (h3.mono hs) (hs _ h4) h5 h6 ?_
  rcases h7 with h7 | ⟨ba, vs, n, a1, a2, a3⟩
  · exact .inl h7
  · exact .inr ⟨ba, vs, n, a1, hs _ a2, a3⟩
theorem str_inj {a b : Tr} : (a.str == b.str) = (a == b) := by induction a using Tr.casesOn <;> induction b using Tr.casesOn <;> decide
theorem bs_any {bs : List Tr} {tr : Tr} : ((bs.map Tr.str).any fun y => y == tr.str) = bs.contains tr := by
  induction bs with
  | nil => rfl
  | cons b bs ih =>
    have h : (b.str == tr.str) = (tr == b) := by induction b using Tr.casesOn <;> induction tr using Tr.casesOn <;> decide
    rw [List.map_cons, List.any_cons, List.contains_cons, ih, h]

-- part Spec6
-- needs Spec5
inductive CandIn (w : World) (N : List (Addr × Obj)) (t : Ty) : Value → Rw → Prop
  | mk {D fd : Addr} {n : Nat} {tk kn : Tok} {o : Obj} {f : Option Value} {r : Rw} : (D, tupObj [.str (Str.ofString "yes") tk, .int r.num kn, .ref fd] n) ∈ N → (fd, o) ∈ N → (fd == sysModules) = false → o.IsDictOf (strKind PySem.Challenge.pw_nu0382_01 w) (fnd f) →
    (match ut r.hd t with | none => f = none | some u => ∃ x, f = some x ∧ TyIn N x u) → CandIn w N t (.ref D) r
theorem CandIn.mono {w : World} {N N' : List (Addr × Obj)} (hs : ∀ p ∈ N, p ∈ N') {t : Ty} {v : Value} {r : Rw} (h : CandIn w N t v r) : CandIn w N' t v r := by
  obtain ⟨h1, h2, h5, h3, h4⟩ := h
  refine .mk (hs _ h1) (hs _ h2) h5 h3 ?_
  revert h4
  cases ut r.hd t with
  | none => exact id
  | some u => exact fun ⟨x, e, h⟩ => ⟨x, e, h.mono hs⟩
inductive CandsIn (w : World) (N : List (Addr × Obj)) (t : Ty) : List Value → List Rw → Prop
  | nil : CandsIn w N t [] []
  | cons {v : Value} {r : Rw} {vs : List Value} {rs : List Rw} : CandIn w N t v r → CandsIn w N t vs rs → CandsIn w N t (v :: vs) (r :: rs)
theorem CandsIn.mono {w : World} {N N' : List (Addr × Obj)} (hs : ∀ p ∈ N, p ∈ N') {t : Ty} {vs : List Value} {rs : List Rw} (h : CandsIn w N t vs rs) : CandsIn w N' t vs rs := by
  induction h with
  | nil => exact .nil
  | cons a _ ih => exact .cons (a.mono hs) ih
theorem CandsIn.snoc {w : World} {N : List (Addr × Obj)} {t : Ty} {vs : List Value} {rs : List Rw} {v : Value} {r : Rw} (h : CandsIn w N t vs rs) (g : CandIn w N t v r) : CandsIn w N t (vs ++ [v]) (rs ++ [r]) := by
  induction h with
  | nil => exact .cons g .nil
  | cons a _ ih => exact .cons a ih
theorem CandsIn.len {w : World} {N : List (Addr × Obj)} {t : Ty} {vs : List Value} {rs : List Rw} (h : CandsIn w N t vs rs) : vs.length = rs.length := by
  induction h with
  | nil => rfl
  | cons _ _ ih => simp [ih]
theorem take_yes {α : Type} {l : List α} {i : Nat} {r : α} {p : α → Bool} (h : l[i]? = some r) (hp : p r = true) : (l.take (i + 1)).filter p = (l.take i).filter p ++ [r] := by
  rw [List.take_add_one, h, List.filter_append]
  simp [hp]
theorem take_no {α : Type} {l : List α} {i : Nat} {r : α} {p : α → Bool} (h : l[i]? = some r) (hp : p r = false) : (l.take (i + 1)).filter p = (l.take i).filter p := by
  rw [List.take_add_one, h, List.filter_append]
  simp [hp]
noncomputable def okStr (b : Bool) : Str := if b = true then Str.ofString "yes" else Str.ofString "no"
/-- the contract of asked -/
noncomputable def AskC (w : World) (e : Env9) (t : Ty) : Prop :=
  ∀ {tr : Tr} {p : Program} {loose : List Str} {mean : ExcName → Option Value} {mg mb : Str → Option Value} {dp un : Nat} {gd : Option (List Code)} {cn : Str} {cs : Scope} {a : Addr} {ccd : Value} {cl : List (Str × Addr)} {outer : List Env} {A₀ : Around} {base h₀ : Heap} {L : Addr} {m : Str → Option Value} {N : List (Addr × Obj)} {g₁ : Array GenState} {d₁ : Drawn} {o₁ : OsState} {h₁ : Heap} {t₁ : Nat} {Q E : Value → Shared → Prop}
    {sv vt : Value} {ut kt : Tok} {tar : Addr} {kk : Nat} {k : Int},
    Below A₀ base outer h₀ → Fr h₀ L h₁ m → Frag.In (hd.heap_1 w.params) h₀ → News h₀ L h₁ N → Top p loose mean mg mb h₀ → cs.kind = .function →
    SelIn w N sv e → (tar, tupObj [] kk) ∈ N → TyIn N vt t → t.cl = true → t.dep ≤ 4 → k + (t.size : Int) ≤ 12 → dp + 25 * (t.size + 1) < recursionLimit → un + 400 * (t.size + 1) < cLine →
    (∀ h' tk' ku, Fr h₀ L h' m → News h₀ L h' N → Q (.str (okStr (ok e tr t)) ku) ⟨h', g₁, d₁, tk', o₁⟩) →
    wpAny (model PySem.Challenge.pw_nu0382_01 w) (ktrTop dp un gd cn cs L a ccd cl outer) (call (.ref 146) [sv, .str tr.str ut, .ref tar, vt, .int k kt]) Q E ⟨h₁, g₁, d₁, t₁, o₁⟩
theorem cand_yes {e : Env9} {t y : Ty} {r : Rw} (hro : RowOk r) (hF : HeadF r.hd t y) (h : m1 r.hd t = .yes) :
    cand e r.tr t r = (if r.hd.hasT = true then r.asks else []).all (fun a => ok e a y) ∧ ((if r.hd.hasT = true then r.asks else []) ≠ [] → y.size < t.size ∧ y.cl = true ∧ y.dep ≤ t.dep) := by
  obtain ⟨h1, ⟨h2, h3, h4, h5⟩ | ⟨h2, h3⟩⟩ := hF.y h
  · rw [if_pos h2]
    unfold cand
    rw [h3, h]
    rcases h5 with h5 | ⟨h5, h6⟩
    · have ha := hro.t h5
      rw [ha]
      refine ⟨?_, fun h => absurd rfl h⟩
      simp
    · refine ⟨?_, fun _ => ⟨h5, h4, Nat.le_of_lt h6⟩⟩
      simp only [if_pos h5]
      simp
  · have h9 : ¬ r.hd.hasT = true := by rw [h2]; decide
    rw [if_neg h9]
    unfold cand
    rw [h3, h]
    refine ⟨?_, fun h => absurd rfl h⟩
    simp
theorem cand_no {e : Env9} {t : Ty} {r : Rw} {tr : Tr} (h : m1 r.hd t = .no) : cand e tr t r = false := by
  unfold cand
  rw [h]
  simp
theorem cand_ne {e : Env9} {t : Ty} {r : Rw} {tr : Tr} (h : r.tr ≠ tr) : cand e tr t r = false := by
  unfold cand
  simp [h]
theorem Tr.str_ne {a b : Tr} (h : a ≠ b) : a.str ≠ b.str := fun e => by
  have := str_inj (a := a) (b := b)
  rw [e] at this
  simp at this
  exact h this
theorem head_size {p t : Ty} (h : p ∈ heads) (ht : t.size ≤ 100) : p.size + t.size ≤ 400 := by
  have : p.size ≤ 3 := by
    simp only [heads, List.mem_cons, List.not_mem_nil, or_false] at h
    rcases h with h | h | h | h | h | h | h | h | h | h | h <;> rw [h] <;> decide
  omega
inductive NdAt (x : Value) (tl : List (Addr × Obj)) (ts : List Tr) (i : Nat) (v : Value) : Prop
  | mk (a : Addr) (n : Nat) (tk : Tok) (tr : Tr) : v = .ref a → (a, tupObj [.str tr.str tk, x] n) ∈ tl → ts[i]? = some tr → NdAt x tl ts i v
theorem NeedsIn.get {x : Value} {tl : List (Addr × Obj)} {vs : List Value} {ts : List Tr} (h : NeedsIn x tl vs ts) : ∀ {i : Nat} {v : Value}, vs[i]? = some v → NdAt x tl ts i v := by
  induction h with
  | nil => intro i v h; cases h
  | cons m _ ih =>
    intro i v h
    induction i using Nat.casesOn with
    | zero => exact .mk _ _ _ _ (Option.some.inj h).symm m rfl
    | succ i => exact let ⟨a, n, tk, tr, e, m, h⟩ := ih (i := i) h; ⟨a, n, tk, tr, e, m, h⟩
theorem NeedsIn.len {x : Value} {tl : List (Addr × Obj)} {vs : List Value} {ts : List Tr} (h : NeedsIn x tl vs ts) : vs.length = ts.length := by
  induction h with
  | nil => rfl
  | cons _ _ ih => simp [ih]
theorem take_all {α : Type} {l : List α} {i : Nat} {r : α} {p : α → Bool} (h : l[i]? = some r) (g : (l.take i).all p = true) (hp : p r = true) : (l.take (i + 1)).all p = true := by
  rw [List.take_add_one, h]
  simp [g, hp]
theorem not_all {α : Type} {l : List α} {i : Nat} {r : α} {p : α → Bool} (h : l[i]? = some r) (hp : p r = false) : l.all p = false := by
  rw [Bool.eq_false_iff]
  intro g
  have := List.all_eq_true.mp g r (List.mem_of_getElem? h)
  rw [hp] at this
  cases this
theorem cl_kind {t : Ty} (h : t.cl = true) : t.kind ≠ Str.ofString "var" := (vi_kind (by induction t using Ty.casesOn <;> first | rfl | exact absurd h (by decide))).1
theorem Tr.ne_copy (t : Tr) : ¬ t.str = Str.ofString "Copy" := by induction t using Tr.casesOn <;> decide
inductive Firsts (N : List (Addr × Obj)) (vs : List Value) : Prop
  | mk (ys : List Value) : ys.length = vs.length → StrsAre ys (List.replicate vs.length (Str.ofString "yes")) → (∀ (i : Nat) (v : Value), vs[i]? = some v → Item3 N ys i v) → Firsts N vs
theorem CandsIn.firsts {w : World} {N : List (Addr × Obj)} {t : Ty} {vs : List Value} {rs : List Rw} (h : CandsIn w N t vs rs) : Firsts N vs := by
  induction h with
  | nil => exact ⟨[], rfl, .nil, fun i v h => nomatch h⟩
  | cons a _ ih =>
    obtain ⟨ys, e1, e2, e3⟩ := ih
    obtain @⟨D, fd, n, tk, kn, o, f, _, m, _, _, _, _⟩ := a
    exact ⟨.str (Str.ofString "yes") tk :: ys, congrArg Nat.succ e1, .cons _ _ e2, fun i v h => match i with
      | 0 => ⟨_, _, _, _, _, (Option.some.inj h).symm, m, rfl⟩
      | i + 1 => match e3 i v h with | ⟨t, x, y, z, n, e, m, q⟩ => ⟨t, x, y, z, n, e, m, q⟩⟩
theorem yes_any (n : Nat) : (List.replicate (n + 1) (Str.ofString "yes")).any (fun y => y == Str.ofString "yes") = true := by simp [List.replicate_succ]
theorem BdIn.mono {N N' : List (Addr × Obj)} (hs : ∀ p ∈ N, p ∈ N') {kvs : List (Str × Value)} {bs : List Tr} (h : BdIn N kvs bs) : BdIn N' kvs bs := by
  rcases h with h | ⟨ba, vs, n, h1, h2, h3⟩
  · exact .inl h
  · exact .inr ⟨ba, vs, n, h1, hs _ h2, h3⟩

-- part Spec7
-- needs Spec6
/-- what _law_fit says, and what the open name stands for behind it -/
noncomputable def fit : Ty → Ty → Option Ty → Bool × Option Ty
  | .T, t, none => (true, some t)
  | .T, t, some u => (decide (u = t), some u)
  | .int, .int, k => (true, k) | .bool, .bool, k => (true, k) | .S, .S, k => (true, k)
  | .box p, .box t, k => fit p t k | .ref p, .ref t, k => fit p t k | .W p, .W t, k => fit p t k
  | .tup p q, .tup a b, k => ((fit p a k).1 && (fit q b (fit p a k).2).1, (fit q b (fit p a k).2).2)
  | _, _, k => (false, k)
noncomputable def fits : List (Ty × Ty) → Option Ty → Bool × Option Ty
  | [], k => (true, k)
  | (p, t) :: r, k => ((fit p t k).1 && (fits r (fit p t k).2).1, (fits r (fit p t k).2).2)
inductive Itm where
  | ty (p t : Ty) | seq (ps : List (Ty × Ty)) | same | diff
noncomputable def Itm.fit : Itm → Option Ty → Bool × Option Ty
  | .ty p t, k => Mine.fit p t k | .seq ps, k => fits ps k | .same, k => (true, k) | .diff, k => (false, k)
noncomputable def itms : List Itm → Option Ty → Bool × Option Ty
  | [], k => (true, k)
  | i :: r, k => if (i.fit k).1 = true then itms r (i.fit k).2 else (false, (i.fit k).2)
structure PGF (p t : Ty) : Prop where
  ok : p.okp = true
  d1 : p.dep ≤ 4
  d2 : t.dep ≤ 4
inductive TysIn (N : List (Addr × Obj)) : List Value → List Value → List (Ty × Ty) → Prop
  | nil : TysIn N [] [] []
  | cons {x y : Value} {p t : Ty} {xs ys : List Value} {ps : List (Ty × Ty)} : TyIn N x p → TyIn N y t → TysIn N xs ys ps → TysIn N (x :: xs) (y :: ys) ((p, t) :: ps)
inductive ItmIn (N : List (Addr × Obj)) : Value → Value → Itm → Prop
  | ty {x y : Value} {p t : Ty} : TyIn N x p → TyIn N y t → ItmIn N x y (.ty p t)
  | seq {a b : Addr} {vs ws : List Value} {n k : Nat} {ps : List (Ty × Ty)} : (a, tupObj vs n) ∈ N → (b, tupObj ws k) ∈ N → TysIn N vs ws ps → ItmIn N (.ref a) (.ref b) (.seq ps)
  | str {k : Str} {t u : Tok} : ItmIn N (.str k t) (.str k u) .same
  | none : ItmIn N .none .none .same
  | bool {b : Bool} : ItmIn N (.bool b) (.bool b) .same
  | diff {k k' : Str} {t u : Tok} : k ≠ k' → ItmIn N (.str k t) (.str k' u) .diff
inductive ItmsIn (N : List (Addr × Obj)) : List Value → List Value → List Itm → Prop
  | nil : ItmsIn N [] [] []
  | cons {x y : Value} {i : Itm} {xs ys : List Value} {is : List Itm} : ItmIn N x y i → ItmsIn N xs ys is → ItmsIn N (x :: xs) (y :: ys) (i :: is)
  | stop {x y : Value} {xs ys : List Value} : ItmIn N x y .diff → xs.length = ys.length → ItmsIn N (x :: xs) (y :: ys) [.diff]
theorem ItmsIn.len {N : List (Addr × Obj)} {xs ys : List Value} {is : List Itm} (h : ItmsIn N xs ys is) : xs.length = ys.length := by
  induction h with
  | nil => rfl
  | cons _ _ ih => simp [ih]
  | stop _ h => simp [h]
/-- the first i items have been passed, and k is known behind them -/
inductive Past : List Itm → Nat → Option Ty → Option Ty → Prop
  | zero {is : List Itm} {k : Option Ty} : Past is 0 k k
  | succ {i : Itm} {is : List Itm} {n : Nat} {k k' : Option Ty} : (i.fit k).1 = true → Past is n (i.fit k).2 k' → Past (i :: is) (n + 1) k k'
inductive PastAt (N : List (Addr × Obj)) (is : List Itm) (n : Nat) (k k' : Option Ty) (x y : Value) : Prop
  | mk (i : Itm) : ItmIn N x y i → i ∈ is → ((i.fit k').1 = true → Past is (n + 1) k (i.fit k').2) → ((i.fit k').1 = false → itms is k = (false, (i.fit k').2)) → PastAt N is n k k' x y
theorem Past.get {N : List (Addr × Obj)} {n : Nat} {is : List Itm} {k k' : Option Ty} (h : Past is n k k') : ∀ {xs ys : List Value} {x y : Value}, ItmsIn N xs ys is → xs[n]? = some x → ys[n]? = some y →
    PastAt N is n k k' x y := by
  induction h with
  | zero =>
    intro xs ys x y hi hx hy
    have no : ∀ {i : Itm} {is : List Itm} {k : Option Ty}, (i.fit k).1 = false → itms (i :: is) k = (false, (i.fit k).2) := fun e => if_neg (by rw [e]; decide)
    cases hi with
    | nil => cases hx
    | cons a b => cases hx; cases hy; exact ⟨_, a, List.mem_cons_self, fun e => .succ e .zero, no⟩
    | stop a b => cases hx; cases hy; exact ⟨_, a, List.mem_cons_self, fun e => .succ e .zero, no⟩
  | succ e h ih =>
    intro xs ys x y hi hx hy
    cases hi with
    | stop a b => cases e
    | cons a b =>
      obtain ⟨i, h1, h0, h2, h3⟩ := ih b (by simpa using hx) (by simpa using hy)
      refine ⟨i, h1, List.mem_cons_of_mem _ h0, fun z => .succ e (h2 z), fun z => ?_⟩
      exact (if_pos e).trans (h3 z)
theorem Past.all {N : List (Addr × Obj)} {n : Nat} {is : List Itm} {k k' : Option Ty} (h : Past is n k k') : ∀ {xs ys : List Value}, ItmsIn N xs ys is → n = xs.length → itms is k = (true, k') := by
  induction h with
  | zero => intro xs ys hi hn; cases hi <;> first | rfl | cases hn
  | succ e h ih =>
    intro xs ys hi hn
    cases hi with
    | stop a b => cases e
    | cons a b =>
      show (if _ = true then _ else _ : Bool × Option Ty) = _
      rw [if_pos e]; exact ih b (by simpa using hn)
inductive KI1 (N : List (Addr × Obj)) (kv : List Value) (k : Option Ty) : Prop
  | mk (x : Value) (u : Ty) : kv = [x] → k = some u → TyIn N x u → u.dep ≤ 4 → KI1 N kv k
noncomputable def KIn (N : List (Addr × Obj)) (kv : List Value) (k : Option Ty) : Prop := (kv = [] ∧ k = none) ∨ KI1 N kv k
inductive KS1 (N : List (Addr × Obj)) (kv : List Value) (u : Ty) : Prop
  | mk (x : Value) : kv = [x] → TyIn N x u → u.dep ≤ 4 → KS1 N kv u
theorem KIn.some {N : List (Addr × Obj)} {kv : List Value} {u : Ty} (h : KIn N kv (some u)) : KS1 N kv u := by
  obtain ⟨-, h⟩ | ⟨x, u', e, h, r, d⟩ := h
  · cases h
  · cases h; exact ⟨x, e, r, d⟩
theorem KIn.none {N : List (Addr × Obj)} {kv : List Value} (h : KIn N kv none) : kv = [] := by
  obtain ⟨h, -⟩ | ⟨x, u', e, h, r, d⟩ := h
  · exact h
  · cases h
/-- pattern and told of the same kind: their items -/
noncomputable def its : Ty → Ty → List Itm
  | .int, .int => [.same] | .bool, .bool => [] | .S, .S => [.same, .seq [], .seq []]
  | .box p, .box t => [.ty p t] | .ref p, .ref t => [.same, .same, .ty p t] | .W p, .W t => [.same, .seq [], .seq [(p, t)]]
  | .tup p q, .tup a b => [.seq [(p, a), (q, b)]]
  | _, _ => [.diff]
theorem its_fit {p t : Ty} (hp : p.okp = true) (hT : p ≠ .T) (hk : p.kind = t.kind) (k : Option Ty) : itms (its p t) k = fit p t k := by
  have key : ∀ z : Bool × Option Ty, (if z.1 = true then ((true, z.2) : Bool × Option Ty) else (false, z.2)) = z := by rintro ⟨_ | _, _⟩ <;> rfl
  have f1 : ∀ p t, fits [(p, t)] k = Mine.fit p t k := fun p t => congrArg (·, (Mine.fit p t k).2) (Bool.and_true _)
  have f2 : ∀ p q a b, fits [(p, a), (q, b)] k = Mine.fit (.tup p q) (.tup a b) k := fun p q a b => congrArg (fun z => ((Mine.fit p a k).1 && z, (Mine.fit q b (Mine.fit p a k).2).2)) (Bool.and_true _)
  induction p using Ty.casesOn <;> first | exact absurd rfl hT | exact absurd hp (by decide) | skip
  all_goals (induction t using Ty.casesOn <;> first | exact absurd hk (by dsimp only [Ty.kind]; decide) | rfl | exact key (Mine.fit _ _ k) | exact (key (fits [(_, _)] k)).trans (f1 _ _) | exact (key (fits [(_, _), (_, _)] k)).trans (f2 _ _ _ _))
theorem ii_box {N : List (Addr × Obj)} {xs ys : List Value} {p t : Ty} (R1 : InB N p xs) (R2 : InB N t ys) : ItmsIn N xs ys [.ty p t] ∧ xs.length ≤ 3 := by
  obtain ⟨v, rfl, r⟩ := R1; obtain ⟨v', rfl, r'⟩ := R2
  exact ⟨.cons (.ty r r') .nil, Nat.le_of_ble_eq_true rfl⟩
theorem ii_ref {N : List (Addr × Obj)} {xs ys : List Value} {p t : Ty} (R1 : InR N p xs) (R2 : InR N t ys) : ItmsIn N xs ys [.same, .same, .ty p t] ∧ xs.length ≤ 3 := by
  obtain ⟨v, rfl, r⟩ := R1; obtain ⟨v', rfl, r'⟩ := R2
  exact ⟨.cons .none (.cons .bool (.cons (.ty r r') .nil)), Nat.le_of_ble_eq_true rfl⟩
theorem ii_S {N : List (Addr × Obj)} {xs ys : List Value} (R1 : InS N xs) (R2 : InS N ys) : ItmsIn N xs ys [.same, .seq [], .seq []] ∧ xs.length ≤ 3 :=
  match R1, R2 with
  | ⟨_, _, _, _, _, e, m1, m2⟩, ⟨_, _, _, _, _, e', m1', m2'⟩ => e ▸ e' ▸ ⟨.cons .str (.cons (.seq m1 m1' .nil) (.cons (.seq m2 m2' .nil) .nil)), Nat.le_of_ble_eq_true rfl⟩
theorem ii_W {N : List (Addr × Obj)} {xs ys : List Value} {p t : Ty} (R1 : InW N p xs) (R2 : InW N t ys) : ItmsIn N xs ys [.same, .seq [], .seq [(p, t)]] ∧ xs.length ≤ 3 :=
  match R1, R2 with
  | ⟨_, _, _, _, _, _, e, m1, m2, r⟩, ⟨_, _, _, _, _, _, e', m1', m2', r'⟩ => e ▸ e' ▸ ⟨.cons .str (.cons (.seq m1 m1' .nil) (.cons (.seq m2 m2' (.cons r r' .nil)) .nil)), Nat.le_of_ble_eq_true rfl⟩
theorem ii_tup {N : List (Addr × Obj)} {xs ys : List Value} {p q a b : Ty} (R1 : InP N p q xs) (R2 : InP N a b ys) : ItmsIn N xs ys [.seq [(p, a), (q, b)]] ∧ xs.length ≤ 3 :=
  match R1, R2 with
  | ⟨_, _, _, _, e, m, r1, r2⟩, ⟨_, _, _, _, e', m', r1', r2'⟩ => e ▸ e' ▸ ⟨.cons (.seq m m' (.cons r1 r1' (.cons r2 r2' .nil))) .nil, Nat.le_of_ble_eq_true rfl⟩
inductive IH (k : Str) (xs : List Value) : Prop
  | mk (u : Tok) (b c : Addr) : xs = [.str k u, .ref b, .ref c] → IH k xs
theorem ii_Sh {N : List (Addr × Obj)} {xs : List Value} (R : InS N xs) : IH (Str.ofString "S") xs := match R with | ⟨_, _, _, _, _, e, _, _⟩ => ⟨_, _, _, e⟩
theorem ii_Wh {N : List (Addr × Obj)} {xs : List Value} {p : Ty} (R : InW N p xs) : IH (Str.ofString "W") xs := match R with | ⟨_, _, _, _, _, _, e, _, _, _⟩ => ⟨_, _, _, e⟩
theorem ii_d {N : List (Addr × Obj)} {xs ys : List Value} {k k' : Str} (R1 : IH k xs) (R2 : IH k' ys) (hk : k ≠ k') : ItmsIn N xs ys [.diff] ∧ xs.length ≤ 3 :=
  match R1, R2 with
  | ⟨_, _, _, e⟩, ⟨_, _, _, e'⟩ => e ▸ e' ▸ ⟨.stop (.diff hk) rfl, Nat.le_of_ble_eq_true rfl⟩
theorem its_in {N : List (Addr × Obj)} {xs ys : List Value} {p t : Ty} (R1 : Inn N p xs) (R2 : Inn N t ys) (hp : p.okp = true) (hT : p ≠ .T) (hk : p.kind = t.kind) : ItmsIn N xs ys (its p t) ∧ xs.length ≤ 3 := by
  induction p using Ty.casesOn <;> first | exact absurd rfl hT | exact no_true hp | skip
  all_goals (induction t using Ty.casesOn <;> first | exact absurd hk (by dsimp only [Ty.kind]; decide) | clear hk hT hp)
  · exact R1.elim fun u e => R2.elim fun u' e' => e ▸ e' ▸ ⟨.cons .str .nil, Nat.le_of_ble_eq_true rfl⟩
  · exact (show xs = [] from R1).symm ▸ (show ys = [] from R2).symm ▸ ⟨.nil, Nat.zero_le _⟩
  · exact ii_S R1 R2
  · exact ii_d (ii_Sh R1) (ii_Wh R2) (by decide)
  · exact ii_box R1 R2
  · exact ii_ref R1 R2
  · exact ii_d (ii_Wh R1) (ii_Sh R2) (by decide)
  · exact ii_W R1 R2
  · exact ii_tup R1 R2
structure PGF' (n : Nat) (p t : Ty) : Prop where
  ok : p.okp = true
  lt : p.size < n
  d1 : p.dep ≤ 4
  d2 : t.dep ≤ 4
noncomputable def Itm.good (n : Nat) : Itm → Prop
  | .ty p t => PGF' n p t | .seq ps => ps.length ≤ 2 ∧ ∀ q ∈ ps, PGF' n q.1 q.2 | _ => True
theorem its_good {p t : Ty} (hp : p.okp = true) (d1 : p.dep ≤ 4) (d2 : t.dep ≤ 4) : ∀ i ∈ its p t, i.good p.size := by
  have one : ∀ {p p' t t' : Ty}, p'.okp = true → p'.dep + 1 = p.dep → t'.dep + 1 = t.dep → p.dep ≤ 4 → t.dep ≤ 4 → p'.size < p.size → PGF' p.size p' t' := fun a b c d e f => ⟨a, f, Nat.le_of_succ_le (Nat.le_trans (Nat.le_of_eq b) d), Nat.le_of_succ_le (Nat.le_trans (Nat.le_of_eq c) e)⟩
  have nil : ∀ n, Itm.good n (.seq []) := fun n => ⟨by decide, fun _ h => nomatch h⟩
  have m1 : ∀ {n : Nat} {x i : Itm}, x.good n → i ∈ [x] → i.good n := fun h hi => (List.mem_singleton.mp hi) ▸ h
  have m3 : ∀ {n : Nat} {x y z i : Itm}, x.good n → y.good n → z.good n → i ∈ [x, y, z] → i.good n := fun h1 h2 h3 hi => (List.mem_cons.mp hi).elim (fun e => e ▸ h1) fun hi => (List.mem_cons.mp hi).elim (fun e => e ▸ h2) (m1 h3)
  have gs : ∀ n, Itm.good n .same := fun _ => trivial
  have gd : ∀ n, Itm.good n .diff := fun _ => trivial
  intro i hi
  induction p using Ty.casesOn <;> first | exact no_true hp | (induction t using Ty.casesOn <;> first | exact m1 (gs _) hi | exact m1 (gd _) hi | exact absurd hi List.not_mem_nil | exact m3 (gs _) (nil _) (nil _) hi | skip)
  · rename_i p t
    exact m1 (n := (Ty.box p).size) (x := .ty p t) (one hp rfl rfl d1 d2 (Nat.lt_succ_self _)) hi
  · rename_i p t
    exact m3 (n := (Ty.ref p).size) (gs _) (gs _) (z := .ty p t) (one hp rfl rfl d1 d2 (Nat.lt_succ_self _)) hi
  · rename_i p t
    exact m3 (n := (Ty.W p).size) (gs _) (nil _) (z := .seq [(p, t)]) ⟨Nat.le_succ _, fun q hq => (List.mem_singleton.mp hq) ▸ one hp rfl rfl d1 d2 (Nat.lt_succ_self _)⟩ hi
  · rename_i p p' t t'
    refine m1 (show Itm.good _ (.seq _) from ⟨Nat.le_refl _, fun q hq => ?_⟩) hi
    have hp' := Bool.and_eq_true_iff.mp hp
    have d1' : max p.dep p'.dep + 1 ≤ 4 := d1
    have d2' : max t.dep t'.dep + 1 ≤ 4 := d2
    exact (List.mem_cons.mp hq).elim (fun e => e ▸ ⟨hp'.1, Nat.lt_succ_of_le (Nat.le_add_right _ _), Nat.le_trans (Nat.le_max_left _ _) (Nat.le_of_succ_le d1'), Nat.le_trans (Nat.le_max_left _ _) (Nat.le_of_succ_le d2')⟩)
      fun hq => List.mem_singleton.mp hq ▸ ⟨hp'.2, Nat.lt_succ_of_le (Nat.le_add_left _ _), Nat.le_trans (Nat.le_max_right _ _) (Nat.le_of_succ_le d1'), Nat.le_trans (Nat.le_max_right _ _) (Nat.le_of_succ_le d2')⟩
structure FH (p t : Ty) : Prop where
  a : (fit p t none).1 = decide (m1 p t = .yes)
  b : m1 p t = .yes → (fit p t none).2 = ut p t
theorem fh_y {p t : Ty} {u : Option Ty} (a : fit p t none = (true, u)) (e : m1 p t = .yes) (h : ut p t = u) : FH p t := ⟨by rw [a, e]; rfl, fun _ => by rw [a, h]⟩
theorem fh_n {p t : Ty} (a : (fit p t none).1 = false) (e : m1 p t = .no) : FH p t := ⟨by rw [a, e]; rfl, fun h => absurd (e ▸ h) no_ne⟩
/-- of the heads, against a closed type, it says what match_type says -/
theorem fit_head {p t : Ty} (hp : p ∈ heads) (hc : t.cl = true) : (fit p t none).1 = decide (m1 p t = .yes) ∧ (m1 p t = .yes → (fit p t none).2 = ut p t) := by
  suffices h : FH p t from ⟨h.a, h.b⟩
  refine heads_all (M := fun p => FH p t) ?_ ?_ ?_ ?_ ?_ ?_ ?_ ?_ ?_ ?_ ?_ hp
  case refine_8 =>
    induction t using Ty.casesOn with
    | tup u v =>
      have e := (tup_cl hc).2
      subst e
      exact fh_y (u := some u) (congrArg (·, some u) (decide_eq_true rfl)) rfl rfl
    | _ => first | exact no_true hc | exact fh_n rfl rfl
  case refine_9 =>
    induction t using Ty.casesOn with
    | tup u v =>
      have e := (tup_cl hc).2
      subst e
      have h := (tup_cl hc).1
      induction u using Ty.casesOn <;> first | exact no_true h | exact fh_n rfl rfl | exact fh_y rfl rfl rfl
    | _ => first | exact no_true hc | exact fh_n rfl rfl
  case refine_10 =>
    induction t using Ty.casesOn with
    | box u =>
      have h : u.cl = true := hc
      induction u using Ty.casesOn <;> first | exact no_true h | exact fh_n rfl rfl | exact fh_y rfl rfl rfl
    | _ => first | exact no_true hc | exact fh_n rfl rfl
  case refine_11 =>
    induction t using Ty.casesOn with
    | W u =>
      have h : u.cl = true := hc
      induction u using Ty.casesOn <;> first | exact no_true h | exact fh_n rfl rfl | exact fh_y rfl rfl rfl
    | _ => first | exact no_true hc | exact fh_n rfl rfl
  all_goals (induction t using Ty.casesOn <;> first | exact no_true hc | exact fh_n rfl rfl | exact fh_y rfl rfl rfl)

-- part Loops
-- needs LZK MTS
inductive FNext (h₀ : Heap) (L : Addr) (J : (Str → Option Value) → List (Addr × Obj) → Prop) (own : List (Addr × Obj)) (wr : List Addr) (g : Array GenState) (d : Drawn) (o : OsState) (s₂ : Shared) : Prop
  | mk (h' : Heap) (tk : Nat) (m' : Str → Option Value) (M nx : List (Addr × Obj)) : s₂ = ⟨h', g, d, tk, o⟩ → Fr h₀ L h' m' → News h₀ L h' M → (∀ p ∈ own ++ nx, p ∈ M) → (∀ p ∈ nx, p.1 ∉ wr) → J m' nx → FNext h₀ L J own wr g d o s₂
open PyProof.V in
noncomputable def FStep (h₀ : Heap) (L : Addr) (J : (Str → Option Value) → List (Addr × Obj) → Prop) (own : List (Addr × Obj)) (wr : List Addr) (s₁ : Shared) (Q : Flow → Shared → Prop) (f : Flow) (s₂ : Shared) : Prop :=
  match f with
  | .ret v => Q (.ret v) s₂
  | .brk => Q .next s₂
  | _ => FNext h₀ L J own wr s₁.gens s₁.drawn s₁.os s₂
theorem FStep.intro {h₀ : Heap} {L : Addr} {J : (Str → Option Value) → List (Addr × Obj) → Prop} {own : List (Addr × Obj)} {wr : List Addr} {s₁ : Shared} {Q : Flow → Shared → Prop} {f : Flow} {s₂ : Shared} {h' : Heap} {tk : Nat} {m' : Str → Option Value} {M : List (Addr × Obj)} (nx : List (Addr × Obj))
    (hf : f = .next ∨ f = .cont) (hs : s₂ = { s₁ with heap := h', toks := tk }) (F : Fr h₀ L h' m') (N : News h₀ L h' M) (sb : ∀ p ∈ own ++ nx, p ∈ M) (hw : ∀ p ∈ nx, p.1 ∉ wr) (hj : J m' nx) : FStep h₀ L J own wr s₁ Q f s₂ := by
  rcases hf with rfl | rfl <;> exact ⟨h', tk, m', M, nx, hs, F, N, sb, hw, hj⟩
section
variable {prog : Program} {w : World} {A : Around} {E : Value → Shared → Prop} {s : Shared} {env : Env} {h₀ : Heap} {target : Expr} {body : List Stmt} {Q : Flow → Shared → Prop} {m₀ : Str → Option Value} {news : List (Addr × Obj)}
theorem fstep_v {J : (Str → Option Value) → List (Addr × Obj) → Prop} {J' : (Str → Option Value) → List (Addr × Obj) → Prop} {own own' : List (Addr × Obj)} {wr : List Addr} {s₁ s₂ : Shared} {L : Addr} {f : Flow}
    (ho : ∀ p ∈ own', p ∈ own) (hJ : ∀ m nx, J m nx → (∀ p ∈ nx, p.1 ∉ wr) → ∃ nx', J' m nx' ∧ (∀ p ∈ nx', p ∈ own ++ nx) ∧ ∀ p ∈ nx', p.1 ∉ wr)
    (h : FStep h₀ L J own wr s₁ Q f s₂) : LoopStepV h₀ L wr own' J' s₁ (fun v s' => Q (.ret v) s') (fun s' => Q .next s') f s₂ := by
  have fin : FNext h₀ L J own wr s₁.gens s₁.drawn s₁.os s₂ → LoopStepU h₀ L wr own' J' s₁ .next s₂ := by
    rintro ⟨h', tk, m', M, nx, rfl, F, N, sb, hw, hj⟩
    obtain ⟨nx', j', sb', hw'⟩ := hJ m' nx hj hw
    exact ⟨rfl, h', tk, m', nx', rfl, F, fun p hp => N p ((List.mem_append.mp hp).elim (fun h => sb p (List.mem_append_left _ (ho p h))) fun h => sb p (sb' p h)), hw', j'⟩
  cases f with
  | ret v => exact h
  | brk => exact h
  | next => exact fin h
  | cont => exact fin h
theorem abs_turn {M : Model} {A : Around} {asg : Sem Unit} {body : Sem Flow} {F : Flow → Shared → Prop} {E : Value → Shared → Prop} {s : Shared} (h : ∀ R : Flow → Shared → Prop, (∀ f s, F f s → R f s) → wpAny M A asg (fun _ s₃ => wpAny M A body R E s₃) E s) :
    wpAny M A asg (fun _ s₃ => wpAny M A body F E s₃) E s := h F fun _ _ => id
inductive KeepF (x : Addr × Obj) (J : Nat → (Str → Option Value) → List (Addr × Obj) → Prop) (i : Nat) (m : Str → Option Value) (nw : List (Addr × Obj)) : Prop
  | mk (nx : List (Addr × Obj)) : x ∈ nw → (∀ p ∈ nx, p ∈ nw) → J i m nx → KeepF x J i m nw
inductive KeepF2 (x y : Addr × Obj) (J : Nat → (Str → Option Value) → List (Addr × Obj) → Prop) (i : Nat) (m : Str → Option Value) (nw : List (Addr × Obj)) : Prop
  | mk (nx : List (Addr × Obj)) : x ∈ nw → y ∈ nw → (∀ p ∈ nx, p ∈ nw) → J i m nx → KeepF2 x y J i m nw
theorem it_list {l : Addr} {c : Nat} {vs : List Value} (J : Nat → (Str → Option Value) → List (Addr × Obj) → Prop) (hh : A.handled = none) (F : Fr h₀ env.locals s.heap m₀) (N : News h₀ env.locals s.heap news) (hl : (l, listOf vs.toArray c) ∈ news) (hj : J 0 m₀ news)
    (turn : ∀ i v m₁ nx h tk I o, vs[i]? = some v → J i m₁ nx → (∀ p ∈ nx, p.1 ∉ [I]) → I ≠ l → Fr h₀ env.locals h m₁ → News h₀ env.locals h ((I, o) :: (l, listOf vs.toArray c) :: nx) →
      wpAny (model prog w) A (assign target env v) (fun _ s₃ => wpAny (model prog w) A (execs body env) (FStep h₀ env.locals (J (i + 1)) [(I, o), (l, listOf vs.toArray c)] [I] { s with heap := h, toks := tk } Q) E s₃) E { s with heap := h, toks := tk })
    (done : ∀ m₁ nx h tk, J vs.length m₁ nx → Fr h₀ env.locals h m₁ → News h₀ env.locals h ((l, listOf vs.toArray c) :: nx) → Q .next { s with heap := h, toks := tk }) :
    wpAny (model prog w) A (pyIter (.ref l)) (fun it s₂ => TurnsAt prog w A h₀ env target body Q E it s₂) E s := by
  have hax := N _ hl
  have hls : s.heap.IsList l vs.toArray := ⟨_, hax.1, rfl, c, rfl⟩
  have hlt : l < s.heap.objs.size := Heap.lt_size hax.1
  have hne : l ≠ s.heap.objs.size := Nat.ne_of_lt hlt
  refine wpAny_pyIter_list hls ?_
  have W := KTurns.ofWalks (target := target) (Walks.list (prog := prog) (w := w) hh s.heap.objs.size l hne vs.toArray) fun i v s Q E st q => letGo_listiter st.1 q
  rw [List.size_toArray] at W
  refine ⟨s.heap.objs.size, [s.heap.objs.size, l], [s.heap.objs.size], vs.length, _, _, _, m₀, news, KeepF (l, listOf vs.toArray c) J, rfl,
    W, ?_, fa_cons (next_is_new F) fa_nil, ?_, ⟨⟨_, Heap.get?_push_size _ rfl, rfl, rfl⟩, hls.at fun o e => Heap.get?_push_of_some _ e⟩, F.push _, (fun p hp => ⟨Heap.get?_push_of_some _ (N p hp).1, (N p hp).2⟩), ⟨news, hl, sb_refl, hj⟩, ?_, ?_⟩
  · exact fa_not (fa_cons (Nat.ne_of_gt F.ns.lt) (fa_cons (Ne.symm hax.2.1.symm) fa_nil))
  · exact fun p hp => fa_not (fa_cons (Nat.ne_of_gt (Heap.lt_size (N p hp).1)) fa_nil)
  · rintro i v m₁ news₁ h₁ tk₁ own hi hP ⟨nx, hm1, hnx, hJ⟩ hoff hown hval hall hst F₁ N₁
    refine Exists.elim hst.1 fun oI q => ?_
    have hP' : vs.toArray[i]? = some v := hP
    have hIown : (s.heap.objs.size, oI) ∈ own := hall _ mm0 (next_is_new F) _ q.1
    have hsub : ∀ p ∈ own, p ∈ [(s.heap.objs.size, oI), (l, listOf vs.toArray c)] := own_sub hown hval (fa_cons (ent9 q.1 mm0) (fa_cons (ent9 (N₁ _ (List.mem_append_right _ hm1)).1 mm1) fa_nil))
    exact wpAny_mono (turn i v m₁ nx h₁ tk₁ s.heap.objs.size oI (by simpa using hP') hJ (fun p hp => hoff p (hnx p hp)) (Ne.symm hne) F₁ (news_sub9 N₁ (fa_cons (List.mem_append_left _ hIown) (fa_cons (List.mem_append_right _ hm1) (sb_right hnx)))))
      (fun _ s₃ h₃ => wpAny_mono h₃ (fun f s₄ h₄ => fstep_v hsub (fun m nx' hj' hw' => ⟨(l, listOf vs.toArray c) :: nx', ⟨nx', mm0, sb_tail sb_refl, hj'⟩, fa_cons (List.mem_append_left _ mm1) (sb_right sb_refl), fa_cons (by simpa using hne) hw'⟩) h₄) fun _ _ e => e) fun _ _ e => e
  · rintro h' tk m' news' F' N' hoff ⟨nx, hm1, hnx, hJ⟩
    exact done m' nx h' tk hJ F' (news_sub9 N' (fa_cons hm1 hnx))

inductive ZPart (n t1 t2 : Nat) (xs ys : List Value) (i : Nat) (v : Value) (h : Heap) : Prop
  | mk (T : Addr) (x y : Value) : v = .ref T → xs[i]? = some x → ys[i]? = some y → IsTup h T #[x, y] → n + 4 < T → ZipT (n + 4) (n + 2) (n + 3) n (n + 1) t1 t2 h xs.toArray ys.toArray (i + 1) (rawInt T) (.bool false) → ZPart n t1 t2 xs ys i v h
inductive ZItem (xs ys : List Value) (i : Nat) (v : Value) (h : Heap) : Prop
  | mk (T : Addr) (x y : Value) : v = .ref T → xs[i]? = some x → ys[i]? = some y → IsTup h T #[x, y] → ZItem xs ys i v h
theorem zip_turns {n t1 t2 : Nat} {xs ys : List Value} {elts : List Expr} {tp : Pos} {kk : Nat} (hh : A.handled = none) (O : ZipO (n + 4) (n + 2) (n + 3) n (n + 1) t1 t2 n) (he : xs.length = ys.length) (l1 : @LT.lt Nat _ t1 n) (l2 : @LT.lt Nat _ t2 n) :
    KTurns prog w A (.Tuple elts kk tp) (n + 4) [n + 4, n + 2, n + 3, n, n + 1, t1, t2] [n + 4, n + 3, n, n + 1] xs.length
      (ZItem xs ys)
      (ZPart n t1 t2 xs ys)
      (fun i h => ZipT (n + 4) (n + 2) (n + 3) n (n + 1) t1 t2 h xs.toArray ys.toArray i .none (.bool false)) := by
  refine ⟨fa_cons mm0 (fa_cons mm2 (fa_cons mm3 (fa_cons (mmt4 mm0) fa_nil))), fun i h h' st hk => st.keep fun b hb o e => hk b hb o e, fun i s Q E hi st hQ => ?_, fun i v s Q E hm hQ => ?_, fun s Q E st hQ => ?_⟩
  · have hx : xs[i]? = some xs[i] := List.getElem?_eq_getElem hi
    have hy : ys[i]? = some (ys[i]'(he ▸ hi)) := List.getElem?_eq_getElem (he ▸ hi)
    have hzl := Heap.lt_size st.z
    refine pyNext_zip st.z rfl (wpAny_mono (zip_next_free (Q := fun v s' => Q (some v) s') O st (x := xs[i]) (y := ys[i]'(he ▸ hi)) (by simp [hi]) (by simp [he ▸ hi]) fun h' Z' g sz up => ?_) (fun _ _ h => h) (fun _ _ h => h))
    exact hQ _ h' _ ⟨_, _, _, rfl, hx, hy, ⟨_, g, rfl, 0, rfl⟩, hzl, Z'⟩ fun c o hc e => up c o (List.ne_of_not_mem_cons hc) (fun q => hc (q ▸ mm1)) (fun q => hc (q ▸ mm2)) (fun q => hc (q ▸ mm3)) e
  · obtain ⟨T, x, y, rfl, hx, hy, hT, hlt, Z'⟩ := hm
    refine wpAny_letOwnedTupleGo_zip Z'.z fun h' hz' hs => ?_
    have up : ∀ c o, c ≠ n + 4 → s.heap.get? c = some o → h'.get? c = some o := fun c o hc e => hs.extBut c o hc e
    have n4 : ∀ k, k < 4 → n + k ≠ n + 4 := fun k hk => Nat.ne_of_lt (Nat.add_lt_add_left hk n)
    exact hQ h' ⟨T, x, y, rfl, hx, hy, isTup_keep hT fun o e => up _ _ (Nat.ne_of_gt hlt) e⟩ ⟨hz', up _ _ (n4 2 (by decide)) Z'.TI, Z'.TO.imp fun a' q => q.imp fun b' q => q.imp fun n0 q => up _ _ (n4 3 (by decide)) q, tupIter_keep Z'.i1 fun o e => up _ _ (n4 0 (by decide)) e, tupIter_keep Z'.i2 fun o e => up _ _ (n4 1 (by decide)) e, isTup_keep Z'.t1 fun o e => up _ _ (Nat.ne_of_lt (Nat.lt_add_right 4 l1)) e, isTup_keep Z'.t2 fun o e => up _ _ (Nat.ne_of_lt (Nat.lt_add_right 4 l2)) e⟩
      fun c o hc e => up c o (List.ne_of_not_mem_cons hc) e
  · exact pyNext_zip st.z rfl (zip_end_free (A := A.in1) hh O st (by simp) fun h' e up he => ⟨e, _, rfl, he.choose_spec.1, he.choose_spec.2, hQ h' _ fun c o hc e => up c o (List.ne_of_not_mem_cons hc) (fun q => hc (q ▸ mm2)) e⟩)
theorem it_zip {n : Nat} {t1 t2 : Nat} {n1 n2 : Nat} {xs ys : List Value} {a b : Str} {pa pb tp : Pos} {kk : Nat} (J : Nat → (Str → Option Value) → List (Addr × Obj) → Prop) (hh : A.handled = none) (F : Fr h₀ env.locals s.heap m₀) (N : News h₀ env.locals s.heap news)
    (Z : ZipK h₀ env.locals n t1 t2 xs ys s.heap) (hn : ∀ p ∈ news, p.1 < n) (hl1 : (t1, tupObj xs n1) ∈ news) (hl2 : (t2, tupObj ys n2) ∈ news) (he : xs.length = ys.length) (hj : J 0 m₀ news)
    (hka : env.kindOf a = some .local) (hkb : env.kindOf b = some .local) (hkp : (env.scope.kind == .class || (env.scope.kind == .module && env.locals != env.globals)) = false)
    (turn : ∀ i x y m₁ nx h tk own, xs[i]? = some x → ys[i]? = some y → J i m₁ nx → (∀ p ∈ nx, p.1 ∉ [n + 4, n + 3, n, n + 1]) → (∀ p ∈ own, n ≤ p.1) → Fr h₀ env.locals h (fun z => if z = b then some y else if z = a then some x else m₁ z) →
      News h₀ env.locals h ((t1, tupObj xs n1) :: (t2, tupObj ys n2) :: (nx ++ own)) →
      wpAny (model prog w) A (execs body env) (FStep h₀ env.locals (J (i + 1)) ((t1, tupObj xs n1) :: (t2, tupObj ys n2) :: own) [n + 4, n + 3, n, n + 1] { s with heap := h, toks := tk } Q) E { s with heap := h, toks := tk })
    (done : ∀ m₁ nx h tk, J xs.length m₁ nx → Fr h₀ env.locals h m₁ → News h₀ env.locals h ((t1, tupObj xs n1) :: (t2, tupObj ys n2) :: nx) → Q .next { s with heap := h, toks := tk }) :
    wpAny (model prog w) A (pyIter (.ref (n + 4))) (fun it s₂ => TurnsAt prog w A h₀ env (.Tuple [.Name a pa, .Name b pb] kk tp) body Q E it s₂) E s := by
  have l1 : @LT.lt Nat _ t1 n := hn _ hl1
  have l2 : @LT.lt Nat _ t2 n := hn _ hl2
  have hL : @LT.lt Nat _ env.locals n := Z.Ln
  have z1 : n + 4 ≠ n + 3 := by omega
  refine wpAny_pyIter_zip Z.Z.z ?_
  have O := Z.O
  have K := zip_turns (w := w) (prog := prog) (elts := [.Name a pa, .Name b pb]) (tp := tp) (kk := kk) hh O he l1 l2
  have far : ∀ b : Nat, b < n → b ∉ [n + 4, n + 3, n, n + 1] := fun b hb => fa_not (fa_cons (Nat.ne_of_gt (Nat.lt_add_right 4 hb)) (fa_cons (Nat.ne_of_gt (Nat.lt_add_right 3 hb)) (fa_cons (Nat.ne_of_gt hb) (fa_cons (Nat.ne_of_gt (Nat.lt_add_right 1 hb)) fa_nil))))
  refine ⟨n + 4, _, _, xs.length, _, _, _, m₀, news, KeepF2 (t1, tupObj xs n1) (t2, tupObj ys n2) J, rfl, K, ?_, ?_, fun p hp => far _ (hn p hp), Z.Z, F, N, ⟨news, hl1, hl2, sb_refl, hj⟩, ?_, ?_⟩
  · have g : ∀ k, n + k ≠ env.locals := fun k => Nat.ne_of_gt (Nat.lt_add_right k hL)
    exact fa_not (fa_cons (g 4) (fa_cons (g 2) (fa_cons (g 3) (fa_cons (g 0) (fa_cons (g 1) (fa_cons (N _ hl1).2.1 (fa_cons (N _ hl2).2.1 fa_nil)))))))
  · exact fa_cons (Z.old 4) (fa_cons (Z.old 3) (fa_cons (Z.old 0) (fa_cons (Z.old 1) fa_nil)))
  · rintro i v m₁ news₁ h₁ tk₁ own hi ⟨T, x, y, rfl, hx, hy, hT⟩ ⟨nx, hm1, hm2, hnx, hJ⟩ hoff hown hval hall hst F₁ N₁
    refine assign_Tuple_tuple hh hT rfl rfl fun h₅ he5 => ?_
    have he' : ∀ b o, h₁.get? b = some o → h₅.get? b = some o := fun b o e => he5 b o (Nat.ne_of_lt (Heap.lt_size e)) e
    have F₅ := F₁.keeps he'
    refine assignInOrder_cons (wpAny_assign_Name (wpAny_storeName_local hka F₅.ns (fun h₆ hn₆ hs₆ => ?_) hkp))
    have F₆ := F₅.set hn₆ hs₆
    refine assignInOrder_cons (wpAny_assign_Name (wpAny_storeName_local hkb F₆.ns (fun h₇ hn₇ hs₇ => ?_) hkp))
    have F₇ := F₆.set hn₇ hs₇
    refine assignInOrder_nil ?_
    have N₇ := (((N₁.grown he').set hs₆).set hs₇)
    have m1' : (t1, tupObj xs n1) ∈ own ++ news₁ := List.mem_append_right _ hm1
    have m2' : (t2, tupObj ys n2) ∈ own ++ news₁ := List.mem_append_right _ hm2
    refine wpAny_mono (turn i x y m₁ nx h₇ (tk₁ + 1 + 1) (own.filter fun p => n ≤ p.1) hx hy hJ (fun p hp => hoff p (hnx p hp)) (fun p hp => of_decide_eq_true (List.mem_filter.mp hp).2) F₇
      (news_sub9 N₇ (fa_cons m1' (fa_cons m2' (fa_app (sb_right hnx) fun p hp => List.mem_append_left _ (List.mem_filter.mp hp).1))))) (fun f s₄ h₄ => ?_) fun _ _ e => e
    have big : ∀ k o, h₁.get? (n + k) = some o → (n + k, o) ∈ own → (n + k, o) ∈ (t1, tupObj xs n1) :: (t2, tupObj ys n2) :: own.filter fun p => n ≤ p.1 := fun k o _ hp => mmt2 (List.mem_filter.mpr ⟨hp, decide_eq_true (Nat.le_add_right n k)⟩)
    refine fstep_v (own' := own) (fun p hp => ?_) (fun m nx' hj' hw' => ⟨(t1, tupObj xs n1) :: (t2, tupObj ys n2) :: nx', ⟨nx', mm0, mm1, sb_tail2 sb_refl, hj'⟩, fa_cons (List.mem_append_left _ mm0) (fa_cons (List.mem_append_left _ mm1) (sb_right sb_refl)), fa_cons (far _ l1) (fa_cons (far _ l2) hw')⟩)
      (show FStep h₀ env.locals (J (i + 1)) ((t1, tupObj xs n1) :: (t2, tupObj ys n2) :: own.filter fun p => n ≤ p.1) [n + 4, n + 3, n, n + 1] { s with heap := h₁, toks := tk₁ } Q f s₄ from h₄)
    exact own_sub' hown hval (fa_cons (big 4) (fa_cons (big 2) (fa_cons (big 3) (fa_cons (big 0) (fa_cons (big 1) (fa_cons (fun o q _ => ent9 (N₁ _ m1').1 mm0 o q) (fa_cons (fun o q _ => ent9 (N₁ _ m2').1 mm1 o q) fa_nil))))))) p hp
  · rintro h' tk m' news' F' N' hoff ⟨nx, hm1, hm2, hnx, hJ⟩
    exact done m' nx h' tk hJ F' (news_sub9 N' (fa_cons hm1 (fa_cons hm2 hnx)))
end

-- part Loops2
theorem words_Loops2 : True := by
  k_with "mine_keep" => (first | assumption | (refine keep_set ?_ rfl; k_extra "mine_keep"))
  trivial
-- needs Loops
section
variable {prog : Program} {w : World} {A : Around} {E : Value → Shared → Prop} {s : Shared} {h₀ : Heap} {m₀ : Str → Option Value} {news : List (Addr × Obj)}
/-- what a statement leaves: the same ledger, the same names of `keep`, P of the frame -/
inductive Left1 (h₀ : Heap) (L : Addr) (m₀ : Str → Option Value) (news : List (Addr × Obj)) (g : Array GenState) (d : Drawn) (o : OsState) (keep : List Str) (P : (Str → Option Value) → Prop) (f : Flow) (s' : Shared) : Prop
  | mk : f = .next → ∀ (h : Heap), ∀ (tk : Nat), ∀ (m : Str → Option Value), s' = ⟨h, g, d, tk, o⟩ → Fr h₀ L h m → News h₀ L h news → (∀ x ∈ keep, m x = m₀ x) → P m → Left1 h₀ L m₀ news g d o keep P f s'
noncomputable def Left (h₀ : Heap) (L : Addr) (m₀ : Str → Option Value) (news : List (Addr × Obj)) (s : Shared) (keep : List Str) (P : (Str → Option Value) → Prop) (f : Flow) (s' : Shared) : Prop := Left1 h₀ L m₀ news s.gens s.drawn s.os keep P f s'
theorem Left.intro {L : Addr} {keep : List Str} {P : (Str → Option Value) → Prop} {s' : Shared} {h : Heap} {tk : Nat} {m : Str → Option Value} {M : List (Addr × Obj)} (hs : s' = { s with heap := h, toks := tk }) (F : Fr h₀ L h m) (N : News h₀ L h M) (sb : ∀ p ∈ news, p ∈ M)
    (hk : ∀ x ∈ keep, m x = m₀ x) (hp : P m) : Left h₀ L m₀ news s keep P .next s' := ⟨rfl, h, tk, m, hs, F, fun p hp => N p (sb p hp), hk, hp⟩
theorem cut_at {L : Addr} {Q : Flow → Shared → Prop} {c : Sem Flow} (keep : List Str) (P : (Str → Option Value) → Prop) (_F : Fr h₀ L s.heap m₀) (_N : News h₀ L s.heap news)
    (h1 : wpAny (model prog w) A c (Left h₀ L m₀ news s keep P) E s)
    (h2 : ∀ h tk m, Fr h₀ L h m → News h₀ L h news → (∀ x ∈ keep, m x = m₀ x) → P m → Q .next { s with heap := h, toks := tk }) : wpAny (model prog w) A c Q E s :=
  wpAny_mono h1 (fun f s' h => by obtain ⟨rfl, h', tk, m, rfl, F, N, hk, p⟩ := h; exact h2 h' tk m F N hk p) fun _ _ e => e
theorem it_keep {env : Env} {target : Expr} {body : List Stmt} {Q : Flow → Shared → Prop} {l : Addr} {c : Nat} {vs : List Value} (keep : List Str) (J : Nat → (Str → Option Value) → Prop) (hh : A.handled = none) (F : Fr h₀ env.locals s.heap m₀) (N : News h₀ env.locals s.heap news) (hl : (l, listOf vs.toArray c) ∈ news) (hj : J 0 m₀)
    (turn : ∀ i v m₁ h tk I o, vs[i]? = some v → J i m₁ → (∀ x ∈ keep, m₁ x = m₀ x) → (∀ p ∈ news, p.1 ∉ [I]) → Fr h₀ env.locals h m₁ → News h₀ env.locals h ((I, o) :: news) →
      wpAny (model prog w) A (assign target env v) (fun _ s₃ => wpAny (model prog w) A (execs body env) (FStep h₀ env.locals (fun m nx => J (i + 1) m ∧ (∀ x ∈ keep, m x = m₀ x) ∧ nx = news) [(I, o), (l, listOf vs.toArray c)] [I] { s with heap := h, toks := tk } Q) E s₃) E { s with heap := h, toks := tk })
    (done : ∀ m₁ h tk, J vs.length m₁ → (∀ x ∈ keep, m₁ x = m₀ x) → Fr h₀ env.locals h m₁ → News h₀ env.locals h news → Q .next { s with heap := h, toks := tk }) :
    wpAny (model prog w) A (pyIter (.ref l)) (fun it s₂ => TurnsAt prog w A h₀ env target body Q E it s₂) E s := by
  refine it_list (fun i m nx => J i m ∧ (∀ x ∈ keep, m x = m₀ x) ∧ nx = news) hh F N hl ⟨hj, fun _ _ => rfl, rfl⟩ ?_ ?_
  · rintro i v m₁ nx h tk I o hx ⟨hJ, hk, rfl⟩ hw _ F₁ N₁
    exact turn i v m₁ h tk I o hx hJ hk hw F₁ fun p hp => N₁ p (by
      rcases List.mem_cons.mp hp with rfl | hp
      · exact List.mem_cons_self
      · exact List.mem_cons_of_mem _ (List.mem_cons_of_mem _ hp))
  · rintro m₁ nx h tk ⟨hJ, hk, rfl⟩ F₁ N₁
    exact done m₁ h tk hJ hk F₁ fun p hp => N₁ p (List.mem_cons_of_mem _ hp)
theorem FStep.keep {L : Addr} {keep : List Str} {J : (Str → Option Value) → Prop} {own : List (Addr × Obj)} {wr : List Addr} {s₁ : Shared} {Q : Flow → Shared → Prop} {f : Flow} {s₂ : Shared} {h' : Heap} {tk : Nat} {m' : Str → Option Value} {M : List (Addr × Obj)}
    (hf : f = .next ∨ f = .cont) (hs : s₂ = { s₁ with heap := h', toks := tk }) (F : Fr h₀ L h' m') (N : News h₀ L h' M) (sb : ∀ p ∈ own ++ news, p ∈ M) (hw : ∀ p ∈ news, p.1 ∉ wr) (hj : J m') (hk : ∀ x ∈ keep, m' x = m₀ x) : FStep h₀ L (fun m nx => J m ∧ (∀ x ∈ keep, m x = m₀ x) ∧ nx = news) own wr s₁ Q f s₂ :=
  .intro news hf hs F N sb hw ⟨hj, hk, rfl⟩
theorem keep_set {m m₀ : Str → Option Value} {keep : List Str} {y : Str} {v : Option Value} (h : ∀ x ∈ keep, m x = m₀ x) (hy : keep.contains y = false) : ∀ x ∈ keep, (if x = y then v else m x) = m₀ x := fun x hx => by
  rw [if_neg (fun e => by rw [← e] at hy; rw [List.contains_iff_mem.mpr hx] at hy; cases hy)]
  exact h x hx
theorem kn {m m₀ : Str → Option Value} {keep : List Str} (hk : ∀ x ∈ keep, m x = m₀ x) (x : Str) (hx : keep.contains x = true) {a : Value} (e : m₀ x = some a) : m x = some a := (hk x (by simpa using hx)).trans e
end

-- part LcT
-- needs Loops Spec3

section
open PyProof.Rows.LCg
variable {prog : Program} {w : World} {A : Around} {E : Value → Shared → Prop} {s : Shared} {h₀ : Heap} {L : Addr} {m : Str → Option Value} {env : Env}
inductive SrcT (prog : Program) (w : World) (A : Around) (h₀ : Heap) (L : Addr) (m : Str → Option Value) (env : Env) (elt : Expr) (x : Str) (scope : Scope) (cl : List (Str × Addr)) (Fin : Shared → List Value → List (Addr × Obj) → Prop) (xv : Value) (s₁ : Shared) : Prop
  | mk (ax : Addr) (its : List Value) (n : Nat) (news : List (Addr × Obj)) :
    xv = .ref ax →
    A.handled = none →
    Fr h₀ L s₁.heap m →
    News h₀ L s₁.heap news →
    (ax, tupObj its n) ∈ news →
    its.length ≤ sizeLine →
    (∀ s₂ : Shared, (∃ h, s₂ = { s₁ with heap := h }) → CompRest prog w A h₀ L m env elt x scope cl s₂ (fun nw => (ax, tupObj its n) ∈ nw) (fun i v => its[i]? = some v) (Fin s₂) its.length 0 [] news) →
    SrcT prog w A h₀ L m env elt x scope cl Fin xv s₁
theorem SrcT.ledger {elt : Expr} {x : Str} {scope : Scope} {cl : List (Str × Addr)} {Fin : Shared → List Value → List (Addr × Obj) → Prop} {ax : Addr} {its : List Value} {k : Nat} {news : List (Addr × Obj)} {s₁ : Shared}
    (hh : A.handled = none) (F : Fr h₀ L s₁.heap m) (N : News h₀ L s₁.heap news) (hm : (ax, tupObj its k) ∈ news) (hsz : its.length ≤ sizeLine)
    (h : ∀ g, CompRest prog w A h₀ L m env elt x scope cl { s₁ with heap := g } (fun nw => (ax, tupObj its k) ∈ nw) (fun i v => its[i]? = some v) (Fin { s₁ with heap := g }) its.length 0 [] news) :
    SrcT prog w A h₀ L m env elt x scope cl Fin (.ref ax) s₁ := ⟨ax, its, k, news, rfl, hh, F, N, hm, hsz, fun _ ⟨g, e⟩ => e ▸ h g⟩
theorem ListComp_T1 {elt iter : Expr} {x : Str} {px : Pos} {scope : Scope} {cl : List (Str × Addr)} {pos : Pos} {Q : Value → Shared → Prop} (F₀ : Fr h₀ L s.heap m)
    (hclos : closureFor scope env = pure cl) (hcell : ∀ y ∈ scope.names, y.2 ≠ .cell) (hkind : scope.kind = .function)
    (hnames : ∀ y ∈ scope.names, y.2 = .local → scope.names.lookup y.1 = some .local) (hx : scope.names.lookup x = some .local)
    (h : wpAny (model prog w) A (eval iter env) (SrcT prog w A h₀ L m env elt x scope cl (fun s₂ => FinE h₀ L m s₂ Q)) E s)
    (hs : ∀ x, foldedSetIterable iter env x = pure x) :
    wpAny (model prog w) A (eval (.ListComp elt [⟨.Name x px, iter, [], 0⟩] scope pos) env) Q E s := by
  rw [eval_ListComp]
  refine wpAny_comprehension_free (use := none) rfl hs hclos hkind hnames (wpAny_mono h (fun xv s₁ h₁ => ?_) fun _ _ e => e)
  obtain ⟨ax, its, n, news, rfl, hh, F, N, hm, hsz, R⟩ := h₁
  have hl : s₁.heap.IsTuple ax its.toArray := ⟨_, (N _ hm).1, rfl, n, rfl⟩
  have hlt : ax < s₁.heap.objs.size := Heap.lt_size (N _ hm).1
  refine wpAny_pyIter_tuple hl ?_
  have up : ∀ b o, s₁.heap.get? b = some o → (s₁.heap.push { cls := .type "tuple_iterator", data := .fields #[.ref ax, .int 0 0] }).get? b = some o := fun b o e => Heap.get?_push_of_some _ e
  have W := Walks.tuple (prog := prog) (w := w) hh s₁.heap.objs.size ax (Nat.ne_of_lt hlt) its.toArray
  have W' : Walks prog w A s₁.heap.objs.size [s₁.heap.objs.size, ax] [s₁.heap.objs.size] its.length (fun i v => its[i]? = some v) (fun i h => h.IsTupleIter s₁.heap.objs.size ax i ∧ h.IsTuple ax its.toArray) := by
    have e : (fun (i : Nat) v => its.toArray[i]? = some v) = fun i v => its[i]? = some v := by funext i v; simp
    rw [List.size_toArray, e] at W; exact W
  refine block_U W' hsz (fun i h st => by obtain ⟨o, e, _⟩ := st.1; exact ⟨o, e⟩) (fun i h h' o nw st e e' k N' S => ⟨by obtain ⟨o', q, r⟩ := st.1; rw [e] at q; cases q; exact ⟨o, e', r⟩, ⟨_, (N' _ S).1, rfl, n, rfl⟩⟩) hcell hkind hx ⟨⟨_, Heap.get?_push_size _ rfl, rfl, rfl⟩, ⟨_, up _ _ (N _ hm).1, rfl, n, rfl⟩⟩ (fun b hb => ?_)
    (F.keeps up) (N.grown up) (Nat.ne_of_lt F.ns.lt) (next_is_new F) (fun p hp => Nat.ne_of_lt (Heap.lt_size (N p hp).1)) hm (R _ ⟨_, rfl⟩) ?_
  · show b < (s₁.heap.push _).objs.size
    rw [Heap.size_push]
    rcases List.mem_cons.mp hb with rfl | hb
    · exact Nat.lt_succ_self _
    · rw [List.mem_singleton.mp hb]; exact Nat.lt_succ_of_lt hlt
  · intro D C h tk m' ys news' F' N' o1 hn hC₀ hD₀ hCL hDL hCD offC fin
    refine ⟨m', hn, fun h'' hs'' => fin D h'' tk (F'.change hs'' hCL hC₀) (fun p hp => ?_) o1⟩
    refine ⟨hs''.extBut _ _ ?_ (N' p hp).1, (N' p hp).2⟩
    rcases List.mem_cons.mp hp with rfl | hp
    · exact Ne.symm hCD
    · exact offC p hp
theorem compEnd1 {I C D : Addr} {s₁ : Shared} {oI oC oD : Obj} {S : List (Addr × Obj) → Prop} {rest : Value → List (Addr × Obj) → Prop} {y : Value} {h' : Heap} {tk : Nat} {q : Addr × Obj} {nx : List (Addr × Obj)}
    (F : Fr h₀ L h' m) (N : News h₀ L h' (q :: (I, oI) :: (C, oC) :: (D, oD) :: nx)) (o1 : q.1 ≠ I) (o2 : q.1 ≠ C) (o3 : q.1 ≠ D) (off : Off3 I C D nx) (hS : S (q :: nx)) (r : rest y (q :: nx)) :
    CompEnd h₀ L m s₁ I oI C oC D oD S rest y { s₁ with heap := h', toks := tk } :=
  .intro F N (q :: nx) (List.forall_mem_cons.mpr ⟨by simp, List.forall_mem_cons.mpr ⟨by simp, List.forall_mem_cons.mpr ⟨by simp, List.forall_mem_cons.mpr ⟨by simp, fun p hp => by simp [hp]⟩⟩⟩⟩) ⟨⟨o1, o2, o3⟩, off⟩ hS r
end

-- part Cmp
-- needs Loops2 LcT
section
open PyProof.Rows.LCg PyProof.V
variable {prog : Program} {w : World} {A : Around} {E : Value → Shared → Prop} {s : Shared} {h₀ : Heap} {L : Addr} {m : Str → Option Value} {env : Env}
noncomputable abbrev tests (prog : Program) (w : World) (A : Around) (ifs : List Expr) (env : Env) (Q : Bool → Shared → Prop) (E : Value → Shared → Prop) (s : Shared) : Prop :=
  wpAny (model prog w) A (forIn ifs true fun c r => if r = true then do let ok ← isTrue c env (eval c env); pure (ForInStep.yield ok) else pure (ForInStep.yield r)) Q E s
theorem cmp_turns {elt target iter : Expr} {ifs : List Expr} {scope : Scope} {pos : Pos} {it acc : Value} {env : Env} {R : Result → Shared → Prop} (I : Nat → Shared → Prop)
    (turn : ∀ n s, I n s → wpAny (model prog w) A (pyNext it) (fun r s₁ => match r with
      | none => R (.ok .next) s₁
      | some v => wpAny (model prog w) A (letOwnedTupleGo target it v) (fun _ s₂ => wpAny (model prog w) A (assign target env v) (fun _ s₃ => tests prog w A ifs env (fun ok s₄ =>
          if ok = true then wpAny (model prog w) A (eval elt env) (fun x s₅ => wpAny (model prog w) A (call (.builtin "list.append") [acc, x]) (fun _ s₆ => ∃ k, k < n ∧ I k s₆) (notedBy (model prog w) A env fun e s' => R (.error e) s') s₅) (notedBy (model prog w) A env fun e s' => R (.error e) s') s₄
          else ∃ k, k < n ∧ I k s₄) (notedBy (model prog w) A env fun e s' => R (.error e) s') s₃) (notedBy (model prog w) A env fun e s' => R (.error e) s') s₂) (notedBy (model prog w) A env fun e s' => R (.error e) s') s₁)
      (notedBy (model prog w) A env fun e s' => R (.error e) s') s)
    (n : Nat) (h : I n s) : codeAny (model prog w) A (.compLoop (.ListComp elt [⟨target, iter, ifs, 0⟩] scope pos) 0 it acc env) R s := by
  refine codeAny_loop rfl I (fun n s hI => ?_) n h
  show wpAny _ A ((compTurn (.ListComp elt [⟨target, iter, ifs, 0⟩] scope pos) 0 it acc env).onRaise _) _ _ s
  rw [compTurn_list]
  have E9 : ∀ (e : Value) (s : Shared), notedBy (model prog w) A env (fun e s' => R (.error e) s') e s → notedBy (model prog w) A env (fun e s' => R (.error e) s') e s := fun _ _ h => h
  refine wpAny_noted (wpAny_bind (wpAny_standAt (wpAny_bind (wpAny_mono (turn n s hI) (fun r s₁ h₁ => ?_) E9))))
  match r, h₁ with
  | none, h₁ => exact wpAny_pure h₁
  | some v, h₁ =>
    refine wpAny_bind (wpAny_mono h₁ (fun _ s₂ h₂ => wpAny_bind (wpAny_mono h₂ (fun _ s₃ h₃ => wpAny_bind (wpAny_mono h₃ (fun ok s₄ h₄ => ?_) E9)) E9)) E9)
    match ok, h₄ with
    | false, h₄ => exact wpAny_pure ⟨rfl, h₄⟩
    | true, h₄ => exact wpAny_bind (wpAny_bind (wpAny_mono h₄ (fun x s₅ h₅ => wpAny_bind (wpAny_mono h₅ (fun _ s₆ h₆ => wpAny_pure (wpAny_pure ⟨rfl, h₆⟩)) E9)) E9))
/-- nx lies off what the comprehension itself turns -/
noncomputable def OffC (wr : List Addr) (C D : Addr) (nx : List (Addr × Obj)) : Prop := ∀ p ∈ nx, p.1 ∉ wr ∧ p.1 ≠ C ∧ p.1 ≠ D
inductive CmpEnd1 (h₀ : Heap) (L : Addr) (m : Str → Option Value) (g : Array GenState) (d : Drawn) (o : OsState) (own : List (Addr × Obj)) (wr : List Addr) (C D : Addr) (ys : List Value) (J : List (Addr × Obj) → Prop) (s' : Shared) : Prop
  | mk : ∀ (h : Heap), ∀ (tk : Nat), ∀ (mc : Str → Option Value), ∀ (nx : List (Addr × Obj)), s' = ⟨h, g, d, tk, o⟩ → Fr h₀ L h m → h.Ns C mc → News h₀ L h (own ++ (D, lst ys) :: nx) → OffC wr C D nx → J nx → CmpEnd1 h₀ L m g d o own wr C D ys J s'
noncomputable def CmpEnd (h₀ : Heap) (L : Addr) (m : Str → Option Value) (s : Shared) (own : List (Addr × Obj)) (wr : List Addr) (C D : Addr) (ys : List Value) (J : List (Addr × Obj) → Prop) (s' : Shared) : Prop := CmpEnd1 h₀ L m s.gens s.drawn s.os own wr C D ys J s'
inductive CmpJ (h₀ : Heap) (L : Addr) (m : Str → Option Value) (g : Array GenState) (d : Drawn) (o : OsState) (wr : List Addr) (C D : Addr) (n : Nat) (St : Nat → Heap → Prop) (J : Nat → List Value → List (Addr × Obj) → Prop) (k : Nat) (s' : Shared) : Prop
  | mk (h : Heap) (tk i : Nat) (ys : List Value) (mc : Str → Option Value) (nx : List (Addr × Obj)) : s' = ⟨h, g, d, tk, o⟩ → i ≤ n → k = n + 1 - i → ys.length ≤ i → St i h → Fr h₀ L h m → h.Ns C mc → News h₀ L h ((D, lst ys) :: nx) → OffC wr C D nx → J i ys nx → CmpJ h₀ L m g d o wr C D n St J k s'
inductive Kept3 (h₀ : Heap) (L : Addr) (m : Str → Option Value) (C : Addr) (mc : Str → Option Value) (n : List (Addr × Obj)) (h : Heap) : Prop
  | mk : Fr h₀ L h m → h.Ns C mc → News h₀ L h n → Kept3 h₀ L m C mc n h
theorem cmp_loop {target elt iter : Expr} {ifs : List Expr} {scope : Scope} {pos : Pos} {cenv : Env} {D C I : Addr} {R : Result → Shared → Prop} {fp wr : List Addr} {n : Nat} {P Md : Nat → Value → Heap → Prop} {St : Nat → Heap → Prop} {mc : Str → Option Value} {news : List (Addr × Obj)}
    (W : KTurns prog w A target I fp wr n P Md St) (hn : n ≤ sizeLine) (hLf : L ∉ fp) (hCf : C ∉ fp) (hDf : D ∉ fp) (hCL : C ≠ L) (hDL : D ≠ L) (hCD : C ≠ D) (hwr : ∀ b ∈ wr, h₀.get? b = none) (hC₀ : h₀.get? C = none) (hD₀ : h₀.get? D = none)
    (J : Nat → List Value → List (Addr × Obj) → Prop) (hst : St 0 s.heap) (F : Fr h₀ L s.heap m) (hC : s.heap.Ns C mc) (N : News h₀ L s.heap ((D, lst []) :: news)) (off : OffC wr C D news) (h0 : J 0 [] news)
    (step : ∀ i v ys nx h tk own mc (E' : Value → Shared → Prop), i < n → P i v h → J i ys nx → OffC wr C D nx → (∀ p ∈ own, p.1 ∈ fp) → (∀ b ∈ fp, h₀.get? b = none → ∀ o, h.get? b = some o → (b, o) ∈ own) → St (i + 1) h → Fr h₀ L h m → h.Ns C mc → News h₀ L h (own ++ (D, lst ys) :: nx) →
      wpAny (model prog w) A (assign target cenv v) (fun _ s₃ => tests prog w A ifs cenv (fun ok s₄ => if ok = true then wpAny (model prog w) A (eval elt cenv) (fun y s₅ => CmpEnd h₀ L m s own wr C D ys (J (i + 1) (ys ++ [y])) s₅) E' s₄ else CmpEnd h₀ L m s own wr C D ys (J (i + 1) ys) s₄) E' s₃) E' { s with heap := h, toks := tk })
    (fin : ∀ h tk mc ys nx, Fr h₀ L h m → h.Ns C mc → News h₀ L h ((D, lst ys) :: nx) → OffC wr C D nx → J n ys nx → R (.ok .next) { s with heap := h, toks := tk }) :
    codeAny (model prog w) A (.compLoop (.ListComp elt [⟨target, iter, ifs, 0⟩] scope pos) 0 (.ref I) (.ref D) cenv) R s := by
  have old : ∀ b o, h₀.get? b = some o → b ∉ wr := fun b o e hb => by rw [hwr b hb] at e; cases e
  refine cmp_turns (CmpJ h₀ L m s.gens s.drawn s.os wr C D n St J) ?_ (n + 1)
    ⟨s.heap, s.toks, 0, [], mc, news, rfl, Nat.zero_le _, rfl, Nat.le_refl _, hst, F, hC, N, off, h0⟩
  rintro k s' ⟨h, tk, i, ys, mc, nx, rfl, hi, rfl, hyl, hst, F, hC, N, off, hJ⟩
  have keep : ∀ h' : Heap, (∀ b o, b ∉ wr → h.get? b = some o → h'.get? b = some o) → Kept3 h₀ L m C mc ((D, lst ys) :: nx) h' := fun h' hk =>
    ⟨⟨F.ns.at' fun o e => hk _ o (fun q => hLf (W.sub _ q)) e, fun b o e => hk b o (old b o e) (F.keep b o e), F.above⟩, hC.at' fun o e => hk _ o (fun q => hCf (W.sub _ q)) e, fun p hp => ⟨hk _ _ (fa_cons (p := fun p : Addr × Obj => p.1 ∉ wr) (fun q => hDf (W.sub _ q)) (fun p hp => (off p hp).1) p hp) (N p hp).1, (N p hp).2⟩⟩
  by_cases hlt : i < n
  · refine W.item i _ _ _ hlt hst fun v h₁ tk₁ hMd hk₁ => ?_
    refine W.go i v _ _ _ hMd fun h₂ hP hst₂ hk₂ => ?_
    obtain ⟨F₂, C₂, N₂⟩ := keep h₂ fun b o hb x => hk₂ b o hb (hk₁ b o hb x)
    have Nown : News h₀ L h₂ (PyProof.Rows.ownOf h₀ fp h₂) := news_ownOf hLf
    have next : ∀ ys' s₅, ys'.length ≤ i + 1 → CmpEnd h₀ L m s (PyProof.Rows.ownOf h₀ fp h₂) wr C D ys' (J (i + 1) ys') s₅ →
        ∃ k, k < n + 1 - i ∧ CmpJ h₀ L m s.gens s.drawn s.os wr C D n St J k s₅ := by
      rintro ys' s₅ hl ⟨h₅, tk₅, mc₅, nx₅, rfl, F₅, C₅, N₅, off₅, hJ₅⟩
      refine ⟨n + 1 - (i + 1), by omega, h₅, tk₅, i + 1, ys', mc₅, nx₅, rfl, hlt, rfl, hl, W.frame _ _ _ hst₂ fun b hb o e => ?_, F₅, C₅, N₅.right, off₅, hJ₅⟩
      cases hn : h₀.get? b with
      | some o₀ => exact (F₅.keep b o₀ hn).trans ((F₂.keep b o₀ hn).symm.trans e)
      | none => exact (N₅ _ (List.mem_append_left _ (mem_ownOf hb hn e))).1
    refine wpAny_mono (step i v ys nx h₂ tk₁ _ mc _ hlt hP hJ off ownOf_sub (fun b hb hn o e => mem_ownOf hb hn e) hst₂ F₂ C₂ (Nown.append N₂)) (fun _ s₃ h₃ => wpAny_mono h₃ (fun ok s₄ h₄ => ?_) fun _ _ e => e) fun _ _ e => e
    match ok, h₄ with
    | false, h₄ => exact next ys s₄ (Nat.le_succ_of_le hyl) h₄
    | true, h₄ =>
      refine wpAny_mono h₄ (fun y s₅ h₅ => ?_) fun _ _ e => e
      obtain ⟨h₅, tk₅, mc₅, nx₅, rfl, F₅, C₅, N₅, off₅, hJ₅⟩ := h₅
      have zD := (N₅ (D, lst ys) (List.mem_append_right _ List.mem_cons_self)).1
      refine append_at (hsz := by show ys.toArray.size ≤ sizeLine; rw [List.size_toArray]; exact Nat.le_trans hyl (Nat.le_trans hi hn)) zD fun h₆ hs hD => ?_
      have at9 : ∀ p ∈ PyProof.Rows.ownOf h₀ fp h₂ ++ (D, lst ys) :: nx₅, p.1 ≠ D → h₆.get? p.1 = some p.2 ∧ p.1 ≠ L ∧ h₀.get? p.1 = none := fun p hp hd => ⟨hs.extBut _ _ hd (N₅ p hp).1, (N₅ p hp).2⟩
      exact next (ys ++ [y]) _ (by rw [List.length_append, List.length_singleton]; exact Nat.succ_le_succ hyl) ⟨h₆, tk₅, mc₅, nx₅, rfl, F₅.change hs hDL hD₀, C₅.sameBut hs hCD, fa_app (fun p hp => at9 p (List.mem_append_left _ hp) fun q => hDf (q ▸ ownOf_sub p hp))
        (fa_cons ⟨hD.trans (congrArg some (lst_snoc ys y)), hDL, hD₀⟩ fun p hp => at9 p (List.mem_append_right _ (List.mem_cons_of_mem _ hp)) (off₅ p hp).2.2), off₅, hJ₅⟩
  · have hin : i = n := Nat.le_antisymm hi (Nat.not_lt.mp hlt)
    subst hin
    refine W.done _ _ _ hst fun h₁ tk₁ hk₁ => ?_
    obtain ⟨F₁, C₁, N₁⟩ := keep h₁ hk₁
    exact fin h₁ tk₁ mc ys nx F₁ C₁ N₁ off hJ
theorem cmp_block {target elt iter : Expr} {ifs : List Expr} {scope : Scope} {pos : Pos} {cl : List (Str × Addr)} {I : Addr} {fp wr : List Addr} {n : Nat} {P Md : Nat → Value → Heap → Prop} {St : Nat → Heap → Prop} {news : List (Addr × Obj)} {Q : Value → Shared → Prop}
    (W : KTurns prog w A target I fp wr n P Md St) (hself : ∀ (s : Shared) (Q E : Value → Shared → Prop), St 0 s.heap → Q (.ref I) s → wpAny (model prog w) A (pyIter (.ref I)) Q E s) (hn : n ≤ sizeLine)
    (hcell : ∀ y ∈ scope.names, y.2 ≠ .cell) (hkind : scope.kind = .function) (hst : St 0 s.heap) (hfp : ∀ b ∈ fp, b < s.heap.objs.size) (hLf : L ∉ fp) (hwr : ∀ b ∈ wr, h₀.get? b = none)
    (J : Nat → List Value → List (Addr × Obj) → Prop) (F : Fr h₀ L s.heap m) (N : News h₀ L s.heap news) (off : ∀ p ∈ news, p.1 ∉ wr) (h0 : J 0 [] news)
    (step : ∀ C D i v ys nx h tk own mc (E' : Value → Shared → Prop), C ∉ fp → D ∉ fp → C ≠ D → C ≠ L → h₀.get? C = none → i < n → P i v h → J i ys nx → OffC wr C D nx → (∀ p ∈ own, p.1 ∈ fp) → (∀ b ∈ fp, h₀.get? b = none → ∀ o, h.get? b = some o → (b, o) ∈ own) → St (i + 1) h → Fr h₀ L h m → h.Ns C mc → News h₀ L h (own ++ (D, lst ys) :: nx) →
      wpAny (model prog w) A (assign target (compEnvC scope cl C env) v) (fun _ s₃ => tests prog w A ifs (compEnvC scope cl C env) (fun ok s₄ => if ok = true then wpAny (model prog w) A (eval elt (compEnvC scope cl C env)) (fun y s₅ => CmpEnd h₀ L m s own wr C D ys (J (i + 1) (ys ++ [y])) s₅) E' s₄ else CmpEnd h₀ L m s own wr C D ys (J (i + 1) ys) s₄) E' s₃) E' { s with heap := h, toks := tk })
    (fin : ∀ D h tk ys nx, Fr h₀ L h m → News h₀ L h ((D, lst ys) :: nx) → (∀ p ∈ nx, p.1 ≠ D) → J n ys nx → Q (.ref D) { s with heap := h, toks := tk }) :
    wpAny (model prog w) A (newList []) (fun acc s₃ => wpAny (model prog w) A (newFunctionEnv scope env.globals cl [] env.qual none .none (some env)) (fun cenv s₄ =>
      codeAny (model prog w) A (.compStart (.ListComp elt [⟨target, iter, ifs, 0⟩] scope pos) 0 (.ref I) acc { cenv with scope := relabel scope env }) (compPost (model prog w) A E none Q acc cenv.locals) s₄) E s₃) E s := by
  refine wpAny_newObj_type (wpAny_newFunctionEnv hcell (fun y hy => nomatch hy) (fun h₁ hC hs => ?_) hkind)
  dsimp only at hC hs ⊢
  generalize hH : s.heap.push { cls := .type "list", dict := none, data := .seq ([] : List Value).toArray } = H at hC hs ⊢
  have hz : H.objs.size = s.heap.objs.size + 1 := by rw [← hH, Heap.size_push]
  have lt : ∀ b, b < s.heap.objs.size → b ≠ H.objs.size := fun b hb => by rw [hz]; exact Nat.ne_of_lt (Nat.lt_succ_of_lt hb)
  have up : ∀ b o, s.heap.get? b = some o → h₁.get? b = some o := fun b o e => hs.extBut b o (lt b (Heap.lt_size e)) (Heap.get?_push_of_some _ (hH ▸ Heap.get?_push_of_some _ e))
  have no : ∀ b, s.heap.objs.size ≤ b → h₀.get? b = none := fun b hb => by
    cases e : h₀.get? b with
    | none => rfl
    | some o => exact absurd (Heap.lt_size (F.keep b o e)) (Nat.not_lt.mpr hb)
  have hDC : s.heap.objs.size ≠ H.objs.size := by rw [hz]; exact Nat.ne_of_lt (Nat.lt_succ_self _)
  have hLlt : L < s.heap.objs.size := F.ns.lt
  have go : ∀ s₄ : Shared, (∃ tk, s₄ = { s with heap := h₁, toks := tk }) →
      codeAny (model prog w) A (.compLoop (.ListComp elt [⟨target, iter, ifs, 0⟩] scope pos) 0 (.ref I) (.ref s.heap.objs.size) (compEnvC scope cl H.objs.size env)) (compPost (model prog w) A E none Q (.ref s.heap.objs.size) H.objs.size) s₄ := by
    rintro s₄ ⟨tk, rfl⟩
    have hCf : H.objs.size ∉ fp := fun q => Nat.lt_irrefl _ (Nat.lt_trans (hfp _ q) (by rw [hz]; exact Nat.lt_succ_self _))
    have hDf : s.heap.objs.size ∉ fp := fun q => Nat.lt_irrefl _ (hfp _ q)
    have hC₀ : h₀.get? H.objs.size = none := no _ (by rw [hz]; exact Nat.le_succ _)
    refine cmp_loop W hn hLf hCf hDf (Ne.symm (lt L hLlt)) (Ne.symm (Nat.ne_of_lt hLlt)) (Ne.symm hDC) hwr hC₀ (no _ (Nat.le_refl _)) J (W.frame _ _ _ hst fun b _ o e => up b o e) (F.keeps up) hC
      (fun p hp => ?_) (fun p hp => ⟨off p hp, lt _ (Heap.lt_size (N p hp).1), Nat.ne_of_lt (Heap.lt_size (N p hp).1)⟩) h0
      (fun i v ys nx h tk own mc E' => step _ _ i v ys nx h tk own mc E' hCf hDf (Ne.symm hDC) (Ne.symm (lt L hLlt)) hC₀) fun h tk mc ys nx F' C' N' off' hJ => ?_
    · rcases List.mem_cons.mp hp with rfl | hp
      · exact ⟨hs.extBut _ _ hDC (Heap.get?_push_of_some _ (hH ▸ Heap.get?_push_size _ rfl)), Ne.symm (Nat.ne_of_lt hLlt), no _ (Nat.le_refl _)⟩
      · exact ⟨up _ _ (N p hp).1, (N p hp).2⟩
    · refine ⟨mc, C', fun h' hs' => fin _ h' tk ys nx (F'.change hs' (Ne.symm (lt L hLlt)) hC₀) (fun p hp => ⟨hs'.extBut _ _ ?_ (N' p hp).1, (N' p hp).2⟩) (fun p hp => (off' p hp).2.2) hJ⟩
      rcases List.mem_cons.mp hp with rfl | hp
      · exact hDC
      · exact (off' p hp).2.1
  exact codeAny_compStart_list (go _ ⟨_, rfl⟩) (hself _ _ _ (W.frame _ _ _ hst fun b _ o e => up b o e) (go _ ⟨_, rfl⟩))
inductive KeepJ (x : Addr × Obj) (J : Nat → List Value → List (Addr × Obj) → Prop) (i : Nat) (ys : List Value) (nw : List (Addr × Obj)) : Prop
  | mk (nx : List (Addr × Obj)) : x ∈ nw → (∀ p ∈ nx, p ∈ nw) → J i ys nx → KeepJ x J i ys nw
inductive SrcL (prog : Program) (w : World) (A : Around) (h₀ : Heap) (L : Addr) (m : Str → Option Value) (env : Env) (target elt : Expr) (ifs : List Expr) (scope : Scope) (cl : List (Str × Addr)) (Q : Value → Shared → Prop) (xv : Value) (s₁ : Shared) : Prop
  | mk (l : Addr) (vs : List Value) (c : Nat) (news : List (Addr × Obj)) (J : Nat → List Value → List (Addr × Obj) → Prop) : xv = .ref l → Fr h₀ L s₁.heap m → News h₀ L s₁.heap news → (l, listOf vs.toArray c) ∈ news → vs.length ≤ sizeLine → J 0 [] news →
      (∀ C D I i v ys nx h tk oI mc (E' : Value → Shared → Prop), vs[i]? = some v → J i ys nx → OffC [I] C D nx → C ≠ I → D ≠ I → C ≠ D → C ≠ l → C ≠ L → h₀.get? C = none → Fr h₀ L h m → h.Ns C mc → News h₀ L h ((I, oI) :: (l, listOf vs.toArray c) :: (D, lst ys) :: nx) →
        wpAny (model prog w) A (assign target (compEnvC scope cl C env) v) (fun _ s₃ => tests prog w A ifs (compEnvC scope cl C env) (fun ok s₄ => if ok = true then wpAny (model prog w) A (eval elt (compEnvC scope cl C env)) (fun y s₅ => CmpEnd h₀ L m s₁ [(I, oI), (l, listOf vs.toArray c)] [I] C D ys (J (i + 1) (ys ++ [y])) s₅) E' s₄
          else CmpEnd h₀ L m s₁ [(I, oI), (l, listOf vs.toArray c)] [I] C D ys (J (i + 1) ys) s₄) E' s₃) E' { s₁ with heap := h, toks := tk }) →
      (∀ D h tk ys nx, Fr h₀ L h m → News h₀ L h ((D, lst ys) :: nx) → (∀ p ∈ nx, p.1 ≠ D) → J vs.length ys nx → Q (.ref D) { s₁ with heap := h, toks := tk }) → SrcL prog w A h₀ L m env target elt ifs scope cl Q xv s₁
/-- the words of a turn for a list as the source -/
theorem ListComp_list {target elt iter : Expr} {ifs : List Expr} {scope : Scope} {pos : Pos} {cl : List (Str × Addr)} {Q : Value → Shared → Prop} (hh : A.handled = none)
    (hclos : closureFor scope env = pure cl) (hcell : ∀ y ∈ scope.names, y.2 ≠ .cell) (hkind : scope.kind = .function) (hnames : ∀ y ∈ scope.names, y.2 = .local → scope.names.lookup y.1 = some .local)
    (h : wpAny (model prog w) A (eval iter env) (SrcL prog w A h₀ L m env target elt ifs scope cl Q) E s)
    (hs : ∀ x, foldedSetIterable iter env x = pure x)
    (hgo : ∀ (I : Addr) (l : Addr) (v : Value) (i : Nat) (s : Shared) (Q : Unit → Shared → Prop) (E : Value → Shared → Prop), s.heap.IsListIter I l i → Q () s → wpAny (model prog w) A (letOwnedTupleGo target (.ref I) v) Q E s) :
    wpAny (model prog w) A (eval (.ListComp elt [⟨target, iter, ifs, 0⟩] scope pos) env) Q E s := by
  rw [eval_ListComp]
  refine wpAny_comprehension_free (use := none) rfl hs hclos hkind hnames (wpAny_mono h (fun xv s₁ h₁ => ?_) fun _ _ e => e)
  obtain ⟨l, vs, c, news, J, rfl, F, N, hm, hz, h0, step, fin⟩ := h₁
  have hax := N _ hm
  have hlt : l < s₁.heap.objs.size := Heap.lt_size hax.1
  have hls : s₁.heap.IsList l vs.toArray := ⟨_, hax.1, rfl, c, rfl⟩
  refine wpAny_pyIter_list hls ?_
  have WL := Walks.list (prog := prog) (w := w) (A := A) hh s₁.heap.objs.size l (Nat.ne_of_lt hlt) vs.toArray
  have W := KTurns.ofWalks (target := target) WL fun i v s Q E st q => hgo _ _ v _ s Q E st.1 q
  rw [List.size_toArray] at W
  have up : ∀ b o, s₁.heap.get? b = some o → (s₁.heap.push { cls := .type "list_iterator", data := .fields #[.ref l, .int 0 0] }).get? b = some o := fun b o e => Heap.get?_push_of_some _ e
  have st0 : (fun i (h : Heap) => h.IsListIter s₁.heap.objs.size l i ∧ h.IsList l vs.toArray) 0 (s₁.heap.push { cls := .type "list_iterator", data := .fields #[.ref l, .int 0 0] }) := ⟨⟨_, Heap.get?_push_size _ rfl, rfl, rfl⟩, hls.at fun o e => up _ o e⟩
  refine cmp_block (s := { s₁ with heap := s₁.heap.push { cls := .type "list_iterator", data := .fields #[.ref l, .int 0 0] } }) W (fun s Q E st q => WL.self 0 s Q E st q) hz hcell hkind st0 (fun b hb => ?_) (fun hb => ?_) (fun b hb => ?_)
    (KeepJ (l, listOf vs.toArray c) J) (F.keeps up) (N.grown up) (fun p hp hI => ?_) ⟨news, hm, fun _ h => h, h0⟩ ?_ ?_
  · show b < (s₁.heap.push _).objs.size
    rw [Heap.size_push]
    exact fa_cons (p := fun b : Nat => b < s₁.heap.objs.size + 1) (Nat.lt_succ_self _) (fa_cons (Nat.lt_succ_of_lt hlt) fa_nil) b hb
  · exact fa_not (fa_cons (Nat.ne_of_gt F.ns.lt) (fa_cons hax.2.1 fa_nil)) hb
  · rw [List.mem_singleton.mp hb]; exact next_is_new F
  · exact absurd (Heap.lt_size (N p hp).1) ((List.mem_singleton.mp hI) ▸ Nat.lt_irrefl _)
  · rintro C D i v ys nw h tk own mc E' hCf hDf hCD hCL hC₀ hi hP ⟨nx, hm1, hnx, hJ⟩ off hown hall st F₁ C₁ N₁
    refine Exists.elim st.1 fun oI eI => ?_
    have hIown : (s₁.heap.objs.size, oI) ∈ own := hall _ mm0 (next_is_new F) _ eI.1
    have Nown : ∀ p ∈ own, p ∈ [(s₁.heap.objs.size, oI), (l, listOf vs.toArray c)] := own_sub hown (fun p hp => (N₁ _ (List.mem_append_left _ hp)).1) (fa_cons (ent9 eI.1 mm0) (fa_cons (ent9 (N₁ _ (List.mem_append_right _ (List.mem_cons_of_mem _ hm1))).1 mm1) fa_nil))
    have fin : ∀ ys' ys'' s₅, CmpEnd h₀ L m s₁ [(s₁.heap.objs.size, oI), (l, listOf vs.toArray c)] [s₁.heap.objs.size] C D ys' (J (i + 1) ys'') s₅ →
        CmpEnd h₀ L m { s₁ with heap := s₁.heap.push { cls := .type "list_iterator", data := .fields #[.ref l, .int 0 0] } } own [s₁.heap.objs.size] C D ys' (KeepJ (l, listOf vs.toArray c) J (i + 1) ys'') s₅ := by
      rintro ys' ys'' s₅ ⟨h', tk', mc', nx', rfl, F', C', N', off', hJ'⟩
      exact ⟨h', tk', mc', (l, listOf vs.toArray c) :: nx', rfl, F', C', news_sub9 N' (fa_app (sb_left Nown) (fa_cons (List.mem_append_right _ mm0) (fa_cons (List.mem_append_left _ mm1) (sb_right (sb_tail sb_refl))))),
        fa_cons ⟨fun q => Nat.ne_of_lt hlt (List.mem_singleton.mp q), (off _ hm1).2⟩ off', ⟨nx', mm0, sb_tail sb_refl, hJ'⟩⟩
    have hCf' := fun b (hb : b ∈ [s₁.heap.objs.size, l]) (q : C = b) => hCf (q ▸ hb)
    refine wpAny_mono (step C D s₁.heap.objs.size i v ys nx h tk oI mc E' (by simpa using hP) hJ (fun p hp => off p (hnx p hp)) (hCf' _ mm0) (fun q => hDf (q ▸ mm0)) hCD (hCf' _ mm1) hCL hC₀ F₁ C₁
      (news_sub9 N₁ (fa_cons (List.mem_append_left _ hIown) (fa_cons (List.mem_append_right _ (List.mem_cons_of_mem _ hm1)) (fa_cons (List.mem_append_right _ mm0) (sb_right (sb_tail hnx))))))) (fun _ s₃ h₃ => wpAny_mono h₃ (fun ok s₄ h₄ => ?_) fun _ _ e => e) fun _ _ e => e
    match ok, h₄ with
    | false, h₄ => exact fin ys ys s₄ h₄
    | true, h₄ => exact wpAny_mono h₄ (fun y s₅ h₅ => fin ys (ys ++ [y]) s₅ h₅) fun _ _ e => e
  · rintro D h tk ys nw F' N' off' ⟨nx, -, hnx, hJ⟩
    exact fin D h tk ys nx F' (news_sub9 N' (fa_cons mm0 (sb_tail hnx))) (fun p hp => off' p (hnx p hp)) hJ
end

-- part CmpF
-- needs Cmp
section
open PyProof.Rows.LCg
variable {prog : Program} {w : World} {A : Around} {E : Value → Shared → Prop} {s : Shared} {h₀ : Heap} {L : Addr} {m : Str → Option Value} {env : Env}
theorem cstore {x : Str} {v : Value} {scope : Scope} {cl : List (Str × Addr)} {C : Addr} {mc : Str → Option Value} {news : List (Addr × Obj)} {Q : Unit → Shared → Prop} {px : Pos} (hkind : scope.kind = .function) (hx : scope.names.lookup x = some .local) (F : Fr h₀ L s.heap m) (hC : s.heap.Ns C mc) (N : News h₀ L s.heap news) (off : ∀ p ∈ news, p.1 ≠ C) (hCL : C ≠ L) (hC₀ : h₀.get? C = none)
    (h : ∀ h' tk, Fr h₀ L h' m → h'.Ns C (fun q => if q = x then some v else mc q) → News h₀ L h' news → Q () { s with heap := h', toks := tk }) : wpAny (model prog w) A (assign (.Name x px) (compEnvC scope cl C env) v) Q E s :=
  wpAny_assign_Name (wpAny_storeName_local (env := compEnvC scope cl C env) (lookup_relabel_local hx) hC (fun h' hn hs => h h' _ (F.change hs hCL hC₀) hn fun p hp => ⟨hs.extBut _ _ (off p hp) (N p hp).1, (N p hp).2⟩) (by simp [compEnvC, relabel, hkind]))
theorem cunpack {elts : List Expr} {kk : Nat} {tp : Pos} {t : Addr} {items : List Value} {n : Nat} {env' : Env} {C : Addr} {mc : Str → Option Value} {news : List (Addr × Obj)} {Q : Unit → Shared → Prop} (hh : A.handled = none) (hm : (t, tupObj items n) ∈ news) (F : Fr h₀ L s.heap m) (hC : s.heap.Ns C mc) (N : News h₀ L s.heap news)
    (hn : (assignEach elts env').length = items.length) (hstar : (assignEach elts env').findIdx? (·.1) = none)
    (h : ∀ h', Fr h₀ L h' m → h'.Ns C mc → News h₀ L h' news → wpAny (model prog w) A (assignInOrder ((assignEach elts env').map (·.2)) items) Q E { s with heap := h' }) : wpAny (model prog w) A (assign (.Tuple elts kk tp) env' (.ref t)) Q E s :=
  assign_Tuple_tuple hh (News.isTup N hm) (by simpa using hn) hstar fun h' he =>
    have up : ∀ b o, s.heap.get? b = some o → h'.get? b = some o := fun b o e => he b o (Nat.ne_of_lt (Heap.lt_size e)) e
    h h' (F.keeps up) (hC.at' fun o e => up _ _ e) (N.grown up)
inductive FstJ (news : List (Addr × Obj)) (ys : List Value) (i : Nat) (zs : List Value) (nx : List (Addr × Obj)) : Prop
  | mk : nx = news → zs = ys.take i → FstJ news ys i zs nx
inductive SrcF (h₀ : Heap) (L : Addr) (m : Str → Option Value) (Q : Value → Shared → Prop) (xv : Value) (s₁ : Shared) : Prop
  | mk (l : Addr) (vs ys : List Value) (k : Nat) (news : List (Addr × Obj)) :
    xv = .ref l →
    Fr h₀ L s₁.heap m →
    News h₀ L s₁.heap news →
    (l, listOf vs.toArray k) ∈ news →
    vs.length ≤ sizeLine →
    ys.length = vs.length →
    (∀ (i : Nat) (v : Value), vs[i]? = some v → Item3 news ys i v) →
    (∀ D h tk, Fr h₀ L h m → News h₀ L h ((D, lst ys) :: news) → (∀ p ∈ news, p.1 ≠ D) → Q (.ref D) { s₁ with heap := h, toks := tk }) →
    SrcF h₀ L m Q xv s₁
theorem comp_first {a b c : Str} {pa pb pc p0 tp : Pos} {kk : Nat} {iter : Expr} {scope : Scope} {pos : Pos} {cl : List (Str × Addr)} {Q : Value → Shared → Prop} (_F₀ : Fr h₀ L s.heap m) (hh : A.handled = none)
    (hclos : closureFor scope env = pure cl) (hcell : ∀ y ∈ scope.names, y.2 ≠ .cell) (hkind : scope.kind = .function) (hnames : ∀ y ∈ scope.names, y.2 = .local → scope.names.lookup y.1 = some .local)
    (ha : scope.names.lookup a = some .local) (hb : scope.names.lookup b = some .local) (hc : scope.names.lookup c = some .local) (hab : a ≠ b) (hac : a ≠ c) (hd : (a == ("__debug__" : Str)) = false)
    (h : wpAny (model prog w) A (eval iter env) (SrcF h₀ L m Q) E s)
    (hs : ∀ x, foldedSetIterable iter env x = pure x) :
    wpAny (model prog w) A (eval (.ListComp (.Name a p0) [⟨.Tuple [.Name a pa, .Name b pb, .Name c pc] kk tp, iter, [], 0⟩] scope pos) env) Q E s := by
  refine ListComp_list (m := m) (L := L) (h₀ := h₀) hh hclos hcell hkind hnames (wpAny_mono h (fun xv s₁ h₁ => ?_) fun _ _ e => e) hs fun _ _ _ _ _ _ _ st q => letGo_listiter st q
  obtain ⟨l, vs, ys, k, news, rfl, F, N, hm, hz, hl, hv, fin⟩ := h₁
  refine ⟨l, vs, k, news, FstJ news ys, rfl, F, N, hm, hz, .mk rfl (by simp), ?_, ?_⟩
  · rintro C D I i v zs nx h tk oI mc E' hi ⟨rfl, rfl⟩ off hCI hDI hCD hCl hCL hC₀ F₁ C₁ N₁
    obtain ⟨t, x, y, z, n, rfl, ht, hx⟩ := hv i v hi
    have offC : ∀ p ∈ (I, oI) :: (l, listOf vs.toArray k) :: (D, lst (ys.take i)) :: nx, p.1 ≠ C := fa_cons (Ne.symm hCI) (fa_cons (Ne.symm hCl) (fa_cons (Ne.symm hCD) fun p hp => (off p hp).2.1))
    refine cunpack hh (List.mem_cons_of_mem _ (List.mem_cons_of_mem _ (List.mem_cons_of_mem _ ht))) F₁ C₁ N₁ rfl rfl fun h₂ F₂ C₂ N₂ => ?_
    refine assignInOrder_cons (cstore hkind ha F₂ C₂ N₂ offC hCL hC₀ fun h₃ tk₃ F₃ C₃ N₃ => assignInOrder_cons (cstore hkind hb F₃ C₃ N₃ offC hCL hC₀ fun h₄ tk₄ F₄ C₄ N₄ => assignInOrder_cons (cstore hkind hc F₄ C₄ N₄ offC hCL hC₀ fun h₅ tk₅ F₅ C₅ N₅ => assignInOrder_nil (wpAny_tests_nil ?_))))
    rw [if_pos rfl]
    refine ldVarK (env := env) C₅ (v := x) (by simp [hab, hac]) ?_ hkind (lookup_relabel_local ha) hd
    exact ⟨h₅, tk₅, _, nx, rfl, F₅, C₅, N₅, off, .mk rfl (by rw [List.take_add_one, hx]; rfl)⟩
  · rintro D h tk zs nx F' N' off' ⟨rfl, rfl⟩
    rw [← hl, List.take_length] at N'
    exact fin D h tk F' N' off'
end

-- part CmpZ
-- needs CmpF
section
open PyProof.Rows.LCg
variable {prog : Program} {w : World} {A : Around} {E : Value → Shared → Prop} {s : Shared} {h₀ : Heap} {L : Addr} {m : Str → Option Value} {env : Env}
inductive ZEnd1 (h₀ : Heap) (L : Addr) (m : Str → Option Value) (g : Array GenState) (d : Drawn) (o : OsState) (own : List (Addr × Obj)) (wr : List Addr) (C : Addr) (oC : Obj) (D : Addr) (ys : List Value) (J : List (Addr × Obj) → Prop) (s' : Shared) : Prop
  | mk : ∀ (h : Heap), ∀ (tk : Nat), ∀ (nx : List (Addr × Obj)), s' = ⟨h, g, d, tk, o⟩ → Fr h₀ L h m → News h₀ L h ((C, oC) :: (D, lst ys) :: (own ++ nx)) → OffC wr C D nx → J nx → ZEnd1 h₀ L m g d o own wr C oC D ys J s'
noncomputable def ZEnd (h₀ : Heap) (L : Addr) (m : Str → Option Value) (s : Shared) (own : List (Addr × Obj)) (wr : List Addr) (C : Addr) (oC : Obj) (D : Addr) (ys : List Value) (J : List (Addr × Obj) → Prop) (s' : Shared) : Prop := ZEnd1 h₀ L m s.gens s.drawn s.os own wr C oC D ys J s'
/-- a comprehension with one test over zip of two tuples -/
inductive SrcZ (prog : Program) (w : World) (A : Around) (h₀ : Heap) (L : Addr) (m : Str → Option Value) (env : Env) (ct elt : Expr) (a b : Str) (scope : Scope) (cl : List (Str × Addr)) (Q : Value → Shared → Prop) (xv : Value) (s₁ : Shared) : Prop
  | mk (n t1 t2 : Nat) (xs ys : List Value) (n1 n2 : Nat) (news : List (Addr × Obj)) (J : Nat → List Value → List (Addr × Obj) → Prop) :
    xv = .ref (n + 4) →
    Fr h₀ L s₁.heap m →
    News h₀ L s₁.heap news →
    ZipK h₀ L n t1 t2 xs ys s₁.heap →
    (∀ p ∈ news, p.1 < n) →
    (t1, tupObj xs n1) ∈ news →
    (t2, tupObj ys n2) ∈ news →
    xs.length = ys.length →
    xs.length ≤ sizeLine →
    J 0 [] news →
    (∀ C oC D i x y zs nx own h tk mc (E' : Value → Shared → Prop), xs[i]? = some x → ys[i]? = some y → J i zs nx → NsObj oC mc → mc a = some x → mc b = some y → OffC [n + 4, n + 3, n, n + 1] C D nx → (∀ p ∈ own, n ≤ p.1 ∨ p = (t1, tupObj xs n1) ∨ p = (t2, tupObj ys n2)) → Fr h₀ L h m → News h₀ L h ((C, oC) :: (D, lst zs) :: (own ++ nx)) → wpAny (model prog w) A (isTrue ct (compEnvC scope cl C env) (eval ct (compEnvC scope cl C env))) (fun ok s₄ => if ok = true then wpAny (model prog w) A (eval elt (compEnvC scope cl C env)) (fun y s₅ => ZEnd h₀ L m s₁ own [n + 4, n + 3, n, n + 1] C oC D zs (J (i + 1) (zs ++ [y])) s₅) E' s₄ else ZEnd h₀ L m s₁ own [n + 4, n + 3, n, n + 1] C oC D zs (J (i + 1) zs) s₄) E' { s₁ with heap := h, toks := tk }) →
    (∀ D h tk zs nx, Fr h₀ L h m → News h₀ L h ((D, lst zs) :: nx) → (∀ p ∈ nx, p.1 ≠ D) → J xs.length zs nx → Q (.ref D) { s₁ with heap := h, toks := tk }) →
    SrcZ prog w A h₀ L m env ct elt a b scope cl Q xv s₁
inductive KeepJ2 (x y : Addr × Obj) (J : Nat → List Value → List (Addr × Obj) → Prop) (i : Nat) (zs : List Value) (nw : List (Addr × Obj)) : Prop
  | mk (nx : List (Addr × Obj)) : x ∈ nw → y ∈ nw → (∀ p ∈ nx, p ∈ nw) → J i zs nx → KeepJ2 x y J i zs nw
theorem comp_zip {a b : Str} {pa pb tp : Pos} {kk : Nat} {ct elt iter : Expr} {scope : Scope} {pos : Pos} {cl : List (Str × Addr)} {Q : Value → Shared → Prop} (_F₀ : Fr h₀ L s.heap m) (hh : A.handled = none)
    (hclos : closureFor scope env = pure cl) (hcell : ∀ y ∈ scope.names, y.2 ≠ .cell) (hkind : scope.kind = .function) (hnames : ∀ y ∈ scope.names, y.2 = .local → scope.names.lookup y.1 = some .local)
    (ha : scope.names.lookup a = some .local) (hb : scope.names.lookup b = some .local) (hab : a ≠ b)
    (h : wpAny (model prog w) A (eval iter env) (SrcZ prog w A h₀ L m env ct elt a b scope cl Q) E s)
    (hs : ∀ x, foldedSetIterable iter env x = pure x) :
    wpAny (model prog w) A (eval (.ListComp elt [⟨.Tuple [.Name a pa, .Name b pb] kk tp, iter, [ct], 0⟩] scope pos) env) Q E s := by
  rw [eval_ListComp]
  refine wpAny_comprehension_free (use := none) rfl hs hclos hkind hnames (wpAny_mono h (fun xv s₁ h₁ => ?_) fun _ _ e => e)
  obtain ⟨n, t1, t2, xs, ys, n1, n2, news, J, rfl, F, N, Z, hn, hm1, hm2, he, hz, h0, step, fin⟩ := h₁
  have l1 : @LT.lt Nat _ t1 n := hn _ hm1
  have l2 : @LT.lt Nat _ t2 n := hn _ hm2
  have hL : @LT.lt Nat _ L n := Z.Ln
  refine wpAny_pyIter_zip Z.Z.z ?_
  have K := zip_turns (w := w) (prog := prog) (elts := [.Name a pa, .Name b pb]) (tp := tp) (kk := kk) hh Z.O he l1 l2
  have far : ∀ b : Nat, b < n → b ∉ [n + 4, n + 3, n, n + 1] := fun b hb => fa_not (fa_cons (Nat.ne_of_gt (Nat.lt_add_right 4 hb)) (fa_cons (Nat.ne_of_gt (Nat.lt_add_right 3 hb)) (fa_cons (Nat.ne_of_gt hb) (fa_cons (Nat.ne_of_gt (Nat.lt_add_right 1 hb)) fa_nil))))
  have old1 : h₀.get? t1 = none := (N _ hm1).2.2
  have old2 : h₀.get? t2 = none := (N _ hm2).2.2
  refine cmp_block K (fun s Q E st q => wpAny_pyIter_zip st.z q) hz hcell hkind Z.Z ?_ ?_ (fa_cons (Z.old 4) (fa_cons (Z.old 3) (fa_cons (Z.old 0) (fa_cons (Z.old 1) fa_nil))))
    (KeepJ2 (t1, tupObj xs n1) (t2, tupObj ys n2) J) F N (fun p hp => far _ (hn p hp)) ⟨news, hm1, hm2, sb_refl, h0⟩ ?_ ?_
  · have g : ∀ k, k < 5 → n + k < s₁.heap.objs.size := fun k hk => by rw [Z.sz]; exact Nat.add_lt_add_left hk n
    have u : ∀ b : Nat, b < n → b < s₁.heap.objs.size := fun b hb => Nat.lt_trans hb (g 0 (by decide))
    exact fa_cons (g 4 (by decide)) (fa_cons (g 2 (by decide)) (fa_cons (g 3 (by decide)) (fa_cons (g 0 (by decide)) (fa_cons (g 1 (by decide)) (fa_cons (u _ l1) (fa_cons (u _ l2) fa_nil))))))
  · have g : ∀ k, n + k ≠ L := fun k => Nat.ne_of_gt (Nat.lt_add_right k hL)
    exact fa_not (fa_cons (g 4) (fa_cons (g 2) (fa_cons (g 3) (fa_cons (g 0) (fa_cons (g 1) (fa_cons (N _ hm1).2.1 (fa_cons (N _ hm2).2.1 fa_nil)))))))
  · rintro C D i v zs nw h tk own mc E' hCf hDf hCD hCL hC₀ hi ⟨T, x, y, rfl, hx, hy, hT⟩ ⟨nx, hm1, hm2, hnx, hJ⟩ off hown hall st F₁ C₁ N₁
    refine assign_Tuple_tuple hh hT rfl rfl fun h₅ he5 => ?_
    have up : ∀ b o, h.get? b = some o → h₅.get? b = some o := fun b o e => he5 b o (Nat.ne_of_lt (Heap.lt_size e)) e
    have N₅ := N₁.grown up
    have offC : ∀ p ∈ own ++ (D, lst zs) :: nw, p.1 ≠ C := fa_app (fun p hp q => hCf (q ▸ hown p hp)) (fa_cons (Ne.symm hCD) fun p hp => (off p hp).2.1)
    refine assignInOrder_cons (cstore hkind ha (F₁.keeps up) (C₁.at' fun o e => up _ _ e) N₅ offC hCL hC₀ fun h₃ tk₃ F₃ C₃ N₃ => assignInOrder_cons (cstore hkind hb F₃ C₃ N₃ offC hCL hC₀ fun h₄ tk₄ F₄ C₄ N₄ => assignInOrder_nil ?_))
    refine Exists.elim (ns_obj C₄) fun oC xC => ?_
    have m1' : (t1, tupObj xs n1) ∈ own ++ (D, lst zs) :: nw := List.mem_append_right _ (List.mem_cons_of_mem _ hm1)
    have m2' : (t2, tupObj ys n2) ∈ own ++ (D, lst zs) :: nw := List.mem_append_right _ (List.mem_cons_of_mem _ hm2)
    have sb : ∀ p ∈ (D, lst zs) :: (own ++ nx), p ∈ own ++ (D, lst zs) :: nw := fa_cons (List.mem_append_right _ mm0) (fa_app (sb_left sb_refl) (sb_right (sb_tail hnx)))
    have own9 : ∀ p ∈ own, n ≤ p.1 ∨ p = (t1, tupObj xs n1) ∨ p = (t2, tupObj ys n2) := fun p hp => by
      have big : ∀ k o, h.get? (n + k) = some o → n ≤ n + k ∨ (n + k, o) = (t1, tupObj xs n1) ∨ (n + k, o) = (t2, tupObj ys n2) := fun k o _ => .inl (Nat.le_add_right n k)
      exact fa_cons (p := fun b => ∀ o, h.get? b = some o → n ≤ b ∨ (b, o) = (t1, tupObj xs n1) ∨ (b, o) = (t2, tupObj ys n2)) (big 4) (fa_cons (big 2) (fa_cons (big 3) (fa_cons (big 0) (fa_cons (big 1) (fa_cons (fun o q => .inr (.inl (congrArg (Prod.mk _) (Option.some.inj (q.symm.trans (N₁ _ m1').1)))))
        (fa_cons (fun o q => .inr (.inr (congrArg (Prod.mk _) (Option.some.inj (q.symm.trans (N₁ _ m2').1))))) fa_nil)))))) p.1 (hown p hp) p.2 (N₁ _ (List.mem_append_left _ hp)).1
    have fin : ∀ zs' s₅, ZEnd h₀ L m s₁ own [n + 4, n + 3, n, n + 1] C oC D zs (J (i + 1) zs') s₅ → CmpEnd h₀ L m s₁ own [n + 4, n + 3, n, n + 1] C D zs (KeepJ2 (t1, tupObj xs n1) (t2, tupObj ys n2) J (i + 1) zs') s₅ := by
      rintro zs' s₅ ⟨h', tk', nx', rfl, F', N', off', hJ'⟩
      have o1 : (t1, tupObj xs n1) ∈ own := hall t1 (mmt4 mm1) old1 _ (N₁ _ m1').1
      have o2 : (t2, tupObj ys n2) ∈ own := hall t2 (mmt4 mm2) old2 _ (N₁ _ m2').1
      exact ⟨h', tk', _, (t1, tupObj xs n1) :: (t2, tupObj ys n2) :: nx', rfl, F', xC.2.ns (N' _ mm0).1, news_sub9 N' (fa_app (sb_tail2 (sb_left sb_refl)) (fa_cons mm1 (fa_cons (mmt2 (List.mem_append_left _ o1)) (fa_cons (mmt2 (List.mem_append_left _ o2)) (sb_tail2 (sb_right sb_refl)))))),
        fa_cons ⟨far _ l1, (off _ hm1).2⟩ (fa_cons ⟨far _ l2, (off _ hm2).2⟩ off'), ⟨nx', mm0, mm1, sb_tail2 sb_refl, hJ'⟩⟩
    refine wpAny_tests_one (wpAny_mono (step C oC D i x y zs nx own h₄ tk₄ _ E' hx hy hJ xC.2 (by simp [hab]) (by simp) (fun p hp => off p (hnx p hp)) own9 F₄ (fa_cons ⟨xC.1, hCL, hC₀⟩ (news_sub9 N₄ sb))) (fun ok s₄ h₄ => ?_) fun _ _ e => e)
    match ok, h₄ with
    | false, h₄ => exact fin zs s₄ h₄
    | true, h₄ => exact wpAny_mono h₄ (fun y s₅ h₅ => fin (zs ++ [y]) s₅ h₅) fun _ _ e => e
  · rintro D h tk zs nw F' N' off' ⟨nx, -, -, hnx, hJ⟩
    exact fin D h tk zs nx F' (news_sub9 N' (fa_cons mm0 (sb_tail hnx))) (fun p hp => off' p (hnx p hp)) hJ
end

-- part CT
-- needs CmpF
section
open PyProof.Rows.LCg PyProof.V
variable {prog : Program} {w : World} {A : Around} {E : Value → Shared → Prop} {s : Shared} {h₀ : Heap} {L : Addr} {m : Str → Option Value} {env : Env} {R : Result → Shared → Prop}
variable {elt t1 i1 t2 i2 : Expr} {scope : Scope} {pos : Pos}
theorem turn20 (it acc : Value) (env : Env) : compTurn (.ListComp elt [⟨t1, i1, [], 0⟩, ⟨t2, i2, [], 0⟩] scope pos) 0 it acc env = (do
      standAt i1.pos
      match ← pyNext it with
      | none => pure (.done .next)
      | some v =>
        letOwnedTupleGo t1 it v
        assign t1 env v
        let x ← eval i2 env
        standAt i2.pos
        let x ← foldedSetIterable i2 env x
        let _ ← runOwn (.compStart (.ListComp elt [⟨t1, i1, [], 0⟩, ⟨t2, i2, [], 0⟩] scope pos) 1 (← holding [x] (pyIter x)) acc env) env
        again (.compLoop (.ListComp elt [⟨t1, i1, [], 0⟩, ⟨t2, i2, [], 0⟩] scope pos) 0 it acc env)) := by rfl
theorem turn21 (it acc : Value) (env : Env) : compTurn (.ListComp elt [⟨t1, i1, [], 0⟩, ⟨t2, i2, [], 0⟩] scope pos) 1 it acc env = (do
      standAt i2.pos
      match ← pyNext it with
      | none => pure (.done .next)
      | some v =>
        letOwnedTupleGo t2 it v
        assign t2 env v
        (do let _ ← call (.builtin "list.append") [acc, ← eval elt env])
        again (.compLoop (.ListComp elt [⟨t1, i1, [], 0⟩, ⟨t2, i2, [], 0⟩] scope pos) 1 it acc env)) := by rfl
theorem start21 {it acc : Value} {env : Env}
    (h0 : codeAny (model prog w) A (.compLoop (.ListComp elt [⟨t1, i1, [], 0⟩, ⟨t2, i2, [], 0⟩] scope pos) 1 it acc env) R s)
    (h : wpAny (model prog w) A (pyIter it) (fun it' s' => codeAny (model prog w) A (.compLoop (.ListComp elt [⟨t1, i1, [], 0⟩, ⟨t2, i2, [], 0⟩] scope pos) 1 it' acc env) R s')
      (notedBy (model prog w) A env fun x s' => R (.error x) s') s) :
    codeAny (model prog w) A (.compStart (.ListComp elt [⟨t1, i1, [], 0⟩, ⟨t2, i2, [], 0⟩] scope pos) 1 it acc env) R s := by
  refine codeAny_of_tree ?_
  show wpAny _ _ ((compStart (.ListComp elt [⟨t1, i1, [], 0⟩, ⟨t2, i2, [], 0⟩] scope pos) 1 it acc env).onRaise (fun x => do noteFrame x env; standAt theWindowsPlace)) _ _ s
  refine wpAny_notedAt ?_
  unfold compStart
  show wpAny _ _ (ask >>= _) _ _ s
  refine wpAny_bind (wpAny_askSetting (wpAny_ite ?_))
  split
  · first
      | exact wpAny_bind (wpAny_pure (wpAny_pure (And.intro rfl h0)))
      | exact wpAny_pure (And.intro rfl h0)
  · first
      | exact wpAny_bind (wpAny_rule (wpAny_bind (wpAny_standAt (wpAny_bind (wpAny_mono h (fun it' s' h' => wpAny_pure (And.intro rfl h')) fun _ _ x => x)))))
      | (refine wpAny_bind (wpAny_rule ?_); show wpAny _ _ (standAt i2.pos >>= _) _ _ s; exact wpAny_bind (wpAny_standAt (wpAny_bind (wpAny_mono h (fun it' s' h' => wpAny_pure (And.intro rfl h')) fun _ _ x => x))))
inductive CtJ (h₀ : Heap) (g : Array GenState) (d : Drawn) (o : OsState) (I D aa C : Addr) (vs : List Value) (k : Nat) (s' : Shared) : Prop
  | mk (h' : Heap) (tk : Nat) (mc : Str → Option Value) (i : Nat) : s' = ⟨h', g, d, tk, o⟩ → i ≤ vs.length → k = vs.length + 1 - i → h'.IsTupleIter I aa i → h'.IsTuple aa vs.toArray → h'.get? D = some (lst (vs.take i)) → h'.Ns C mc →
    (∀ b o, b ≠ C → b ≠ I → b ≠ D → h₀.get? b = some o → h'.get? b = some o) → CtJ h₀ g d o I D aa C vs k s'
theorem loop21 {c : Str} {p0 pc : Pos} {cenv : Env} {I D aa : Addr} {vs : List Value} {mc : Str → Option Value} (hh : A.handled = none) (hx : cenv.kindOf c = some .local) (hk : cenv.scope.kind = .function) (hd : (c == ("__debug__" : Str)) = false)
    (d1 : I ≠ cenv.locals) (d2 : D ≠ I) (d3 : D ≠ cenv.locals) (d4 : aa ≠ I) (d5 : aa ≠ cenv.locals) (d6 : aa ≠ D) (hz : vs.length ≤ sizeLine)
    (hit : s.heap.IsTupleIter I aa 0) (ht : s.heap.IsTuple aa vs.toArray) (hD : s.heap.get? D = some (lst [])) (hn : s.heap.Ns cenv.locals mc)
    (hR : ∀ h' tk mc', h'.Ns cenv.locals mc' → h'.get? D = some (lst vs) → (∀ b o, b ≠ cenv.locals → b ≠ I → b ≠ D → s.heap.get? b = some o → h'.get? b = some o) → R (.ok .next) { s with heap := h', toks := tk }) :
    codeAny (model prog w) A (.compLoop (.ListComp (.Name c p0) [⟨t1, i1, [], 0⟩, ⟨.Name c pc, i2, [], 0⟩] scope pos) 1 (.ref I) (.ref D) cenv) R s := by
  refine codeAny_loop rfl (CtJ s.heap s.gens s.drawn s.os I D aa cenv.locals vs) (fun k s' hI => ?_) (vs.length + 1) ⟨s.heap, s.toks, mc, 0, rfl, Nat.zero_le _, rfl, hit, ht, hD, hn, fun _ _ _ _ _ e => e⟩
  obtain ⟨h', tk, mc', i, rfl, hi, rfl, hit, ht, hD, hn, hk9⟩ := hI
  show wpAny _ A ((compTurn (.ListComp (.Name c p0) [⟨t1, i1, [], 0⟩, ⟨.Name c pc, i2, [], 0⟩] scope pos) 1 (.ref I) (.ref D) cenv).onRaise _) _ _ _
  rw [turn21]
  refine wpAny_noted (wpAny_bind (wpAny_standAt (wpAny_bind ?_)))
  by_cases hlt : i < vs.length
  · have hv : vs[i]? = some vs[i] := List.getElem?_eq_getElem hlt
    refine wpAny_pyNext_tuple_item hit ht (x := vs[i]) (by simpa using hv) fun h₁ hit₁ hs₁ => ?_
    refine wpAny_bind (letGo_tupleiter hit₁ (wpAny_bind (wpAny_assign_Name (wpAny_storeName_local hx (hn.sameBut hs₁ (Ne.symm d1)) (fun h₂ hn₂ hs₂ => ?_) (by rw [hk]; rfl)))))
    refine wpAny_bind (wpAny_bind (wpAny_Name (wpAny_loadName_local hk hx hn₂ (v := vs[i]) (by simp) (wpAny_bind ?_)) hd))
    have up : ∀ b o, b ≠ cenv.locals → b ≠ I → h'.get? b = some o → h₂.get? b = some o := fun b o hbC hbI e => hs₂.extBut b o hbC (hs₁.extBut b o hbI e)
    refine append_at (hsz := by show (vs.take i).toArray.size ≤ sizeLine; rw [List.size_toArray, List.length_take]; omega) (up D _ d3 d2 hD) fun h₃ hs₃ hD₃ => ?_
    refine wpAny_pure (wpAny_pure ⟨rfl, vs.length + 1 - (i + 1), by omega, h₃, _, _, i + 1, rfl, hlt, rfl, (hit₁.extBut hs₂.extBut d1).extBut hs₃.extBut (Ne.symm d2), (ht.at fun o e => up aa o d5 d4 e).extBut hs₃.extBut d6, ?_, hn₂.sameBut hs₃ (Ne.symm d3), fun b o hbC hbI hbD e => hs₃.extBut b o hbD (up b o hbC hbI (hk9 b o hbC hbI hbD e))⟩)
    rw [List.take_add_one, hv]
    exact hD₃.trans (congrArg some (lst_snoc _ _))
  · have hin : i = vs.length := Nat.le_antisymm hi (Nat.not_lt.mp hlt)
    subst hin
    refine wpAny_pyNext_tuple_end hh hit ht (by simp) fun h₁ he₁ => wpAny_pure ?_
    rw [List.take_length] at hD
    exact hR h₁ tk mc' (hn.extBut he₁ (Ne.symm d1)) (he₁ D _ d2 hD) fun b o hbC hbI hbD e => he₁ b o hbI (hk9 b o hbC hbI hbD e)
end
section
open PyProof.Rows.LCg PyProof.V
variable {prog : Program} {w : World} {A : Around} {E : Value → Shared → Prop} {s : Shared} {h₀ : Heap} {L : Addr} {m : Str → Option Value} {env : Env}
inductive SrcTwo (h₀ : Heap) (L : Addr) (m : Str → Option Value) (Q : Value → Shared → Prop) (xv : Value) (s₁ : Shared) : Prop
  | mk (l T aa : Addr) (x : Value) (vs : List Value) (k n1 n2 : Nat) (news : List (Addr × Obj)) :
    xv = .ref l →
    Fr h₀ L s₁.heap m →
    News h₀ L s₁.heap news →
    (l, listOf #[.ref T] k) ∈ news →
    (T, tupObj [x, .ref aa] n1) ∈ news →
    (aa, tupObj vs n2) ∈ news →
    vs.length ≤ sizeLine →
    (∀ D h tk, Fr h₀ L h m → News h₀ L h ((D, lst vs) :: news) → (∀ p ∈ news, p.1 < D) → Q (.ref D) { s₁ with heap := h, toks := tk }) →
    SrcTwo h₀ L m Q xv s₁
theorem comp_two {a b c : Str} {pa pb pc p0 p1 tp : Pos} {kk : Nat} {iter : Expr} {scope : Scope} {pos : Pos} {cl : List (Str × Addr)} {Q : Value → Shared → Prop} (_F₀ : Fr h₀ L s.heap m) (hh : A.handled = none)
    (hclos : closureFor scope env = pure cl) (hcell : ∀ y ∈ scope.names, y.2 ≠ .cell) (hkind : scope.kind = .function) (hnames : ∀ y ∈ scope.names, y.2 = .local → scope.names.lookup y.1 = some .local)
    (ha : scope.names.lookup a = some .local) (hb : scope.names.lookup b = some .local) (hc : scope.names.lookup c = some .local) (hab : a ≠ b) (hdb : (b == ("__debug__" : Str)) = false) (hdc : (c == ("__debug__" : Str)) = false)
    (h : wpAny (model prog w) A (eval iter env) (SrcTwo h₀ L m Q) E s)
    (hs : ∀ x, foldedSetIterable iter env x = pure x) :
    wpAny (model prog w) A (eval (.ListComp (.Name c p0) [⟨.Tuple [.Name a pa, .Name b pb] kk tp, iter, [], 0⟩, ⟨.Name c pc, .Name b p1, [], 0⟩] scope pos) env) Q E s := by
  rw [eval_ListComp]
  refine wpAny_comprehension_free (use := none) rfl hs hclos hkind hnames (wpAny_mono h (fun xv s₁ h₁ => ?_) fun _ _ e => e)
  obtain ⟨l, T, aa, x, vs, k, n1, n2, news, rfl, F, N, hm, hT, haa, hz, fin⟩ := h₁
  have hls : s₁.heap.IsList l #[.ref T] := ⟨_, (N _ hm).1, rfl, k, rfl⟩
  refine wpAny_pyIter_list hls ?_
  have hlt : l < s₁.heap.objs.size := Heap.lt_size (N _ hm).1
  have hTt : T < s₁.heap.objs.size := Heap.lt_size (N _ hT).1
  have hat : aa < s₁.heap.objs.size := Heap.lt_size (N _ haa).1
  have hLt : L < s₁.heap.objs.size := F.ns.lt
  generalize hI : s₁.heap.objs.size = I at hlt hTt hat hLt
  generalize hH1 : s₁.heap.push { cls := .type "list_iterator", data := .fields #[.ref l, .int 0 0] } = H1
  have up1 : ∀ b o, s₁.heap.get? b = some o → H1.get? b = some o := fun b o e => hH1 ▸ Heap.get?_push_of_some _ e
  have gI : H1.get? I = some { cls := .type "list_iterator", data := .fields #[.ref l, .int 0 0] } := by rw [← hH1, ← hI]; exact Heap.get?_push_size _ rfl
  have z1 : H1.objs.size = I + 1 := by rw [← hH1, Heap.size_push, hI]
  refine wpAny_newObj_type (wpAny_newFunctionEnv hcell (fun y hy => nomatch hy) (fun h₁ hC hs1 => ?_) hkind)
  dsimp only at hC hs1 ⊢
  generalize hH2 : H1.push { cls := .type "list", dict := none, data := .seq ([] : List Value).toArray } = H2 at hC hs1 ⊢
  have z2 : H2.objs.size = I + 2 := by rw [← hH2, Heap.size_push, z1]
  have gD : H2.get? (I + 1) = some (lst []) := by rw [← hH2, ← z1]; exact Heap.get?_push_size _ rfl
  have up2 : ∀ b o, H1.get? b = some o → H2.get? b = some o := fun b o e => hH2 ▸ Heap.get?_push_of_some _ e
  rw [z2] at hC hs1 ⊢
  have up3 : ∀ b o, b < I + 2 → H2.get? b = some o → h₁.get? b = some o := fun b o hb e => hs1.extBut b o (Nat.ne_of_lt hb) (Heap.get?_push_of_some _ e)
  have up : ∀ b o, s₁.heap.get? b = some o → h₁.get? b = some o := fun b o e => up3 b o (Nat.lt_of_lt_of_le (hI ▸ Heap.lt_size e) (Nat.le_add_right _ _)) (up2 b o (up1 b o e))
  have kI := up3 I _ (Nat.lt_add_of_pos_right (by decide)) (up2 I _ gI)
  have kD := up3 (I + 1) _ (Nat.lt_succ_self _) gD
  have old : ∀ b, I ≤ b → h₀.get? b = none := fun b hb => by
    cases e : h₀.get? b with
    | none => rfl
    | some o => exact absurd (Heap.lt_size (F.keep b o e)) (Nat.not_lt.mpr (hI ▸ hb))
  have nb : ∀ p ∈ news, p.1 < I := fun p hp => hI ▸ Heap.lt_size (N p hp).1
  rw [z1]
  clear hs1 up3 up2 up1 gI gD hH2 hH1 z1 z2
  have hkf : ∀ y : Str, scope.names.lookup y = some .local → (compEnvC scope cl (I + 2) env).kindOf y = some .local := fun y hy => lookup_relabel_local hy
  have hkp : (compEnvC scope cl (I + 2) env).scope.kind = .function := hkind
  have hcl9 : (compEnvC scope cl (I + 2) env).locals = I + 2 := rfl
  have go : ∀ t0, codeAny (model prog w) A (.compLoop (.ListComp (.Name c p0) [⟨.Tuple [.Name a pa, .Name b pb] kk tp, iter, [], 0⟩, ⟨.Name c pc, .Name b p1, [], 0⟩] scope pos) 0 (.ref I) (.ref (I + 1)) (compEnvC scope cl (I + 2) env)) (compPost (model prog w) A E none Q (.ref (I + 1)) (I + 2)) { s₁ with heap := h₁, toks := t0 } := by
    intro t0
    generalize compEnvC scope cl (I + 2) env = cenv at hkf hkp hcl9
    have hpp : (cenv.scope.kind == .class || (cenv.scope.kind == .module && cenv.locals != cenv.globals)) = false := by rw [hkp]; rfl
    have hIC : I ≠ cenv.locals := by rw [hcl9]; exact Nat.ne_of_lt (Nat.lt_add_of_pos_right (by decide))
    have hDC : I + 1 ≠ cenv.locals := by rw [hcl9]; exact Nat.ne_of_lt (Nat.lt_succ_self _)
    have hDI : I + 1 ≠ I := Nat.ne_of_gt (Nat.lt_succ_self _)
    rw [← hcl9] at hC ⊢
    have lC : ∀ b, b < I → b ≠ cenv.locals := fun b hb => by rw [hcl9]; exact Nat.ne_of_lt (Nat.lt_of_lt_of_le hb (Nat.le_add_right _ _))
    have hl1 : h₁.IsList l #[.ref T] := ⟨_, up _ _ (N _ hm).1, rfl, k, rfl⟩
    refine codeAny_of_tree ?_
    show wpAny _ A ((compTurn _ 0 (.ref I) (.ref (I + 1)) cenv).onRaise _) _ _ _
    rw [turn20]
    refine wpAny_noted (wpAny_bind (wpAny_standAt (wpAny_bind ?_)))
    refine wpAny_pyNext_list_item (i := 0) ⟨_, kI, rfl, rfl⟩ hl1 (x := .ref T) (by rfl) fun h₂ hit₂ hs₂ => ?_
    have up2 : ∀ b o, b ≠ I → h₁.get? b = some o → h₂.get? b = some o := fun b o hb e => hs₂.extBut b o hb e
    refine wpAny_bind (letGo_listiter hit₂ (wpAny_bind ?_))
    have hT2 : IsTup h₂ T #[x, .ref aa] := ⟨_, up2 _ _ (Nat.ne_of_lt hTt) (up _ _ (N _ hT).1), rfl, n1, rfl⟩
    refine assign_Tuple_tuple hh hT2 rfl rfl fun h₃ he3 => ?_
    have up3 : ∀ b o, h₂.get? b = some o → h₃.get? b = some o := fun b o e => he3 b o (Nat.ne_of_lt (Heap.lt_size e)) e
    refine assignInOrder_cons (wpAny_assign_Name (wpAny_storeName_local (hkf a ha) ((hC.sameBut hs₂ (Ne.symm hIC)).at' fun o e => up3 _ _ e) (fun h₄ hn₄ hs₄ => ?_) hpp))
    refine assignInOrder_cons (wpAny_assign_Name (wpAny_storeName_local (hkf b hb) hn₄ (fun h₅ hn₅ hs₅ => ?_) hpp))
    refine assignInOrder_nil ?_
    have up5 : ∀ b o, b ≠ cenv.locals → b ≠ I → h₁.get? b = some o → h₅.get? b = some o := fun b o hb hb2 e => hs₅.extBut b o hb (hs₄.extBut b o hb (up3 b o (up2 b o hb2 e)))
    refine wpAny_bind (wpAny_Name (wpAny_loadName_local hkp (hkf b hb) hn₅ (v := .ref aa) (by simp) ?_) hdb)
    refine wpAny_bind (wpAny_standAt (wpAny_bind (wpAny_of_eq (show foldedSetIterable (.Name b p1) cenv (.ref aa) = pure (.ref aa) from rfl) ?_)))
    have ht5 : h₅.IsTuple aa vs.toArray := ⟨_, up5 _ _ (lC _ hat) (Nat.ne_of_lt hat) (up _ _ (N _ haa).1), rfl, n2, rfl⟩
    refine wpAny_bind (wpAny_holding (wpAny_pyIter_tuple ht5 ?_))
    have kD5 : h₅.get? (I + 1) = some (lst []) := up5 _ _ hDC hDI kD
    have lJ : I + 2 < h₅.objs.size := by
      obtain ⟨o5, _, _, e5, _⟩ := hn₅
      have := Heap.lt_size e5
      rw [hcl9] at this
      exact this
    dsimp only
    generalize hJ : h₅.objs.size = J at lJ
    generalize hH6 : h₅.push { cls := .type "tuple_iterator", data := .fields #[.ref aa, .int 0 0] } = H6
    have up6 : ∀ b o, h₅.get? b = some o → H6.get? b = some o := fun b o e => hH6 ▸ Heap.get?_push_of_some _ e
    have gJ : H6.IsTupleIter J aa 0 := ⟨_, by rw [← hH6, ← hJ]; exact Heap.get?_push_size _ rfl, rfl, rfl⟩
    have hJC : J ≠ cenv.locals := by rw [hcl9]; exact Nat.ne_of_gt lJ
    have hDJ : I + 1 ≠ J := Nat.ne_of_lt (Nat.lt_trans (Nat.lt_succ_self _) lJ)
    have haJ : aa ≠ J := Nat.ne_of_lt (Nat.lt_trans (Nat.lt_trans hat (Nat.lt_add_of_pos_right (by decide))) lJ)
    have haD : aa ≠ I + 1 := Nat.ne_of_lt (Nat.lt_succ_of_lt hat)
    have ht6 : H6.IsTuple aa vs.toArray := ht5.at fun o e => up6 _ _ e
    have inner : ∀ t9 (R : Result → Shared → Prop), (∀ h' tk mc', h'.Ns cenv.locals mc' → h'.get? (I + 1) = some (lst vs) → (∀ b o, b ≠ cenv.locals → b ≠ J → b ≠ I + 1 → H6.get? b = some o → h'.get? b = some o) → R (.ok .next) { s₁ with heap := h', toks := tk }) →
        codeAny (model prog w) A (.compLoop (.ListComp (.Name c p0) [⟨.Tuple [.Name a pa, .Name b pb] kk tp, iter, [], 0⟩, ⟨.Name c pc, .Name b p1, [], 0⟩] scope pos) 1 (.ref J) (.ref (I + 1)) cenv) R { s₁ with heap := H6, toks := t9 } := fun t9 R hR =>
      loop21 hh (hkf c hc) hkp hdc hJC hDJ hDC haJ (lC _ hat) haD hz gJ ht6 (up6 _ _ kD5) (hn₅.at' fun o e => up6 _ _ e) hR
    have last : ∀ h' tk mc', h'.Ns cenv.locals mc' → h'.get? (I + 1) = some (lst vs) → (∀ b o, b ≠ cenv.locals → b ≠ J → b ≠ I + 1 → H6.get? b = some o → h'.get? b = some o) →
        codeAny (model prog w) A (.compLoop (.ListComp (.Name c p0) [⟨.Tuple [.Name a pa, .Name b pb] kk tp, iter, [], 0⟩, ⟨.Name c pc, .Name b p1, [], 0⟩] scope pos) 0 (.ref I) (.ref (I + 1)) cenv) (compPost (model prog w) A E none Q (.ref (I + 1)) cenv.locals) { s₁ with heap := h', toks := tk } := by
      intro h₇ t7 mc7 hn7 hD7 hk7
      have hIJ : I ≠ J := Nat.ne_of_lt (Nat.lt_trans (Nat.lt_add_of_pos_right (by decide)) lJ)
      have up7 : ∀ b o, b < I → h₁.get? b = some o → h₇.get? b = some o := fun b o hb e => hk7 b o (lC b hb) (Nat.ne_of_lt (Nat.lt_trans (Nat.lt_trans hb (Nat.lt_add_of_pos_right (by decide))) lJ)) (Nat.ne_of_lt (Nat.lt_succ_of_lt hb)) (up6 b o (up5 b o (lC b hb) (Nat.ne_of_lt hb) e))
      have hit7 : h₇.IsListIter I l 1 := by
        obtain ⟨o, e, r⟩ := hit₂
        exact ⟨o, hk7 I o hIC hIJ (Ne.symm hDI) (up6 _ _ (hs₅.extBut _ _ hIC (hs₄.extBut _ _ hIC (up3 _ _ e)))), r⟩
      refine codeAny_of_tree ?_
      show wpAny _ A ((compTurn _ 0 (.ref I) (.ref (I + 1)) cenv).onRaise _) _ _ _
      rw [turn20]
      refine wpAny_noted (wpAny_bind (wpAny_standAt (wpAny_bind ?_)))
      refine wpAny_pyNext_list_end hh hit7 (hl1.at fun o e => up7 _ _ hlt e) (by rfl) fun h₈ he8 => wpAny_pure ?_
      refine ⟨mc7, hn7.extBut he8 (Ne.symm hIC), fun h₉ hs9 => ?_⟩
      have up9 : ∀ b o, s₁.heap.get? b = some o → h₉.get? b = some o := fun b o e =>
        have hb : b < I := hI ▸ Heap.lt_size e
        hs9.extBut b o (lC b hb) (he8 b o (Nat.ne_of_lt hb) (up7 b o hb (up b o e)))
      refine fin (I + 1) h₉ t7 (F.keeps up9) (fun p hp => ?_) fun p hp => Nat.lt_succ_of_lt (nb p hp)
      rcases List.mem_cons.mp hp with rfl | hp
      · exact ⟨hs9.extBut _ _ hDC (he8 _ _ hDI hD7), Nat.ne_of_gt (Nat.lt_succ_of_lt hLt), old _ (Nat.le_succ _)⟩
      · exact ⟨up9 _ _ (N p hp).1, (N p hp).2⟩
    refine wpAny_bind (wpAny_runOwn (start21 (inner _ _ fun h' tk mc' e1 e2 e3 => ?_) ((Walks.tuple (prog := prog) (w := w) hh J aa haJ vs.toArray).self 0 _ _ _ ⟨gJ, ht6⟩ (inner _ _ fun h' tk mc' e1 e2 e3 => ?_))))
    · exact wpAny_pure ⟨rfl, last h' tk mc' e1 e2 e3⟩
    · exact wpAny_pure ⟨rfl, last h' tk mc' e1 e2 e3⟩
  refine codeAny_compStart_list (go _) ((Walks.list (prog := prog) (w := w) hh I l (Nat.ne_of_lt hlt) #[.ref T]).self 0 _ _ _ ⟨⟨_, kI, rfl, rfl⟩, ⟨_, up _ _ (N _ hm).1, rfl, k, rfl⟩⟩ (go _))
end

-- part CI
-- needs CmpZ
section
open PyProof.Rows.LCg
variable {prog : Program} {w : World} {A : Around} {E : Value → Shared → Prop} {s : Shared} {h₀ : Heap} {L : Addr} {m : Str → Option Value} {env : Env}
inductive IEnd1 (h₀ : Heap) (L : Addr) (m : Str → Option Value) (g : Array GenState) (d : Drawn) (o : OsState) (own : List (Addr × Obj)) (I C : Addr) (oC : Obj) (D : Addr) (ys : List Value) (J : List (Addr × Obj) → Prop) (s' : Shared) : Prop
  | mk : ∀ (h : Heap), ∀ (tk : Nat), ∀ (nx : List (Addr × Obj)), s' = ⟨h, g, d, tk, o⟩ → Fr h₀ L h m → News h₀ L h ((C, oC) :: (D, lst ys) :: (own ++ nx)) → OffC [I] C D nx → J nx → IEnd1 h₀ L m g d o own I C oC D ys J s'
noncomputable def IEnd (h₀ : Heap) (L : Addr) (m : Str → Option Value) (s : Shared) (own : List (Addr × Obj)) (I C : Addr) (oC : Obj) (D : Addr) (ys : List Value) (J : List (Addr × Obj) → Prop) (s' : Shared) : Prop := IEnd1 h₀ L m s.gens s.drawn s.os own I C oC D ys J s'
/-- a comprehension with one test over a list, which gives back the item -/
inductive SrcI (prog : Program) (w : World) (A : Around) (h₀ : Heap) (L : Addr) (m : Str → Option Value) (env : Env) (ct : Expr) (x : Str) (scope : Scope) (cl : List (Str × Addr)) (Q : Value → Shared → Prop) (xv : Value) (s₁ : Shared) : Prop
  | mk (l : Addr) (vs : List Value) (c : Nat) (news : List (Addr × Obj)) (J : Nat → List Value → List (Addr × Obj) → Prop) :
    xv = .ref l →
    Fr h₀ L s₁.heap m →
    News h₀ L s₁.heap news →
    (l, listOf vs.toArray c) ∈ news →
    vs.length ≤ sizeLine →
    J 0 [] news →
    (∀ C oC D I oI i v ys nx h tk mc (E' : Value → Shared → Prop), vs[i]? = some v → J i ys nx → NsObj oC mc → mc x = some v → OffC [I] C D nx → C ≠ I → D ≠ I → C ≠ D → Fr h₀ L h m → News h₀ L h ((C, oC) :: (D, lst ys) :: ([(I, oI), (l, listOf vs.toArray c)] ++ nx)) → wpAny (model prog w) A (isTrue ct (compEnvC scope cl C env) (eval ct (compEnvC scope cl C env))) (fun ok s₄ => IEnd h₀ L m s₁ [(I, oI), (l, listOf vs.toArray c)] I C oC D ys (J (i + 1) (if ok = true then ys ++ [v] else ys)) s₄) E' { s₁ with heap := h, toks := tk }) →
    (∀ D h tk ys nx, Fr h₀ L h m → News h₀ L h ((D, lst ys) :: nx) → (∀ p ∈ nx, p.1 ≠ D) → J vs.length ys nx → Q (.ref D) { s₁ with heap := h, toks := tk }) →
    SrcI prog w A h₀ L m env ct x scope cl Q xv s₁
theorem comp_if {x : Str} {px p0 : Pos} {ct iter : Expr} {scope : Scope} {pos : Pos} {cl : List (Str × Addr)} {Q : Value → Shared → Prop} (_F₀ : Fr h₀ L s.heap m) (hh : A.handled = none)
    (hclos : closureFor scope env = pure cl) (hcell : ∀ y ∈ scope.names, y.2 ≠ .cell) (hkind : scope.kind = .function) (hnames : ∀ y ∈ scope.names, y.2 = .local → scope.names.lookup y.1 = some .local)
    (hx : scope.names.lookup x = some .local) (hd : (x == ("__debug__" : Str)) = false)
    (h : wpAny (model prog w) A (eval iter env) (SrcI prog w A h₀ L m env ct x scope cl Q) E s)
    (hs : ∀ x, foldedSetIterable iter env x = pure x) :
    wpAny (model prog w) A (eval (.ListComp (.Name x p0) [⟨.Name x px, iter, [ct], 0⟩] scope pos) env) Q E s := by
  refine ListComp_list (m := m) (L := L) (h₀ := h₀) hh hclos hcell hkind hnames (wpAny_mono h (fun xv s₁ h₁ => ?_) fun _ _ e => e) hs fun _ _ _ _ _ _ _ st q => letGo_listiter st q
  obtain ⟨l, vs, c, news, J, rfl, F, N, hm, hz, h0, step, fin⟩ := h₁
  refine ⟨l, vs, c, news, J, rfl, F, N, hm, hz, h0, ?_, fin⟩
  rintro C D I i v ys nx h tk oI mc E' hv hJ off hCI hDI hCD hCl hCL hC₀ F₁ C₁ N₁
  have offC : ∀ p ∈ (I, oI) :: (l, listOf vs.toArray c) :: (D, lst ys) :: nx, p.1 ≠ C := fa_cons (Ne.symm hCI) (fa_cons (Ne.symm hCl) (fa_cons (Ne.symm hCD) fun p hp => (off p hp).2.1))
  refine cstore hkind hx F₁ C₁ N₁ offC hCL hC₀ fun h₂ tk₂ F₂ C₂ N₂ => ?_
  refine Exists.elim (ns_obj C₂) fun oC xC => ?_
  refine wpAny_tests_one (wpAny_mono (step C oC D I oI i v ys nx h₂ tk₂ _ E' hv hJ xC.2 (by simp) off hCI hDI hCD F₂ (fa_cons ⟨xC.1, hCL, hC₀⟩ (news_sub9 N₂ (fa_cons mm2 (fa_cons mm0 (fa_cons mm1 (sb_tail (sb_tail2 sb_refl)))))))) (fun ok s₄ h₄ => ?_) fun _ _ e => e)
  obtain ⟨h', tk', nx', rfl, F', N', off', hJ'⟩ := h₄
  have C' := xC.2.ns (N' _ mm0).1
  have M' : News h₀ L h' ([(I, oI), (l, listOf vs.toArray c)] ++ (D, lst ys) :: nx') := news_sub9 N' (fa_cons mm2 (fa_cons mm3 (fa_cons mm1 (sb_tail2 (sb_tail2 sb_refl)))))
  match ok, hJ' with
  | false, hJ' => exact ⟨h', tk', _, nx', rfl, F', C', M', off', hJ'⟩
  | true, hJ' =>
    rw [if_pos rfl]
    refine ldVarK (env := env) C' (v := v) (by simp) ?_ hkind (lookup_relabel_local hx) hd
    exact ⟨h', tk', _, nx', rfl, F', C', M', off', hJ'⟩
end

-- part HP
theorem words_HP : True := by
  k_with "mine_rm" => (first | exact rmA1 (by assumption) rfl | exact rmA2 (by assumption) rfl | exact rmA0 (by assumption) | exact rmB1 (by assumption) rfl | exact rmB2 (by assumption) rfl | exact rmC1 (by assumption) rfl | exact rmC2 (by assumption) rfl | exact rmD2 (by assumption) rfl | exact rmB0 (by assumption) | ktr_room | fail "no")
  k_with "k_mem" => (first | exact List.mem_cons_self | ktr_member | (refine' List.mem_cons_of_mem _ ?_; k_extra "k_mem") | (refine' List.mem_append_right _ ?_; k_extra "k_mem") | (refine' List.mem_append_left _ ?_; k_extra "k_mem"))
  k_with "mine_lt" => (first | assumption | exact lt_mem (by assumption) (by k_mem) | exact And.left (by assumption) | exact And.left (And.right (by assumption)) | exact And.right (by assumption) | exact And.left (And.right (And.right (by assumption))) | exact And.right (And.right (by assumption)) | exact And.left (And.right (And.right (And.right (by assumption)))) | exact And.right (And.right (And.right (by assumption))) | exact And.left (And.right (And.right (And.right (And.right (by assumption))))) | exact And.right (And.right (And.right (And.right (by assumption)))) | exact And.left (And.right (And.right (And.right (And.right (And.right (by assumption)))))) | exact And.right (And.right (And.right (And.right (And.right (by assumption))))) | exact And.left (And.right (And.right (And.right (And.right (And.right (And.right (by assumption))))))) | exact And.right (And.right (And.right (And.right (And.right (And.right (by assumption)))))) | exact And.left (And.right (And.right (And.right (And.right (And.right (And.right (And.right (by assumption)))))))) | exact And.right (And.right (And.right (And.right (And.right (And.right (And.right (by assumption))))))))
  k_with "k_ne" => ((refine neN ?_; (try dsimp only); first | assumption | exact Ne.symm (by assumption) | (refine Nat.ne_of_lt ?_; k_extra "mine_lt") | (refine Nat.ne_of_gt ?_; k_extra "mine_lt") | k_extra "mine_lt" | (refine Ne.symm ?_; k_extra "mine_lt") | omega))
  k_with "subscriptTail Name Constant ref int" => ((k_here; (with_reducible show wpAny _ _ (subscriptTail _ _ (Value.ref _) (Value.int 0 _)) _ _ _); k_dflt (with_unfolding_all refine' item_first ?k1 ?k2 ?_; (case k1 => k_asm); (case k2 => k_mem); k_whole)))
  k_with "subscriptTail Attribute Name Constant ref int" => ((k_here; (with_reducible show wpAny _ _ (subscriptTail _ _ (Value.ref _) (Value.int 0 _)) _ _ _); k_dflt (with_unfolding_all refine' item_first ?k1 ?k2 ?_; (case k1 => k_asm); (case k2 => k_mem); k_whole)))
  k_with "subscriptTail Subscript Attribute Constant Constant ref int" => ((k_here; (with_reducible show wpAny _ _ (subscriptTail _ _ (Value.ref _) (Value.int 0 _)) _ _ _); k_dflt (with_unfolding_all refine' item_first ?k1 ?k2 ?_; (case k1 => k_asm); (case k2 => k_mem); k_whole)))
  k_with "subscriptTail Call Name cons nil Constant ref int" => ((k_here; (with_reducible show wpAny _ _ (subscriptTail _ _ (Value.ref _) (Value.int 0 _)) _ _ _); k_dflt (with_unfolding_all refine' item_first ?k1 ?k2 ?_; (case k1 => k_asm); (case k2 => k_mem); k_whole)))
  k_with "subscriptTail Subscript Name Constant Constant ref int" => ((k_here; (with_reducible show wpAny _ _ (subscriptTail _ _ (Value.ref _) (Value.int 0 _)) _ _ _); k_dflt (with_unfolding_all refine' item_first ?k1 ?k2 ?_; (case k1 => k_asm); (case k2 => k_mem); k_whole)))
  k_with "subscriptTail Name Constant ref int" => ((k_here; (with_reducible show wpAny _ _ (subscriptTail _ _ (Value.ref _) (Value.int _ _)) _ _ _); k_dflt (with_unfolding_all refine' item_tupleT (News.isTup ?k1 ?k2) (by decide) (by decide) ?j ?x ?_; (case k1 => k_asm); (case k2 => k_mem); (case j => rfl); (case x => rfl); k_whole)))
  k_with "subscriptTail Attribute Name Constant ref int" => ((k_here; (with_reducible show wpAny _ _ (subscriptTail _ _ (Value.ref _) (Value.int _ _)) _ _ _); k_dflt (with_unfolding_all refine' item_tupleT (News.isTup ?k1 ?k2) (by decide) (by decide) ?j ?x ?_; (case k1 => k_asm); (case k2 => k_mem); (case j => rfl); (case x => rfl); k_whole)))
  k_with "subscriptTail Subscript Attribute Constant Constant ref int" => ((k_here; (with_reducible show wpAny _ _ (subscriptTail _ _ (Value.ref _) (Value.int _ _)) _ _ _); k_dflt (with_unfolding_all refine' item_tupleT (News.isTup ?k1 ?k2) (by decide) (by decide) ?j ?x ?_; (case k1 => k_asm); (case k2 => k_mem); (case j => rfl); (case x => rfl); k_whole)))
  k_with "subscriptTail Call Name cons nil Constant ref int" => ((k_here; (with_reducible show wpAny _ _ (subscriptTail _ _ (Value.ref _) (Value.int _ _)) _ _ _); k_dflt (with_unfolding_all refine' item_tupleT (News.isTup ?k1 ?k2) (by decide) (by decide) ?j ?x ?_; (case k1 => k_asm); (case k2 => k_mem); (case j => rfl); (case x => rfl); k_whole)))
  k_with "subscriptTail Subscript Name Constant Constant ref int" => ((k_here; (with_reducible show wpAny _ _ (subscriptTail _ _ (Value.ref _) (Value.int _ _)) _ _ _); k_dflt (with_unfolding_all refine' item_tupleT (News.isTup ?k1 ?k2) (by decide) (by decide) ?j ?x ?_; (case k1 => k_asm); (case k2 => k_mem); (case j => rfl); (case x => rfl); k_whole)))
  k_with "mine_fact" => (first | assumption | exact decide_eq_true rfl | (simp only [bne_iff_ne, ne_eq, not_false_eq_true, decide_eq_true_eq, *]; done))
  k_with "ite" => ((k_here; first | rw [if_pos (by k_extra "mine_fact")] | rw [if_neg (by k_extra "mine_fact")]))
  k_with "k_all" => (first | exact fa_nil | assumption | exact allne_lt (by assumption) | exact allne_lt' (by assumption) | exact allne_gt (by assumption) | (refine' fa_cons ?a ?b; (case a => k_ne); (case b => k_extra "k_all")) | (refine' allne_app ?a ?b; (case a => k_extra "k_all"); (case b => k_extra "k_all")) | (refine' allne_cons rfl ?a ?b; (case a => k_ne); (case b => k_extra "k_all")) | exact allne_sub (by assumption) (by k_extra "mine_sub") | fail "no")
  k_with "k_room" => (first | k_extra "mine_rm" | ((simp (config := { zetaDelta := true }) only [depth_under_make, depth_under_kw, depth_in1, depth_deeper, depth_caller]); ktr_room) | fail "no")
  k_with "mine_enter" => ((refine' code_def ?k1 ?k2 ?k3 ?k4 ?k5 ?kA ?kF ?kK ?k6 ?k7 ?k8 ?k9 ?kB ?_ ?c2 ?c3 ?c4 ?c5; (case kA => exact rfl); (case kF => exact rfl); (case kK => first | exact rfl | assumption); (case k1 => k_asm); (case k2 => k_asm); (case k3 => k_asm); (case k4 => k_asm); (case k5 => k_asm); (case k6 => k_is); (case k7 => k_is); (case k8 => k_extra "mine_rm"); (case k9 => first | exact BindsTo.of_eq rfl | exact binds_K (by k_in) rfl (by k_is) rfl rfl rfl); (case c5 => decide); (case kB => exact locs rfl); (case c2 => exact rfl); (case c3 => exact rfl); (case c4 => exact rfl); k_whole; intro g' L' h' FG' F' N' B' X' T'; (try dsimp only); (try k_lift B'); (try k_fold)); refine let_env ?_; intro A9 env9 Q9 E9; refine let_fr F' ?_; clear F'; intro m9 F'; (try (have hu9 : UOk A9 := ⟨by k_extra "mine_units"⟩)))
  k_with "mine_enterC" => ((refine' code_defC ?k1 ?k2 ?k3 ?k4 ?k5 ?kA ?kF ?kK ?k6 ?k7 ?k8 ?k9 ?kB ?kD ?_ ?c2 ?c3 ?c4; (case kA => exact rfl); (case kF => exact rfl); (case kK => first | exact rfl | assumption); (case k1 => k_asm); (case k2 => k_asm); (case k3 => k_asm); (case k4 => k_asm); (case k5 => k_asm); (case k6 => k_is); (case k7 => k_is); (case k8 => k_extra "mine_rm"); (case k9 => first | exact BindsTo.of_eq rfl | exact binds_K (by k_in) rfl (by k_is) rfl rfl rfl); (case kB => exact rfl); (case kD => decide +kernel); (case c2 => exact rfl); (case c3 => exact rfl); (case c4 => exact rfl); k_whole; intro g' L' h' tk' cells' FG' F' N' Y' B' X' T' l1; (try k_lt l1); (first | ((have hY := cells1 Y'); obtain ⟨o1', hE', d1'⟩ := hY; subst hE'; clear Y') | ((have hY := cells2 Y'); obtain ⟨o1', o2', hE', d1', d2'⟩ := hY; subst hE'; clear Y') | ((have hY := cells3 Y'); obtain ⟨o1', o2', o3', hE', d1', d2', d3'⟩ := hY; subst hE'; clear Y')); (try simp only [List.cons_append, List.nil_append] at N'); (try dsimp only); (try k_lift B'); (try k_fold)); refine let_env ?_; intro A9 env9 Q9 E9; refine let_fr F' ?_; clear F'; intro m9 F'; (try (have hu9 : UOk A9 := ⟨by k_extra "mine_units"⟩)))
  k_with "mine_units" => (first | exact rmU (by assumption) (by assumption) rfl | exact rmA1 (by assumption) rfl | exact rmA2 (by assumption) rfl | exact rmA0 (by assumption) | exact rmB1 (by assumption) rfl | exact rmC1 (by assumption) rfl | ((have hcL9 := cLine_is); (try simp (config := { zetaDelta := true }) only [units_in1, units_deeper, Around.mark_units, units_caller, ktrTop]); (try simp only [units_in1, units_deeper, Around.mark_units, units_caller] at *); (try dsimp only [ktrTop] at *); omega) | fail "no")
  k_with "compareOp NotEq ref ref" => ((k_here; (with_reducible show wpAny _ _ (compareOp CmpOp.NotEq (Value.ref _) (Value.ref _)) _ _ _); k_dflt (refine' ne_nil ?k1 ?k2 ?k3 ?k4 ?k5 ?_; (case k1 => k_asm); (case k2 => k_mem); (case k3 => k_mem); (case k5 => first | assumption | exact rfl); (case k4 => first | assumption | exact UOk.h (by assumption) | k_extra "mine_units"); k_whole)))
  k_with "compareOp Eq ref ref" => ((k_here; (with_reducible show wpAny _ _ (compareOp CmpOp.Eq (Value.ref _) (Value.ref _)) _ _ _); k_dflt (refine' eq_nil ?k1 ?k2 ?k3 ?k4 ?k5 ?_; (case k1 => k_asm); (case k2 => k_mem); (case k3 => k_mem); (case k5 => first | assumption | exact rfl); (case k4 => first | assumption | exact UOk.h (by assumption) | k_extra "mine_units"); k_whole)))
  k_with "compareOp Eq ref ref" => ((k_here; (with_reducible show wpAny _ _ (compareOp CmpOp.Eq _ _) _ _ _); k_dflt (refine' ty_eq ?k1 ?k2 ?k3 ?k4 ?k5 ?k6 ?_; (case k1 => k_asm); (case k2 => assumption); (case k3 => assumption); (case k4 => k_extra "mine_sub"); (case k5 => k_extra "mine_sub"); (case k6 => k_extra "mine_units"); k_whole)))
  k_with "mine_cls" => (k_dflt (refine' call_cls ?k1 ?k2 ?k3 ?k4 ?k5 ?k6 ?_; (case k1 => k_asm); (case k2 => k_asm); (case k3 => k_asm); (case k4 => k_is); (case k5 => k_is); (case k6 => k_is); k_whole; intro x' d' h' F' N' l1 l2; (try k_lt l1); (try k_lt2 l2); (try k_sweep)); k_extra "mine_enter")
  k_with "mine_meth" => (k_dflt (refine' call_meth ?k1 ?k2 ?_; (case k1 => k_asm); (case k2 => k_mem); k_whole); k_extra "mine_enter")
  k_with "mine_up" => (first | assumption | (refine List.mem_cons_of_mem _ ?_; k_extra "mine_up") | (refine List.mem_append_left _ ?_; k_extra "mine_up") | (refine List.mem_append_right _ ?_; k_extra "mine_up"))
  k_with "mine_sub" => (first | exact fun _ h => h | assumption | exact fa_nil | (refine fa_cons ?_ ?_; k_mem; k_extra "mine_sub") | (refine fa_app ?_ ?_ <;> k_extra "mine_sub") | (intro p9 h9; k_extra "mine_up"))
  k_with "mine_ltN" => (first | assumption | exact ktn_ltOf (by k_extra "mine_lt") | (intro q9 h9; exact (by assumption : ∀ p ∈ _, p.1 < _) q9 (by k_extra "mine_up")))
  k_with "mine_below" => (k_extra "mine_ltN")
  trivial
-- needs Spec2 LZK Ev2
section
variable {w : World} {p : Program} {loose : List Str} {mean : ExcName → Option Value} {mg mb : Str → Option Value}
   {dp un : Nat} {gd : Option (List Code)} {cn : Str} {cs : Scope} {a : Addr} {ccd : Value} {cl : List (Str × Addr)} {outer : List Env} {A₀ : Around} {base h₀ : Heap} {L : Addr} {m : Str → Option Value} {N : List (Addr × Obj)} {g₁ : Array GenState} {d₁ : Drawn} {o₁ : OsState} {h₁ : Heap} {t₁ : Nat} {Q E : Value → Shared → Prop}

set_option maxHeartbeats 8000000 in
theorem hp_ne {k1 k2 : Str} {b1 b2 : Addr} {r1 r2 : List Value} {t1 t2 n1 n2 : Nat}
   (B : Below A₀ base outer h₀) (F : Fr h₀ L h₁ m) (X : Frag.In (hd.heap_1 w.params) h₀) (Nw : News h₀ L h₁ N) (T : Top p loose mean mg mb h₀) (hk : cs.kind = .function)
   (m1 : (b1, tupObj (.str k1 t1 :: r1) n1) ∈ N)
   (m2 : (b2, tupObj (.str k2 t2 :: r2) n2) ∈ N) (hne : k1 ≠ k2)
   (hdd : dp + 5 < recursionLimit) (hu : un + 64 < cLine)
   (hret : ∀ h' tk', Fr h₀ L h' m → News h₀ L h' N → Q .none ⟨h', g₁, d₁, tk', o₁⟩) :
   wpAny (model PySem.Challenge.pw_nu0382_01 w) (ktrTop dp un gd cn cs L a ccd cl outer) (call (.ref 61) [.ref b1, .ref b2]) Q E ⟨h₁, g₁, d₁, t₁, o₁⟩ := by
  refine wpAny_call ?_
  walk_at "mine_enter"
  k_steps
  exact hret _ _ (by k_asm) (by k_asm)



theorem hp_kind {t u : Ty} (h : t.kind ≠ u.kind) : hp t u = none := by
  induction t using Ty.casesOn <;> induction u using Ty.casesOn <;> first | rfl | exact absurd rfl h
theorem pair_elim {N M : List (Addr × Obj)} {G : Value → Value → Ty → Ty → Prop} {v1 v2 : Value} {t1 t2 : Ty} (R1 : TyIn N v1 t1) (R2 : TyIn N v2 t2) (sb : ∀ p ∈ N, p ∈ M) (hpl : t1.plain = true) (hkd : t1.kind = t2.kind)
    (cintint : ∀ a1 n1 k1 u1 a2 n2 k2 u2, (a1, tupObj [.str (Str.ofString "int") k1, .str (Str.ofString "i32") u1] n1) ∈ M → (a2, tupObj [.str (Str.ofString "int") k2, .str (Str.ofString "i32") u2] n2) ∈ M → G (.ref a1) (.ref a2) .int .int)
    (cboolbool : ∀ a1 n1 k1 a2 n2 k2, (a1, tupObj [.str (Str.ofString "bool") k1] n1) ∈ M → (a2, tupObj [.str (Str.ofString "bool") k2] n2) ∈ M → G (.ref a1) (.ref a2) .bool .bool)
    (cSS : ∀ a1 n1 k1 u1 b1 c1 i1 j1 a2 n2 k2 u2 b2 c2 i2 j2, (a1, tupObj [.str (Str.ofString "adt") k1, .str (Str.ofString "S") u1, .ref b1, .ref c1] n1) ∈ M → (b1, tupObj [] i1) ∈ M → (c1, tupObj [] j1) ∈ M → (a2, tupObj [.str (Str.ofString "adt") k2, .str (Str.ofString "S") u2, .ref b2, .ref c2] n2) ∈ M → (b2, tupObj [] i2) ∈ M → (c2, tupObj [] j2) ∈ M → G (.ref a1) (.ref a2) .S .S)
    (cSW : ∀ y2 a1 n1 k1 u1 b1 c1 i1 j1 a2 n2 k2 u2 b2 c2 i2 j2 v2, (a1, tupObj [.str (Str.ofString "adt") k1, .str (Str.ofString "S") u1, .ref b1, .ref c1] n1) ∈ M → (b1, tupObj [] i1) ∈ M → (c1, tupObj [] j1) ∈ M → (a2, tupObj [.str (Str.ofString "adt") k2, .str (Str.ofString "W") u2, .ref b2, .ref c2] n2) ∈ M → (b2, tupObj [] i2) ∈ M → (c2, tupObj [v2] j2) ∈ M → TyIn N v2 y2 → G (.ref a1) (.ref a2) .S (.W y2))
    (cboxbox : ∀ y1 y2 a1 n1 k1 v1 a2 n2 k2 v2, (a1, tupObj [.str (Str.ofString "box") k1, v1] n1) ∈ M → TyIn N v1 y1 → (a2, tupObj [.str (Str.ofString "box") k2, v2] n2) ∈ M → TyIn N v2 y2 → G (.ref a1) (.ref a2) (.box y1) (.box y2))
    (crefref : ∀ y1 y2 a1 n1 k1 v1 a2 n2 k2 v2, (a1, tupObj [.str (Str.ofString "ref") k1, .none, .bool false, v1] n1) ∈ M → TyIn N v1 y1 → (a2, tupObj [.str (Str.ofString "ref") k2, .none, .bool false, v2] n2) ∈ M → TyIn N v2 y2 → G (.ref a1) (.ref a2) (.ref y1) (.ref y2))
    (cWS : ∀ y1 a1 n1 k1 u1 b1 c1 i1 j1 v1 a2 n2 k2 u2 b2 c2 i2 j2, (a1, tupObj [.str (Str.ofString "adt") k1, .str (Str.ofString "W") u1, .ref b1, .ref c1] n1) ∈ M → (b1, tupObj [] i1) ∈ M → (c1, tupObj [v1] j1) ∈ M → TyIn N v1 y1 → (a2, tupObj [.str (Str.ofString "adt") k2, .str (Str.ofString "S") u2, .ref b2, .ref c2] n2) ∈ M → (b2, tupObj [] i2) ∈ M → (c2, tupObj [] j2) ∈ M → G (.ref a1) (.ref a2) (.W y1) .S)
    (cWW : ∀ y1 y2 a1 n1 k1 u1 b1 c1 i1 j1 v1 a2 n2 k2 u2 b2 c2 i2 j2 v2, (a1, tupObj [.str (Str.ofString "adt") k1, .str (Str.ofString "W") u1, .ref b1, .ref c1] n1) ∈ M → (b1, tupObj [] i1) ∈ M → (c1, tupObj [v1] j1) ∈ M → TyIn N v1 y1 → (a2, tupObj [.str (Str.ofString "adt") k2, .str (Str.ofString "W") u2, .ref b2, .ref c2] n2) ∈ M → (b2, tupObj [] i2) ∈ M → (c2, tupObj [v2] j2) ∈ M → TyIn N v2 y2 → G (.ref a1) (.ref a2) (.W y1) (.W y2))
    (ctuptup : ∀ y1 z1 y2 z2 a1 n1 k1 c1 j1 v1 w1 a2 n2 k2 c2 j2 v2 w2, (a1, tupObj [.str (Str.ofString "tuple") k1, .ref c1] n1) ∈ M → (c1, tupObj [v1, w1] j1) ∈ M → TyIn N v1 y1 → TyIn N w1 z1 → (a2, tupObj [.str (Str.ofString "tuple") k2, .ref c2] n2) ∈ M → (c2, tupObj [v2, w2] j2) ∈ M → TyIn N v2 y2 → TyIn N w2 z2 → G (.ref a1) (.ref a2) (.tup y1 z1) (.tup y2 z2)) : G v1 v2 t1 t2 := by
  obtain ⟨a1, n1, k1, xs, rfl, m1, i1⟩ := R1.view
  obtain ⟨a2, n2, k2, ys, rfl, m2, i2⟩ := R2.view
  clear R1 R2
  induction t1 using Ty.casesOn <;> first | exact absurd hpl (by decide) | skip
  all_goals (induction t2 using Ty.casesOn <;> first | exact absurd hkd (by dsimp only [Ty.kind]; decide) | skip)
  · obtain ⟨u1, rfl⟩ := i1; obtain ⟨u2, rfl⟩ := i2
    exact cintint _ _ _ _ _ _ _ _ (sb _ m1) (sb _ m2)
  · obtain rfl := i1; obtain rfl := i2
    exact cboolbool _ _ _ _ _ _ (sb _ m1) (sb _ m2)
  · obtain ⟨u1, b1, c1, i1, j1, rfl, p1, q1⟩ := i1; obtain ⟨u2, b2, c2, i2, j2, rfl, p2, q2⟩ := i2
    exact cSS _ _ _ _ _ _ _ _ _ _ _ _ _ _ _ _ (sb _ m1) (sb _ p1) (sb _ q1) (sb _ m2) (sb _ p2) (sb _ q2)
  · obtain ⟨u1, b1, c1, i1, j1, rfl, p1, q1⟩ := i1; obtain ⟨u2, b2, c2, i2, j2, v2, rfl, p2, q2, r2⟩ := i2
    exact cSW _ _ _ _ _ _ _ _ _ _ _ _ _ _ _ _ _ _ (sb _ m1) (sb _ p1) (sb _ q1) (sb _ m2) (sb _ p2) (sb _ q2) r2
  · obtain ⟨v1, rfl, r1⟩ := i1; obtain ⟨v2, rfl, r2⟩ := i2
    exact cboxbox _ _ _ _ _ _ _ _ _ _ (sb _ m1) r1 (sb _ m2) r2
  · obtain ⟨v1, rfl, r1⟩ := i1; obtain ⟨v2, rfl, r2⟩ := i2
    exact crefref _ _ _ _ _ _ _ _ _ _ (sb _ m1) r1 (sb _ m2) r2
  · obtain ⟨u1, b1, c1, i1, j1, v1, rfl, p1, q1, r1⟩ := i1; obtain ⟨u2, b2, c2, i2, j2, rfl, p2, q2⟩ := i2
    exact cWS _ _ _ _ _ _ _ _ _ _ _ _ _ _ _ _ _ _ (sb _ m1) (sb _ p1) (sb _ q1) r1 (sb _ m2) (sb _ p2) (sb _ q2)
  · obtain ⟨u1, b1, c1, i1, j1, v1, rfl, p1, q1, r1⟩ := i1; obtain ⟨u2, b2, c2, i2, j2, v2, rfl, p2, q2, r2⟩ := i2
    exact cWW _ _ _ _ _ _ _ _ _ _ _ _ _ _ _ _ _ _ _ _ (sb _ m1) (sb _ p1) (sb _ q1) r1 (sb _ m2) (sb _ p2) (sb _ q2) r2
  · obtain ⟨c1, j1, v1, w1, rfl, p1, q1, r1⟩ := i1; obtain ⟨c2, j2, v2, w2, rfl, p2, q2, r2⟩ := i2
    exact ctuptup _ _ _ _ _ _ _ _ _ _ _ _ _ _ _ _ _ _ (sb _ m1) (sb _ p1) q1 r1 (sb _ m2) (sb _ p2) q2 r2
set_option maxHeartbeats 8000000 in
theorem hp_eq {N₁ : List (Addr × Obj)} {v1 v2 : Value} {t1 t2 : Ty}
   (B : Below A₀ base outer h₀) (F : Fr h₀ L h₁ m) (X : Frag.In (hd.heap_1 w.params) h₀) (Nw : News h₀ L h₁ N) (T : Top p loose mean mg mb h₀) (hk : cs.kind = .function)
   (R1 : TyIn N₁ v1 t1) (R2 : TyIn N₁ v2 t2) (sb : ∀ p ∈ N₁, p ∈ N) (hpl : t1.plain = true) (hkd : t1.kind = t2.kind)
   (hdd : dp + 5 < recursionLimit) (hu : un + 64 < cLine)
   (ret0 : hp t1 t2 = none → ∀ h' tk', Fr h₀ L h' m → News h₀ L h' N → Q .none ⟨h', g₁, d₁, tk', o₁⟩) 
   (ret1 : ∀ ps l vs n tl h' tk', hp t1 t2 = some ps → Fr h₀ L h' m → News h₀ L h' (N ++ tl) → Lts N tl → (l, listOf vs.toArray n) ∈ tl → PairsIn N₁ tl vs ps → vs.length ≤ 2 → Q (.ref l) ⟨h', g₁, d₁, tk', o₁⟩) :
   wpAny (model PySem.Challenge.pw_nu0382_01 w) (ktrTop dp un gd cn cs L a ccd cl outer) (call (.ref 61) [v1, v2]) Q E ⟨h₁, g₁, d₁, t₁, o₁⟩ := by
  refine pair_elim (G := fun v1 v2 t1 t2 => 
   (hp t1 t2 = none → ∀ h' tk', Fr h₀ L h' m → News h₀ L h' N → Q .none ⟨h', g₁, d₁, tk', o₁⟩) → 
   (∀ ps l vs n tl h' tk', hp t1 t2 = some ps → Fr h₀ L h' m → News h₀ L h' (N ++ tl) → Lts N tl → (l, listOf vs.toArray n) ∈ tl → PairsIn N₁ tl vs ps → vs.length ≤ 2 → Q (.ref l) ⟨h', g₁, d₁, tk', o₁⟩) →
   wpAny (model PySem.Challenge.pw_nu0382_01 w) (ktrTop dp un gd cn cs L a ccd cl outer) (call (.ref 61) [v1, v2]) Q E ⟨h₁, g₁, d₁, t₁, o₁⟩) R1 R2 sb hpl hkd ?_ ?_ ?_ ?_ ?_ ?_ ?_ ?_ ?_ ret0 ret1
  all_goals clear R1 R2 hkd hpl ret0 ret1
  all_goals (intros; rename (hp _ _ = none → _) => ret0; rename (∀ _ _ _ _ _ _ _, hp _ _ = some _ → _) => ret1)
  all_goals (
    refine wpAny_call ?_
    walk_at "mine_enter"
    k_steps
    all_goals first
      | (exact ret0 rfl _ _ (by k_asm) (news_sub (by k_asm) (by walk_at "mine_sub")))
      | (exact ret1 [] _ [] _ [(_, _)] _ _ rfl (by k_asm) (news_t1 (by k_asm) (by walk_at "mine_sub") (by k_mem)) (by walk_at "mine_lts") List.mem_cons_self .nil (by decide))
      | (exact ret1 [(_, _)] _ [.ref _] _ [(_, _), (_, _)] _ _ rfl (by k_asm) (news_t2 (by k_asm) (by walk_at "mine_sub") (by k_mem) (by k_mem)) (by walk_at "mine_lts") List.mem_cons_self (.cons (List.mem_cons_of_mem _ List.mem_cons_self) (by assumption) (by assumption) .nil) (by simp))
      | (exact ret1 [(_, _)] _ [.ref _] _ [(_, _), (_, _)] _ _ rfl (by k_asm) (news_t2 (by k_asm) (by walk_at "mine_sub") (by k_mem) (by k_mem)) (lts_cons (by walk_at "mine_below") (lts_sub (by assumption) (by walk_at "mine_sub"))) List.mem_cons_self (.cons (List.mem_cons_of_mem _ List.mem_cons_self) (by assumption) (by assumption) .nil) (by simp))
      | (exact ret1 [(_, _), (_, _)] _ [.ref _, .ref _] _ [(_, _), (_, _), (_, _)] _ _ rfl (by k_asm) (news_t3 (by k_asm) (by walk_at "mine_sub") (by k_mem) (by k_mem) (by k_mem)) (lts_cons (by walk_at "mine_below") (lts_sub (by assumption) (by walk_at "mine_sub"))) List.mem_cons_self
                 (.cons (List.mem_cons_of_mem _ List.mem_cons_self) (by assumption) (by assumption)
                 (.cons (List.mem_cons_of_mem _ (List.mem_cons_of_mem _ List.mem_cons_self)) (by assumption) (by assumption) .nil)) (by simp))
      | fail "no")
end
section
variable {w : World} {p : Program} {loose : List Str} {mean : ExcName → Option Value} {mg mb : Str → Option Value}
   {dp un : Nat} {gd : Option (List Code)} {cn : Str} {cs : Scope} {a : Addr} {ccd : Value} {cl : List (Str × Addr)} {outer : List Env} {A₀ : Around} {base h₀ : Heap} {L : Addr} {m : Str → Option Value} {N : List (Addr × Obj)} {g₁ : Array GenState} {d₁ : Drawn} {o₁ : OsState} {h₁ : Heap} {t₁ : Nat} {Q E : Value → Shared → Prop}
theorem hp_call {N₁ : List (Addr × Obj)} {v1 v2 : Value} {t1 t2 : Ty}
   (B : Below A₀ base outer h₀) (F : Fr h₀ L h₁ m) (X : Frag.In (hd.heap_1 w.params) h₀) (Nw : News h₀ L h₁ N) (T : Top p loose mean mg mb h₀) (hk : cs.kind = .function)
   (R1 : TyIn N₁ v1 t1) (R2 : TyIn N₁ v2 t2) (sb : ∀ p ∈ N₁, p ∈ N) (hpl : t1.plain = true)
   (hdd : dp + 5 < recursionLimit) (hu : un + 64 < cLine)
   (ret0 : hp t1 t2 = none → ∀ h' tk', Fr h₀ L h' m → News h₀ L h' N → Q .none ⟨h', g₁, d₁, tk', o₁⟩) 
   (ret1 : ∀ ps l vs n tl h' tk', hp t1 t2 = some ps → Fr h₀ L h' m → News h₀ L h' (N ++ tl) → Lts N tl → (l, listOf vs.toArray n) ∈ tl → PairsIn N₁ tl vs ps → vs.length ≤ 2 → Q (.ref l) ⟨h', g₁, d₁, tk', o₁⟩) :
   wpAny (model PySem.Challenge.pw_nu0382_01 w) (ktrTop dp un gd cn cs L a ccd cl outer) (call (.ref 61) [v1, v2]) Q E ⟨h₁, g₁, d₁, t₁, o₁⟩ := by
  by_cases hkd : t1.kind = t2.kind
  · exact hp_eq B F X Nw T hk R1 R2 sb hpl hkd hdd hu ret0 ret1
  · obtain ⟨a1, n1, k1, r1, rfl, m1⟩ := R1.first
    obtain ⟨a2, n2, k2, r2, rfl, m2⟩ := R2.first
    exact hp_ne B F X Nw T hk (sb _ m1) (sb _ m2) hkd hdd hu (ret0 (hp_kind hkd))
end

-- part CB
theorem words_CB : True := by
  k_with "mine_fact" => (first | assumption | decide | exact any_V | exact any_ni (by assumption) (by assumption) | exact any_I | exact bnot_t (by assumption) | exact decide_eq_true (by assumption) | exact decide_eq_true rfl)
  k_with "mine_not" => (first | assumption | decide | exact any_I0 (by assumption) | exact bnot_f (by assumption) | exact ne_true_of_eq_false (by assumption) | exact not_decide (by assumption))
  k_with "ite" => (k_dflt (first | (refine' ite_yes ?h ?_; (case h => exact True.intro)) | (refine' ite_no ?h ?_; (case h => exact not_false)) | (refine' ite_no ?h ?_; (case h => exact Bool.false_ne_true)) | (refine' ite_yes ?h ?_; (case h => exact rfl)) | (refine' ite_yes ?h ?_; (case h => k_extra "mine_fact")) | (refine' ite_no ?h ?_; (case h => k_extra "mine_not")) | refine stop_intro ?_))
  k_with "exec While Compare cons nil" => (k_dflt (refine whl_start 100 ?_))
  trivial
-- needs HP
section
variable {w : World} {p : Program} {loose : List Str} {mean : ExcName → Option Value} {mg mb : Str → Option Value}
   {dp un : Nat} {gd : Option (List Code)} {cn : Str} {cs : Scope} {a : Addr} {ccd : Value} {cl : List (Str × Addr)} {outer : List Env} {A₀ : Around} {base h₀ : Heap} {L : Addr} {m : Str → Option Value} {N : List (Addr × Obj)} {g₁ : Array GenState} {d₁ : Drawn} {o₁ : OsState} {h₁ : Heap} {t₁ : Nat} {Q E : Value → Shared → Prop}
set_option maxHeartbeats 8000000 in
theorem cb_same {v1 v2 : Value} {t : Ty}
   (B : Below A₀ base outer h₀) (F : Fr h₀ L h₁ m) (X : Frag.In (hd.heap_1 w.params) h₀) (Nw : News h₀ L h₁ N) (T : Top p loose mean mg mb h₀) (hk : cs.kind = .function)
   (R1 : TyIn N v1 t) (R2 : TyIn N v2 t) (hdep : t.dep ≤ 4)
   (hdd : dp + 5 < recursionLimit) (hu : un + 64 < cLine)
   (ret : ∀ h' tk' u, Fr h₀ L h' m → News h₀ L h' N → Q (.str (Str.ofString "yes") u) ⟨h', g₁, d₁, tk', o₁⟩) :
   wpAny (model PySem.Challenge.pw_nu0382_01 w) (ktrTop dp un gd cn cs L a ccd cl outer) (call (.ref 68) [v1, v2]) Q E ⟨h₁, g₁, d₁, t₁, o₁⟩ := by
  obtain ⟨a1, n1, k1, r1, rfl, m1⟩ := R1.first
  obtain ⟨a2, n2, k2, r2, rfl, m2⟩ := R2.first
  refine wpAny_call ?_
  walk_at "mine_enter"
  k_steps
  exact ret _ _ _ (by k_asm) (news_sub (by k_asm) (by walk_at "mine_sub"))
end

-- part CBV
-- needs HP CB
section
variable {w : World} {p : Program} {loose : List Str} {mean : ExcName → Option Value} {mg mb : Str → Option Value}
   {dp un : Nat} {gd : Option (List Code)} {cn : Str} {cs : Scope} {a : Addr} {ccd : Value} {cl : List (Str × Addr)} {outer : List Env} {A₀ : Around} {base h₀ : Heap} {L : Addr} {m : Str → Option Value} {N : List (Addr × Obj)} {g₁ : Array GenState} {d₁ : Drawn} {o₁ : OsState} {h₁ : Heap} {t₁ : Nat} {Q E : Value → Shared → Prop}
set_option maxHeartbeats 8000000 in
theorem cb_V {v1 v2 : Value} {t : Ty}
   (B : Below A₀ base outer h₀) (F : Fr h₀ L h₁ m) (X : Frag.In (hd.heap_1 w.params) h₀) (Nw : News h₀ L h₁ N) (T : Top p loose mean mg mb h₀) (hk : cs.kind = .function)
   (R1 : TyIn N v1 t) (R2 : TyIn N v2 .V) (hdep : t.dep ≤ 4) (hni : t ≠ .V)
   (hdd : dp + 5 < recursionLimit) (hu : un + 64 < cLine)
   (ret : ∀ h' tk' u, Fr h₀ L h' m → News h₀ L h' N → Q (.str (Str.ofString "maybe") u) ⟨h', g₁, d₁, tk', o₁⟩) :
   wpAny (model PySem.Challenge.pw_nu0382_01 w) (ktrTop dp un gd cn cs L a ccd cl outer) (call (.ref 68) [v1, v2]) Q E ⟨h₁, g₁, d₁, t₁, o₁⟩ := by
  obtain ⟨a1, n1, k1, r1, rfl, m1⟩ := R1.first
  obtain ⟨a2, n2, k2, r2, rfl, m2⟩ := R2.first
  refine wpAny_call ?_
  walk_at "mine_enter"
  k_steps
  exact ret _ _ _ (by k_asm) (news_sub (by k_asm) (by walk_at "mine_sub"))
set_option maxHeartbeats 8000000 in
theorem cb_I {v1 v2 : Value} {t : Ty}
   (B : Below A₀ base outer h₀) (F : Fr h₀ L h₁ m) (X : Frag.In (hd.heap_1 w.params) h₀) (Nw : News h₀ L h₁ N) (T : Top p loose mean mg mb h₀) (hk : cs.kind = .function)
   (R1 : TyIn N v1 t) (R2 : TyIn N v2 .I) (hdep : t.dep ≤ 4) (hnv : t.kind ≠ Str.ofString "var") (hni : t ≠ .I) (hnk : t.kind ≠ Str.ofString "intvar") (hn : t.kind ≠ Str.ofString "int")
   (hdd : dp + 5 < recursionLimit) (hu : un + 64 < cLine)
   (ret : ∀ h' tk' u, Fr h₀ L h' m → News h₀ L h' N → Q (.str (Str.ofString "no") u) ⟨h', g₁, d₁, tk', o₁⟩) :
   wpAny (model PySem.Challenge.pw_nu0382_01 w) (ktrTop dp un gd cn cs L a ccd cl outer) (call (.ref 68) [v1, v2]) Q E ⟨h₁, g₁, d₁, t₁, o₁⟩ := by
  obtain ⟨a1, n1, k1, r1, rfl, m1⟩ := R1.first
  obtain ⟨a2, n2, k2, r2, rfl, m2⟩ := R2.first
  refine wpAny_call ?_
  walk_at "mine_enter"
  k_steps
  exact ret _ _ _ (by k_asm) (news_sub (by k_asm) (by walk_at "mine_sub"))
set_option maxHeartbeats 8000000 in
theorem cb_Iint {v1 v2 : Value}
   (B : Below A₀ base outer h₀) (F : Fr h₀ L h₁ m) (X : Frag.In (hd.heap_1 w.params) h₀) (Nw : News h₀ L h₁ N) (T : Top p loose mean mg mb h₀) (hk : cs.kind = .function)
   (R1 : TyIn N v1 .int) (R2 : TyIn N v2 .I)
   (hdd : dp + 5 < recursionLimit) (hu : un + 64 < cLine)
   (ret : ∀ h' tk' u, Fr h₀ L h' m → News h₀ L h' N → Q (.str (Str.ofString "maybe") u) ⟨h', g₁, d₁, tk', o₁⟩) :
   wpAny (model PySem.Challenge.pw_nu0382_01 w) (ktrTop dp un gd cn cs L a ccd cl outer) (call (.ref 68) [v1, v2]) Q E ⟨h₁, g₁, d₁, t₁, o₁⟩ := by
  obtain ⟨a1, n1, k1, r1, rfl, m1⟩ := R1.first
  obtain ⟨a2, n2, k2, r2, rfl, m2⟩ := R2.first
  have hni : (Ty.int : Ty) ≠ .I := by decide
  have hdep : Ty.int.dep ≤ 4 := by decide
  refine wpAny_call ?_
  walk_at "mine_enter"
  k_steps
  exact ret _ _ _ (by k_asm) (news_sub (by k_asm) (by walk_at "mine_sub"))
end

-- part MT
theorem words_MT : True := by
  k_with "call builtin:list.pop" => ((k_here; (with_reducible show wpAny _ _ (call (Value.builtin _) [Value.ref _]) _ _ _); k_dflt (refine' kl_pop ?F ?N ?e ?U ?z ?_; (case F => k_asm); (case N => k_asm); (case U => k_upd); (case e => exact kl_last_app); (case z => assumption)); intro h' F' N'))
  k_with "call builtin:list.extend" => ((k_here; (with_reducible show wpAny _ _ (call (Value.builtin _) [Value.ref _, Value.ref _]) _ _ _); k_dflt (refine' kx_extend ?F ?N ?b ?U ?z ?_; (case F => k_asm); (case N => k_asm); (case b => k_mem); (case U => k_updF); (case z => k_extra "mine_room")); intro h' n' F' N'; (try dsimp only [] at N')))
  k_with "mine_room" => (first | assumption | exact Nat.le_of_ble_eq_true rfl | (have hsl9 := sizeLine_ge; (try simp only [List.length_append, List.length_cons, List.length_nil] at *); omega))
  k_with "mine_fact" => (first | exact beq_self_eq_true _ | exact beq_iff_eq.mpr (by assumption))
  k_with "mine_not" => (first | exact any_vi (by assumption) (by assumption) | exact fun e9 => absurd (beq_iff_eq.mp e9) (by assumption) | exact fun e9 => absurd (of_decide_eq_true e9) (by assumption))
  k_with "compareOp In str ref" => ((k_here; (with_reducible show wpAny _ _ (compareOp CmpOp.In (Value.str _ _) (Value.ref _)) _ _ _); k_dflt (refine' in_list_strs (News.isList ?k1 ?k2) ?k3 ?_; (case k1 => k_asm); (case k2 => with_reducible k_mem); (case k3 => kde_strs); k_whole)))
  k_with "compareOp In str ref" => ((k_here; (with_reducible show wpAny _ _ (compareOp CmpOp.In (Value.str _ _) (Value.ref _)) _ _ _); k_dflt (refine' kda_in ?k1 ?k2 ?k3 ?k4 (strKind_is _ _ _ _) _ rfl ?_; (case k1 => k_asm); (case k2 => k_mem); (case k3 => assumption); (case k4 => assumption); k_whole); (try dsimp only [fnd])))
  k_with "setItem ref str" => ((k_here; k_dflt (refine' kda_set ?F ?N ?U ?d (strKind_is _ _ _ _) ?z ?_; (case F => k_asm); (case N => k_asm); (case U => k_updF); (case d => assumption); (case z => exact Nat.le_of_ble_eq_true (by with_unfolding_all rfl))); intro h' o' F' N' hd'; (try dsimp only at N')))
  k_with "subscriptTail Name Subscript ref str" => ((k_here; k_dflt (refine' kda_item ?k1 ?k2 ?k3 (strKind_is _ _ _ _) ?k4 ?_; (case k1 => k_asm); (case k2 => k_mem); (case k3 => assumption); (case k4 => exact rfl))))
  k_with "call ref" => ((k_here; (with_reducible show wpAny _ _ (call (Value.ref 61) [_, _]) _ _ _); (with_unfolding_all refine' hp_call ?k1 ?k2 ?k3 ?k4 ?k5 ?k6 ?r1 ?r2 ?sb ?pl ?k7 ?k8 ?_ ?_; (case k1 => k_asm); (case k2 => k_asm); (case k3 => k_asm); (case k4 => k_asm); (case k5 => k_asm); (case k6 => exact rfl); (case r1 => assumption); (case r2 => assumption); (case sb => k_extra "mine_sub"); (case pl => assumption); (case k7 => k_extra "mine_rm"); (case k8 => k_extra "mine_rm"); k_whole); all_goals refine stop_intro ?_))
  k_with "mine_cb" => (((case k1 => k_asm); (case k2 => k_asm); (case k3 => k_asm); (case k4 => k_asm); (case k5 => k_asm); (case k6 => exact rfl); (case r1 => assumption); (case r2 => assumption); (case m1 => k_extra "mine_sub"); (case m2 => k_extra "mine_sub")))
  k_with "call ref" => ((k_here; (with_reducible show wpAny _ _ (call (Value.ref 68) [_, _]) _ _ _); (with_unfolding_all first | (refine' cb_same ?k1 ?k2 ?k3 ?k4 ?k5 ?k6 (TyIn.mono ?m1 ?r1) (TyIn.mono ?m2 ?r2) ?hd ?k7 ?k8 ?_; k_extra "mine_cb"; (case hd => assumption); (case k7 => k_extra "mine_rm"); (case k8 => k_extra "mine_rm")) | (refine' cb_V ?k1 ?k2 ?k3 ?k4 ?k5 ?k6 (TyIn.mono ?m1 ?r1) (TyIn.mono ?m2 ?r2) ?hd ?hn ?k7 ?k8 ?_; k_extra "mine_cb"; (case hd => assumption); (case hn => assumption); (case k7 => k_extra "mine_rm"); (case k8 => k_extra "mine_rm")) | (refine' cb_Iint ?k1 ?k2 ?k3 ?k4 ?k5 ?k6 (TyIn.mono ?m1 ?r1) (TyIn.mono ?m2 ?r2) ?k7 ?k8 ?_; k_extra "mine_cb"; (case k7 => k_extra "mine_rm"); (case k8 => k_extra "mine_rm")) | (refine' cb_I ?k1 ?k2 ?k3 ?k4 ?k5 ?k6 (TyIn.mono ?m1 ?r1) (TyIn.mono ?m2 ?r2) ?hd ?hv ?hn ?hw ?hi ?k7 ?k8 ?_; k_extra "mine_cb"; (case hd => assumption); (case hv => assumption); (case hn => assumption); (case hw => assumption); (case hi => assumption); (case k7 => k_extra "mine_rm"); (case k8 => k_extra "mine_rm"))); intro h' tk' u' F' N'; (try dsimp only)))
  k_with "exec While Compare cons nil" => (refine stop_intro ?_)
  k_with "truthy ref" => ((k_here; k_dflt (refine' truthy_l ?k1 ?k2 ?k3 ?k4 ?_; (case k1 => k_asm); (case k2 => k_mem); (case k3 => first | (simp; done) | omega); (case k4 => first | exact rfl | assumption); k_whole)))
  k_with "mine_sub" => (first | (intro p9 h9; replace h9 := sbN p9 h9; k_extra "mine_up") | fail "no")
  trivial
-- needs HP CB CBV MTS
section
variable {w : World} {p : Program} {loose : List Str} {mean : ExcName → Option Value} {mg mb : Str → Option Value}
   {dp un : Nat} {gd : Option (List Code)} {cn : Str} {cs : Scope} {a : Addr} {ccd : Value} {cl : List (Str × Addr)} {outer : List Env} {A₀ : Around} {base h₀ : Heap} {L : Addr} {m : Str → Option Value} {N : List (Addr × Obj)} {g₁ : Array GenState} {d₁ : Drawn} {o₁ : OsState} {h₁ : Heap} {t₁ : Nat} {Q E : Value → Shared → Prop}
set_option maxHeartbeats 8000000 in
theorem mt_call {N₁ : List (Addr × Obj)} {v1 v2 : Value} {pt t y : Ty} {nl fd : Addr} {o : Obj} {nm : Bool} {k2 : Nat} {tT : Tok}
   (B : Below A₀ base outer h₀) (F : Fr h₀ L h₁ m) (X : Frag.In (hd.heap_1 w.params) h₀) (Nw : News h₀ L h₁ ((fd, o) :: N)) (T : Top p loose mean mg mb h₀) (hk : cs.kind = .function)
   (R1 : TyIn N₁ v1 pt) (R2 : TyIn N₁ v2 t) (sbN : ∀ p ∈ N₁, p ∈ N) (hP : PG nm y pt t) (hnl : (nl, listOf (if nm = true then #[.str (Str.ofString "T") tT] else #[]) k2) ∈ N)
   (hd0 : o.IsDictOf (strKind PySem.Challenge.pw_nu0382_01 w) (fnd none)) (hlo : (fd == sysModules) = false) (hfd : ∀ q ∈ N, q.1 ≠ fd) (hsz : pt.size + t.size ≤ 400)
   (hdd : dp + 10 < recursionLimit) (hu : un + 200 < cLine)
   (ret : ∀ h' tk' tku o' f, Fr h₀ L h' m → News h₀ L h' ((fd, o') :: N) → o'.IsDictOf (strKind PySem.Challenge.pw_nu0382_01 w) (fnd f) → (m1 pt t ≠ .no → FOk N₁ y (ht pt t) f) → Q (.str (m1 pt t).str tku) ⟨h', g₁, d₁, tk', o₁⟩) :
   wpAny (model PySem.Challenge.pw_nu0382_01 w) (ktrTop dp un gd cn cs L a ccd cl outer) (call (.ref 75) [v1, v2, .ref nl, .ref fd]) Q E ⟨h₁, g₁, d₁, t₁, o₁⟩ := by
  refine wpAny_call ?_
  walk_at "mine_enter"
  k_steps
  refine stop_elim ?_
  refine mt_while (by k_asm) (by k_asm) rfl rfl rfl rfl hd0 (by k_ne) (by k_all) (by k_ne) (by k_all) (by k_ne) R1 R2 hP hsz ?_
  intro n m₁ news₁ h₁ tk₁ F₁ N₁ J₁
  obtain ⟨ans, vs, c, u, ps, tl, o, f, e1, e2, e3, e4, rfl, P, hne, hne2, hlf, hd1, hfo, hfin, hhb, hG, rfl, hmu, han⟩ := J₁
  replace F₁ := fr_at4 F₁ e1 e2 e3 e4
  clear e1 e2 e3 e4
  by_cases hv : vs = []
  · subst hv
    cases P
    k_steps
    have hans : ans = m1 pt t := (Ans.or_yes ans).symm.trans hfin
    subst hans
    refine ret _ _ _ _ f (by k_asm) (news_sub (by k_asm) (by walk_at "mine_sub")) hd1 fun _ => ?_
    simp only [hs, Bool.or_false] at hhb
    rw [← hhb]
    rcases hfo with rfl | ⟨v, rfl, hv9⟩
    · exact .inl ⟨rfl, rfl⟩
    · exact .inr ⟨v, rfl, rfl, hv9⟩
  · obtain ⟨ws, a1, n1, x, z, p1, t1, qs, rfl, rfl, P', hm, hx, hz⟩ := P.last hv
    have he : (ws ++ [Value.ref a1]).isEmpty = false := isEmpty_app
    have hl9 : (ws ++ [Value.ref a1]).toArray.toList.length ≤ sizeLine := by
      have h1 := P.len; have h2 := mu_len (qs ++ [(p1, t1)]); have h3 := sizeLine_ge
      simp only [List.length_append, List.length_singleton] at h1 h2 ⊢
      omega
    have hmu1 : mu qs + (p1.size + t1.size) ≤ 400 := by have := mu_app qs [(p1, t1)]; simp only [mu] at this; omega
    obtain ⟨a2, n2, k2, r2, rfl, m2⟩ := hx.first
    obtain ⟨a3, n3, k3, r3, rfl, m3⟩ := hz.first
    replace m2 := sbN _ m2
    replace m3 := sbN _ m3
    have hG1 := hG (p1, t1) (List.mem_append_right _ List.mem_cons_self)
    have hG2 : ∀ q ∈ qs, PG nm y q.1 q.2 := fun q hq => hG q (List.mem_append_left _ hq)
    have hd1' := hG1.d1
    have hd2' := hG1.d2
    dsimp only at hd1' hd2'
    rw [ms_app] at hfin
    rw [hs_app] at hhb
    simp only [ms, hs, Ans.or_yes, Bool.or_false] at hfin hhb
    have hsp := p1.size_pos
    by_cases hT : p1 = .T
    · subst hT
      have hnm := hG1.n rfl
      subst hnm
      rw [if_pos rfl] at hnl
      obtain ⟨_, t9, u9, hx9⟩ := hx.T_at
      replace hx9 := sbN _ hx9
      clear m2
      have e9 : (m1 .T t1) = .yes := rfl
      have e8 : ht .T t1 = true := rfl
      have ety : t1 = y := hG1.l
      subst ety
      rcases hfo with rfl | ⟨v, rfl, hv9⟩
      · k_steps
        refine mt_next (.inl rfl) (by k_asm) (by k_asm) rfl (by k_mem) (by k_mem) (by walk_at "mine_sub") rfl rfl rfl rfl P' hne hne2 hlf (fo := some (.ref a3)) (by assumption) (.inr ⟨_, rfl, hz⟩) ?_ ?_ hG2 ?_ hmu han
        · rw [← hfin, e9]; simp only [Ans.or_yes]
        · rw [← hhb, e8]; simp
        · rw [mu_app]; simp only [mu]; omega
      · k_steps
        refine mt_next (.inl rfl) (by k_asm) (by k_asm) rfl (by k_mem) (by k_mem) (by walk_at "mine_sub") rfl rfl rfl rfl P' hne hne2 hlf hd1 (.inr ⟨_, rfl, hv9⟩) ?_ ?_ hG2 ?_ hmu han
        · rw [← hfin, e9]; simp only [Ans.or_yes]
        · rw [← hhb, e8]; simp
        · rw [mu_app]; simp only [mu]; omega
    · have hpl : p1.plain = true := Ty.okp_plain hG1.ok hT
      obtain ⟨kp, kv, ki⟩ := plain_kind hpl
      by_cases hvi : t1.vi = true
      · have e8 := ht_vi hT hvi
        induction t1 using Ty.casesOn <;> first | (exfalso; revert hvi; simp [Ty.vi]; done) | skip
        · have e9 := m1_V hT
          have hnV : p1 ≠ .V := by rintro rfl; exact absurd hpl (by decide)
          k_steps
          refine mt_next (ans := .maybe) (.inl rfl) (by k_asm) (by k_asm) rfl (by k_mem) (by k_mem) (by walk_at "mine_sub") rfl rfl rfl rfl P' hne hne2 hlf hd1 hfo ?_ ?_ hG2 ?_ hmu (by decide)
          · rw [← hfin, e9]; generalize ms qs = z; revert han; induction ans using Ans.casesOn <;> induction z using Ans.casesOn <;> intro han <;> first | rfl | exact absurd rfl han
          · rw [← hhb, e8]; simp
          · rw [mu_app]; simp only [mu]; omega
        · by_cases hint : p1 = .int
          · subst hint
            have e9 : m1 .int .I = .maybe := rfl
            k_steps
            refine mt_next (ans := .maybe) (.inl rfl) (by k_asm) (by k_asm) rfl (by k_mem) (by k_mem) (by walk_at "mine_sub") rfl rfl rfl rfl P' hne hne2 hlf hd1 hfo ?_ ?_ hG2 ?_ hmu (by decide)
            · rw [← hfin, e9]; generalize ms qs = z; revert han; induction ans using Ans.casesOn <;> induction z using Ans.casesOn <;> intro han <;> first | rfl | exact absurd rfl han
            · rw [← hhb, e8]; simp
            · rw [mu_app]; simp only [mu]; omega
          · have e9 := m1_I hT hint
            have kii := kind_int hint
            have hnI : p1 ≠ .I := by rintro rfl; exact absurd hpl (by decide)
            k_steps
            have eno : m1 pt t = .no := by rw [← hfin, e9]; simp only [Ans.or_no]
            (try dsimp only [WhileStep2])
            k_steps
            rw [eno] at ret
            exact ret _ _ _ _ f (by k_asm) (news_sub (by k_asm) (by walk_at "mine_sub")) hd1 fun h => absurd rfl h
      · have hvi : t1.vi = false := by simpa using hvi
        obtain ⟨tv, ti⟩ := vi_kind hvi
        have e9 := m1_hp hpl hvi
        k_steps
        · refine stop_elim ?_
          intro hnone h' tk' F' N'
          rw [hnone] at e9
          k_steps
          have eno : m1 pt t = .no := by rw [← hfin, e9]; simp only [Ans.or_no]
          (try dsimp only [WhileStep2])
          k_steps
          rw [eno] at ret
          exact ret _ _ _ _ f (by k_asm) (news_sub (by k_asm) (by walk_at "mine_sub")) hd1 fun h => absurd rfl h
        · refine stop_elim ?_
          intro ps9 l9 vs9 n9 tl9 h' tk' hsome F' N' hlt hmem hP9 hlen
          rw [hsome] at e9
          dsimp only at e9
          have e8 := ht_hp hpl hsome
          have e7 := PG.hp hpl hsome hG1
          have e6 := mu_hp hsome
          (try simp only [List.cons_append, List.append_assoc] at N' hlt)
          have hn1 := mt_ne hne (by k_mem) hlt
          have hn2 := mt_ne hne2 (by k_mem) hlt
          have hroom : ws.length + vs9.length ≤ sizeLine := by
            have h1 := P'.len; have h2 := mu_len qs; have h3 := sizeLine_ge
            omega
          have P9 : PairsIn N₁ (N ++ (tl ++ tl9)) (ws ++ vs9) (qs ++ ps9) := by
            refine PairsIn.app (P'.mono fun p hp => ?_) (hP9.mono fun p hp => List.mem_append_right _ (List.mem_append_right _ hp))
            rcases List.mem_append.mp hp with hp | hp
            · exact List.mem_append_left _ hp
            · exact List.mem_append_right _ (List.mem_append_left _ hp)
          have hG9 : ∀ q ∈ qs ++ ps9, PG nm y q.1 q.2 := fun q hq => (List.mem_append.mp hq).elim (hG2 q) (e7 q)
          have hfin9 : ans.or (ms (qs ++ ps9)) = m1 pt t := by rw [← hfin, e9, ms_app]
          have hhb9 : (f.isSome || hs (qs ++ ps9)) = ht pt t := by rw [← hhb, e8, hs_app]
          have hmu9 : mu (qs ++ ps9) < mu (qs ++ [(p1, t1)]) := by rw [mu_app, mu_app]; simp only [mu]; omega
          rcases vs9 with _ | ⟨x9, r9⟩
          · k_steps
            refine mt_next (.inl rfl) (by k_asm) (by k_asm) rfl (by k_mem) (by k_mem) (by walk_at "mine_sub") rfl rfl rfl rfl P9 hn1 hn2 hlf hd1 hfo hfin9 hhb9 hG9 hmu9 hmu han
          · k_steps
            refine mt_next (.inl rfl) (by k_asm) (by k_asm) rfl (by k_mem) (by k_mem) (by walk_at "mine_sub") rfl rfl rfl rfl P9 hn1 hn2 hlf hd1 hfo hfin9 hhb9 hG9 hmu9 hmu han
end

-- part MA
theorem words_MA : True := by
  k_with "exec For Tuple Call cons nil" => (k_here; k_dflt (refine For_turns (by k_asm) ?_))
  k_with "pyIter ref" => (refine stop_intro ?_)
  k_with "call ref" => ((with_reducible show wpAny _ _ (call (Value.ref 75) [_, _, _, _]) _ _ _); refine stop_intro ?_)
  trivial
-- needs MT Spec3 Loops
section
variable {w : World} {p : Program} {loose : List Str} {mean : ExcName → Option Value} {mg mb : Str → Option Value}
   {dp un : Nat} {gd : Option (List Code)} {cn : Str} {cs : Scope} {a : Addr} {ccd : Value} {cl : List (Str × Addr)} {outer : List Env} {A₀ : Around} {base h₀ : Heap} {L : Addr} {m : Str → Option Value} {N : List (Addr × Obj)} {g₁ : Array GenState} {d₁ : Drawn} {o₁ : OsState} {h₁ : Heap} {t₁ : Nat} {Q E : Value → Shared → Prop}
set_option maxHeartbeats 4000000 in
theorem ma_call {N₁ : List (Addr × Obj)} {v1 v2 : Value} {pt t y : Ty} {pa sa nl fd : Addr} {o : Obj} {nm : Bool} {k2 n1 n2 : Nat} {tT : Tok}
   (B : Below A₀ base outer h₀) (F : Fr h₀ L h₁ m) (X : Frag.In (hd.heap_1 w.params) h₀) (Nw : News h₀ L h₁ ((fd, o) :: N)) (T : Top p loose mean mg mb h₀) (hk : cs.kind = .function)
   (mp : (pa, tupObj [v1] n1) ∈ N) (mss : (sa, tupObj [v2] n2) ∈ N)
   (R1 : TyIn N₁ v1 pt) (R2 : TyIn N₁ v2 t) (sbN : ∀ p ∈ N₁, p ∈ N) (hP : PG nm y pt t) (hnl : (nl, listOf (if nm = true then #[.str (Str.ofString "T") tT] else #[]) k2) ∈ N)
   (hd0 : o.IsDictOf (strKind PySem.Challenge.pw_nu0382_01 w) (fnd none)) (hlo : (fd == sysModules) = false) (hfd : ∀ q ∈ N, q.1 ≠ fd) (hsz : pt.size + t.size ≤ 400)
   (hdd : dp + 12 < recursionLimit) (hu : un + 220 < cLine)
   (ret : ∀ h' tk' tku o' f, Fr h₀ L h' m → News h₀ L h' ((fd, o') :: N) → o'.IsDictOf (strKind PySem.Challenge.pw_nu0382_01 w) (fnd f) → (m1 pt t ≠ .no → FOk N₁ y (ht pt t) f) → Q (.str (m1 pt t).str tku) ⟨h', g₁, d₁, tk', o₁⟩) :
   wpAny (model PySem.Challenge.pw_nu0382_01 w) (ktrTop dp un gd cn cs L a ccd cl outer) (call (.ref 82) [.ref pa, .ref sa, .ref nl, .ref fd]) Q E ⟨h₁, g₁, d₁, t₁, o₁⟩ := by
  refine wpAny_call ?_
  walk_at "mine_enter"
  k_steps
  refine stop_elim ?_
  rename ZipK _ _ _ _ _ _ _ _ => Z9
  rename (∀ p ∈ (fd, o) :: N, p.1 < _) => lz9
  refine it_zip (maJ w N₁ N nl fd y pt t) rfl (by k_asm) (by k_asm) Z9 lz9 (by k_mem) (by k_mem) rfl ⟨o, none, .yes, _, rfl, rfl, rfl, rfl, hd0, .inl ⟨rfl, rfl, rfl⟩⟩ rfl rfl rfl ?_ ?_
  · intro i x z m₁ nx h tk own hx hy J₁ hw ho F₁ N₁
    obtain ⟨o₁, f, ans, tka, e1, e2, e3, rfl, hd1, hc⟩ := J₁
    have hi : i = 0 := by
      rcases i with _ | i
      · rfl
      · simp at hx
    subst hi
    rcases hc with ⟨_, rfl, rfl⟩ | ⟨h1, _⟩
    rotate_left
    · exact absurd h1 (by decide)
    cases hx
    cases hy
    rw [kn1 e1, kn1 e2, kn1 e3] at F₁
    dsimp only at F₁
    k_steps
    refine stop_elim ?_
    have sb9 : ∀ p ∈ N, p ∈ (pa, tupObj [v1] n1) :: (sa, tupObj [v2] n2) :: (N ++ own) := fun p hp => List.mem_cons_of_mem _ (List.mem_cons_of_mem _ (List.mem_append_left _ hp))
    have hne9 : ∀ q ∈ (pa, tupObj [v1] n1) :: (sa, tupObj [v2] n2) :: (N ++ own), q.1 ≠ fd := by
      intro q hq
      rcases List.mem_cons.mp hq with rfl | hq
      · exact hfd _ mp
      rcases List.mem_cons.mp hq with rfl | hq
      · exact hfd _ mss
      rcases List.mem_append.mp hq with hq | hq
      · exact hfd q hq
      · exact Nat.ne_of_gt (Nat.lt_of_lt_of_le (lz9 _ List.mem_cons_self) (ho q hq))
    with_unfolding_all refine' mt_call (N := (pa, tupObj [v1] n1) :: (sa, tupObj [v2] n2) :: (N ++ own)) (by k_asm) (by k_asm) (by k_asm) (news_sub N₁ ?_) (by k_asm) rfl R1 R2 (fun p hp => sb9 p (sbN p hp)) hP (sb9 _ hnl) hd1 hlo hne9 hsz (by walk_at "mine_rm") (by walk_at "mine_rm") ?_
    · intro p hp
      rcases List.mem_cons.mp hp with rfl | hp
      · exact List.mem_cons_of_mem _ (List.mem_cons_of_mem _ List.mem_cons_self)
      rcases List.mem_cons.mp hp with rfl | hp
      · exact List.mem_cons_self
      rcases List.mem_cons.mp hp with rfl | hp
      · exact List.mem_cons_of_mem _ List.mem_cons_self
      · exact List.mem_cons_of_mem _ (List.mem_cons_of_mem _ (List.mem_cons_of_mem _ hp))
    intro h' tk' tku o' f' F' N' hd' hf'
    generalize hA : m1 pt t = A9 at hf' ret ⊢
    have hw9 : ∀ p ∈ (fd, o') :: N, p.1 ∉ _ := fun p hp => (List.mem_cons.mp hp).elim (fun e => by rw [e]; exact hw (fd, o₁) List.mem_cons_self) fun hp => hw p (List.mem_cons_of_mem _ hp)
    cases A9
    · k_steps
      exact FStep.intro ((fd, o') :: N) (.inl rfl) rfl (by k_asm) (by k_asm) (by walk_at "mine_sub") hw9 ⟨o', f', .yes, _, rfl, rfl, rfl, rfl, hd', .inr ⟨rfl, hA.symm, hf' (by decide)⟩⟩
    · k_steps
      exact FStep.intro ((fd, o') :: N) (.inl rfl) rfl (by k_asm) (by k_asm) (by walk_at "mine_sub") hw9 ⟨o', f', .maybe, _, rfl, rfl, rfl, rfl, hd', .inr ⟨rfl, hA.symm, hf' (by decide)⟩⟩
    · k_steps
      (try dsimp only [FStep])
      k_steps
      exact ret _ _ _ _ f' (by k_asm) (news_sub (by k_asm) (by walk_at "mine_sub")) hd' fun h => absurd rfl h
  · intro m₁ nx h tk J₁ F₁ N₁
    obtain ⟨o₁, f, ans, tka, e1, e2, e3, rfl, hd1, hc⟩ := J₁
    rcases hc with ⟨h1, _⟩ | ⟨_, rfl, hf⟩
    · simp at h1
    rw [kn1 e3] at F₁
    k_steps
    exact ret _ _ _ _ f (by k_asm) (news_sub (by k_asm) (by walk_at "mine_sub")) hd1 fun _ => hf
theorem ma_call2 {N₁ : List (Addr × Obj)} {v1 v2 : Value} {pt t y : Ty} {pa sa nl fd : Addr} {o : Obj} {nm : Bool} {k2 n1 n2 : Nat} {tT : Tok}
   (B : Below A₀ base outer h₀) (F : Fr h₀ L h₁ m) (X : Frag.In (hd.heap_1 w.params) h₀) (T : Top p loose mean mg mb h₀) (hk : cs.kind = .function)
   (R1 : TyIn N₁ v1 pt) (R2 : TyIn N₁ v2 t) (sbN : ∀ p ∈ N₁, p ∈ N) (hP : PG nm y pt t)
   (Nw : News h₀ L h₁ ((fd, o) :: (nl, listOf (if nm = true then #[.str (Str.ofString "T") tT] else #[]) k2) :: (pa, tupObj [v1] n1) :: (sa, tupObj [v2] n2) :: N))
   (hd0 : o.IsDictOf (strKind PySem.Challenge.pw_nu0382_01 w) (fnd none)) (hlo : (fd == sysModules) = false) (hfd : ∀ q ∈ (nl, listOf (if nm = true then #[.str (Str.ofString "T") tT] else #[]) k2) :: (pa, tupObj [v1] n1) :: (sa, tupObj [v2] n2) :: N, q.1 ≠ fd) (hsz : pt.size + t.size ≤ 400)
   (hdd : dp + 12 < recursionLimit) (hu : un + 220 < cLine)
   (ret : ∀ h' tk' tku o' f, Fr h₀ L h' m → News h₀ L h' ((fd, o') :: (nl, listOf (if nm = true then #[.str (Str.ofString "T") tT] else #[]) k2) :: (pa, tupObj [v1] n1) :: (sa, tupObj [v2] n2) :: N) → o'.IsDictOf (strKind PySem.Challenge.pw_nu0382_01 w) (fnd f) → (m1 pt t ≠ .no → FOk N₁ y (ht pt t) f) → Q (.str (m1 pt t).str tku) ⟨h', g₁, d₁, tk', o₁⟩) :
   wpAny (model PySem.Challenge.pw_nu0382_01 w) (ktrTop dp un gd cn cs L a ccd cl outer) (call (.ref 82) [.ref pa, .ref sa, .ref nl, .ref fd]) Q E ⟨h₁, g₁, d₁, t₁, o₁⟩ :=
  ma_call B F X Nw T hk (List.mem_cons_of_mem _ List.mem_cons_self) (List.mem_cons_of_mem _ (List.mem_cons_of_mem _ List.mem_cons_self)) R1 R2 (fun p hp => List.mem_cons_of_mem _ (List.mem_cons_of_mem _ (List.mem_cons_of_mem _ (sbN p hp)))) hP List.mem_cons_self hd0 hlo hfd hsz hdd hu ret
end

-- part NO
theorem words_NO : True := by
  k_with "eval ListComp" => (k_here; lcp_look; k_dflt (refine LCp.ListComp_P (F₀ := by k_asm) (by with_unfolding_all rfl) (by decide) (by rfl) (by decide) (by rfl) (by rfl) (by decide) ?_))
  k_with "SrcLP" => (k_here; k_dflt (refine' LCp.SrcLP.ledger ?a ?b ?c ?d ?e ?_; (case a => exact rfl); (case b => k_asm); (case c => k_asm); (case d => k_mem); (case e => first | exact Nat.le_of_ble_eq_true rfl | size_fits); intro g'; lcp_lit))
  k_with "CompEnd" => (first | k_dflt (refine LCg.CompEnd.intro (by k_asm) (by k_asm) _ (fun _ h => h) (by assumption) (.inr ⟨_, by k_mem, rfl, _, rfl⟩) ?_) | fail "no")
  trivial
-- needs MA
section
variable {w : World} {p : Program} {loose : List Str} {mean : ExcName → Option Value} {mg mb : Str → Option Value}
   {dp un : Nat} {gd : Option (List Code)} {cn : Str} {cs : Scope} {a : Addr} {ccd : Value} {cl : List (Str × Addr)} {outer : List Env} {A₀ : Around} {base h₀ : Heap} {L : Addr} {m : Str → Option Value} {N : List (Addr × Obj)} {g₁ : Array GenState} {d₁ : Drawn} {o₁ : OsState} {h₁ : Heap} {t₁ : Nat} {Q E : Value → Shared → Prop}
set_option maxHeartbeats 4000000 in
theorem no_call {v : Value} {r : Rw}
   (B : Below A₀ base outer h₀) (F : Fr h₀ L h₁ m) (X : Frag.In (hd.heap_1 w.params) h₀) (Nw : News h₀ L h₁ N) (T : Top p loose mean mg mb h₀) (hk : cs.kind = .function)
   (Ri : RowIn w.params N v r)
   (hdd : dp + 12 < recursionLimit) (hu : un + 220 < cLine)
   (ret : ∀ h' tk' l c tT, Fr h₀ L h' m → News h₀ L h' ((l, listOf (if r.hd.hasT = true then #[.str (Str.ofString "T") tT] else #[]) c) :: N) → (∀ q ∈ N, q.1 ≠ l) → Q (.ref l) ⟨h', g₁, d₁, tk', o₁⟩) :
   wpAny (model PySem.Challenge.pw_nu0382_01 w) (ktrTop dp un gd cn cs L a ccd cl outer) (call (.ref 94) [v]) Q E ⟨h₁, g₁, d₁, t₁, o₁⟩ := by
  obtain ⟨rfl, hi, hd', hpar, hta, hst, -, ⟨hT, rfl⟩ | ⟨hT, pt, aa, tT, vs, n4, n5, rfl, hp1, hp2, hp3⟩⟩ := Ri.v
  · refine wpAny_call ?_
    walk_at "mine_enter"
    k_steps
    (rename LCg.Off1 _ _ => o9); exact ret _ _ _ _ 0 (by k_asm) (by rw [hT]; k_asm) (off1_all o9)
  · refine wpAny_call ?_
    walk_at "mine_enter"
    k_steps
    (rename LCg.Off1 _ _ => o9); exact ret _ _ _ _ tT (by k_asm) (by rw [hT]; k_asm) (off1_all o9)
end

-- part MI
theorem words_MI : True := by
  k_with "call ref" => (first | ((with_reducible show wpAny _ _ (call (Value.ref 94) [_]) _ _ _); (with_unfolding_all refine' no_call ?k1 ?k2 ?k3 ?k4 ?k5 ?k6 (RowIn.mono ?m1 ?r1) ?k7 ?k8 ?_; (case k1 => k_asm); (case k2 => k_asm); (case k3 => k_asm); (case k4 => k_asm); (case k5 => k_asm); (case k6 => exact rfl); (case r1 => assumption); (case m1 => k_extra "mine_sub"); (case k7 => k_extra "mine_rm"); (case k8 => k_extra "mine_rm"); k_whole); intro h' tk' l' c' tT' F' N' l1'; (try simp only [List.forall_mem_cons] at l1')) | fail "no")
  k_with "call ref" => ((with_reducible show wpAny _ _ (call (Value.ref 82) [_, _, _, _]) _ _ _); refine stop_intro ?_)
  k_with "call type:tuple cons nil" => (k_here; (with_reducible show wpAny _ _ (call (Value.type _) [Value.ref _]) _ _ _); k_dflt (refine' call_tuple_tup (News.isTup ?k1 ?k2) ?_; (case k1 => k_asm); (case k2 => with_reducible k_mem)))
  k_with "binaryOp Add ref ref" => (k_here; (with_reducible show wpAny _ _ (binaryOp _ (Value.ref _) (Value.ref _)) _ _ _); k_dflt (refine' kde_addT0 ?k1 ?k2 (News.isTup ?a1 ?a2) (News.isTup ?b1 ?b2) ?k5 ?k7 ?_; (case k1 => k_asm); (case k2 => k_asm); (case a1 => k_asm); (case a2 => with_reducible k_mem); (case b1 => k_asm); (case b2 => with_reducible k_mem); (case k5 => exact rfl); (case k7 => exact Nat.le_of_ble_eq_true rfl); k_whole))
  trivial
-- needs NO
section
variable {w : World} {p : Program} {loose : List Str} {mean : ExcName → Option Value} {mg mb : Str → Option Value}
   {dp un : Nat} {gd : Option (List Code)} {cn : Str} {cs : Scope} {a : Addr} {ccd : Value} {cl : List (Str × Addr)} {outer : List Env} {A₀ : Around} {base h₀ : Heap} {L : Addr} {m : Str → Option Value} {N : List (Addr × Obj)} {g₁ : Array GenState} {d₁ : Drawn} {o₁ : OsState} {h₁ : Heap} {t₁ : Nat} {Q E : Value → Shared → Prop}
set_option maxHeartbeats 4000000 in
theorem mi_call {N₁ : List (Addr × Obj)} {v vt : Value} {r : Rw} {t y : Ty} {tar : Addr} {kk : Nat}
   (B : Below A₀ base outer h₀) (F : Fr h₀ L h₁ m) (X : Frag.In (hd.heap_1 w.params) h₀) (Nw : News h₀ L h₁ N) (T : Top p loose mean mg mb h₀) (hk : cs.kind = .function)
   (Ri : RowIn w.params N₁ v r) (mta : (tar, tupObj [] kk) ∈ N) (R2 : TyIn N₁ vt t) (sbN : ∀ p ∈ N₁, p ∈ N) (hP : PG r.hd.hasT y r.hd t) (hsz : r.hd.size + t.size ≤ 400)
   (hdd : dp + 20 < recursionLimit) (hu : un + 300 < cLine)
   (ret : ∀ h' tk' tku D fd o' f n, Fr h₀ L h' m → News h₀ L h' ((D, tupObj [.str (m1 r.hd t).str tku, .ref fd] n) :: (fd, o') :: N) → (fd == sysModules) = false → (∀ q ∈ N, q.1 < fd) → fd < D → (∀ q ∈ N, q.1 < D) →
      o'.IsDictOf (strKind PySem.Challenge.pw_nu0382_01 w) (fnd f) → (m1 r.hd t ≠ .no → FOk N₁ y (ht r.hd t) f) → Q (.ref D) ⟨h', g₁, d₁, tk', o₁⟩) :
   wpAny (model PySem.Challenge.pw_nu0382_01 w) (ktrTop dp un gd cn cs L a ccd cl outer) (call (.ref 101) [v, .ref tar, vt]) Q E ⟨h₁, g₁, d₁, t₁, o₁⟩ := by
  have Ri2 := Ri
  obtain ⟨rfl, hi, hd', hpar, hta, hst, -, hTT⟩ := Ri.v
  replace hi := sbN _ hi
  replace hd' := sbN _ hd'
  replace hpar := sbN _ hpar
  replace hta := sbN _ hta
  refine wpAny_call ?_
  walk_at "mine_enter"
  k_steps
  refine stop_elim ?_
  rename (_ == sysModules) = false => lo9
  rename Obj.IsDictOf (PySem.strKind _ _) _ _ => hs9
  with_unfolding_all refine' ma_call2 (N := N) (by k_asm) (by k_asm) (by k_asm) (by k_asm) rfl hst R2 sbN hP (news_sub (by k_asm) (by walk_at "mine_sub")) hs9 lo9 (by k_all) hsz (by walk_at "mine_rm") (by walk_at "mine_rm") ?_
  intro h' tk' tku o' f' F' N' hd9 hf9
  k_steps
  exact ret _ _ _ _ _ _ _ _ (by k_asm) (news_sub (by k_asm) (by walk_at "mine_sub")) lo9 (by assumption) (by walk_at "mine_lt") (ktn_ltOf (by walk_at "mine_lt")) hd9 hf9
end

-- part ND
theorem words_ND : True := by
  k_with "eval ListComp" => (first | ((have m9 : Mark6 := by assumption); clear m9; refine stop_intro ?_) | (k_here; (with_reducible show wpAny _ _ (eval (Expr.ListComp _ [⟨Expr.Name _ _, Expr.Name _ _, [], 0⟩] _ _) _) _ _ _); k_dflt (refine ListComp_T1 (F₀ := by k_asm) (by with_unfolding_all rfl) (by decide) (by rfl) (by decide) (by rfl) ?_ (fun _ => rfl))) | fail "no")
  k_with "SrcT" => (k_here; k_dflt (refine' SrcT.ledger ?a ?b ?c ?d ?e ?_; (case a => exact rfl); (case b => k_asm); (case c => k_asm); (case d => k_mem); (case e => exact Nat.le_of_ble_eq_true rfl); intro g'; lcg_lit))
  k_with "CompEnd" => (first | k_dflt (refine compEnd1 (by k_asm) (by k_asm) ?c1 ?c2 ?c3 (by assumption) ?e ?_; (case c1 => k_ne); (case c2 => k_ne); (case c3 => k_ne); (case e => k_mem)) | fail "no")
  k_with "exec For Tuple Attribute cons nil" => (k_here; k_dflt (refine For_turns (by k_asm) ?_))
  k_with "CompRest" => (first | k_dflt (first | (refine LCg.CompRest.succ ?_; intro v' I' oI' C' oC' D' m' h' tk' E' hv' hC' hx' F' N' off' ne'; cases hv'; (try simp only [LCg.Off3, and_true] at off')) | refine LCg.CompRest.zero ?_) | fail "no")
  k_with "subscriptTail Name Name ref str" => (k_here; k_dflt (refine' kda_item ?k1 ?k2 ?k3 (strKind_is _ _ _ _) ?k4 ?_; (case k1 => k_asm); (case k2 => k_mem); (case k3 => assumption); (case k4 => exact rfl)))
  k_with "mine_all_lt" => (first | exact fa_nil | (refine fa_cons ?_ ?_; (dsimp only; k_extra "mine_lt"); k_extra "mine_all_lt"))
  trivial
-- needs MI LcT
structure Mark6 : Prop
theorem needs_cut {M : Model} {A : Around} {tree : Sem Value} {E : Value → Shared → Prop} {Q : Value → Shared → Prop} {h₀ h : Heap} {L : Addr} {m : Str → Option Value} {news : List (Addr × Obj)} {g : Array GenState} {d : Drawn} {t : Nat} {o : OsState} {x : Value} {asks : List Tr} {l : Addr} {c0 : Nat} (_F : Fr h₀ L h m) (_N : News h₀ L h news) (_hl : (l, listOf #[] c0) ∈ news)
    (h1 : ∀ Q' : Value → Shared → Prop, (∀ D h' tk' tl ys c, Fr h₀ L h' m → News h₀ L h' ((D, listOf (List.toArray ys) c) :: (tl ++ news)) → Lts news tl → D ≠ l → NeedsIn x tl ys asks → ys.length ≤ 2 → Q' (.ref D) ⟨h', g, d, tk', o⟩) → wpAny M A tree Q' E ⟨h, g, d, t, o⟩)
    (h2 : ∀ D h' tk' tl ys c, Fr h₀ L h' m → News h₀ L h' ((D, listOf (List.toArray ys) c) :: (tl ++ news)) → Lts news tl → D ≠ l → NeedsIn x tl ys asks → ys.length ≤ 2 → Q (.ref D) ⟨h', g, d, tk', o⟩) : wpAny M A tree Q E ⟨h, g, d, t, o⟩ := h1 Q h2
section
variable {w : World} {p : Program} {loose : List Str} {mean : ExcName → Option Value} {mg mb : Str → Option Value}
   {dp un : Nat} {gd : Option (List Code)} {cn : Str} {cs : Scope} {a : Addr} {ccd : Value} {cl : List (Str × Addr)} {outer : List Env} {A₀ : Around} {base h₀ : Heap} {L : Addr} {m : Str → Option Value} {N : List (Addr × Obj)} {g₁ : Array GenState} {d₁ : Drawn} {o₁ : OsState} {h₁ : Heap} {t₁ : Nat} {Q E : Value → Shared → Prop}
set_option maxHeartbeats 4000000 in
theorem nd_call {sv v x : Value} {f : Option Value} {r : Rw} {fd : Addr} {o : Obj}
   (B : Below A₀ base outer h₀) (F : Fr h₀ L h₁ m) (X : Frag.In (hd.heap_1 w.params) h₀) (Nw : News h₀ L h₁ N) (T : Top p loose mean mg mb h₀) (hk : cs.kind = .function)
   (Ri : RowIn w.params N v r) (hlen : r.asks.length ≤ 2) (mf : (fd, o) ∈ N) (hlo : (fd == sysModules) = false) (hd0 : o.IsDictOf (strKind PySem.Challenge.pw_nu0382_01 w) (fnd f)) (hf : r.hd.hasT = true → f = some x)
   (hdd : dp + 20 < recursionLimit) (hu : un + 300 < cLine)
   (ret : ∀ h' tk' l vs tl c, Fr h₀ L h' m → News h₀ L h' ((l, listOf (List.toArray vs) c) :: (tl ++ N)) → (∀ q ∈ N, q.1 < l) → (∀ p ∈ tl, l < p.1) → NeedsIn x tl vs (if r.hd.hasT = true then r.asks else []) → Q (.ref l) ⟨h', g₁, d₁, tk', o₁⟩) :
   wpAny (model PySem.Challenge.pw_nu0382_01 w) (ktrTop dp un gd cn cs L a ccd cl outer) (call (.ref 134) [sv, v, .ref fd]) Q E ⟨h₁, g₁, d₁, t₁, o₁⟩ := by
  obtain ⟨num, tr, hdt, asks⟩ := r
  obtain ⟨rfl, hi, hd', hpar, hta, hst, -, ⟨hT, rfl⟩ | ⟨hT, pt, aa, tT, vs, n4, n5, rfl, hp1, hp2, hp3⟩⟩ := Ri.v
  · refine wpAny_call ?_
    walk_at "mine_enterC"
    k_steps
    rename (∀ p ∈ N, p.1 < _) => l9
    rename (_ ∧ _ ∧ AllLt _ N) => l8
    have hN3 := ktn_ltOf l8.2.2
    refine stop_elim ?_
    refine it_list (fun i m nx => m (Str.ofString "needs") = some (.ref _) ∧ nx = _) rfl (by k_asm) (by k_asm) (by k_mem) ⟨rfl, rfl⟩ ?_ ?_
    · intro i v m₁ nx h tk I o9 hx
      exact absurd hx (by simp)
    · rintro m₁ nx h tk ⟨e1, rfl⟩ F₁ N₁
      rw [kn1 e1] at F₁
      k_steps
      exact ret _ _ _ [] [] _ (by k_asm) (news_sub (by k_asm) (by walk_at "mine_sub")) hN3 (List.forall_mem_nil _) (by rw [if_neg (by rw [hT]; decide)]; exact .nil)
  · have hf9 := hf hT
    subst hf9
    refine wpAny_call ?_
    walk_at "mine_enterC"
    k_steps
    rename _ = Data.cell _ => d2
    revert d2
    rename _ = Data.cell _ => d1
    intro d2
    replace d2 : _ = Data.cell (some (.ref fd)) := d2
    replace d1 : _ = Data.cell none := d1
    rename (∀ p ∈ N, p.1 < _) => l9
    rename (_ ∧ _ ∧ AllLt _ N) => l8
    have hN3 := allne_lt l8.2.2
    have hq3 := hN3 _ hpar
    refine stop_elim ?_
    refine it_list (ndJ N x asks _ (L' + 1 + 1) (L' + 1) _) rfl (by k_asm) (by k_asm) (by k_mem) ⟨rfl, _, [], [], _, _, rfl, d1, fun _ => ⟨rfl, rfl⟩, fun h => absurd h (by decide)⟩ ?_ ?_
    · intro i v m₁ nx h tk I o9 hx J₁ hw hIl F₁ N₁
      refine abs_turn fun R9 hR9 => ?_
      induction i using Nat.casesOn with
      | succ i => simp at hx
      | zero =>
        cases hx
        obtain ⟨e1, o1, vs1, tl, c, nv, rfl, d3, hJ, -⟩ := J₁
        obtain ⟨rfl, rfl⟩ := hJ rfl
        rw [kn1 e1] at F₁
        simp only [List.nil_append, List.forall_mem_cons, List.mem_singleton] at hw N₁
        have hwN : ∀ p ∈ N, p.1 ≠ I := hw.2.2.2
        have hN1 : ∀ p ∈ N, p.1 ≠ L' + 1 + 1 := fun p hp => Nat.ne_of_lt (Nat.lt_succ_of_lt (Nat.lt_succ_of_lt (l9 p hp)))
        have hN2 : ∀ p ∈ N, p.1 ≠ L' + 1 := fun p hp => Nat.ne_of_lt (Nat.lt_succ_of_lt (l9 p hp))
        have hq1 := hN1 _ hpar
        have hq2 : L' + 1 ≠ L' + 1 + 1 := Nat.ne_of_lt (Nat.lt_succ_self _)
        have mk6 : Mark6 := ⟨⟩
        k_steps
        refine stop_elim ?_
        clear mk6
        refine needs_cut (x := x) (asks := asks) (by k_asm) (by k_asm) (by k_mem) ?_ ?_
        · intro Q6 q6
          clear hR9 R9
          rcases asks with _ | ⟨q1, _ | ⟨q2, _ | ⟨q3, q4⟩⟩⟩
          · cases hp3
            k_steps
            exact q6 _ _ _ [] [] _ (by k_asm) (news_sub (by k_asm) (by walk_at "mine_sub")) lts_nil (by k_ne) .nil (Nat.le_of_ble_eq_true rfl)
          · obtain ⟨⟩ | ⟨_, tk1, hp4⟩ := hp3
            cases hp4
            k_steps
            refine' q6 _ _ _ [(_, tupObj [.str q1.str tk1, x] _)] [.ref _] _ ?nda1 ?ndb1 ?ndl1 ?ndd1 ?ndn1 ?ndz1
            case ndb1 => exact news_sub (by k_asm) (by walk_at "mine_sub")
            case ndn1 => exact .cons mm0 .nil
            case ndl1 => exact lts_cons (by walk_at "mine_ltN") lts_nil
            case ndd1 => k_ne
            case ndz1 => exact Nat.le_of_ble_eq_true rfl
            case nda1 => k_asm
          · obtain ⟨⟩ | ⟨_, tk1, hp4⟩ := hp3
            obtain ⟨⟩ | ⟨_, tk2, hp5⟩ := hp4
            cases hp5
            k_steps
            refine' q6 _ _ _ [(_, tupObj [.str q2.str tk2, x] _), (_, tupObj [.str q1.str tk1, x] _)] [.ref _, .ref _] _ ?nda2 ?ndb2 ?ndl2 ?ndd2 ?ndn2 ?ndz2
            case ndb2 => exact news_sub (by k_asm) (by walk_at "mine_sub")
            case ndn2 => exact .cons mm1 (.cons mm0 .nil)
            case ndl2 => exact lts_cons (by walk_at "mine_ltN") (lts_cons (by walk_at "mine_ltN") lts_nil)
            case ndd2 => k_ne
            case ndz2 => exact Nat.le_of_ble_eq_true rfl
            case nda2 => k_asm
          · exact absurd hlen (by simp)
        · intro D9 h' tk' tl9 ys c9 F' N' hl hD9 hn hz
          have hI9 : ∀ p ∈ tl9, I < p.1 := hl (I, o9) (by k_mem)
          have hl9 := hl (_, listOf #[] c) (by k_mem)
          have hz9 : ([] : List Value).length + ys.length ≤ sizeLine := Nat.le_trans (by simpa using hz) (by decide : 2 ≤ sizeLine)
          dsimp only at hl9
          replace N' := news_sub (M' := (D9, listOf (List.toArray ys) c9) :: (_, listOf #[] c) :: (L' + 1 + 1, _) :: (L' + 1, _) :: (I, o9) :: (tl9 ++ N)) N' (by walk_at "mine_sub")
          k_steps
          refine hR9 _ _ ?_
          exact FStep.intro ((_, listOf (List.toArray _) _) :: (L' + 1 + 1, _) :: (L' + 1, _) :: (tl9 ++ N)) (.inl rfl) rfl (by k_asm) (by k_asm) (by walk_at "mine_sub") (notin1 (by k_all)) ⟨rfl, _, _, tl9, _, _, rfl, by assumption, fun h => absurd h (by decide), fun _ => ⟨hn, hl9⟩⟩
    · rintro m₁ nx h tk ⟨e1, o1, vs1, tl, c, nv, rfl, d3, -, hJ⟩ F₁ N₁
      obtain ⟨hJ1, hJ2⟩ := hJ rfl
      rw [kn1 e1] at F₁
      k_steps
      exact ret _ _ _ vs1 tl _ (by k_asm) (news_sub (by k_asm) (by walk_at "mine_sub")) (ktn_ltOf l8.2.2) hJ2 (by rw [if_pos hT]; exact hJ1)
end

-- part BO
theorem words_BO : True := by
  k_with "mine_fact" => (first | exact bs_any.trans (by assumption) | fail "no")
  k_with "mine_not" => (first | exact fun e9 => Bool.false_ne_true ((by assumption : List.contains _ _ = false).symm.trans (bs_any.symm.trans e9)) | fail "no")
  k_with "getMethod ref" => (first | (k_here; (with_reducible show wpAny _ _ (getMethod (Value.ref _) (Str.ofString "get") _) _ _ _); k_dflt (refine kdg_method (knd := PySem.strKind _ _) (by k_asm) (by k_mem) (by assumption) ?_)) | fail "no")
  k_with "call builtin:dict.get cons nil" => (first | (k_here; k_dflt (first
    | refine kdg_get2 (knd := PySem.strKind _ _) (by k_asm) (by k_mem) (by assumption) (by assumption) (strKind_is _ _ _ _) (some _) (by rfl) ?_
    | refine kdg_get2 (knd := PySem.strKind _ _) (by k_asm) (by k_mem) (by assumption) (by assumption) (strKind_is _ _ _ _) none (by rfl) ?_); (try dsimp only [Option.getD])) | fail "no")
  k_with "compareOp In str ref" => (k_here; (with_reducible show wpAny _ _ (compareOp CmpOp.In (Value.str _ _) (Value.ref _)) _ _ _); k_dflt (refine' in_tuple_strs (News.isTup ?k1 ?k2) ?k3 ?_; (case k1 => k_asm); (case k2 => with_reducible k_mem); (case k3 => kde_strs); k_whole))
  trivial
-- needs ND Spec5
section
variable {w : World} {p : Program} {loose : List Str} {mean : ExcName → Option Value} {mg mb : Str → Option Value}
   {dp un : Nat} {gd : Option (List Code)} {cn : Str} {cs : Scope} {a : Addr} {ccd : Value} {cl : List (Str × Addr)} {outer : List Env} {A₀ : Around} {base h₀ : Heap} {L : Addr} {m : Str → Option Value} {N : List (Addr × Obj)} {g₁ : Array GenState} {d₁ : Drawn} {o₁ : OsState} {h₁ : Heap} {t₁ : Nat} {Q E : Value → Shared → Prop}
set_option maxHeartbeats 4000000 in
theorem bo_call {sv vt : Value} {e : Env9} {tr : Tr} {ut : Tok} {t : Ty}
   (B : Below A₀ base outer h₀) (F : Fr h₀ L h₁ m) (X : Frag.In (hd.heap_1 w.params) h₀) (Nw : News h₀ L h₁ N) (T : Top p loose mean mg mb h₀) (hk : cs.kind = .function)
   (Si : SelIn w N sv e) (R : TyIn N vt t) (hc : t.cl = true)
   (hdd : dp + 20 < recursionLimit) (hu : un + 300 < cLine)
   (ret0 : (t == .X && e.bs.contains tr) = false → ∀ h' tk', Fr h₀ L h' m → News h₀ L h' N → Q .none ⟨h', g₁, d₁, tk', o₁⟩)
   (ret1 : (t == .X && e.bs.contains tr) = true → ∀ h' tk' D k1 k2 n, Fr h₀ L h' m → News h₀ L h' ((D, tupObj [.str (Str.ofString "bound") k1, .str (Str.ofString "X") k2] n) :: N) → (∀ q ∈ N, q.1 < D) → Q (.ref D) ⟨h', g₁, d₁, tk', o₁⟩) :
   wpAny (model PySem.Challenge.pw_nu0382_01 w) (ktrTop dp un gd cn cs L a ccd cl outer) (call (.ref 129) [sv, .str tr.str ut, vt]) Q E ⟨h₁, g₁, d₁, t₁, o₁⟩ := by
  by_cases ht : t = .X
  · subst ht
    obtain ⟨aX, nX, tX, uX, rfl, mX⟩ := R.X_at
    obtain ⟨rfl, i1, i2, i3, i4, i5, i6, i7⟩ := Si
    rcases i7 with ⟨rfl, i7⟩ | ⟨ba, vs, n, rfl, i8, i9⟩
    · have hb : e.bs.contains tr = false := by rw [i7]; rfl
      refine wpAny_call ?_
      walk_at "mine_enter"
      k_steps
      exact ret0 (by rw [hb, Bool.and_false]) _ _ (by k_asm) (news_sub (by k_asm) (by walk_at "mine_sub"))
    · rcases hb : e.bs.contains tr with _ | _
      · refine wpAny_call ?_
        walk_at "mine_enter"
        k_steps
        exact ret0 (by rw [hb, Bool.and_false]) _ _ (by k_asm) (news_sub (by k_asm) (by walk_at "mine_sub"))
      · refine wpAny_call ?_
        walk_at "mine_enter"
        k_steps
        exact ret1 (by rw [hb]; rfl) _ _ _ _ _ _ (by k_asm) (news_sub (by k_asm) (by walk_at "mine_sub")) (by walk_at "mine_ltN")
  · have hk : t.kind ≠ Str.ofString "param" := kind_cl ht hc
    obtain ⟨a1, n1, k1, r1, rfl, m1⟩ := R.first
    refine wpAny_call ?_
    walk_at "mine_enter"
    k_steps
    exact ret0 (by have h9 : (t == Ty.X) = false := by simpa using ht
                   rw [h9]; rfl) _ _ (by k_asm) (news_sub (by k_asm) (by walk_at "mine_sub"))
end

-- part LN
-- needs BO
section
variable {w : World} {p : Program} {loose : List Str} {mean : ExcName → Option Value} {mg mb : Str → Option Value}
   {dp un : Nat} {gd : Option (List Code)} {cn : Str} {cs : Scope} {a : Addr} {ccd : Value} {cl : List (Str × Addr)} {outer : List Env} {A₀ : Around} {base h₀ : Heap} {L : Addr} {m : Str → Option Value} {N : List (Addr × Obj)} {g₁ : Array GenState} {d₁ : Drawn} {o₁ : OsState} {h₁ : Heap} {t₁ : Nat} {Q E : Value → Shared → Prop}
set_option maxHeartbeats 4000000 in
theorem ln_call {tr : Tr} {ut : Tok}
   (B : Below A₀ base outer h₀) (F : Fr h₀ L h₁ m) (X : Frag.In (hd.heap_1 w.params) h₀) (Nw : News h₀ L h₁ N) (T : Top p loose mean mg mb h₀) (hk : cs.kind = .function)
   (hdd : dp + 20 < recursionLimit) (hu : un + 300 < cLine)
   (ret : ∀ h' tk' k, Fr h₀ L h' m → News h₀ L h' N → Q (.str tr.str k) ⟨h', g₁, d₁, tk', o₁⟩) :
   wpAny (model PySem.Challenge.pw_nu0382_01 w) (ktrTop dp un gd cn cs L a ccd cl outer) (call (.ref 89) [.str tr.str ut]) Q E ⟨h₁, g₁, d₁, t₁, o₁⟩ := by
  cases tr
  all_goals simp only [Tr.str] at *
  · refine wpAny_call ?_
    walk_at "mine_enter"
    k_steps
    rw [show ({ cps := #[65] } : Str) = Str.ofString "A" from by decide]
    exact ret _ _ _ (by k_asm) (news_sub (by k_asm) (by walk_at "mine_sub"))
  · refine wpAny_call ?_
    walk_at "mine_enter"
    k_steps
    rw [show ({ cps := #[66] } : Str) = Str.ofString "B" from by decide]
    exact ret _ _ _ (by k_asm) (news_sub (by k_asm) (by walk_at "mine_sub"))
  · refine wpAny_call ?_
    walk_at "mine_enter"
    k_steps
    rw [show ({ cps := #[67] } : Str) = Str.ofString "C" from by decide]
    exact ret _ _ _ (by k_asm) (news_sub (by k_asm) (by walk_at "mine_sub"))
end

-- part CA
theorem words_CA : True := by
  k_with "exec For Name Attribute cons nil" => (k_here; k_dflt (refine For_turns (by k_asm) ?_))
  k_with "exec For Tuple IfExp cons nil" => (refine stop_intro ?_)
  k_with "call ref" => ((with_reducible show wpAny _ _ (call (Value.ref 101) [_, _, _]) _ _ _); refine stop_intro ?_)
  k_with "call ref" => ((with_reducible show wpAny _ _ (call (Value.ref 146) [_, _, _, _, _]) _ _ _); refine stop_intro ?_)
  k_with "call ref" => ((with_reducible show wpAny _ _ (call (Value.ref 134) [_, _, _]) _ _ _); refine stop_intro ?_)
  k_with "call builtin:list.append" => ((k_here; (with_reducible show wpAny _ _ (call (Value.builtin _) [Value.ref _, _]) _ _ _); k_dflt (refine' append_K ?k1 ?k2 ?k3 ?_ ?z; (case k1 => k_asm); (case k2 => k_asm); (case k3 => k_upd); (case z => assumption); k_whole); intro h' F' N'; (try simp only [List.push_toArray] at N')))
  trivial
-- needs LN Spec6 Loops2
inductive caJ (w : World) (e : Env9) (tr : Tr) (t : Ty) (N : List (Addr × Obj)) (sv vt : Value) (ut kt : Tok) (tar : Addr) (k : Int) (l : Addr) (i : Nat) (m : Str → Option Value) (nx : List (Addr × Obj)) : Prop
  | mk : m (Str.ofString "self") = some sv → m (Str.ofString "trait") = some (.str tr.str ut) → m (Str.ofString "args") = some (.ref tar) → m (Str.ofString "T") = some vt → m (Str.ofString "deep") = some (.int k kt) → m (Str.ofString "rows") = some (.ref l) → ∀ (vs : List Value), ∀ (c : Nat), ∀ (tl : List (Addr × Obj)), nx = (l, listOf (List.toArray vs) c) :: (tl ++ N) → CandsIn w (tl ++ N) t vs ((e.rows.take i).filter (cand e tr t)) → (∀ p ∈ tl, l < p.1) → caJ w e tr t N sv vt ut kt tar k l i m nx
section
variable {w : World} {p : Program} {loose : List Str} {mean : ExcName → Option Value} {mg mb : Str → Option Value}
   {dp un : Nat} {gd : Option (List Code)} {cn : Str} {cs : Scope} {a : Addr} {ccd : Value} {cl : List (Str × Addr)} {outer : List Env} {A₀ : Around} {base h₀ : Heap} {L : Addr} {m : Str → Option Value} {N : List (Addr × Obj)} {g₁ : Array GenState} {d₁ : Drawn} {o₁ : OsState} {h₁ : Heap} {t₁ : Nat} {Q E : Value → Shared → Prop}
set_option maxHeartbeats 4000000 in
theorem ca_call {sv vt : Value} {e : Env9} {t : Ty} {tr : Tr} {ut kt : Tok} {tar : Addr} {kk : Nat} {k : Int}
   (B : Below A₀ base outer h₀) (F : Fr h₀ L h₁ m) (X : Frag.In (hd.heap_1 w.params) h₀) (Nw : News h₀ L h₁ N) (T : Top p loose mean mg mb h₀) (hk : cs.kind = .function)
   (hA : ∀ u, u.size < t.size → AskC w e u) (Si : SelIn w N sv e) (mta : (tar, tupObj [] kk) ∈ N) (R : TyIn N vt t) (hc : t.cl = true) (hdep : t.dep ≤ 4) (hsz : t.size ≤ 100) (hro : ∀ r ∈ e.rows, RowOk r) (hrl : e.rows.length ≤ 100) (hkk : k + (t.size : Int) ≤ 12)
   (hdd : dp + 25 * t.size + 22 < recursionLimit) (hu : un + 400 * t.size + 340 < cLine)
   (ret : ∀ h' tk' l vs c tl, Fr h₀ L h' m → News h₀ L h' ((l, listOf (List.toArray vs) c) :: (tl ++ N)) → (∀ q ∈ N, q.1 < l) → (∀ p ∈ tl, l < p.1) → CandsIn w (tl ++ N) t vs (e.rows.filter (cand e tr t)) → Q (.ref l) ⟨h', g₁, d₁, tk', o₁⟩) :
   wpAny (model PySem.Challenge.pw_nu0382_01 w) (ktrTop dp un gd cn cs L a ccd cl outer) (call (.ref 141) [sv, .str tr.str ut, .ref tar, vt, .int k kt]) Q E ⟨h₁, g₁, d₁, t₁, o₁⟩ := by
  have Si2 := Si
  obtain ⟨rfl, i1, i2, ⟨w1, w2, w3, w4⟩, i4, i5, i6, i7⟩ := Si
  refine wpAny_call ?_
  walk_at "mine_enter"
  k_steps
  rename (∀ p ∈ N, p.1 < _) => l9
  refine stop_elim ?_
  refine it_list (caJ w e tr t N _ vt ut kt tar k _) rfl (by k_asm) (by k_asm) (by k_mem) ⟨rfl, rfl, rfl, rfl, rfl, rfl, [], _, [], rfl, .nil, fun _ h => nomatch h⟩ ?_ ?_
  · intro i v m₁ nx h tk I o9 hx J₁ hw hIl F₁ N₁
    refine abs_turn fun R9 hR9 => ?_
    obtain ⟨e1, e2, e3, e4, e5, e6, vs, c, tl, rfl, hC, hlt⟩ := J₁
    rw [kn1 e1, kn1 e2, kn1 e3, kn1 e4, kn1 e5, kn1 e6] at F₁
    clear e1 e2 e3 e4 e5 e6
    obtain ⟨num, tr2, hd2, asks, hr, Ri⟩ := w4.at hx
    have hro9 := hro _ (List.mem_of_getElem? hr)
    have Ri2 := Ri
    obtain ⟨rfl, r1, r2, r3, r4, r5, -, r6⟩ := Ri.v
    obtain ⟨y, hF⟩ := headF hro9.hd hc hdep
    by_cases htr : tr2 = tr
    · subst htr
      k_steps
      refine stop_elim ?_
      with_unfolding_all refine' mi_call (y := y) ?k1 ?k2 ?k3 ?k4 ?k5 ?k6 Ri2 ?k7 R ?m1 hF.pg ?z ?k8 ?k9 ?_
      case k1 => k_asm
      case k2 => k_asm
      case k3 => k_asm
      case k4 => k_asm
      case k5 => k_asm
      case k6 => exact rfl
      case m1 => walk_at "mine_sub"
      case k7 => k_mem
      case z => exact head_size hro9.hd hsz
      case k8 => walk_at "mine_rm"
      case k9 => walk_at "mine_rm"
      intro h' tk' tku D fd o' f n F' N' hfs hfl hfD hND hd' hFO
      dsimp only at N' hFO hF
      have hyn := hF.yn
      have hX := fun h => cand_yes (e := e) hro9 hF h
      dsimp only at hX
      have hX0 : m1 hd2 t = .no → cand e tr2 t ⟨num, tr2, hd2, asks⟩ = false := fun h => cand_no h
      have hFO2 := fun h => hF.y h
      generalize hX9 : cand e tr2 t ⟨num, tr2, hd2, asks⟩ = X9 at hX hX0
      generalize m1 hd2 t = z at N' hFO hyn hX hX0 hFO2
      k_steps
      refine stop_elim ?_
      refine cut_at [Str.ofString "self", Str.ofString "trait", Str.ofString "args", Str.ofString "T", Str.ofString "deep", Str.ofString "rows", Str.ofString "impl", Str.ofString "found"] (fun m => ∃ ak, m (Str.ofString "answer") = some (.str (okStr X9) ak)) (by k_asm) (by k_asm) ?_ ?_
      · rcases hyn with rfl | rfl
        · obtain ⟨hX1, hX2⟩ := hX rfl
          obtain ⟨x9, hf9, hx9⟩ : ∃ x9, (hd2.hasT = true → f = some x9) ∧ (hd2.hasT = true → TyIn N x9 y) := by
            rcases hFO (by decide) with ⟨rfl, hb⟩ | ⟨x, rfl, hb, hx9⟩
            · exact ⟨.none, fun h => absurd ((hFO2 rfl).1.trans h) (by rw [hb]; decide), fun h => absurd ((hFO2 rfl).1.trans h) (by rw [hb]; decide)⟩
            · exact ⟨x, fun _ => rfl, fun _ => hx9⟩
          refine For_turns (by k_asm) ?_
          k_steps
          refine stop_elim ?_
          with_unfolding_all refine' nd_call (x := x9) (f := f) ?k1 ?k2 ?k3 ?k4 ?k5 ?k6 (RowIn.mono ?m1 Ri2) hro9.asks ?mf hfs hd' hf9 ?k8 ?k9 ?_
          case k1 => k_asm
          case k2 => k_asm
          case k3 => k_asm
          case k4 => k_asm
          case k5 => k_asm
          case k6 => exact rfl
          case m1 => walk_at "mine_sub"
          case mf => k_mem
          case k8 => walk_at "mine_rm"
          case k9 => walk_at "mine_rm"
          intro h' tk' l2 vs2 tl2 c2 F' N' hl2 htl2 hneeds
          dsimp only at hneeds
          have hTs : (if hd2.hasT = true then asks else []) ≠ [] → hd2.hasT = true := fun h => by
            cases hb : hd2.hasT with
            | true => rfl
            | false => rw [hb] at h; exact absurd rfl h
          generalize (if hd2.hasT = true then asks else []) = ts at hX1 hX2 hneeds hTs
          k_steps
          refine stop_elim ?_
          refine it_keep [Str.ofString "self", Str.ofString "trait", Str.ofString "args", Str.ofString "T", Str.ofString "deep", Str.ofString "rows", Str.ofString "impl", Str.ofString "found"] (fun i m => (ts.take i).all (fun a => ok e a y) = true ∧ ∃ ak, m (Str.ofString "answer") = some (.str (Str.ofString "yes") ak)) rfl (by k_asm) (by k_asm) (by k_mem) ⟨rfl, _, rfl⟩ ?_ ?_
          · intro i v m₁ h tk I2 o2 hx J₁ hk9 hw2 F₁ N₁
            obtain ⟨a2, n2, tk2, tr9, rfl, ma2, hi2⟩ := hneeds.get hx
            obtain ⟨hJ1, ak, hJ2⟩ := J₁
            rw [kn1 hJ2, kn1 (kn hk9 (Str.ofString "self") rfl rfl), kn1 (kn hk9 (Str.ofString "deep") rfl rfl)] at F₁ hk9
            have hne : ts ≠ [] := fun h => by rw [h] at hi2; simp at hi2
            obtain ⟨hys, hyc, hyd⟩ := hX2 hne
            k_steps
            refine stop_elim ?_
            with_unfolding_all refine' hA y hys (tr := tr9) ?k1 ?k2 ?k3 ?k4 ?k5 ?k6 (SelIn.mono ?m1 Si2) ?k7 (TyIn.mono ?m2 (hx9 (hTs hne))) hyc (Nat.le_trans hyd hdep) ?z ?k8 ?k9 ?_
            case k1 => k_asm
            case k2 => k_asm
            case k3 => k_asm
            case k4 => k_asm
            case k5 => k_asm
            case k6 => exact rfl
            case m1 => walk_at "mine_sub"
            case m2 => walk_at "mine_sub"
            case k7 => exact List.mem_cons_self
            case z => omega
            case k8 => walk_at "mine_rm"
            case k9 => walk_at "mine_rm"
            intro h' tk' ku F' N'
            generalize hok : ok e tr9 y = b9
            cases b9
            · k_steps
              (try dsimp only [FStep])
              rw [hX1, not_all hi2 hok]
              exact Left.intro rfl (by k_asm) (by k_asm) (by walk_at "mine_sub") (by walk_at "mine_keep") ⟨_, rfl⟩
            · k_steps
              exact FStep.keep (.inl rfl) rfl (by k_asm) (by k_asm) (by walk_at "mine_sub") hw2 ⟨take_all hi2 hJ1 hok, _, rfl⟩ (by walk_at "mine_keep")
          · intro m₁ h tk J₁ hk9 F₁ N₁
            rw [hneeds.len, List.take_length] at J₁
            rw [hX1, J₁.1]
            exact Left.intro rfl F₁ N₁ (by walk_at "mine_sub") hk9 J₁.2
        · have hX1 := hX0 rfl
          subst hX1
          refine For_turns (by k_asm) ?_
          k_steps
          refine stop_elim ?_
          refine it_keep [Str.ofString "self", Str.ofString "trait", Str.ofString "args", Str.ofString "T", Str.ofString "deep", Str.ofString "rows", Str.ofString "impl", Str.ofString "found"] (fun _ m => ∃ ak, m (Str.ofString "answer") = some (.str (Str.ofString "no") ak)) rfl (by k_asm) (by k_asm) (by k_mem) ⟨_, rfl⟩ (fun i v m₁ h tk I o hx => absurd hx (by simp)) ?_
          intro m₁ h tk J₁ hk9 F₁ N₁
          exact Left.intro rfl F₁ N₁ (by walk_at "mine_sub") hk9 J₁
      · intro h tk m₂ F₂ N₂ hk2 ⟨ak, hak⟩
        rw [kn1 hak, kn1 (kn hk2 (Str.ofString "self") rfl rfl), kn1 (kn hk2 (Str.ofString "trait") rfl rfl), kn1 (kn hk2 (Str.ofString "args") rfl rfl), kn1 (kn hk2 (Str.ofString "T") rfl rfl), kn1 (kn hk2 (Str.ofString "deep") rfl rfl), kn1 (kn hk2 (Str.ofString "rows") rfl rfl), kn1 (kn hk2 (Str.ofString "impl") rfl rfl), kn1 (kn hk2 (Str.ofString "found") rfl rfl)] at F₂
        clear hk2 hak
        cases X9
        · k_steps
          refine hR9 _ _ ?_
          refine FStep.intro (_ :: (tl ++ N)) (.inl rfl) rfl (by k_asm) (by k_asm) (by walk_at "mine_sub") hw ⟨rfl, rfl, rfl, rfl, rfl, rfl, vs, c, tl, rfl, ?_, hlt⟩
          rw [take_no hr hX9]
          exact hC
        · have q1 := hND (_, listOf (List.toArray vs) c) (List.mem_cons_of_mem _ (List.mem_cons_of_mem _ List.mem_cons_self))
          have q2 := hfl (_, listOf (List.toArray vs) c) (List.mem_cons_of_mem _ (List.mem_cons_of_mem _ List.mem_cons_self))
          have q3 := hw (_, listOf (List.toArray vs) c) List.mem_cons_self
          have q4 := l9 _ w3
          dsimp only at q1 q2 q3 q4
          replace q3 := fun h9 => q3 (List.mem_singleton.mpr h9)
          have hz9 : (List.toArray vs).size ≤ sizeLine := by
            have h1 := hC.len
            have h2 := List.length_filter_le (cand e tr2 t) (e.rows.take i)
            have h3 := List.length_take_le i e.rows
            have h4 := sizeLine_ge
            simp only [List.size_toArray]
            have h5 := List.length_take (i := i) (l := e.rows)
            omega
          k_steps
          have hz : z = .yes := hyn.elim id fun h => absurd (hX0 h) (by decide)
          subst hz
          refine hR9 _ _ ?_
          refine FStep.intro (_ :: (((_, tupObj [.str (Str.ofString "yes") ak, .int num _, .ref fd] _) :: (fd, o') :: tl) ++ N)) (.inl rfl) rfl (by k_asm) (by k_asm) (by walk_at "mine_sub") ?_ ⟨rfl, rfl, rfl, rfl, rfl, rfl, _, _, (_, tupObj [.str (Str.ofString "yes") ak, .int num _, .ref fd] _) :: (fd, o') :: tl, rfl, ?_, ?_⟩
          · refine List.forall_mem_cons.mpr ⟨fun h9 => q3 (List.mem_singleton.mp h9), List.forall_mem_cons.mpr ⟨fun h9 => ?_, List.forall_mem_cons.mpr ⟨fun h9 => ?_, fun p hp => hw p (List.mem_cons_of_mem _ hp)⟩⟩⟩
            · exact absurd (List.mem_singleton.mp h9) (by k_ne)
            · exact absurd (List.mem_singleton.mp h9) (Nat.ne_of_gt (hfl _ List.mem_cons_self))
          · rw [take_yes hr hX9]
            refine CandsIn.snoc (hC.mono (by walk_at "mine_sub")) (.mk List.mem_cons_self (List.mem_cons_of_mem _ List.mem_cons_self) hfs hd' ?_)
            obtain ⟨g1, ⟨g2, g3, -⟩ | ⟨g2, g3⟩⟩ := hFO2 rfl
            · dsimp only
              rw [g3]
              rcases hFO (by decide) with ⟨-, hb⟩ | ⟨x, rfl, -, hx9⟩
              · rw [g1, g2] at hb; cases hb
              · exact ⟨x, rfl, hx9.mono (by walk_at "mine_sub")⟩
            · dsimp only
              rw [g3]
              rcases hFO (by decide) with ⟨rfl, -⟩ | ⟨x, rfl, hb, -⟩
              · rfl
              · rw [g1, g2] at hb; cases hb
          · refine List.forall_mem_cons.mpr ⟨?_, List.forall_mem_cons.mpr ⟨q2, hlt⟩⟩
            (dsimp only; walk_at "mine_lt")
    · have hne := Tr.str_ne htr
      k_steps
      refine hR9 _ _ ?_
      refine FStep.intro (_ :: (tl ++ N)) (.inl rfl) rfl (by k_asm) (by k_asm) (by walk_at "mine_sub") hw ⟨rfl, rfl, rfl, rfl, rfl, rfl, vs, c, tl, rfl, ?_, hlt⟩
      rw [take_no hr (cand_ne htr)]
      exact hC
  · intro m₁ nx h tk J₁ F₁ N₁
    obtain ⟨e1, e2, e3, e4, e5, e6, vs, c, tl, rfl, hC, hlt⟩ := J₁
    rw [kn1 e1, kn1 e2, kn1 e3, kn1 e4, kn1 e5, kn1 e6] at F₁
    clear e1 e2 e3 e4 e5 e6
    k_steps
    rw [w4.len, List.take_length] at hC
    exact ret _ _ _ _ _ _ (by k_asm) (news_sub (by k_asm) (by walk_at "mine_sub")) l9 hlt hC
end

-- part AS
theorem words_AS : True := by
  k_with "call ref" => ((with_reducible show wpAny _ _ (call (Value.ref 129) [_, _, _]) _ _ _); refine stop_intro ?_)
  k_with "call ref" => ((with_reducible show wpAny _ _ (call (Value.ref 89) [_]) _ _ _); refine stop_intro ?_)
  k_with "call ref" => ((with_reducible show wpAny _ _ (call (Value.ref 141) [_, _, _, _, _]) _ _ _); refine stop_intro ?_)
  k_with "eval ListComp" => (first | (k_here; k_dflt (refine comp_first (by k_asm) (by exact rfl) (by with_unfolding_all rfl) (by decide) (by exact rfl) (by decide) (by exact rfl) (by exact rfl) (by exact rfl) (by decide) (by decide) (by decide) ?_ (fun _ => rfl))) | fail "no")
  k_with "mine_calm" => ((case k1 => k_asm); (case k2 => k_asm); (case k3 => k_asm); (case k4 => k_asm); (case k5 => k_asm); (case k6 => exact rfl); (case k8 => k_extra "mine_rm"); (case k9 => k_extra "mine_rm"))
  trivial
-- needs CA CmpF
section
variable {w : World}
set_option maxHeartbeats 4000000 in
theorem as_call {e : Env9} (hro : ∀ r ∈ e.rows, RowOk r) (hrl : e.rows.length ≤ 100) : ∀ (n : Nat) (t : Ty), t.size ≤ n → n ≤ 100 → AskC w e t := by
  intro n
  induction n with
  | zero => intro t h; exact absurd t.size_pos (by omega)
  | succ n ih =>
    intro t hn hn1
    have hA : ∀ u, u.size < t.size → AskC w e u := fun u h => ih u (by omega) (by omega)
    clear ih
    unfold AskC
    intro tr p loose mean mg mb dp un gd cn cs a ccd cl outer A₀ base h₀ L m N g₁ d₁ o₁ h₁ t₁ Q E sv vt ut kt tar kk k B F X Nw T hk Si mta R hc hdep hkk hdd hu ret
    have Si2 := Si
    obtain ⟨a9, n9, k9, r9, rfl, m9⟩ := R.first
    have hkv := cl_kind hc
    have hnc := tr.ne_copy
    obtain ⟨rfl, i1, i2, i3, i4, i5, i6, i7⟩ := Si
    refine wpAny_call ?_
    have hk12 : ¬ (12 : Int) < k := by have := t.size_pos; omega
    walk_at "mine_enterC"
    k_steps
    refine stop_elim ?_
    with_unfolding_all refine' bo_call (e := e) (t := t) ?k1 ?k2 ?k3 ?k4 ?k5 ?k6 (SelIn.mono ?m1 Si2) (TyIn.mono ?m2 R) hc ?k8 ?k9 ?_ ?_
    walk_at "mine_calm"
    case m1 => walk_at "mine_sub"
    case m2 => walk_at "mine_sub"
    · intro hb h' tk' F' N'
      k_steps
      refine stop_elim ?_
      with_unfolding_all refine' ln_call ?k1 ?k2 ?k3 ?k4 ?k5 ?k6 ?k8 ?k9 ?_
      walk_at "mine_calm"
      intro h' tk' k2 F' N'
      k_steps
      refine stop_elim ?_
      with_unfolding_all refine' ca_call (e := e) (t := t) ?k1 ?k2 ?k3 ?k4 ?k5 ?k6 hA (SelIn.mono ?m1 Si2) ?mt (TyIn.mono ?m2 R) hc hdep (by omega) hro hrl hkk ?k8 ?k9 ?_
      walk_at "mine_calm"
      case mt => k_mem
      case m1 => walk_at "mine_sub"
      case m2 => walk_at "mine_sub"
      intro h' tk' l vs c tl F' N' hl htl hC
      have hok : ok e tr t = !(e.rows.filter (cand e tr t)).isEmpty := by
        rw [ok_eq, hb, Bool.false_or]
        cases hf : e.rows.any (cand e tr t) with
        | true => obtain ⟨r, h1, h2⟩ := List.any_eq_true.mp hf; cases hg : e.rows.filter (cand e tr t) with
          | nil => exact absurd (List.mem_filter.mpr ⟨h1, h2⟩) (by rw [hg]; exact List.not_mem_nil)
          | cons _ _ => rfl
        | false => rw [List.filter_eq_nil_iff.mpr fun r h1 h2 => by rw [List.any_eq_true.mpr ⟨r, h1, h2⟩] at hf; cases hf]; rfl
      generalize hrs : e.rows.filter (cand e tr t) = rs9 at hC hok
      rcases vs with _ | ⟨v, vs⟩
      · cases hC
        rw [hok] at ret
        k_steps
        exact ret _ _ _ (by k_asm) (news_sub (by k_asm) (by walk_at "mine_sub"))
      · have hlen := hC.len
        obtain ⟨ys, g1, g2, g3⟩ := hC.firsts
        rw [hok] at ret
        have hany := yes_any vs.length
        rw [List.length_cons] at g2
        have he9 : (v :: vs).isEmpty = false := rfl
        have he8 : rs9.isEmpty = false := by induction rs9 using List.casesOn <;> first | rfl | (simp at hlen)
        rw [he8] at ret
        have hz9 : (v :: vs).length ≤ sizeLine := by
          have h4 := sizeLine_ge
          have h5 := List.length_filter_le (cand e tr t) e.rows
          rw [hrs, ← hlen] at h5
          omega
        k_steps
        refine ⟨_, v :: vs, ys, _, _, rfl, by k_asm, by k_asm, by k_mem, hz9, g1, fun i v' hv => (g3 i v' hv).mono (by walk_at "mine_sub"), ?_⟩
        intro D h tk F' N' off'
        k_steps
        exact ret _ _ _ (by k_asm) (news_sub (by k_asm) (by walk_at "mine_sub"))
    · intro hb h' tk' D q1 q2 q3 F' N' hD
      k_steps
      have hok : ok e tr t = true := by rw [ok_eq, hb]; rfl
      rw [hok] at ret
      exact ret _ _ _ (by k_asm) (news_sub (by k_asm) (by walk_at "mine_sub"))
end

-- part TF
-- needs AS
noncomputable abbrev bmX : List Value := [.type "Exception", .type "BaseException", .type "object"]
section
variable {prog : Program} {w : World} {A : Around} {E : Value → Shared → Prop} {h : Heap} {g : Array GenState} {d : Drawn} {t : Nat} {os : OsState}
variable {nm qn : Str} {C N : Addr} {bs bm : List Value} {hdct : Bool} {sn : List Str} {sub : List Value} {ab : Bool} {col : Option Bool} {dd : Option Addr} {k0 k1 k2 k3 k5 : Option Value}
/-- an own exception's class below an own one: what the proofs ask of its line of bases -/
structure Line (bm : List Value) : Prop where
  x : bm.contains (.type "Exception") = true
  b : bm.contains (.type "BaseException") = true
  a : bm.contains (.type "AttributeError") = false
  n : bm.contains (.type "NameError") = false
theorem tf_check_new (K : Line bm) {rest : List Value} {Q : Unit → Shared → Prop} (hC : h.get? C = some (excClassObj nm qn C N bs bm hdct sn sub ab col dd k0 k1 k2 k3 k5 "Exception.__new__")) (hq : Q () ⟨h, g, d, t, os⟩) :
    wpAny (model prog w) A (checkBuiltinCall "Exception.__new__" ⟨.ref C :: rest, []⟩) Q E ⟨h, g, d, t, os⟩ := by
  have FX := PySem.F.excBase_Exception
  have hcont : (Value.ref C :: bm).contains (.type "Exception") = true := by rw [List.contains_cons, K.x, Bool.or_true]
  have hstar := FX.noStar
  simp only [checkBuiltinCall, FX.newKind, FX.newSplit, FX.newRow]
  repeat (first | refine wpAny_loadPart_at hC ?_ | (refine wpAny_isSubtype_exc hC ?_; rw [hcont]) | refine wpAny_staticBase_exc hC ?_ | refine wpAny_madeBy_exc hC ?_ | simp only [bne_self_eq_false, Bool.false_eq_true, if_false] | wp_step)
  exact hq
theorem tf_new (K : Line bm) {rest : List Value} {R : Result → Shared → Prop} (hC : h.get? C = some (excClassObj nm qn C N bs bm hdct sn sub ab col dd k0 k1 k2 k3 k5 "Exception.__new__"))
    (hq : R (.ok (.ret (.ref (h.objs.size + 1)))) ⟨(h.push { cls := .type "tuple", data := .seq rest.toArray }).push { cls := .ref C, data := .fields #[.ref h.objs.size, .none, .none, .none, .bool false, .none] }, g, d, t, os⟩) (hrest : rest.length ≤ sizeLine) :
    codeAny (model prog w) A (.builtin "Exception.__new__" ⟨.ref C :: rest, []⟩) R ⟨h, g, d, t, os⟩ := by
  have FX := PySem.F.excBase_Exception
  have hends := FX.ends
  have cont {y : Value} {b : Bool} (hy : bm.contains y = b) (hne : (y == .ref C) = false) : (Value.ref C :: bm).contains y = b := by rw [List.contains_cons, hne, hy]; rfl
  have c1 := cont K.x rfl
  have c2 := cont K.a rfl
  have c3 := cont K.n rfl
  refine codeAny_builtinAt FX.entry ?_
  unfold Builtin.«BaseException.__new__»
  refine PySem.wpAt_bind ?_
  show PySem.wpAt _ _ _ (stack >>= _) _ _ _
  refine PySem.wpAt_bind (PySem.wpAt_stack fun p below => PySem.wpAt_of_wpAny ?_)
  wp_walk
  refine PySem.wpAt_of_wpAny ?_
  rw [FX.owner]
  repeat (first | with_reducible refine wpAny_madeHere_exc FX.canon hC ?_ | with_reducible refine wpAny_loadPart_at hC ?_ | (with_reducible refine wpAny_isSubtype_exc hC ?_; first | rw [c1] | rw [c2] | rw [c3]) | wp_step)
  show R _ _
  rw [Heap.size_push]
  exact hq
noncomputable abbrev excObj (C T : Addr) : Obj := { cls := .ref C, data := .fields #[.ref T, .none, .none, .none, .bool false, .none] }
theorem tf_made {bm' : List Value} {C' N' : Addr} {nm' qn' : Str} {bs' : List Value} {hdct' : Bool} {sn' : List Str} {sub' : List Value} {ab' : Bool} {col' : Option Bool} {dd' : Option Addr} {j0 j1 j2 j3 j5 : Option Value} {nid' : String}
    {mN mN' : Str → Option Value} {rest : List Value} {fI : Addr} {oI : Obj} {Q : Fin → Shared → Prop} (K : Line (.ref C' :: bm'))
    (hC : h.get? C = some (excClassObj nm qn C N bs (.ref C' :: bm') hdct sn sub ab col dd k0 k1 k2 k3 k5 "Exception.__new__")) (hn : h.Ns N mN) (hni : mN "__init__" = none)
    (hC' : h.get? C' = some (excClassObj nm' qn' C' N' bs' bm' hdct' sn' sub' ab' col' dd' j0 j1 j2 j3 j5 nid')) (hn' : h.Ns N' mN') (hi : mN' "__init__" = some (.ref fI))
    (hfI : h.get? fI = some oI) (hfc : oI.cls = .type "function")
    (hq : ∀ h', (∀ b o, h.get? b = some o → h'.get? b = some o) → h'.get? h.objs.size = some { cls := .type "tuple", data := .seq rest.toArray } → h'.get? (h.objs.size + 1) = some (excObj C h.objs.size) →
      wpAny (model prog w) A (call (.ref fI) (.ref (h.objs.size + 1) :: rest)) (fun r s' => r = .none ∧ Q (.done (.ret (.ref (h.objs.size + 1)))) s') E ⟨h', g, d, t, os⟩) (hrest : rest.length ≤ sizeLine) :
    wpAny (model prog w) A (Builtin.«type.__call__» ⟨.ref C :: rest, []⟩) Q E ⟨h, g, d, t, os⟩ := by
  have FX := PySem.F.excBase_Exception
  repeat (first | with_reducible refine wpAny_loadPart_at hC ?_ | with_reducible refine wpAny_madeBy_exc hC ?_ | wp_step)
  refine codeAny_call_builtin_code (Code.quiet_builtin _ FX.quiet) (tf_check_new K hC ?_)
  refine tf_new K hC ?_ hrest
  show wpAny _ _ _ _ _ _
  have up : ∀ b o, h.get? b = some o → ((h.push { cls := .type "tuple", data := .seq rest.toArray }).push { cls := .ref C, data := .fields #[.ref h.objs.size, .none, .none, .none, .bool false, .none] }).get? b = some o := fun b o e => Heap.get?_push_of_some _ (Heap.get?_push_of_some _ e)
  have hget : ((h.push { cls := .type "tuple", data := .seq rest.toArray }).push { cls := .ref C, data := .fields #[.ref h.objs.size, .none, .none, .none, .bool false, .none] }).get? (h.objs.size + 1) = some { cls := .ref C, data := .fields #[.ref h.objs.size, .none, .none, .none, .bool false, .none] } := by heap_get
  have hcC : (Value.ref C :: .ref C' :: bm').contains (.ref C) = true := by simp
  have u1 := up _ _ hC
  unfold isInstance
  repeat (first | with_reducible refine wpAny_loadPart_at hget ?_ | (with_reducible refine wpAny_isSubtype_exc u1 ?_; rw [hcC]) | wp_step)
  show wpAny _ _ (typeLookup (.ref C) _) _ _ _
  rw [typeLookup_eq]
  refine wpAny_bind (wpAny_mroOf_exc u1 ?_)
  rw [lookupAlong_cons]
  refine wpAny_bind (wpAny_classOwn_exc u1 (hn.keeps up) ?_)
  rw [hni, lookupAlong_cons]
  refine wpAny_bind (wpAny_classOwn_exc (up _ _ hC') (hn'.keeps up) ?_)
  rw [hi]
  refine wpAny_pure ?_
  refine wpAny_holding (wpAny_bind ?_)
  unfold bindSpecial
  refine wpAny_bind (wpAny_typeOf (T := "function") ⟨_, up _ _ hfI, hfc⟩ ?_)
  rw [if_pos (by decide)]
  refine wpAny_pure (wpAny_bind (wpAny_mono (hq _ up (Heap.get?_push_of_some _ (Heap.get?_push_at rfl rfl)) hget) (fun r s' hr => ?_) fun _ _ x => x))
  obtain ⟨rfl, hQ⟩ := hr
  wp_walk
  exact hQ
theorem tf_call {bm' : List Value} {C' N' : Addr} {nm' qn' : Str} {bs' : List Value} {hdct' : Bool} {sn' : List Str} {sub' : List Value} {ab' : Bool} {col' : Option Bool} {dd' : Option Addr} {j0 j1 j2 j3 j5 : Option Value} {nid' : String}
    {mN mN' : Str → Option Value} {rest : List Value} {fI : Addr} {oI : Obj} {Q : Value → Shared → Prop} (K : Line (.ref C' :: bm'))
    (hC : h.get? C = some (excClassObj nm qn C N bs (.ref C' :: bm') hdct sn sub ab col dd k0 k1 k2 k3 k5 "Exception.__new__")) (hn : h.Ns N mN) (hni : mN "__init__" = none)
    (hC' : h.get? C' = some (excClassObj nm' qn' C' N' bs' bm' hdct' sn' sub' ab' col' dd' j0 j1 j2 j3 j5 nid')) (hn' : h.Ns N' mN') (hi : mN' "__init__" = some (.ref fI))
    (hfI : h.get? fI = some oI) (hfc : oI.cls = .type "function")
    (hq : ∀ h', (∀ b o, h.get? b = some o → h'.get? b = some o) → h'.get? h.objs.size = some { cls := .type "tuple", data := .seq rest.toArray } → h'.get? (h.objs.size + 1) = some (excObj C h.objs.size) →
      wpAny (model prog w) (A.under (.builtin "type.__call__" ⟨.ref C :: rest, []⟩)) (call (.ref fI) (.ref (h.objs.size + 1) :: rest)) (fun r s' => r = .none ∧ Q (.ref (h.objs.size + 1)) s') E ⟨h', g, d, t, os⟩) (hrest : rest.length ≤ sizeLine) :
    wpAny (model prog w) A (call (.ref C) rest) Q E ⟨h, g, d, t, os⟩ := by
  have f1 := tc_lookup
  have f2 := tc_bind (.ref C)
  have hT : (⟨h, g, d, t, os⟩ : Shared).TypeIs (.ref C) "type" := ⟨_, hC, rfl⟩
  refine wpAny_call (codeAny_of_tree ?_)
  show wpAny _ _ (callAny (.ref C) _) _ _ _
  repeat (any_goals (first | assumption | with_reducible refine wpAny_loadPart_at hC ?_ | wp_step))
  refine ⟨rfl, ?_⟩
  exact codeAny_call_builtin_at (Code.quiet_builtin _ (by decide +kernel)) entry_typeCall (wpAny_check_type_call_sub hC (tf_made K hC hn hni hC' hn' hi hfI hfc hq hrest))
theorem tf_init0 (K : Line bm) {e T : Addr} {rest : List Value} {Q : Value → Shared → Prop} (hC : h.get? C = some (excClassObj nm qn C N bs bm hdct sn sub ab col dd k0 k1 k2 k3 k5 "Exception.__new__")) (he : h.get? e = some (excObj C T)) (hrest : rest.length ≤ sizeLine)
    (hq : ∀ h', (∀ b o, b ≠ e → h.get? b = some o → h'.get? b = some o) → h'.get? h.objs.size = some { cls := .type "tuple", data := .seq rest.toArray } → h'.get? e = some (excObj C h.objs.size) → Q .none ⟨h', g, d, t, os⟩) :
    wpAny (model prog w) A (call (.builtin "Exception.__init__") (.ref e :: rest)) Q E ⟨h, g, d, t, os⟩ := by
  have FX := PySem.F.excBase_Exception
  have hcB : (Value.ref C :: bm).contains (.type "Exception") = true := by rw [List.contains_cons, K.x, Bool.or_true]
  have hshort := FX.noStar
  refine wpAny_call (codeAny_call_builtin FX.init.plain FX.initEntry ?_)
  simp only [checkBuiltinCall, FX.initKind, FX.initSplit, FX.initRow]
  repeat (first | with_reducible refine wpAny_loadPart_at he ?_ | with_reducible refine wpAny_loadPart_at hC ?_ | (with_reducible refine wpAny_isSubtype_exc hC ?_; rw [hcB]) | wp_step)
  refine wpAny_onRaise ?_
  rw [show ∀ (a b : String) (n : Nat), Bind.check ⟨.positional, "*", "Exception", .self, [⟨"args", .varPos, false⟩]⟩ a b n (List.map (fun x => x.fst) ({ pos := Value.ref e :: rest } : Args).kw) = pure () from fun a b n => check_star_args _ _ _ _ _ _]
  refine wpAny_pure ?_
  wp_walk
  have hne : e ≠ h.objs.size := Nat.ne_of_lt (Heap.lt_size he)
  refine hq _ (fun b o hb ho => ?_) ?_ ?_
  · rw [Heap.get?_update_other _ _ (Ne.symm hb)]
    exact Heap.get?_push_of_some _ ho
  · rw [Heap.get?_update_other _ _ hne]
    exact Heap.get?_push_at rfl rfl
  · rw [Heap.get?_update_self _ (Heap.get?_push_of_some _ he) rfl]
    rfl
end

-- part TS
-- needs TF
section
open Builtin Builtin.ObjectAttr
variable {prog : Program} {w : World} {A : Around} {E : Value → Shared → Prop} {h : Heap} {g : Array GenState} {d : Drawn} {t : Nat} {os : OsState}
variable {nm qn : Str} {C N C' N' x : Addr} {bs : List Value} {sn : List Str} {sub : List Value} {ab : Bool} {col : Option Bool} {dd : Option Addr} {k0 k1 k2 k3 k5 : Option Value}
  {nm' qn' : Str} {bs' : List Value} {hdct' : Bool} {sn' : List Str} {sub' : List Value} {ab' : Bool} {col' : Option Bool} {dd' : Option Addr} {j0 j1 j2 j3 j5 : Option Value} {nid' : String} {mN mN' mA : Str → Option Value} {name : Str} {v : Value}
theorem tf_lookup {M : Model} {y : Option Value} {Q : Option Value → Shared → Prop}
    (hC : h.get? C = some (excClassObj nm qn C N bs (.ref C' :: bmX) true sn sub ab col dd k0 k1 k2 k3 k5 "Exception.__new__")) (hn : h.Ns N mN) (hni : mN name = none)
    (hC' : h.get? C' = some (excClassObj nm' qn' C' N' bs' bmX hdct' sn' sub' ab' col' dd' j0 j1 j2 j3 j5 nid')) (hn' : h.Ns N' mN') (hni' : mN' name = none) (hB : typeLookup (.type "Exception") name = pure y)
    (hq : Q y ⟨h, g, d, t, os⟩) : wpAny M A (typeLookup (.ref C) name) Q E ⟨h, g, d, t, os⟩ := by
  have hrest : lookupAlong bmX name = pure y := by rw [typeLookup_eq, PySem.F.excBase_Exception.mroIs] at hB; exact hB
  rw [typeLookup_eq]
  refine wpAny_bind (wpAny_mroOf_exc hC ?_)
  rw [lookupAlong_cons]
  refine wpAny_bind (wpAny_classOwn_exc hC hn ?_)
  rw [hni, lookupAlong_cons]
  refine wpAny_bind (wpAny_classOwn_exc hC' hn' ?_)
  rw [hni', hrest]
  exact wpAny_pure hq
theorem tf_set0 {tk : Tok} {Q : Fin → Shared → Prop} {o : Obj} {ns : List Str}
    (hC : h.get? C = some (excClassObj nm qn C N bs (.ref C' :: bmX) true sn sub ab col dd k0 k1 k2 k3 k5 "Exception.__new__")) (hn : h.Ns N mN) (hni : mN name = none)
    (hC' : h.get? C' = some (excClassObj nm' qn' C' N' bs' bmX hdct' sn' sub' ab' col' dd' j0 j1 j2 j3 j5 nid')) (hn' : h.Ns N' mN') (hni' : mN' name = none) (hB : typeLookup (.type "Exception") name = pure none)
    (hx : h.get? x = some o) (hc : o.cls = .ref C) (hnc : ∀ c, o.data ≠ .cls c) (hd : (o.dict = none ∧ ∀ n, mA n = none) ∨ ∃ dx, o.dict = some dx ∧ dx ≠ x ∧ h.Ns1 dx mA)
    (hq : ∀ h' tk' dx, (∀ b ob, b ≠ x → b ≠ dx → h.get? b = some ob → h'.get? b = some ob) → h'.get? x = some { cls := o.cls, dict := some dx, data := o.data, slots := o.slots } → (o.dict = some dx ∨ (o.dict = none ∧ dx = h.objs.size)) → dx ≠ x →
      h'.Ns1 dx (fun y => if y = name then some v else mA y) → Q (.done (.ret .none)) ⟨h', g, d, tk', os⟩) (hw : Within mA ns) (hsz : ns.length ≤ sizeLine) :
    wpAny (model prog w) A (Builtin.«object.__setattr__» ⟨[.ref x, .str name tk, v], []⟩) Q E ⟨h, g, d, t, os⟩ := by
  have SF := PySem.F.store_Exception
  have hpass := SF.passes (.ref x)
  unfold Builtin.«object.__setattr__»
  repeat (first | rw [refuse_eq] | (rw [refuseLoop_ref, refuseLoop_ref, hpass]) | (with_reducible refine wpAny_loadPart_at hx ?_; rw [hc]) | with_reducible refine wpAny_mroOf_exc hC ?_ | with_reducible refine tf_lookup hC hn hni hC' hn' hni' hB ?_ | wp_step)
  rcases hd with ⟨hdn, hmA⟩ | ⟨dx, hdx, hne, hns⟩
  · rw [hdn, if_neg (by simp [typeHasDict])]
    split
    · rename_i q
      cases q
    split
    · rename_i c q
      exact absurd q (hnc c)
    have hx₁ : (h.push { cls := .type "dict", data := .dict #[] }).get? x = some o := Heap.get?_push_of_some _ hx
    have hxs : x ≠ h.objs.size := Nat.ne_of_lt (Heap.lt_size hx)
    refine wpAny_bind (wpAny_alloc' (wpAny_bind (wpAny_update' hx₁ (wpAny_pure ?_))))
    generalize hH : ((h.push { cls := .type "dict", data := .dict #[] }).update x fun o => { cls := o.cls, dict := some h.objs.size, data := o.data, slots := o.slots }) = H
    have hgd : H.get? h.objs.size = some { cls := .type "dict", data := .dict #[] } := by rw [← hH]; exact (Heap.get?_update_ne _ _ _ _ hxs.symm).trans (Heap.get?_push_at rfl rfl)
    have hnd : H.Ns h.objs.size (fun _ => none) := ⟨_, #[], _, hgd, rfl, fun e he => absurd he (by simp), fun _ => rfl⟩
    have hgx : H.get? x = some { cls := o.cls, dict := some h.objs.size, data := o.data, slots := o.slots } := by
      rw [← hH]
      refine Heap.get?_update_self _ hx₁ ?_
      have hfr := (Heap.get?_some_iff.mp hx).2
      obtain ⟨oc, od, odt, osl⟩ := o
      cases odt <;> first | rfl | exact hfr
    have hgo : ∀ b ob, b ≠ x → h.get? b = some ob → H.get? b = some ob := fun b ob hb e => by rw [← hH]; exact (Heap.get?_update_ne _ _ _ _ hb).trans (Heap.get?_push_of_some _ e)
    show wpAny _ _ (storeInDict h.objs.size (.str name tk) name v) _ _ _
    unfold storeInDict newKeyGuard
    refine wpAny_bind (wpAny_pure (wpAny_bind (wpAny_nsSet1 (Heap.Ns1.of_empty hnd) fun h' hn' hs => ?_)))
    obtain ⟨oD, esD, epD, hoD, hdD, hcD⟩ := hn'.count (Within.cons name v Within.nil)
    refine wpAny_bind (wpAny_lookBehind hoD (by rw [hdD]; exact pastItsLine_dict (Nat.le_trans hcD (by rw [List.length_cons, List.length_nil, sizeLine_eq]; omega))) ?_)
    wp_walk
    refine hq h' _ h.objs.size (fun b ob hb hb2 e => (hs.2 b hb2).trans (hgo b ob hb e)) ((hs.2 x hxs).trans hgx) (.inr ⟨hdn, rfl⟩) (Ne.symm hxs) ?_
    obtain ⟨o', es, ep, e1, e2, e3, eu, e4⟩ := hn'
    exact ⟨o', es, ep, e1, e2, e3, eu, fun y => by rw [e4 y]; by_cases hy : y = name <;> simp [hy, hmA]⟩
  · rw [hdx]
    refine wpAny_pure ?_
    show wpAny _ _ (storeInDict dx (.str name tk) name v) _ _ _
    unfold storeInDict newKeyGuard
    refine wpAny_bind (wpAny_pure (wpAny_bind (wpAny_nsSet1 hns fun h' hn' hs => ?_)))
    obtain ⟨oD, esD, epD, hoD, hdD, hcD⟩ := hn'.count (Within.cons name v hw)
    refine wpAny_bind (wpAny_lookBehind hoD (by rw [hdD]; exact pastItsLine_dict (Nat.le_trans hcD (by rw [List.length_cons]; omega))) ?_)
    wp_walk
    refine hq h' _ dx (fun b ob hb hb2 e => (hs.2 b hb2).trans e) ((hs.2 x hne.symm).trans (hx.trans ?_)) (.inl hdx) hne hn'
    rw [← hdx]
theorem tf_check {M : Model} {o : Obj} {nameV : Value} {sa owner : String} {Q : Unit → Shared → Prop} (SF : StoreFacts "Exception" bmX sa owner) (hC : h.get? C = some (excClassObj nm qn C N bs (.ref C' :: bmX) true sn sub ab col dd k0 k1 k2 k3 k5 "Exception.__new__"))
    (hx : h.get? x = some o) (hc : o.cls = .ref C) (hq : Q () ⟨h, g, d, t, os⟩) : wpAny M A (checkBuiltinCall sa ⟨[.ref x, nameV, v], []⟩) Q E ⟨h, g, d, t, os⟩ := by
  have hcB : (Value.ref C :: .ref C' :: bmX).contains (.type owner) = true := by rw [List.contains_cons, List.contains_cons, SF.hasOwner, Bool.or_true, Bool.or_true]
  have ha := SF.args (.ref x) nameV v
  simp only [checkBuiltinCall, SF.kind, SF.split]
  refine wpAny_bind ?_
  unfold isInstance
  repeat (first | (with_reducible refine wpAny_loadPart_at hx ?_; rw [hc]) | (with_reducible refine wpAny_isSubtype_exc hC ?_; rw [hcB]) | wp_step)
  cases hsig : Manifest.signature? sa with
  | none => exact wpAny_pure hq
  | some sig =>
    simp only [argsOk, hsig] at ha
    have h2 : Bind.checkArgs sa sig ⟨[.ref x, nameV, v], []⟩ = pure () := ha
    show wpAny M A (Bind.checkArgs sa sig ⟨[.ref x, nameV, v], []⟩) Q E _
    rw [h2]; exact wpAny_pure hq
theorem tf_set {sa owner : String} {Q : Unit → Shared → Prop} {o : Obj} {ns : List Str} (SF : StoreFacts "Exception" bmX sa owner)
    (hC : h.get? C = some (excClassObj nm qn C N bs (.ref C' :: bmX) true sn sub ab col dd k0 k1 k2 k3 k5 "Exception.__new__")) (hn : h.Ns N mN) (hni : mN name = none) (hns : mN "__setattr__" = none)
    (hC' : h.get? C' = some (excClassObj nm' qn' C' N' bs' bmX hdct' sn' sub' ab' col' dd' j0 j1 j2 j3 j5 nid')) (hn' : h.Ns N' mN') (hni' : mN' name = none) (hns' : mN' "__setattr__" = none) (hB : typeLookup (.type "Exception") name = pure none)
    (hx : h.get? x = some o) (hc : o.cls = .ref C) (hnc : ∀ c, o.data ≠ .cls c) (hd : (o.dict = none ∧ ∀ n, mA n = none) ∨ ∃ dx, o.dict = some dx ∧ dx ≠ x ∧ h.Ns1 dx mA)
    (hq : ∀ h' tk' dx, (∀ b ob, b ≠ x → b ≠ dx → h.get? b = some ob → h'.get? b = some ob) → h'.get? x = some { cls := o.cls, dict := some dx, data := o.data, slots := o.slots } → (o.dict = some dx ∨ (o.dict = none ∧ dx = h.objs.size)) → dx ≠ x →
      h'.Ns1 dx (fun y => if y = name then some v else mA y) → Q () ⟨h', g, d, tk', os⟩) (hw : Within mA ns) (hsz : ns.length ≤ sizeLine) :
    wpAny (model prog w) A (setAttr (.ref x) name v) Q E ⟨h, g, d, t, os⟩ := by
  have f3 := SF.slot.bind (.ref x)
  unfold setAttr callSpecial? specialOf
  repeat (any_goals (first | assumption | (with_reducible refine wpAny_loadPart_at hx ?_; rw [hc]) | with_reducible refine tf_lookup hC hn hns hC' hn' hns' SF.slot.lookup ?_ | wp_step))
  refine codeAny_call_builtin SF.slot.plain SF.entry (tf_check SF hC hx hc (tf_set0 hC hn hni hC' hn' hni' hB hx hc hnc hd (fun h' tk' dx a1 a2 a3 a4 a5 => ?_) hw hsz))
  repeat (any_goals (first | assumption | wp_step))
  exact hq h' tk' dx a1 a2 a3 a4 a5
end

-- part TI
theorem words_TI : True := by
  k_with "getMethod type:Exception" => (k_here; refine' method_type ?F ?X ?m (by decide +kernel) ?e ?h ?_; (case F => k_asm); (case X => k_asm); (case m => kernel_rfl); (case e => k_dflt k_is); (case h => k_handed))
  k_with "call builtin:Exception.__init__" => (refine stop_intro ?_)
  k_with "setAttr ref str" => (refine stop_intro ?_)
  k_with "setAttr ref int" => (refine stop_intro ?_)
  trivial
-- needs TS
section
variable {w : World} {p : Program} {loose : List Str} {mean : ExcName → Option Value} {mg mb : Str → Option Value}
   {dp un : Nat} {gd : Option (List Code)} {cn : Str} {cs : Scope} {a : Addr} {ccd : Value} {cl : List (Str × Addr)} {outer : List Env} {A₀ : Around} {base h₀ : Heap} {L : Addr} {m : Str → Option Value} {N : List (Addr × Obj)} {s : Shared} {Q E : Value → Shared → Prop}
theorem tf_init1 {A : Around} {e T : Addr} {msg : Str} {mt : Tok} (F : Fr h₀ L s.heap m) (X : Frag.In (hd.heap_1 w.params) h₀) (Nw : News h₀ L s.heap ((e, excObj 52 T) :: N)) (off : ∀ p ∈ N, p.1 ≠ e)
    (ret : ∀ h' T', Fr h₀ L h' m → News h₀ L h' ((e, excObj 52 T') :: (T', tupObj [.str msg mt] 0) :: N) → (∀ p ∈ (e, excObj 52 T) :: N, p.1 < T') → Q .none { s with heap := h' }) :
    wpAny (model PySem.Challenge.pw_nu0382_01 w) A (call (.builtin "Exception.__init__") [.ref e, .str msg mt]) Q E s := by
  have o52 := X.keeps F.keep 52 _ rfl
  have he := (Nw _ List.mem_cons_self)
  obtain ⟨hp, g, d, tk, os⟩ := s
  refine tf_init0 (bm := [.ref 39, .type "Exception", .type "BaseException", .type "object"]) ⟨by decide, by decide, by decide, by decide⟩ o52 he.1 (Nat.le_of_ble_eq_true rfl) fun h' up ht he' => ?_
  have up' : ∀ b o, b ∉ [e] → hp.get? b = some o → h'.get? b = some o := fun b o hb => up b o fun q => hb (List.mem_singleton.mpr q)
  have F' := LCg.fr_but F up' (Ne.symm he.2.1) he.2.2
  refine ret h' hp.objs.size F' (fun p hp' => ?_) fun p hp' => Heap.lt_size (Nw p hp').1
  rcases List.mem_cons.mp hp' with rfl | hp'
  · exact ⟨he', he.2⟩
  rcases List.mem_cons.mp hp' with rfl | hp'
  · exact ⟨ht, Nat.ne_of_gt F.ns.lt, next_is_new F⟩
  · exact LCg.news_but (fun p hp => Nw p (List.mem_cons_of_mem _ hp)) up' off p hp'
noncomputable abbrev excD (T dx : Addr) : Obj := { cls := .ref 52, dict := some dx, data := .fields #[.ref T, .none, .none, .none, .bool false, .none] }
theorem tf_setG {A : Around} {name : Str} {v : Value} {mA : Str → Option Value} {x : Addr} {o : Obj} {ns : List Str} {Q : Unit → Shared → Prop} (X : Frag.In (hd.heap_1 w.params) s.heap) (hname : name = Str.ofString "message" ∨ name = Str.ofString "spot")
    (hx : s.heap.get? x = some o) (hc : o.cls = .ref 52) (hnc : ∀ c, o.data ≠ .cls c) (hd : (o.dict = none ∧ ∀ n, mA n = none) ∨ ∃ dx, o.dict = some dx ∧ dx ≠ x ∧ s.heap.Ns1 dx mA)
    (hq : ∀ h' tk' dx, (∀ b ob, b ≠ x → b ≠ dx → s.heap.get? b = some ob → h'.get? b = some ob) → h'.get? x = some { cls := o.cls, dict := some dx, data := o.data, slots := o.slots } → (o.dict = some dx ∨ (o.dict = none ∧ dx = s.heap.objs.size)) → dx ≠ x →
      h'.Ns1 dx (fun y => if y = name then some v else mA y) → Q () { s with heap := h', toks := tk' }) (hw : Within mA ns) (hsz : ns.length ≤ sizeLine) :
    wpAny (model PySem.Challenge.pw_nu0382_01 w) A (setAttr (.ref x) name v) Q E s := by
  have o52 := X 52 _ rfl
  have o39 := X 39 _ rfl
  have o51 := X 51 _ rfl
  have o38 := X 38 _ rfl
  obtain ⟨hp, g, d, tk, os⟩ := s
  dsimp only at o52 o39 o51 o38 X hx hd hq ⊢
  have k51 := (Heap.Ns.of_isNs (isNs_of_in X (N := 51) (by kernel_rfl)))
  have k38 := (Heap.Ns.of_isNs (isNs_of_in X (N := 38) (by kernel_rfl)))
  obtain ⟨o, es, ep, ho, hd, hs1, _⟩ := k51
  rw [o51] at ho
  cases ho
  cases hd
  obtain ⟨o, es, ep, ho, hd, hs2, _⟩ := k38
  rw [o38] at ho
  cases ho
  cases hd
  rcases hname with rfl | rfl
  · exact tf_set PySem.F.store_Exception o52 ⟨_, _, _, o51, rfl, hs1, fun _ => rfl⟩ (by kernel_rfl) (by kernel_rfl) o39 ⟨_, _, _, o38, rfl, hs2, fun _ => rfl⟩ (by kernel_rfl) (by kernel_rfl) (by rw [typeLookup_type, builtinLookup_eq_fast]; kernel_rfl) hx hc hnc (by assumption) hq hw hsz
  · exact tf_set PySem.F.store_Exception o52 ⟨_, _, _, o51, rfl, hs1, fun _ => rfl⟩ (by kernel_rfl) (by kernel_rfl) o39 ⟨_, _, _, o38, rfl, hs2, fun _ => rfl⟩ (by kernel_rfl) (by kernel_rfl) (by rw [typeLookup_type, builtinLookup_eq_fast]; kernel_rfl) hx hc hnc (by assumption) hq hw hsz
noncomputable def ObjNs (o : Obj) (m : Str → Option Value) : Prop := ∀ (h : Heap) (d : Addr), h.get? d = some o → h.Ns1 d m
theorem objNs_of {h : Heap} {d : Addr} {m : Str → Option Value} (x : h.Ns1 d m) : ∃ o, h.get? d = some o ∧ ObjNs o m := by
  obtain ⟨o, es, ep, e1, e2, e3⟩ := x
  exact ⟨o, e1, fun h' d' e => ⟨o, es, ep, e, e2, e3⟩⟩
theorem tf_set1 {A : Around} {v : Value} {e T : Addr} {Q : Unit → Shared → Prop} (F : Fr h₀ L s.heap m) (X : Frag.In (hd.heap_1 w.params) h₀) (Nw : News h₀ L s.heap ((e, excObj 52 T) :: N)) (off : ∀ p ∈ N, p.1 ≠ e)
    (ret : ∀ h' tk' dx od, Fr h₀ L h' m → News h₀ L h' ((e, excD T dx) :: (dx, od) :: N) → (∀ p ∈ (e, excObj 52 T) :: N, p.1 < dx) → ObjNs od (fun y => if y = Str.ofString "message" then some v else none) → Q () { s with heap := h', toks := tk' }) :
    wpAny (model PySem.Challenge.pw_nu0382_01 w) A (setAttr (.ref e) (Str.ofString "message") v) Q E s := by
  have he := Nw _ List.mem_cons_self
  refine tf_setG (mA := fun _ => none) (ns := []) (X.keeps F.keep) (.inl rfl) he.1 rfl (fun c q => by cases q) (.inl ⟨rfl, fun _ => rfl⟩) (fun h' tk' dx a1 a2 a3 a4 a5 => ?_) Within.nil (Nat.zero_le _)
  rcases a3 with a3 | ⟨-, rfl⟩
  · cases a3
  obtain ⟨od, e1, e2⟩ := objNs_of a5
  have fresh : ∀ b o, h₀.get? b = some o → b ≠ e ∧ b ≠ s.heap.objs.size := fun b o q => ⟨fun z => (by rw [z, he.2.2] at q; cases q), fun z => by rw [z, next_is_new F] at q; cases q⟩
  refine ret h' tk' _ od ⟨F.ns.at' fun o q => a1 _ _ (Ne.symm he.2.1) (Nat.ne_of_lt F.ns.lt) q, fun b o q => a1 b o (fresh b o q).1 (fresh b o q).2 (F.keep b o q), F.above⟩ (fun p hp => ?_) (fun p hp => Heap.lt_size (Nw p hp).1) e2
  rcases List.mem_cons.mp hp with rfl | hp
  · exact ⟨a2, he.2⟩
  rcases List.mem_cons.mp hp with rfl | hp
  · exact ⟨e1, Nat.ne_of_gt F.ns.lt, next_is_new F⟩
  · have z := Nw _ (List.mem_cons_of_mem _ hp)
    exact ⟨a1 _ _ (off p hp) (Nat.ne_of_lt (Heap.lt_size z.1)) z.1, z.2⟩
theorem tf_set2 {A : Around} {v v' : Value} {e T dx : Addr} {od : Obj} {Q : Unit → Shared → Prop} (F : Fr h₀ L s.heap m) (X : Frag.In (hd.heap_1 w.params) h₀) (Nw : News h₀ L s.heap ((e, excD T dx) :: (dx, od) :: N)) (off : ∀ p ∈ N, p.1 ≠ e) (off2 : ∀ p ∈ N, p.1 ≠ dx) (hne : dx ≠ e)
    (hO : ObjNs od (fun y => if y = Str.ofString "message" then some v' else none))
    (ret : ∀ h' tk', Fr h₀ L h' m → News h₀ L h' ((e, excD T dx) :: N) → Q () { s with heap := h', toks := tk' }) :
    wpAny (model PySem.Challenge.pw_nu0382_01 w) A (setAttr (.ref e) (Str.ofString "spot") v) Q E s := by
  have he := Nw _ List.mem_cons_self
  have hd := Nw _ (List.mem_cons_of_mem _ List.mem_cons_self)
  refine tf_setG (mA := fun y => if y = Str.ofString "message" then some v' else none) (ns := [Str.ofString "message"]) (X.keeps F.keep) (.inr rfl) he.1 rfl (fun c q => by cases q) (.inr ⟨dx, rfl, hne, hO _ _ hd.1⟩) (fun h' tk' dx' a1 a2 a3 a4 a5 => ?_) (Within.cons _ _ Within.nil) (Nat.le_of_ble_eq_true rfl)
  rcases a3 with a3 | ⟨a3, -⟩
  rotate_left
  · cases a3
  cases a3
  have fresh : ∀ b o, h₀.get? b = some o → b ≠ e ∧ b ≠ dx := fun b o q => ⟨fun z => (by rw [z, he.2.2] at q; cases q), fun z => by rw [z, hd.2.2] at q; cases q⟩
  refine ret h' tk' ⟨F.ns.at' fun o q => a1 _ _ (Ne.symm he.2.1) (Ne.symm hd.2.1) q, fun b o q => a1 b o (fresh b o q).1 (fresh b o q).2 (F.keep b o q), F.above⟩ (fun p hp => ?_)
  rcases List.mem_cons.mp hp with rfl | hp
  · exact ⟨a2, he.2⟩
  · have z := Nw _ (List.mem_cons_of_mem _ (List.mem_cons_of_mem _ hp))
    exact ⟨a1 _ _ (off p hp) (off2 p hp) z.1, z.2⟩
set_option maxHeartbeats 4000000 in
theorem ti_call {msg : Str} {mt : Tok}
   (B : Below A₀ base outer h₀) (F : Fr h₀ L s.heap m) (X : Frag.In (hd.heap_1 w.params) h₀) (Nw : News h₀ L s.heap N) (T : Top p loose mean mg mb h₀) (hk : cs.kind = .function)
   (hdd : dp + 20 < recursionLimit) (hu : un + 500 < cLine)
   (ret : ∀ h' tk' e T' dx, Fr h₀ L h' m → News h₀ L h' ((e, excD T' dx) :: (T', tupObj [.str msg mt] 0) :: N) → (∀ p ∈ N, p.1 < e) → (∀ p ∈ (e, excD T' dx) :: N, p.1 < T') → Q (.ref e) { s with heap := h', toks := tk' }) :
   wpAny (model PySem.Challenge.pw_nu0382_01 w) (ktrTop dp un gd cn cs L a ccd cl outer) (call (.ref 52) [.str msg mt]) Q E s := by
  have X9 := X.keeps F.keep
  have o52 := X9 52 _ rfl
  have o39 := X9 39 _ rfl
  have o51 := X9 51 _ rfl
  have o38 := X9 38 _ rfl
  have o36 := X9 36 _ rfl
  obtain ⟨hp, g, d, tk, os⟩ := s
  dsimp only at o52 o39 o51 o38 o36 X9 F Nw
  have k51 := (Heap.Ns.of_isNs (isNs_of_in X9 (N := 51) (by kernel_rfl)))
  have k38 := (Heap.Ns.of_isNs (isNs_of_in X9 (N := 38) (by kernel_rfl)))
  obtain ⟨o, es, ep, ho, hd, hs1, _⟩ := k51
  rw [o51] at ho
  cases ho
  cases hd
  obtain ⟨o, es, ep, ho, hd, hs2, _⟩ := k38
  rw [o38] at ho
  cases ho
  cases hd
  refine tf_call (bm' := [.type "Exception", .type "BaseException", .type "object"]) (C' := 39) ⟨by decide, by decide, by decide, by decide⟩ o52 ⟨_, _, _, o51, rfl, hs1, fun _ => rfl⟩ (by kernel_rfl) o39 ⟨_, _, _, o38, rfl, hs2, fun _ => rfl⟩ (fI := 36) (by kernel_rfl) o36 rfl ?_ (Nat.le_of_ble_eq_true rfl)
  intro h' up ht he
  have F1 := F.keeps up
  have N1 := News.more F1 (News.more F1 (Nw.grown up) ht (fun es n q => by cases q) (next_is_new F)) he (fun es n q => by cases q) (ktu_new F (Nat.le_succ _))
  have l1 : ∀ p ∈ N, p.1 < hp.objs.size := fun p hp => Heap.lt_size (Nw p hp).1
  have l2 : hp.objs.size < hp.objs.size + 1 := Nat.lt_succ_self _
  clear up ht he o52 o39 o51 o38 o36 hs1 hs2 X9 F Nw
  generalize hp.objs.size + 1 = e9 at *
  generalize hp.objs.size = T9 at *
  refine wpAny_call ?_
  walk_at "mine_enter"
  k_steps
  refine stop_elim ?_
  refine tf_init1 (N := (T9, _) :: N) (by k_asm) (by k_asm) (by k_asm) (List.forall_mem_cons.mpr ⟨Nat.ne_of_lt l2, fun p hp => Nat.ne_of_lt (Nat.lt_trans (l1 p hp) l2)⟩) ?_
  intro h' T' F' N' l3
  k_steps
  refine stop_elim ?_
  refine tf_set1 (N := (T', _) :: N) (by k_asm) (by k_asm) (news_sub (by k_asm) (by walk_at "mine_sub")) (List.forall_mem_cons.mpr ⟨Nat.ne_of_gt (l3 _ List.mem_cons_self), fun p hp => Nat.ne_of_lt (Nat.lt_trans (l1 p hp) l2)⟩) ?_
  intro h' tk' dx od F' N' l4 hO
  k_steps
  refine stop_elim ?_
  refine tf_set2 (N := (T', _) :: N) (by k_asm) (by k_asm) (by k_asm) (List.forall_mem_cons.mpr ⟨Nat.ne_of_gt (l3 _ List.mem_cons_self), fun p hp => Nat.ne_of_lt (Nat.lt_trans (l1 p hp) l2)⟩) (fun p hp => Nat.ne_of_lt (l4 p (List.mem_cons_of_mem _ hp))) (Nat.ne_of_gt (l4 _ List.mem_cons_self)) hO ?_
  intro h' tk' F' N'
  k_steps
  exact ret _ _ _ _ _ (by k_asm) (by k_asm) (fun p hp => Nat.lt_trans (l1 p hp) l2) (List.forall_mem_cons.mpr ⟨l3 (e9, excObj 52 T9) List.mem_cons_self, fun p hp => l3 _ (List.mem_cons_of_mem _ (List.mem_cons_of_mem _ hp))⟩)
end

-- part LO
-- needs TI
section
variable {M : Model} {A : Around} {E : Value → Shared → Prop} {s' : Shared} {base g : Heap} {outer : List Env} {L a e T dx : Addr} {m : Str → Option Value} {name : Str} {scope : Scope} {cd : Value} {Q : Unit → Shared → Prop} {news : List (Addr × Obj)}
theorem leave_own {vs : List Value} (K : Below A base outer g) (F : Fr g L s'.heap m) (N : News g L s'.heap ((e, excD T dx) :: (T, tupObj vs 0) :: news)) (off : ∀ p ∈ news, p.1 ≠ e ∧ p.1 ≠ T)
    (hQ : ∀ h', RaisedS base g outer e (.ref 52) T vs news h' → g.UpToSlots h' → Q () { s' with heap := h' }) (hk : scope.kind = .function := by rfl) :
    wpAny M (A.deeper (envOf name scope L a cd)) (leaving (envOf name scope L a cd) (.ref e)) Q E s' := by
  have K' := K.push (name := name) (a := a) (cd := cd) F hk
  have he := N _ List.mem_cons_self
  have hT := N _ (List.mem_cons_of_mem _ List.mem_cons_self)
  generalize hfs : (envOf name scope L a cd :: outer).filterMap (·.frame) = fs
  have hin : ∀ env ∈ (envOf name scope L a cd :: outer), ∀ b, env.frame = some b → b ∈ e :: T :: fs := fun env he b hb => List.mem_cons_of_mem _ (List.mem_cons_of_mem _ (hfs ▸ List.mem_filterMap.mpr ⟨env, he, hb⟩))
  have inB : ∀ b o, s'.heap.get? b = some o → b ≠ e → b ≠ T → b ∉ fs → (hideAll s'.heap (e :: T :: fs)).get? b = some o := fun b o q h1 h2 h3 => hideAll_get _ q fun hm => by
    rcases List.mem_cons.mp hm with z | hm
    · exact h1 z
    rcases List.mem_cons.mp hm with z | hm
    · exact h2 z
    · exact h3 hm
  have st : base.StaysIn (hideAll s'.heap (e :: T :: fs)) := fun b o q => by
    refine inB b o (K'.stays b o q) (fun z => ?_) (fun z => ?_) fun hm => ?_
    · have := fresh_of_stays K.stays he.2.2; rw [← z, q] at this; cases this
    · have := fresh_of_stays K.stays hT.2.2; rw [← z, q] at this; cases this
    · rw [← hfs] at hm; rw [(K'.frames.mem hm).1] at q; cases q
  have sg : ∀ b o, g.get? b = some o → b ∉ outer.filterMap (·.frame) → (hideAll s'.heap (e :: T :: fs)).get? b = some o := fun b o q nm => by
    refine inB b o (F.keep b o q) (fun z => ?_) (fun z => ?_) fun hm => ?_
    · rw [z, he.2.2] at q; cases q
    · rw [z, hT.2.2] at q; cases q
    · rw [← hfs] at hm
      rcases kts_mem hm with z | z
      · rw [z, kts_self F] at q; cases q
      · exact nm z
  have hl : ∀ q ∈ news, (hideAll s'.heap (e :: T :: fs)).get? q.1 = some q.2 ∧ g.get? q.1 = none ∧ base.get? q.1 = none := fun q hq => by
    have z := N _ (List.mem_cons_of_mem _ (List.mem_cons_of_mem _ hq))
    refine ⟨inB _ _ z.1 (off q hq).1 (off q hq).2 fun hm => ?_, z.2.2, fresh_of_stays K.stays z.2.2⟩
    rw [← hfs] at hm
    obtain ⟨env, he, hf⟩ := List.mem_filterMap.mp hm
    rcases List.mem_cons.mp he with rfl | he
    · exact z.2.1 (Option.some.inj hf).symm
    · obtain ⟨o, ho, _⟩ := (K.frames.mem (List.mem_filterMap.mpr ⟨env, he, hf⟩)).2
      rw [z.2.2] at ho; cases ho
  have hBe : (hideAll s'.heap (e :: T :: fs)).get? e = none := hideAll_none _ List.mem_cons_self
  refine wpAny_leaving_firstW (base := hideAll s'.heap (e :: T :: fs)) (a0 := .ref T) K'.stack (funFrames_hide K'.frames hin) rfl he.1 (fun b o q => of_hideAll _ q) hBe rfl rfl rfl fun h' hL => ?_
  obtain ⟨k1, ⟨_, _, k2⟩, k3, k4⟩ := hL
  exact hQ h' ⟨⟨_, st, sg, hl, ⟨k1, hBe, k2, k3⟩, hideAll_none _ (List.mem_cons_of_mem _ List.mem_cons_self)⟩, Heap.TupAt.of_slots ⟨_, _, hT.1, rfl, rfl⟩ k4⟩ ((Heap.UpToSlots.of_keeps F.keep).trans k4)
end
noncomputable def Raisable52 (w : World) (E : Value → Shared → Prop) (v : Value) (s₁ : Shared) : Prop := ∃ a T dx, v = .ref a ∧ s₁.heap.get? a = some (excD T dx) ∧ Frag.In (hd.heap_1 w.params) s₁.heap ∧ E (.ref a) s₁
theorem raise52 {prog : Program} {w : World} {A : Around} {E : Value → Shared → Prop} {s : Shared} {env : Env} {e : Expr} {pos : Pos} {Q : Flow → Shared → Prop} (hh : A.handled = none)
    (h : wpAny (model prog w) A (eval e env) (Raisable52 w E) E s) : wpAny (model prog w) A (exec (.Raise (some e) none pos) env) Q E s := by
  show wpAny (model prog w) A (do standAt pos; raiseStmt env (some (do let v ← eval e env; standAt pos; pure v)) none) Q E s
  refine wpAny_bind (wpAny_standAt ?_)
  unfold raiseStmt
  dsimp only
  refine wpAny_bind (wpAny_bind (wpAny_mono h (fun v s₁ h₁ => wpAny_bind (wpAny_standAt (wpAny_pure ?_))) fun _ _ x => x))
  obtain ⟨a, T, dx, rfl, he, X, hE⟩ := h₁
  have hC := X 52 _ rfl
  have hcB : (Value.ref 52 :: .ref 39 :: bmX).contains (.type "BaseException") = true := by decide
  obtain ⟨hp, g, d, tk, os⟩ := s₁
  have hC : hp.get? 52 = some (excClassObj _ _ 52 _ _ (.ref 39 :: bmX) _ _ _ _ _ _ _ _ _ _ _ _) := hC
  repeat (first | with_reducible refine wpAny_loadPart_at he ?_ | with_reducible refine wpAny_loadPart_at hC ?_ | (with_reducible refine wpAny_isSubtype_exc hC ?_; rw [hcB]) | wp_step)
  exact wpAny_raiseNew_none hh hE

-- part SE
theorem words_SE : True := by
  k_with "call ref" => ((with_reducible show wpAny _ _ (call (Value.ref 52) [_]) _ _ _); refine stop_intro ?_)
  k_with "exec Raise some none" => (k_here; k_dflt (refine raise52 ?h ?_; (case h => first | rfl | assumption)))
  k_with "call builtin:len" => ((with_reducible show wpAny _ _ (call (Value.builtin "len") [Value.ref _]) _ _ _); (k_here; k_dflt (refine PyProof.Rows.len_list (News.isList (by k_asm) (by k_mem)) (by assumption) ?_)))
  trivial
-- needs LO
theorem selIn_mk {w : World} {N : List (Addr × Obj)} {wv : Value} {e : Env9} {x d bd : Addr} {k1 k2 : Tok} {o : Obj} {kvs : List (Str × Value)} (Wi : WorldIn w.params N wv e.rows) (hbd : (bd, o) ∈ N) (hbs : (bd == sysModules) = false) (hbo : o.IsDictOf (strKind PySem.Challenge.pw_nu0382_01 w) kvs) (hbi : BdIn N kvs e.bs) :
    SelIn w ((x, instObj 149 d) :: (d, dictOf [ent w.params "world" k1 wv, ent w.params "bounds" k2 (.ref bd)] 2) :: N) (.ref x) e := by
  refine .mk rfl List.mem_cons_self (List.mem_cons_of_mem _ List.mem_cons_self) (Wi.mono fun p hp => List.mem_cons_of_mem _ (List.mem_cons_of_mem _ hp)) (List.mem_cons_of_mem _ (List.mem_cons_of_mem _ hbd)) hbs hbo ?_
  rcases hbi with h | ⟨ba, vs, n, h1, h2, h3⟩
  · exact .inl h
  · exact .inr ⟨ba, vs, n, h1, List.mem_cons_of_mem _ (List.mem_cons_of_mem _ h2), h3⟩
theorem tr_len (tr : Tr) : tr.str.length ≤ 1 := by induction tr using Tr.casesOn <;> decide
section
variable {w : World} {p : Program} {loose : List Str} {mean : ExcName → Option Value} {mg mb : Str → Option Value}
   {dp un : Nat} {gd : Option (List Code)} {cn : Str} {cs : Scope} {a : Addr} {ccd : Value} {cl : List (Str × Addr)} {outer : List Env} {A₀ : Around} {base h₀ : Heap} {L : Addr} {m : Str → Option Value} {N : List (Addr × Obj)} {g₁ : Array GenState} {d₁ : Drawn} {o₁ : OsState} {h₁ : Heap} {t₁ : Nat} {Q E : Value → Shared → Prop}
set_option maxHeartbeats 4000000 in
theorem se_var {wv : Value} {tr : Tr} {ut : Tok} {tar bd a9 : Addr} {n9 : Nat} {k9 : Tok} {r9 : List Value}
   (B : Below A₀ base outer h₀) (F : Fr h₀ L h₁ m) (X : Frag.In (hd.heap_1 w.params) h₀) (Nw : News h₀ L h₁ N) (T : Top p loose mean mg mb h₀) (hk : cs.kind = .function)
   (m9 : (a9, tupObj (.str (Str.ofString "var") k9 :: r9) n9) ∈ N) (hdd : dp + 25 < recursionLimit) (hu : un + 700 < cLine)
   (ret : ∀ h' tk' e t9 vs9 g, Fr h₀ L g m → RaisedS base g (envX cn cs L a ccd cl :: outer) e (.ref 52) t9 vs9 N h' → g.UpToSlots h' → E (.ref e) ⟨h', g₁, d₁, tk', o₁⟩) :
   wpAny (model PySem.Challenge.pw_nu0382_01 w) (ktrTop dp un gd cn cs L a ccd cl outer) (call (.ref 160) [wv, .str tr.str ut, .ref tar, .ref a9, .ref bd]) Q E ⟨h₁, g₁, d₁, t₁, o₁⟩ := by
  have htl := tr_len tr
  refine wpAny_call ?_
  walk_at "mine_enter"
  k_steps
  refine stop_elim ?_
  with_unfolding_all refine' ti_call ?k1 ?k2 ?k3 ?k4 ?k5 ?k6 ?k8 ?k9 ?_
  walk_at "mine_calm"
  intro h' tk' e T' dx F' N' l7 l8
  refine ⟨_, _, _, rfl, (by k_asm : News _ _ _ ((e, excD T' dx) :: _)) _ List.mem_cons_self |>.1, X'.keeps (Fr.keep (by k_asm)), ?_⟩
  k_steps
  refine leave_own (news := N) B' (by k_asm) (news_sub (by k_asm) (by walk_at "mine_sub")) (fun p hp => ⟨Nat.ne_of_lt (l7 p (List.mem_cons_of_mem _ (List.mem_cons_of_mem _ hp))), Nat.ne_of_lt (l8 p (List.mem_cons_of_mem _ (List.mem_cons_of_mem _ (List.mem_cons_of_mem _ hp))))⟩) ?_ rfl
  intro h' R9 U9
  exact ret _ _ _ _ _ _ FG' R9 U9
set_option maxHeartbeats 4000000 in
theorem se_call {wv vt : Value} {e : Env9} {t : Ty} {tr : Tr} {ut : Tok} {tar bd : Addr} {kk : Nat} {o : Obj} {kvs : List (Str × Value)}
   (B : Below A₀ base outer h₀) (F : Fr h₀ L h₁ m) (X : Frag.In (hd.heap_1 w.params) h₀) (Nw : News h₀ L h₁ N) (T : Top p loose mean mg mb h₀) (hk : cs.kind = .function)
   (Wi : WorldIn w.params N wv e.rows) (hbd : (bd, o) ∈ N) (hbs : (bd == sysModules) = false) (hbo : o.IsDictOf (strKind PySem.Challenge.pw_nu0382_01 w) kvs) (hbi : BdIn N kvs e.bs)
   (mta : (tar, tupObj [] kk) ∈ N) (R : TyIn N vt t) (hc : t.cl = true) (hdep : t.dep ≤ 4) (hsz : t.size ≤ 12) (hro : ∀ r ∈ e.rows, RowOk r) (hrl : e.rows.length ≤ 100)
   (hdd : dp + 25 * t.size + 60 < recursionLimit) (hu : un + 400 * t.size + 1000 < cLine)
   (retB : (t == .X && e.bs.contains tr) = true → ∀ h' tk' D k1 k2 n, Fr h₀ L h' m → News h₀ L h' ((D, tupObj [.str (Str.ofString "bound") k1, .str (Str.ofString "X") k2] n) :: N) → Q (.ref D) ⟨h', g₁, d₁, tk', o₁⟩)
   (ret0 : (t == .X && e.bs.contains tr) = false → e.rows.filter (cand e tr t) = [] → ∀ h' tk', Fr h₀ L h' m → News h₀ L h' N → Q .none ⟨h', g₁, d₁, tk', o₁⟩)
   (ret1 : (t == .X && e.bs.contains tr) = false → ∀ r, e.rows.filter (cand e tr t) = [r] → ∀ h' tk' D k1 k2 n fd o' f M, Fr h₀ L h' m → News h₀ L h' ((D, tupObj [.str (Str.ofString "impl") k1, .int r.num k2, .ref fd] n) :: (fd, o') :: M) → (∀ p ∈ N, p ∈ M) → (fd == sysModules) = false → o'.IsDictOf (strKind PySem.Challenge.pw_nu0382_01 w) (fnd f) →
      (match Mine.ut r.hd t with | none => f = none | some u => ∃ x, f = some x ∧ TyIn M x u) → Q (.ref D) ⟨h', g₁, d₁, tk', o₁⟩)
   (ret2 : (t == .X && e.bs.contains tr) = false → 2 ≤ (e.rows.filter (cand e tr t)).length → ∀ h' tk' e t9 vs9 g, Fr h₀ L g m → RaisedS base g (envX cn cs L a ccd cl :: outer) e (.ref 52) t9 vs9 N h' → g.UpToSlots h' → E (.ref e) ⟨h', g₁, d₁, tk', o₁⟩) :
   wpAny (model PySem.Challenge.pw_nu0382_01 w) (ktrTop dp un gd cn cs L a ccd cl outer) (call (.ref 160) [wv, .str tr.str ut, .ref tar, vt, .ref bd]) Q E ⟨h₁, g₁, d₁, t₁, o₁⟩ := by
  obtain ⟨a9, n9, k9, r9, rfl, m9⟩ := R.first
  have htl := tr_len tr
  have hkv := cl_kind hc
  have hnc := tr.ne_copy
  have hA : ∀ u, u.size < t.size → AskC w e u := fun u h => as_call hro hrl 12 u (by omega) (by omega)
  refine wpAny_call ?_
  walk_at "mine_enter"
  k_steps
  refine stop_elim ?_
  with_unfolding_all refine' bo_call (e := e) (t := t) ?k1 ?k2 ?k3 ?k4 ?k5 ?k6 (selIn_mk Wi hbd hbs hbo hbi) (TyIn.mono ?m2 R) hc ?k8 ?k9 ?_ ?_
  walk_at "mine_calm"
  case m2 => walk_at "mine_sub"
  · intro hb h' tk' F' N'
    k_steps
    refine stop_elim ?_
    with_unfolding_all refine' ln_call ?k1 ?k2 ?k3 ?k4 ?k5 ?k6 ?k8 ?k9 ?_
    walk_at "mine_calm"
    intro h' tk' k2 F' N'
    k_steps
    refine stop_elim ?_
    with_unfolding_all refine' ca_call (k := 0) (e := e) (t := t) ?k1 ?k2 ?k3 ?k4 ?k5 ?k6 hA (selIn_mk Wi hbd hbs hbo hbi) ?mt (TyIn.mono ?m2 R) hc hdep (by omega) hro hrl (by omega) ?k8 ?k9 ?_
    walk_at "mine_calm"
    case mt => k_mem
    case m2 => walk_at "mine_sub"
    intro h' tk' l vs c tl F' N' hl htl hC
    have hlen := hC.len
    have hz9 : vs.length ≤ 1000 := by have := List.length_filter_le (cand e tr t) e.rows; omega
    rcases vs with _ | ⟨v, _ | ⟨v', vs⟩⟩
    · have hf : e.rows.filter (cand e tr t) = [] := List.eq_nil_of_length_eq_zero hlen.symm
      k_steps
      exact ret0 hb hf _ _ (by k_asm) (news_sub (by k_asm) (by walk_at "mine_sub"))
    · obtain ⟨r9, hf⟩ := List.length_eq_one_iff.mp hlen.symm
      rw [hf] at hC
      obtain ⟨⟩ | ⟨hc1, -⟩ := hC
      obtain ⟨g1, g2, g5, g3, g4⟩ := hc1
      k_steps
      exact ret1 hb r9 hf _ _ _ _ _ _ _ _ _ _ (by k_asm) (news_sub (by k_asm) (by walk_at "mine_sub")) (by walk_at "mine_sub") g5 g3 g4
    · have hn9 : (((v :: v' :: vs).toArray.size : Nat) : Int) < 2 ^ 63 := by simp only [List.size_toArray]; omega
      have hn8 : (1 : Int) < (((v :: v' :: vs).toArray.size : Nat) : Int) := by simp only [List.size_toArray, List.length_cons]; omega
      k_steps
      refine stop_elim ?_
      with_unfolding_all refine' ti_call ?k1 ?k2 ?k3 ?k4 ?k5 ?k6 ?k8 ?k9 ?_
      walk_at "mine_calm"
      intro h' tk' e T' dx F' N' l7 l8
      refine ⟨_, _, _, rfl, (by k_asm : News _ _ _ ((e, excD T' dx) :: _)) _ List.mem_cons_self |>.1, X'.keeps (Fr.keep (by k_asm)), ?_⟩
      k_steps
      refine leave_own (news := N) B' (by k_asm) (news_sub (by k_asm) (by walk_at "mine_sub")) (fun p hp => ⟨Nat.ne_of_lt (l7 p (by walk_at "mine_up")), Nat.ne_of_lt (l8 p (by walk_at "mine_up"))⟩) ?_ rfl
      intro h' R9 U9
      exact ret2 hb (by rw [← hlen]; simp) _ _ _ _ _ _ FG' R9 U9
  · intro hb h' tk' D q1 q2 q3 F' N' hD
    k_steps
    exact retB hb _ _ _ _ _ _ (by k_asm) (news_sub (by k_asm) (by walk_at "mine_sub"))
end



-- part HO
-- needs SE
section
variable {w : World} {p : Program} {loose : List Str} {mean : ExcName → Option Value} {mg mb : Str → Option Value}
   {dp un : Nat} {gd : Option (List Code)} {cn : Str} {cs : Scope} {a : Addr} {ccd : Value} {cl : List (Str × Addr)} {outer : List Env} {A₀ : Around} {base h₀ : Heap} {L : Addr} {m : Str → Option Value} {N : List (Addr × Obj)} {g₁ : Array GenState} {d₁ : Drawn} {o₁ : OsState} {h₁ : Heap} {t₁ : Nat} {Q E : Value → Shared → Prop}
theorem okStr_eq (b : Bool) : (okStr b == Str.ofString "yes") = b := by induction b using Bool.casesOn <;> decide
set_option maxHeartbeats 4000000 in
theorem ho_call {wv vt : Value} {e : Env9} {t : Ty} {tr : Tr} {ut : Tok} {tar bd : Addr} {kk : Nat} {o : Obj} {kvs : List (Str × Value)}
   (B : Below A₀ base outer h₀) (F : Fr h₀ L h₁ m) (X : Frag.In (hd.heap_1 w.params) h₀) (Nw : News h₀ L h₁ N) (T : Top p loose mean mg mb h₀) (hk : cs.kind = .function)
   (Wi : WorldIn w.params N wv e.rows) (hbd : (bd, o) ∈ N) (hbs : (bd == sysModules) = false) (hbo : o.IsDictOf (strKind PySem.Challenge.pw_nu0382_01 w) kvs) (hbi : BdIn N kvs e.bs)
   (mta : (tar, tupObj [] kk) ∈ N) (R : TyIn N vt t) (hc : t.cl = true) (hdep : t.dep ≤ 4) (hsz : t.size ≤ 12) (hro : ∀ r ∈ e.rows, RowOk r) (hrl : e.rows.length ≤ 100)
   (hdd : dp + 25 * t.size + 60 < recursionLimit) (hu : un + 400 * t.size + 1000 < cLine)
   (ret : ∀ h' tk', Fr h₀ L h' m → News h₀ L h' N → Q (.bool (ok e tr t)) ⟨h', g₁, d₁, tk', o₁⟩) :
   wpAny (model PySem.Challenge.pw_nu0382_01 w) (ktrTop dp un gd cn cs L a ccd cl outer) (call (.ref 167) [wv, .str tr.str ut, .ref tar, vt, .ref bd]) Q E ⟨h₁, g₁, d₁, t₁, o₁⟩ := by
  refine wpAny_call ?_
  walk_at "mine_enter"
  k_steps
  refine stop_elim ?_
  with_unfolding_all refine' as_call hro hrl 12 t hsz (by decide) (k := 0) ?k1 ?k2 ?k3 ?k4 ?k5 ?k6 (selIn_mk Wi hbd hbs hbo hbi) ?mt (TyIn.mono ?m2 R) hc hdep (by omega) ?k8 ?k9 ?_
  walk_at "mine_calm"
  case mt => k_mem
  case m2 => walk_at "mine_sub"
  intro h' tk' ku F' N'
  k_steps
  rw [okStr_eq]
  exact ret _ _ (by k_asm) (news_sub (by k_asm) (by walk_at "mine_sub"))
end

-- part LT
theorem words_LT : True := by
  k_with "call ref" => ((with_reducible show wpAny _ _ (call (Value.ref 160) [_, _, _, _, _]) _ _ _); refine stop_intro ?_)
  k_with "mine_enterS" => ((refine' code_defS ?k1 ?k2 ?k3 ?k4 ?k5 ?XB ?TB ?D ?T0 ?kA ?k6 ?k7 ?k8 ?k9 ?kB ?_ ?cK ?c2 ?c3 ?c4 ?c5; (case kA => exact rfl); (case k2 => k_asm); (case k1 => k_asm); (case XB => assumption); (case TB => assumption); (case D => assumption); (case T0 => first | assumption | exact KtsTurn.refl); (case k3 => k_asm); (case k4 => k_asm); (case k5 => k_asm); (case k6 => k_is); (case k7 => k_is); (case k8 => k_extra "mine_rm"); (case k9 => first | exact binds_K (by k_in) rfl (by k_is) rfl rfl rfl | exact BindsTo.of_eq rfl); (case kB => exact locs rfl); (case cK => first | exact rfl | assumption); (case c2 => exact rfl); (case c3 => exact rfl); (case c4 => exact rfl); (case c5 => decide); k_whole; intro g' L' h' FG' F' N' B' X' T' D'; (try dsimp only); (try k_lift B'); (try k_fold)); refine let_env ?_; intro A9 env9 Q9 E9; refine let_fr F' ?_; clear F'; intro m9 F'; (try (have hu9 : UOk A9 := ⟨by k_extra "mine_units"⟩)))
  trivial
-- needs HO
theorem item_list {prog : Program} {w : World} {A : Around} {h₀ : Heap} {L : Addr} {E : Value → Shared → Prop} {g₁ : Array GenState} {d₁ : Drawn} {o₁ : OsState} {h₁ : Heap} {t₁ : Nat} {news : List (Addr × Obj)} {value slice : PySem.Expr} {l : Addr} {vs : List Value} {c : Nat} {k : Int} {u : Tok} {v : Value} {Q : Value → Shared → Prop}
    (N : News h₀ L h₁ news) (hm : (l, listOf vs.toArray c) ∈ news) (h0 : 0 ≤ k) (hhi : k < 2 ^ 63) (hx : vs[k.toNat]? = some v) (h : Q v ⟨h₁, g₁, d₁, t₁, o₁⟩)
    (hs : subscripted slice false (.ref l) (.int k u) = operate [.ref l, .int k u] (getItem (.ref l) (.int k u)) := by with_unfolding_all rfl) :
    wpAny (model prog w) A (subscriptTail value slice (.ref l) (.int k u)) Q E ⟨h₁, g₁, d₁, t₁, o₁⟩ :=
  tail_any (News.isList N hm).typeIs slot_list_getitem.lookup (wpAny_getItem_list (News.isList N hm) h0 hhi (by simpa using hx) h) hs
inductive Pull (e : Addr × Obj) : List (Addr × Obj) → List (Addr × Obj) → Prop
  | head {r : List (Addr × Obj)} : Pull e (e :: r) r
  | tail {x : Addr × Obj} {l r : List (Addr × Obj)} : Pull e l r → Pull e (x :: l) (x :: r)
theorem Pull.mem {e : Addr × Obj} {l r : List (Addr × Obj)} (h : Pull e l r) : ∀ p ∈ e :: r, p ∈ l := by
  induction h with
  | head => exact fun _ h => h
  | tail _ ih =>
    intro p hp
    rcases List.mem_cons.mp hp with rfl | hp
    · exact List.mem_cons_of_mem _ (ih _ List.mem_cons_self)
    rcases List.mem_cons.mp hp with rfl | hp
    · exact List.mem_cons_self
    · exact List.mem_cons_of_mem _ (ih _ (List.mem_cons_of_mem _ hp))
theorem Pull.news {h₀ h : Heap} {L : Addr} {e : Addr × Obj} {l r : List (Addr × Obj)} (N : News h₀ L h l) (hp : Pull e l r) : News h₀ L h (e :: r) := news_sub N hp.mem
section
variable {w : World} {p : Program} {loose : List Str} {mean : ExcName → Option Value} {mg mb : Str → Option Value}
   {dp un : Nat} {gd : Option (List Code)} {cn : Str} {cs : Scope} {a : Addr} {ccd : Value} {outer : List Env} {A₀ : Around} {base h₀ g₀ : Heap} {L : Addr} {m : Str → Option Value} {N : List (Addr × Obj)} {g₁ : Array GenState} {d₁ : Drawn} {o₁ : OsState} {h₁ : Heap} {t₁ : Nat} {Q E : Value → Shared → Prop}
/-- what stands when a call that caught something is back: the ground turned in the frames above -/
structure Back (A₀ : Around) (base : Heap) (outer : List Env) (w : World) (p : Program) (loose : List Str) (mean : ExcName → Option Value) (mg mb : Str → Option Value) (g₀ h₀ : Heap) (L : Addr) (m : Str → Option Value) (N : List (Addr × Obj)) (h : Heap) : Prop where
  T0 : KtsTurn (outer.filterMap (·.frame)) g₀ h₀
  F : Fr h₀ L h m
  N : News h₀ L h N
  B : Below A₀ base outer h₀
  X : Frag.In (hd.heap_1 w.params) h₀
  T : Top p loose mean mg mb h₀
  D : KtsDicts (outer.filterMap (·.frame)) h₀
set_option maxHeartbeats 4000000 in
theorem lt_var {wv : Value} {tr : Tr} {ut : Tok} {bd a9 : Addr} {n9 : Nat} {k9 : Tok} {r9 : List Value}
   (B : Below A₀ base outer h₀) (F : Fr h₀ L h₁ m) (X : Frag.In (hd.heap_1 w.params) h₀) (Nw : News h₀ L h₁ N) (T : Top p loose mean mg mb h₀) (hk : cs.kind = .function)
   (XB : Frag.In (hd.heap_1 w.params) base) (TB : Top p loose mean mg mb base) (D : KtsDicts (outer.filterMap (·.frame)) h₀) (T0 : KtsTurn (outer.filterMap (·.frame)) g₀ h₀)
   (m9 : (a9, tupObj (.str (Str.ofString "var") k9 :: r9) n9) ∈ N) (hdd : dp + 30 < recursionLimit) (hu : un + 900 < cLine)
   (ret : ∀ h' tk' k h₀', Back A₀ base outer w p loose mean mg mb g₀ h₀' L m N h' → Q (.str (Str.ofString "fault") k) ⟨h', g₁, d₁, tk', o₁⟩) :
   wpAny (model PySem.Challenge.pw_nu0382_01 w) (ktrTop dp un gd cn cs L a ccd [] outer) (call (.ref 277) [wv, .ref bd, .str tr.str ut, .ref a9]) Q E ⟨h₁, g₁, d₁, t₁, o₁⟩ := by
  refine wpAny_call ?_
  walk_at "mine_enterS"
  k_steps
  refine stop_elim ?_
  with_unfolding_all refine' se_var ?k1 ?k2 ?k3 ?k4 ?k5 ?k6 ?m2 ?k8 ?k9 ?_
  walk_at "mine_calm"
  case m2 => k_mem
  intro h' tk' e t9 vs9 g Fg R9 U9
  k_steps
  exact ret _ _ _ _ ⟨by assumption, by k_asm, news_sub (by k_asm) (by walk_at "mine_sub"), by assumption, by assumption, by assumption, by assumption⟩
set_option maxHeartbeats 4000000 in
theorem lt_call {wv vt : Value} {e : Env9} {t : Ty} {tr : Tr} {ut : Tok} {bd : Addr} {o : Obj} {kvs : List (Str × Value)}
   (B : Below A₀ base outer h₀) (F : Fr h₀ L h₁ m) (X : Frag.In (hd.heap_1 w.params) h₀) (Nw : News h₀ L h₁ N) (T : Top p loose mean mg mb h₀) (hk : cs.kind = .function)
   (XB : Frag.In (hd.heap_1 w.params) base) (TB : Top p loose mean mg mb base) (D : KtsDicts (outer.filterMap (·.frame)) h₀) (T0 : KtsTurn (outer.filterMap (·.frame)) g₀ h₀)
   (Wi : WorldIn w.params N wv e.rows) (hbd : (bd, o) ∈ N) (hbs : (bd == sysModules) = false) (hbo : o.IsDictOf (strKind PySem.Challenge.pw_nu0382_01 w) kvs) (hbi : BdIn N kvs e.bs)
   (R : TyIn N vt t) (hc : t.cl = true) (hdep : t.dep ≤ 4) (hsz : t.size ≤ 12) (hro : ∀ r ∈ e.rows, RowOk r) (hrl : e.rows.length ≤ 100)
   (hdd : dp + 25 * t.size + 70 < recursionLimit) (hu : un + 400 * t.size + 1200 < cLine)
   (retB : (t == .X && e.bs.contains tr) = true → ∀ h' tk' D k1 k2 n h₀', Back A₀ base outer w p loose mean mg mb g₀ h₀' L m ((D, tupObj [.str (Str.ofString "bound") k1, .str (Str.ofString "X") k2] n) :: N) h' → Q (.ref D) ⟨h', g₁, d₁, tk', o₁⟩)
   (ret0 : (t == .X && e.bs.contains tr) = false → e.rows.filter (cand e tr t) = [] → ∀ h' tk' h₀', Back A₀ base outer w p loose mean mg mb g₀ h₀' L m N h' → Q .none ⟨h', g₁, d₁, tk', o₁⟩)
   (ret1 : (t == .X && e.bs.contains tr) = false → ∀ r, e.rows.filter (cand e tr t) = [r] → ∀ h' tk' D k1 k2 n fd o' f M h₀', Back A₀ base outer w p loose mean mg mb g₀ h₀' L m ((D, tupObj [.str (Str.ofString "impl") k1, .int r.num k2, .ref fd] n) :: (fd, o') :: M) h' → (∀ p ∈ N, p ∈ M) → (fd == sysModules) = false → o'.IsDictOf (strKind PySem.Challenge.pw_nu0382_01 w) (fnd f) →
      (match Mine.ut r.hd t with | none => f = none | some u => ∃ x, f = some x ∧ TyIn M x u) → Q (.ref D) ⟨h', g₁, d₁, tk', o₁⟩)
   (ret2 : (t == .X && e.bs.contains tr) = false → 2 ≤ (e.rows.filter (cand e tr t)).length → ∀ h' tk' k h₀', Back A₀ base outer w p loose mean mg mb g₀ h₀' L m N h' → Q (.str (Str.ofString "fault") k) ⟨h', g₁, d₁, tk', o₁⟩) :
   wpAny (model PySem.Challenge.pw_nu0382_01 w) (ktrTop dp un gd cn cs L a ccd [] outer) (call (.ref 277) [wv, .ref bd, .str tr.str ut, vt]) Q E ⟨h₁, g₁, d₁, t₁, o₁⟩ := by
  refine wpAny_call ?_
  walk_at "mine_enterS"
  k_steps
  refine stop_elim ?_
  with_unfolding_all refine' se_call (e := e) (t := t) ?k1 ?k2 ?k3 ?k4 ?k5 ?k6 (Wi.mono ?m1) ?m3 hbs hbo (hbi.mono ?m5) ?m4 (TyIn.mono ?m2 R) hc hdep hsz hro hrl ?k8 ?k9 ?_ ?_ ?_ ?_
  walk_at "mine_calm"
  case m1 => walk_at "mine_sub"
  case m2 => walk_at "mine_sub"
  case m5 => walk_at "mine_sub"
  case m3 => k_mem
  case m4 => k_mem
  · intro hb h' tk' D k1 k2 n F' N'
    k_steps
    exact retB hb _ _ _ _ _ _ _ ⟨by assumption, by k_asm, news_sub (by k_asm) (by walk_at "mine_sub"), by assumption, by assumption, by assumption, by assumption⟩
  · intro hb hf h' tk' F' N'
    k_steps
    exact ret0 hb hf _ _ _ ⟨by assumption, by k_asm, news_sub (by k_asm) (by walk_at "mine_sub"), by assumption, by assumption, by assumption, by assumption⟩
  · intro hb r hf h' tk' D k1 k2 n fd o' f M F' N' hM hs9 hd' hm
    k_steps
    exact ret1 hb r hf _ _ _ _ _ _ _ _ _ _ _ ⟨by assumption, by k_asm, news_sub (by k_asm) (by walk_at "mine_sub"), by assumption, by assumption, by assumption, by assumption⟩ (fun p hp => hM p (by walk_at "mine_up")) hs9 hd' hm
  · intro hb hf h' tk' e t9 vs9 g Fg R9 U9
    k_steps
    exact ret2 hb hf _ _ _ _ ⟨by assumption, by k_asm, news_sub (by k_asm) (by walk_at "mine_sub"), by assumption, by assumption, by assumption, by assumption⟩
end

-- part LF
theorem words_LF : True := by
  k_with "compareOp Eq ref ref" => ((k_here; (with_reducible show wpAny _ _ (compareOp CmpOp.Eq _ _) _ _ _); k_dflt (refine' ty_eq ?k1 ?k2 ?k3 ?k4 ?k5 ?k6 ?_; (case k1 => k_asm); (case k5 => exact fun _ h => h); (case k2 => assumption); (case k3 => exact TyIn.T (by k_mem)); (case k4 => k_extra "mine_sub"); (case k6 => k_extra "mine_units"); k_whole)))
  k_with "call builtin:len" => ((with_reducible show wpAny _ _ (call (Value.builtin "len") [Value.ref _]) _ _ _); (k_here; k_dflt (refine' len_tup ?k1 ?k2 ?k3 ?k4 ?_; (case k1 => k_asm); (case k2 => with_reducible k_mem); (case k3 => assumption); (case k4 => assumption))))
  k_with "subscriptTail Name Slice ref ref" => ((k_here; (with_reducible show wpAny _ _ (subscriptTail _ (PySem.Expr.Slice _ _ none _) (Value.ref _) (Value.ref _)) _ _ _); k_dflt (refine' sl_tail ?F ?N ?m ?z ?_ ?s ?t; (case F => k_asm); (case N => k_asm); (case m => with_reducible k_mem); (case z => assumption); (case s => with_unfolding_all rfl); (case t => intro _; with_unfolding_all rfl)); intro D' h' F' N' l1; (try dsimp only)))
  k_with "mine_not" => (exact bne_no)
  k_with "compareOp NotEq ref ref" => ((k_here; (with_reducible show wpAny _ _ (compareOp CmpOp.NotEq (Value.ref _) (Value.ref _)) _ _ _); k_dflt (refine' ne_unit ?k1 ?k2 ?k3 ?k4 ?k5 ?_; (case k1 => k_asm); (case k2 => with_reducible k_mem); (case k3 => with_reducible k_mem); (case k5 => first | assumption | exact rfl); (case k4 => k_extra "mine_units"); k_whole)))
  k_with "call ref" => ((with_reducible show wpAny _ _ (call (Value.ref 258) [_, _, _]) _ _ _); refine stop_intro ?_)
  k_with "eval ListComp" => (first | (k_here; (with_reducible show wpAny _ _ (eval (Expr.ListComp _ [⟨Expr.Tuple [Expr.Name _ _, Expr.Name _ _] _ _, Expr.Call _ _ _ _, [_], 0⟩] _ _) _) _ _ _); k_dflt (refine comp_zip (by k_asm) (by exact rfl) (by with_unfolding_all rfl) (by decide) (by exact rfl) (by decide) (by exact rfl) (by exact rfl) (by decide) ?_ (fun _ => rfl))) | fail "no")
  k_with "isTrue BoolOp" => (first | ((have m9 : Mark9 := by assumption); (with_reducible show wpAny _ _ (isTrue (Expr.BoolOp BoolOp.And _ _) _ _) _ _ _); clear m9; refine stop_intro ?_) | fail "no")
  k_with "subscriptTail Name Constant ref int" => (first | (k_here; (with_reducible show wpAny _ _ (subscriptTail _ _ (Value.ref _) (Value.int _ _)) _ _ _); k_dflt (refine' item_list ?k1 ?k2 ?k3 ?k4 ?k5 ?_ ?k7; (case k1 => k_asm); (case k2 => with_reducible k_mem); (case k3 => decide); (case k4 => decide); (case k5 => exact rfl); (case k7 => with_unfolding_all rfl); k_whole)) | fail "no")
  trivial
-- needs LT Spec7 CmpZ
section
variable {w : World} {p : Program} {loose : List Str} {mean : ExcName → Option Value} {mg mb : Str → Option Value}
   {dp un : Nat} {gd : Option (List Code)} {cn : Str} {cs : Scope} {a : Addr} {ccd : Value} {cl : List (Str × Addr)} {outer : List Env} {A₀ : Around} {base h₀ : Heap} {L : Addr} {m : Str → Option Value} {N : List (Addr × Obj)} {s : Shared} {Q E : Value → Shared → Prop}
theorem ne_unit {prog : Program} {A : Around} {M : List (Addr × Obj)} {l e : Addr} {vs : List Value} {n k : Nat} (Nw : News h₀ L s.heap M) (m1 : (l, tupObj vs n) ∈ M) (m2 : (e, tupObj [] k) ∈ M) (hu : A.units < cLine) {b : Bool} (hb : vs.isEmpty = b) (h : Q (.bool (!b)) s) :
    wpAny (model prog w) A (compareOp .NotEq (.ref l) (.ref e)) Q E s := by
  have t1 : s.heap.IsTuple l vs.toArray := ⟨_, (Nw _ m1).1, rfl, n, rfl⟩
  have t2 : s.heap.IsTuple e #[] := ⟨_, (Nw _ m2).1, rfl, k, rfl⟩
  subst hb
  induction vs using List.casesOn with
  | nil => exact SeqAt.RcNeAt.tuples (e := fun _ => true) t1 t2 hu (fun j h1 _ => absurd h1 (Nat.not_lt_zero _)) prog w E Q h
  | cons v vs => exact SeqAt.RcNeAt.tuples (e := fun _ => true) t1 t2 hu (fun j _ h2 => absurd h2 (Nat.not_lt_zero _)) prog w E Q h
theorem bne_no {α : Type} [BEq α] [ReflBEq α] {c : α} : ¬ (c != c) = true := by unfold bne; rw [BEq.rfl]; decide
theorem TysIn.len {N : List (Addr × Obj)} {xs ys : List Value} {ps : List (Ty × Ty)} (h : TysIn N xs ys ps) : xs.length = ps.length ∧ ys.length = ps.length := by
  induction h with
  | nil => exact ⟨rfl, rfl⟩
  | cons _ _ _ ih => exact ⟨congrArg Nat.succ ih.1, congrArg Nat.succ ih.2⟩
theorem len_tup {prog : Program} {A : Around} {news : List (Addr × Obj)} {t : Addr} {vs : List Value} {n c : Nat} {Q : Value → Shared → Prop} (N : News h₀ L s.heap news) (hm : (t, tupObj vs n) ∈ news) (hl : vs.length = c) (hc : (c : Int) < 2 ^ 63)
    (h : Q (.int c (s.toks + 1)) { s with toks := s.toks + 1 + 1 }) : wpAny (model prog w) A (call (.builtin "len") [.ref t]) Q E s :=
  PyProof.Rows.len_tuple (News.isTup N hm) (by rw [List.size_toArray, hl]; exact hc) (by rw [List.size_toArray, hl]; exact h)
theorem sl_tail {prog : Program} {A : Around} {news : List (Addr × Obj)} {value slice : Expr} {t : Addr} {x : Value} {xs : List Value} {n : Nat} {u : Tok} {Q : Value → Shared → Prop}
    (F : Fr h₀ L s.heap m) (N : News h₀ L s.heap news) (hm : (t, tupObj (x :: xs) n) ∈ news) (hz : (x :: xs).length ≤ sizeLine)
    (h : ∀ D h', Fr h₀ L h' m → News h₀ L h' ((D, tupObj xs 0) :: news) → (∀ p ∈ news, p.1 < D) → Q (.ref D) { s with heap := h' })
    (hs : subscripted slice false (.ref t) (.ref s.heap.objs.size) = operate [.ref s.heap.objs.size, .ref t] (getItem (.ref t) (.ref s.heap.objs.size)))
    (hg : ∀ r, letTemporaryGo value (.ref t) r = pure ()) :
    wpAny (model prog w) A (subscriptTail value slice (.ref t) (.ref s.heap.objs.size)) Q E { s with heap := s.heap.push { cls := .type "slice", data := .fields #[.int 1 u, .none, .none] } } :=
  slice_tuple_from (a := 1) F N (News.isTup N hm) (Nat.le_refl _) (by simp) (fun h' F' N' => h _ h' F' N' fun p hp => Nat.lt_succ_of_lt (Heap.lt_size (N p hp).1)) hs hg hz
structure Mark9 : Prop
theorem tst_cut {M : Model} {A : Around} {E : Value → Shared → Prop} {s : Shared} {tree : Sem Bool} {Q : Bool → Shared → Prop} (P : Heap → Nat → Prop) (h1 : ∀ Q' : Bool → Shared → Prop, (∀ h tk, P h tk → Q' false { s with heap := h, toks := tk }) → wpAny M A tree Q' E s)
    (h2 : ∀ h tk, P h tk → Q false { s with heap := h, toks := tk }) : wpAny M A tree Q E s := h1 Q h2
theorem fits_snoc (p t : Ty) : ∀ (l : List (Ty × Ty)) (k : Option Ty), fits (l ++ [(p, t)]) k = ((fits l k).1 && (fit p t (fits l k).2).1, (fit p t (fits l k).2).2)
  | [], k => by show ((fit p t k).1 && true, (fit p t k).2) = (true && (fit p t k).1, (fit p t k).2); rw [Bool.and_true, Bool.true_and]
  | (q, u) :: l, k => by
    show ((fit q u k).1 && (fits (l ++ [(p, t)]) (fit q u k).2).1, (fits (l ++ [(p, t)]) (fit q u k).2).2) = _
    rw [fits_snoc p t l, ← Bool.and_assoc]; rfl
inductive TyAt (N : List (Addr × Obj)) (ps : List (Ty × Ty)) (i : Nat) (x y : Value) : Prop
  | mk (p t : Ty) : ps[i]? = some (p, t) → TyIn N x p → TyIn N y t → TyAt N ps i x y
theorem TysIn.get {N : List (Addr × Obj)} {xs ys : List Value} {ps : List (Ty × Ty)} (h : TysIn N xs ys ps) : ∀ {i : Nat} {x y : Value}, xs[i]? = some x → ys[i]? = some y → TyAt N ps i x y := by
  induction h with
  | nil => exact fun h => nomatch h
  | cons a b _ ih => exact fun {i} {x y} h1 h2 => match i with
    | 0 => Option.some.inj h1 ▸ Option.some.inj h2 ▸ ⟨_, _, rfl, a, b⟩
    | i + 1 => match ih (i := i) (x := x) (y := y) h1 h2 with | ⟨p, t, e, r, q⟩ => ⟨p, t, e, r, q⟩
/-- the contract of _law_fit -/
noncomputable def FitC (w : World) (pt : Ty) : Prop :=
  ∀ {p : Program} {loose : List Str} {mean : ExcName → Option Value} {mg mb : Str → Option Value} {dp un : Nat} {gd : Option (List Code)} {cn : Str} {cs : Scope} {a : Addr} {ccd : Value} {cl : List (Str × Addr)} {outer : List Env} {A₀ : Around} {base h₀ : Heap} {L : Addr} {m : Str → Option Value} {N N₁ : List (Addr × Obj)} {g₁ : Array GenState} {d₁ : Drawn} {o₁ : OsState} {h₁ : Heap} {t₁ : Nat} {Q E : Value → Shared → Prop}
    {v1 v2 : Value} {t : Ty} {kn : Addr} {c : Nat} {kv : List Value} {k : Option Ty},
    Below A₀ base outer h₀ → Fr h₀ L h₁ m → Frag.In (hd.heap_1 w.params) h₀ → News h₀ L h₁ ((kn, listOf kv.toArray c) :: N) → Top p loose mean mg mb h₀ → cs.kind = .function →
    TyIn N₁ v1 pt → TyIn N₁ v2 t → (∀ p ∈ N₁, p ∈ N) → (∀ q ∈ N, q.1 ≠ kn) → KIn N₁ kv k → pt.okp = true → pt.dep ≤ 4 → t.dep ≤ 4 → dp + 4 * pt.size + 20 < recursionLimit → un + 100 * pt.size + 300 < cLine →
    (∀ h' tk' c' kv', Fr h₀ L h' m → News h₀ L h' ((kn, listOf (List.toArray kv') c') :: N) → KIn N₁ kv' (fit pt t k).2 → Q (.bool (fit pt t k).1) ⟨h', g₁, d₁, tk', o₁⟩) →
    wpAny (model PySem.Challenge.pw_nu0382_01 w) (ktrTop dp un gd cn cs L a ccd cl outer) (call (.ref 258) [v1, v2, .ref kn]) Q E ⟨h₁, g₁, d₁, t₁, o₁⟩
set_option maxHeartbeats 6000000 in
theorem lf_T {w : World} : FitC w .T := by
  unfold FitC
  intro p loose mean mg mb dp un gd cn cs a ccd cl outer A₀ base h₀ L m N N₁ g₁ d₁ o₁ h₁ t₁ Q E v1 v2 t kn c kv k B F X Nw T hk R1 R2 sbN off hK hok hd1 hd2 hdd hu ret
  obtain ⟨a1, n1, k1, r1, rfl, m1⟩ := R1.first
  obtain ⟨a2, n2, k2, r2, rfl, m2⟩ := R2.first
  replace m1 := sbN _ m1
  replace m2 := sbN _ m2
  refine wpAny_call ?_
  walk_at "mine_enterC"
  rcases hK with ⟨rfl, rfl⟩ | ⟨x, u, rfl, rfl, hx, hud⟩
  · k_steps
    rw [show decide (t = t) = (fit .T t none).1 from decide_eq_true rfl]
    exact ret _ _ _ [_] (by k_asm) (news_sub (by k_asm) (by walk_at "mine_sub")) (.inr ⟨_, t, rfl, rfl, R2, hd2⟩)
  · obtain ⟨a3, n3, k3, r3, rfl, m3⟩ := hx.first
    k_steps
    exact ret _ _ _ [_] (by k_asm) (news_sub (by k_asm) (by walk_at "mine_sub")) (.inr ⟨_, u, rfl, rfl, hx, hud⟩)
end

-- part LFN
-- needs LF
set_option maxHeartbeats 6000000 in
theorem lf_ne {w : World} {pt : Ty} (hT : pt ≠ .T) {p : Program} {loose : List Str} {mean : ExcName → Option Value} {mg mb : Str → Option Value} {dp un : Nat} {gd : Option (List Code)} {cn : Str} {cs : Scope} {a : Addr} {ccd : Value} {cl : List (Str × Addr)} {outer : List Env} {A₀ : Around} {base h₀ : Heap} {L : Addr} {m : Str → Option Value} {N N₁ : List (Addr × Obj)} {g₁ : Array GenState} {d₁ : Drawn} {o₁ : OsState} {h₁ : Heap} {t₁ : Nat} {Q E : Value → Shared → Prop}
    {v1 v2 : Value} {t : Ty} {kn : Addr} {c : Nat} {kv : List Value} (hkd : pt.kind ≠ t.kind)
    (B : Below A₀ base outer h₀) (F : Fr h₀ L h₁ m) (X : Frag.In (hd.heap_1 w.params) h₀) (Nw : News h₀ L h₁ ((kn, listOf kv.toArray c) :: N)) (T : Top p loose mean mg mb h₀) (hk : cs.kind = .function)
    (R1 : TyIn N₁ v1 pt) (R2 : TyIn N₁ v2 t) (sbN : ∀ p ∈ N₁, p ∈ N) (hd1 : pt.dep ≤ 4) (hd2 : t.dep ≤ 4) (hdd : dp + 20 < recursionLimit) (hu : un + 300 < cLine)
    (ret : ∀ h' tk', Fr h₀ L h' m → News h₀ L h' ((kn, listOf (List.toArray kv) c) :: N) → Q (.bool false) ⟨h', g₁, d₁, tk', o₁⟩) :
    wpAny (model PySem.Challenge.pw_nu0382_01 w) (ktrTop dp un gd cn cs L a ccd cl outer) (call (.ref 258) [v1, v2, .ref kn]) Q E ⟨h₁, g₁, d₁, t₁, o₁⟩ := by
  obtain ⟨a1, n1, k1, r1, rfl, m1⟩ := R1.first
  obtain ⟨a2, n2, k2, r2, rfl, m2⟩ := R2.first
  replace m1 := sbN _ m1
  replace m2 := sbN _ m2
  refine wpAny_call ?_
  walk_at "mine_enterC"
  k_steps
  exact ret _ _ (by k_asm) (news_sub (by k_asm) (by walk_at "mine_sub"))

-- part LFE
-- needs LF
theorem cut_q {M : Model} {A : Around} {tree : Sem Flow} {E : Value → Shared → Prop} {g₁ : Array GenState} {d₁ : Drawn} {o₁ : OsState} {h₁ : Heap} {t₁ : Nat} {Q : Flow → Shared → Prop} (P : (Flow → Shared → Prop) → Prop) (h1 : P Q) (h : ∀ Q', P Q' → wpAny M A tree Q' E ⟨h₁, g₁, d₁, t₁, o₁⟩) : wpAny M A tree Q E ⟨h₁, g₁, d₁, t₁, o₁⟩ := h Q h1
theorem zip_named {h₀ h : Heap} {L n t1 t2 : Addr} {xs ys : List Value} (_ : ZipK h₀ L n t1 t2 xs ys h) {G : Prop} (k : ∀ T1 T2, T1 = t1 → T2 = t2 → G) : G := k _ _ rfl rfl
theorem nin_wr {l : List Addr} {a : Addr × Obj} {r nx : List (Addr × Obj)} {a' : Addr × Obj} (e : a.1 = a'.1) (hw : ∀ p ∈ nx, p.1 ∉ l) (sb : ∀ p ∈ a' :: r, p ∈ nx) : ∀ p ∈ a :: r, p.1 ∉ l :=
  fa_cons (e ▸ hw _ (sb _ mm0)) fun p hp => hw _ (sb _ (List.mem_cons_of_mem _ hp))
inductive LfJ (N₁ M : List (Addr × Obj)) (kn : Addr) (P : Option Ty → Prop) (nx : List (Addr × Obj)) : Prop
  | mk (c : Nat) (kv : List Value) (k : Option Ty) : (∀ p ∈ (kn, listOf (List.toArray kv) c) :: M, p ∈ nx) → KIn N₁ kv k → P k → LfJ N₁ M kn P nx
structure LfQ (N₁ M : List (Addr × Obj)) (g : Heap) (L kn : Addr) (m : Str → Option Value) (g₁ : Array GenState) (d₁ : Drawn) (o₁ : OsState) (z : Bool × Option Ty) (Q : Flow → Shared → Prop) : Prop where
  y : ∀ h' tk' c'' kv'', z.1 = true → KIn N₁ kv'' z.2 → Fr g L h' m → News g L h' ((kn, listOf (List.toArray kv'') c'') :: M) → Q .next ⟨h', g₁, d₁, tk', o₁⟩
  n : ∀ h' tk' c'' kv'', z.1 = false → KIn N₁ kv'' z.2 → Fr g L h' m → News g L h' ((kn, listOf (List.toArray kv'') c'') :: M) → Q (.ret (.bool false)) ⟨h', g₁, d₁, tk', o₁⟩
set_option maxHeartbeats 6000000 in
theorem lf_eq {w : World} {pt : Ty} (hT : pt ≠ .T) (hA : ∀ p', p'.size < pt.size → FitC w p') {p : Program} {loose : List Str} {mean : ExcName → Option Value} {mg mb : Str → Option Value} {dp un : Nat} {gd : Option (List Code)} {cn : Str} {cs : Scope} {a : Addr} {ccd : Value} {cl : List (Str × Addr)} {outer : List Env} {A₀ : Around} {base h₀ : Heap} {L : Addr} {m : Str → Option Value} {N N₁ : List (Addr × Obj)} {g₁ : Array GenState} {d₁ : Drawn} {o₁ : OsState} {h₁ : Heap} {t₁ : Nat} {Q E : Value → Shared → Prop}
    {v1 v2 : Value} {t : Ty} {kn : Addr} {c : Nat} {kv : List Value} {k : Option Ty} (hkd : pt.kind = t.kind)
    (B : Below A₀ base outer h₀) (F : Fr h₀ L h₁ m) (X : Frag.In (hd.heap_1 w.params) h₀) (Nw : News h₀ L h₁ ((kn, listOf kv.toArray c) :: N)) (T : Top p loose mean mg mb h₀) (hk : cs.kind = .function)
    (R1 : TyIn N₁ v1 pt) (R2 : TyIn N₁ v2 t) (sbN : ∀ p ∈ N₁, p ∈ N) (off : ∀ q ∈ N, q.1 ≠ kn) (hK : KIn N₁ kv k) (hok : pt.okp = true) (hd1 : pt.dep ≤ 4) (hd2 : t.dep ≤ 4) (hdd : dp + 4 * pt.size + 20 < recursionLimit) (hu : un + 100 * pt.size + 300 < cLine)
    (ret : ∀ h' tk' c' kv', Fr h₀ L h' m → News h₀ L h' ((kn, listOf (List.toArray kv') c') :: N) → KIn N₁ kv' (fit pt t k).2 → Q (.bool (fit pt t k).1) ⟨h', g₁, d₁, tk', o₁⟩) :
    wpAny (model PySem.Challenge.pw_nu0382_01 w) (ktrTop dp un gd cn cs L a ccd cl outer) (call (.ref 258) [v1, v2, .ref kn]) Q E ⟨h₁, g₁, d₁, t₁, o₁⟩ := by
  obtain ⟨a1, n1, k1, xs, rfl, m1, i1⟩ := R1.view
  obtain ⟨a2, n2, k2, ys, rfl, m2, i2⟩ := R2.view
  obtain ⟨hi, hl3⟩ := its_in i1 i2 hok hT hkd
  have hlen := hi.len
  rw [← hkd] at m2
  replace m1 := sbN _ m1
  replace m2 := sbN _ m2
  generalize hc9 : xs.length + 1 = c9
  have c1 : (Value.str pt.kind k1 :: xs).length = c9 := hc9
  have c2 : (Value.str pt.kind k2 :: ys).length = c9 := by rw [← hc9, hlen]; rfl
  have c3 : c9 ≤ 4 := by omega
  have c4 : (c9 : Int) < 2 ^ 63 := by omega
  have c5 : (Value.str pt.kind k1 :: xs).length ≤ sizeLine := c1 ▸ Nat.le_trans c3 (by decide)
  have c6 : (Value.str pt.kind k2 :: ys).length ≤ sizeLine := c2 ▸ Nat.le_trans c3 (by decide)
  generalize pt.kind = kd at m1 m2 c1 c2 c5 c6
  have hkk : ¬ (kd != kd) = true := by simp
  refine wpAny_call ?_
  walk_at "mine_enterC"
  k_steps
  refine stop_elim ?_
  rename ZipK _ _ _ _ _ _ _ _ => Z9
  refine zip_named Z9 fun T1 T2 e1 e2 => ?_
  subst e1 e2
  rename (∀ p ∈ (_, tupObj ys 0) :: _, p.1 < _) => lz9
  rename Obj => oc9
  refine it_zip (fun i _ nx => LfJ N₁ ((L' + 1, oc9) :: N) kn (Past (its pt t) i k) nx) rfl (by k_asm) (by k_asm) Z9 lz9 (by k_mem) (by k_mem) hlen ⟨c, kv, k, by walk_at "mine_sub", hK, .zero⟩ rfl rfl rfl ?_ ?_
  · rintro i x z m₁ nx h tk own hx hy ⟨c', kv', k', sb, hK', hP⟩ hw ho F₁ M₁
    dsimp only at F₁ M₁ ⊢
    obtain ⟨itm, hI, hmem, hgo, hno⟩ := hP.get hi hx hy
    generalize hT1 : tupObj xs 0 = o1 at M₁ ⊢
    generalize hT2 : tupObj ys 0 = o2 at M₁ ⊢
    have M₂ := news_sub (M' := (kn, listOf (List.toArray kv') c') :: (L' + 1, oc9) :: (T1, o1) :: (T2, o2) :: (N ++ own)) M₁
      (fa_cons (mmt2 (List.mem_append_left _ (sb _ mm0))) (fa_cons (mmt2 (List.mem_append_left _ (sb _ mm1))) (fa_cons mm0 (fa_cons mm1 (fa_app (sb_tail2 (sb_left fun p hp => sb p (mmt2 hp))) (sb_tail2 (sb_right sb_refl)))))))
    clear M₁
    have hgd := its_good hok hd1 hd2 _ hmem
    have hkI : ∀ q ∈ (L' + 1, oc9) :: (T1, o1) :: (T2, o2) :: (N ++ own), q.1 ≠ kn := by
      have hkL : kn < L' := by walk_at "mine_lt"
      rename (∀ p ∈ (_ : List (Addr × Obj)), p.1 < T1) => lt1
      rename (∀ p ∈ (_ : List (Addr × Obj)), p.1 < T2) => lt2
      have hkn : kn < _ := lz9 (kn, _) (by k_mem)
      have hk1 : kn < _ := lt1 (kn, _) (by k_mem)
      have hk2 : kn < _ := lt2 (kn, _) (by k_mem)
      exact fa_cons (Nat.ne_of_gt (Nat.lt_succ_of_lt hkL)) (fa_cons (Nat.ne_of_gt hk1) (fa_cons (Nat.ne_of_gt hk2) (allne_app off fun q hq => Nat.ne_of_gt (Nat.lt_of_lt_of_le hkn (ho q hq)))))
    refine cut_q (P := LfQ N₁ ((L' + 1, oc9) :: (T1, o1) :: (T2, o2) :: (N ++ own)) g' L' kn (fun y => if y = Str.ofString "b" then some z else if y = Str.ofString "a" then some x else m₁ y) g₁ d₁ o₁ (itm.fit k')) ⟨?_, ?_⟩ ?_
    · intro h' tk' c'' kv'' e1 e2 F₂ N₂
      exact FStep.intro ((kn, listOf (List.toArray kv'') c'') :: (L' + 1, oc9) :: N) (.inl rfl) rfl F₂ N₂ (by walk_at "mine_sub") (nin_wr (by rfl) hw sb) ⟨_, _, _, sb_refl, e2, hgo e1⟩
    · intro h' tk' c'' kv'' e1 e2 F₂ N₂
      have e3 := (its_fit hok hT hkd k).symm.trans (hno e1)
      rw [e3] at ret
      dsimp only [FStep]
      k_steps
      exact ret _ _ _ _ (by k_asm) (news_sub (by k_asm) (by walk_at "mine_sub")) e2
    intro Q9 ⟨q1, q2⟩
    clear hP hgo hno hw ho hmem sb ret hT1 hT2
    clear hi hc9 c3 c4 m1 m2 c1 c2 c5 c6 hkk hx hy hl3 hlen i1 i2 hK R1 R2 Z9 lz9
    cases hI with
    | ty r1 r2 =>
      obtain ⟨b1, n1, k1, j1, rfl, i1⟩ := r1.first
      obtain ⟨b2, n2, k2, j2, rfl, i2⟩ := r2.first
      replace i1 := sbN _ i1
      replace i2 := sbN _ i2
      obtain ⟨g1, g2, g3, g4⟩ := hgd
      k_steps
      refine stop_elim ?_
      with_unfolding_all refine' hA _ g2 ?k1 ?k2 ?k3 (Pull.news ?k4 ?kp) ?k5 ?k6 r1 r2 ?sb ?off hK' g1 g3 g4 ?k8 ?k9 ?_
      walk_at "mine_calm"
      case kp => repeat (first | exact Pull.head | apply Pull.tail)
      case sb => walk_at "mine_sub"
      case off => k_all
      intro h' tk' c'' kv'' F' N' hK2
      cases hb : (fit _ _ k').1
      · k_steps
        exact q2 _ _ _ _ hb hK2 (by k_asm) (news_sub (by k_asm) (by walk_at "mine_sub"))
      · k_steps
        exact q1 _ _ _ _ hb hK2 (by k_asm) (news_sub (by k_asm) (by walk_at "mine_sub"))
    | @seq a9 b9 vs9 ws9 _ _ ps9 i1 i2 qs =>
      replace i1 := sbN _ i1
      replace i2 := sbN _ i2
      obtain ⟨z1, z2⟩ := qs.len
      obtain ⟨z3, z4⟩ := hgd
      generalize hc8 : List.length ps9 = c8 at z1 z2 z3
      have z5 : (c8 : Int) < 2 ^ 63 := by omega
      have z6 : vs9.length ≤ sizeLine := by have := sizeLine_ge; omega
      have mk : Mark9 := ⟨⟩
      k_steps
      refine stop_elim ?_
      clear mk
      refine' tst_cut (P := fun h _ => Fr g' L' h (fun y => if y = Str.ofString "b" then some (.ref b9) else if y = Str.ofString "a" then some (.ref a9) else m₁ y) ∧ News g' L' h ((kn, listOf (List.toArray kv') c') :: (L' + 1, oc9) :: (T1, o1) :: (T2, o2) :: (N ++ own))) ?_ ?_
      · intro Q8 q8
        cases qs with
        | nil =>
          k_steps
          exact q8 _ _ ⟨by k_asm, news_sub (by k_asm) (by walk_at "mine_sub")⟩
        | cons r1 r2 qs =>
          obtain ⟨b1, n1, k1, j1, rfl, j1⟩ := r1.first
          replace j1 := sbN _ j1
          k_steps
          exact q8 _ _ ⟨by k_asm, news_sub (by k_asm) (by walk_at "mine_sub")⟩
      intro h tk ⟨F₁, N₂⟩
      k_steps
      rename ZipK _ _ _ _ _ _ _ _ => Z9
      rename (∀ p ∈ (_ : List (Addr × Obj)), p.1 < _) => lz8
      refine ⟨_, _, _, vs9, ws9, _, _, _, fun i zs nx => LfJ N₁ ((L' + 1, oc9) :: (T1, o1) :: (T2, o2) :: (N ++ own)) kn (fun k3 => fits (ps9.take i) k' = (zs.isEmpty, k3)) nx,
        rfl, by k_asm, by k_asm, Z9, lz8, by k_mem, by k_mem, z1.trans z2.symm, z6, ⟨c', kv', k', by walk_at "mine_sub", hK', rfl⟩, ?_, ?_⟩
      · intro C oC D i x y zs nx own' h tk mc E' hx hy ⟨c3, kv3, k3, sb, hK3, hf⟩ hC hxa hyb hoff hown F₃ N₃
        obtain ⟨p9, t9, hp9, r1, r2⟩ := qs.get hx hy
        obtain ⟨g1, g2, g3, g4⟩ := z4 _ (List.mem_of_getElem? hp9)
        have hkn : kn < _ := lz8 (kn, _) (by k_mem)
        have hkO : ∀ q ∈ own', q.1 ≠ kn := fun q hq => (hown q hq).elim (fun e => Nat.ne_of_gt (Nat.lt_of_lt_of_le hkn e)) fun e => e.elim (fun e => e ▸ off _ i1) fun e => e ▸ off _ i2
        have hkn1 := hoff _ (sb _ List.mem_cons_self)
        have M₃ := news_sub (M' := (kn, listOf (List.toArray kv3) c3) :: (C, oC) :: (D, LCg.lst zs) :: (L' + 1, oc9) :: (T1, o1) :: (T2, o2) :: ((N ++ own) ++ own')) N₃
          (fa_cons (mmt2 (List.mem_append_right _ (sb _ mm0))) (fa_cons mm0 (fa_cons mm1 (fa_app (k := (L' + 1, oc9) :: (T1, o1) :: (T2, o2) :: (N ++ own)) (sb_tail2 (sb_right fun p hp => sb p (List.mem_cons_of_mem _ hp))) (sb_tail2 (sb_left sb_refl))))))
        have hkA : ∀ q ∈ (C, oC) :: (D, LCg.lst zs) :: (L' + 1, oc9) :: (T1, o1) :: (T2, o2) :: ((N ++ own) ++ own'), q.1 ≠ kn := fa_cons (Ne.symm hkn1.2.1) (fa_cons (Ne.symm hkn1.2.2) (allne_app (l := (L' + 1, oc9) :: (T1, o1) :: (T2, o2) :: (N ++ own)) hkI hkO))
        have hoA := fun p hp => hoff p (sb p hp)
        clear N₃ sb hown hoff hkn1 hkO q1 q2
        have hfi : fits (ps9.take (i + 1)) k' = (zs.isEmpty && (fit p9 t9 k3).1, (fit p9 t9 k3).2) := by
          rw [List.take_add_one, hp9]
          show fits (_ ++ [(p9, t9)]) k' = _
          rw [fits_snoc, hf]
        k_steps
        refine stop_elim ?_
        with_unfolding_all refine' hA _ g2 ?k1 ?k2 ?k3 (Pull.news ?k4 ?kp) ?k5 ?k6 r1 r2 ?sb ?off hK3 g1 g3 g4 ?k8 ?k9 ?_
        walk_at "mine_calm"
        case kp => exact Pull.head
        case sb => walk_at "mine_sub"
        case off => exact hkA
        intro h' tk' c4 kv4 F' N' hK4
        cases hb : (fit p9 t9 k3).1
        · rw [hb, Bool.and_false] at hfi
          k_steps
          exact ⟨_, _, (kn, listOf (List.toArray kv4) c4) :: (L' + 1, oc9) :: (T1, o1) :: (T2, o2) :: (N ++ own), rfl, by k_asm, news_sub (by k_asm) (by walk_at "mine_sub"), fa_cons (by exact hoA (kn, listOf (List.toArray kv3) c3) mm0) (fa_tail hoA), c4, kv4, _, sb_refl, hK4, hfi.trans (by rw [isEmpty_app])⟩
        · rw [hb, Bool.and_true] at hfi
          k_steps
          exact ⟨_, _, (kn, listOf (List.toArray kv4) c4) :: (L' + 1, oc9) :: (T1, o1) :: (T2, o2) :: (N ++ own), rfl, by k_asm, news_sub (by k_asm) (by walk_at "mine_sub"), fa_cons (by exact hoA (kn, listOf (List.toArray kv3) c3) mm0) (fa_tail hoA), c4, kv4, _, sb_refl, hK4, hfi⟩
      · intro D h tk zs nx F₃ N₃ hoff ⟨c3, kv3, k3, sb, hK3, hf⟩
        rw [List.take_of_length_le (by omega)] at hf
        have hf : (Itm.seq ps9).fit k' = _ := hf
        rw [hf] at q1 q2
        rcases zs with _ | ⟨z0, zs⟩
        · k_steps
          exact q1 _ _ _ _ rfl hK3 (by k_asm) (news_sub (by k_asm) fun p hp => by have := sb p hp; walk_at "mine_up")
        · k_steps
          exact q2 _ _ _ _ rfl hK3 (by k_asm) (news_sub (by k_asm) fun p hp => by have := sb p hp; walk_at "mine_up")
    | str =>
      k_steps
      exact q1 _ _ _ _ rfl hK' (by k_asm) (news_sub (by k_asm) (by walk_at "mine_sub"))
    | none =>
      k_steps
      exact q1 _ _ _ _ rfl hK' (by k_asm) (by k_asm)
    | bool =>
      k_steps
      exact q1 _ _ _ _ rfl hK' (by k_asm) (news_sub (by k_asm) (by walk_at "mine_sub"))
    | diff hd =>
      k_steps
      exact q2 _ _ _ _ rfl hK' (by k_asm) (news_sub (by k_asm) (by walk_at "mine_sub"))
  · rintro m₁ nx h tk ⟨c', kv', k', sb, hK', hP⟩ F₁ M₁
    have e3 := (its_fit hok hT hkd k).symm.trans (hP.all hi rfl)
    rw [e3] at ret
    dsimp only
    k_steps
    exact ret _ _ _ _ (by k_asm) (news_sub (by k_asm) (sb_tail2 (fa_cons (sb _ mm0) fun p hp => sb p (mmt2 hp)))) hK'

-- part LFA
-- needs LFE LFN
theorem fit_ne {p t : Ty} (hT : p ≠ .T) (hk : p.kind ≠ t.kind) (k : Option Ty) : fit p t k = (false, k) := by
  induction p using Ty.casesOn <;> first | exact absurd rfl hT | (induction t using Ty.casesOn <;> first | rfl | exact absurd rfl hk)
theorem lf_all {w : World} (n : Nat) : ∀ pt : Ty, pt.size ≤ n → FitC w pt := by
  induction n with
  | zero => intro t h; exact absurd t.size_pos (by omega)
  | succ n ih =>
    intro pt hn
    unfold FitC
    intro p loose mean mg mb dp un gd cn cs a ccd cl outer A₀ base h₀ L m N N₁ g₁ d₁ o₁ h₁ t₁ Q E v1 v2 t kn c kv k B F X Nw T hk R1 R2 sbN off hK hok hd1 hd2 hdd hu ret
    have hA : ∀ p', p'.size < pt.size → FitC w p' := fun p' h => @ih p' (by omega)
    by_cases hT : pt = .T
    · subst hT; exact lf_T B F X Nw T hk R1 R2 sbN off hK hok hd1 hd2 hdd hu ret
    by_cases hkd : pt.kind = t.kind
    · exact lf_eq hT hA hkd B F X Nw T hk R1 R2 sbN off hK hok hd1 hd2 hdd hu ret
    · refine lf_ne hT hkd B F X Nw T hk R1 R2 sbN hd1 hd2 (by omega) (by omega) fun h' tk' F' N' => ?_
      rw [fit_ne hT hkd k] at ret
      exact ret _ _ _ _ F' N' hK

-- part HI
theorem words_HI : True := by
  k_with "exec For Name Name cons nil" => (k_here; k_dflt (refine For_turns (by k_asm) ?_))
  k_with "call ref" => ((with_reducible show wpAny _ _ (call (Value.ref 263) [_, _, _, _]) _ _ _); refine stop_intro ?_)
  k_with "call ref" => ((with_reducible show wpAny _ _ (call (Value.ref 270) [_, _, _, _]) _ _ _); refine stop_intro ?_)
  k_with "eval ListComp" => (first | (k_here; (with_reducible show wpAny _ _ (eval (Expr.ListComp _ [⟨Expr.Name _ _, Expr.Name _ _, [_], 0⟩] _ _) _) _ _ _); k_dflt (refine comp_if (by k_asm) (by exact rfl) (by with_unfolding_all rfl) (by decide) (by exact rfl) (by decide) (by exact rfl) (by decide) ?_ (fun _ => rfl))) | fail "no")
  k_with "eval ListComp" => (first | (k_here; (with_reducible show wpAny _ _ (eval (Expr.ListComp _ [_, _] _ _) _) _ _ _); k_dflt (refine comp_two (by k_asm) (by exact rfl) (by with_unfolding_all rfl) (by decide) (by exact rfl) (by decide) (by exact rfl) (by exact rfl) (by exact rfl) (by decide) (by decide) (by decide) ?_ (fun _ => rfl))) | fail "no")
  trivial
-- needs LFA CT CI
inductive HitIn (w : World) (N : List (Addr × Obj)) (t : Ty) : Value → Rw → Prop
  | mk {D fd : Addr} {n : Nat} {kn : Tok} {o : Obj} {f : Option Value} {r : Rw} : (D, tupObj [.int r.num kn, .ref fd] n) ∈ N → (fd, o) ∈ N → (fd == sysModules) = false → o.IsDictOf (strKind PySem.Challenge.pw_nu0382_01 w) (fnd f) →
    (match ut r.hd t with | none => f = none | some u => ∃ x, f = some x ∧ TyIn N x u) → HitIn w N t (.ref D) r
theorem HitIn.mono {w : World} {N N' : List (Addr × Obj)} (hs : ∀ p ∈ N, p ∈ N') {t : Ty} {v : Value} {r : Rw} (h : HitIn w N t v r) : HitIn w N' t v r := by
  obtain ⟨h1, h2, h5, h3, h4⟩ := h
  refine .mk (hs _ h1) (hs _ h2) h5 h3 ?_
  revert h4
  cases ut r.hd t with
  | none => exact id
  | some u => exact fun ⟨x, e, h⟩ => ⟨x, e, h.mono hs⟩
inductive HitsIn (w : World) (N : List (Addr × Obj)) (t : Ty) : List Value → List Rw → Prop
  | nil : HitsIn w N t [] []
  | cons {v : Value} {r : Rw} {vs : List Value} {rs : List Rw} : HitIn w N t v r → HitsIn w N t vs rs → HitsIn w N t (v :: vs) (r :: rs)
theorem HitsIn.mono {w : World} {N N' : List (Addr × Obj)} (hs : ∀ p ∈ N, p ∈ N') {t : Ty} {vs : List Value} {rs : List Rw} (h : HitsIn w N t vs rs) : HitsIn w N' t vs rs := by
  induction h with
  | nil => exact .nil
  | cons a _ ih => exact .cons (a.mono hs) ih
theorem HitsIn.snoc {w : World} {N : List (Addr × Obj)} {t : Ty} {vs : List Value} {rs : List Rw} {v : Value} {r : Rw} (h : HitsIn w N t vs rs) (g : HitIn w N t v r) : HitsIn w N t (vs ++ [v]) (rs ++ [r]) := by
  induction h with
  | nil => exact .cons g .nil
  | cons a _ ih => exact .cons a ih
theorem HitsIn.len {w : World} {N : List (Addr × Obj)} {t : Ty} {vs : List Value} {rs : List Rw} (h : HitsIn w N t vs rs) : vs.length = rs.length := by
  induction h with
  | nil => rfl
  | cons _ _ ih => simp [ih]
/-- the rows and the bounds as the law's own search is handed them -/
structure RbIn (w : World) (N : List (Addr × Obj)) (rl bd : Addr) (e : Env9) : Prop where
  rows : ∃ vs c, (rl, listOf (List.toArray vs) c) ∈ N ∧ RowsIn w.params N vs e.rows
  bd : ∃ o kvs, (bd, o) ∈ N ∧ (bd == sysModules) = false ∧ o.IsDictOf (strKind PySem.Challenge.pw_nu0382_01 w) kvs ∧ BdIn N kvs e.bs
theorem RbIn.mono {w : World} {N N' : List (Addr × Obj)} (hs : ∀ p ∈ N, p ∈ N') {rl bd : Addr} {e : Env9} (h : RbIn w N rl bd e) : RbIn w N' rl bd e :=
  let ⟨⟨vs, c, h1, h2⟩, ⟨o, kvs, h3, h4, h5, h6⟩⟩ := h
  ⟨⟨vs, c, hs _ h1, h2.mono hs⟩, ⟨o, kvs, hs _ h3, h4, h5, h6.mono hs⟩⟩
theorem all_snoc {α : Type} {l : List α} {i : Nat} {a : α} {p : α → Bool} (h : l[i]? = some a) : (l.take (i + 1)).all p = ((l.take i).all p && p a) := by
  rw [List.take_add_one, h]
  simp
theorem hi_ask {α : Type} {l : List α} {i : Nat} {a : α} {p : α → Bool} {ys : List Value} {v : Value} (h : l[i]? = some a) (g : ys.isEmpty = (l.take i).all p) : (if (!p a) = true then ys ++ [v] else ys).isEmpty = (l.take (i + 1)).all p := by
  rw [all_snoc h, ← g]
  cases p a
  · rw [if_pos (by rfl), isEmpty_app, Bool.and_false]
  · rw [if_neg (by decide), Bool.and_true]
theorem dict_named {d : Addr} {o : Obj} {P : Obj → Prop} (_ : (d == sysModules) = false) (_ : P o) {G : Prop} (k : ∀ D O, D = d → O = o → G) : G := k _ _ rfl rfl
theorem news_erase {h₀ h : Heap} {L : Addr} {l : List (Addr × Obj)} (k : Nat) (N : News h₀ L h l) : News h₀ L h (l.eraseIdx k) := fun p hp => N p (List.mem_of_mem_eraseIdx hp)
/-- the contract of _law_holds -/
noncomputable def HoldC (w : World) (e : Env9) (t : Ty) : Prop :=
  ∀ {tr : Tr} {p : Program} {loose : List Str} {mean : ExcName → Option Value} {mg mb : Str → Option Value} {dp un : Nat} {gd : Option (List Code)} {cn : Str} {cs : Scope} {a : Addr} {ccd : Value} {cl : List (Str × Addr)} {outer : List Env} {A₀ : Around} {base h₀ : Heap} {L : Addr} {m : Str → Option Value} {N : List (Addr × Obj)} {g₁ : Array GenState} {d₁ : Drawn} {o₁ : OsState} {h₁ : Heap} {t₁ : Nat} {Q E : Value → Shared → Prop}
    {vt : Value} {ut : Tok} {rl bd : Addr},
    Below A₀ base outer h₀ → Fr h₀ L h₁ m → Frag.In (hd.heap_1 w.params) h₀ → News h₀ L h₁ N → Top p loose mean mg mb h₀ → cs.kind = .function →
    RbIn w N rl bd e → TyIn N vt t → t.cl = true → t.dep ≤ 4 → t.size ≤ 12 → dp + 20 * t.size + 60 < recursionLimit → un + 300 * t.size + 1200 < cLine →
    (∀ h' tk', Fr h₀ L h' m → News h₀ L h' N → Q (.bool (ok e tr t)) ⟨h', g₁, d₁, tk', o₁⟩) →
    wpAny (model PySem.Challenge.pw_nu0382_01 w) (ktrTop dp un gd cn cs L a ccd cl outer) (call (.ref 270) [.ref rl, .ref bd, .str tr.str ut, vt]) Q E ⟨h₁, g₁, d₁, t₁, o₁⟩
theorem heads_ok : ∀ p ∈ heads, p.okp = true ∧ p.dep ≤ 4 ∧ p.size ≤ 3 := by decide
theorem cand_nm {e : Env9} {t : Ty} {r : Rw} {tr : Tr} (h : m1 r.hd t ≠ .yes) : cand e tr t r = false := by
  unfold cand
  rw [beq_eq_false_iff_ne.mpr h]
  simp
inductive hiJ (w : World) (e : Env9) (tr : Tr) (t : Ty) (N : List (Addr × Obj)) (vt : Value) (ut : Tok) (rl bd l cK cB cR : Addr) (i : Nat) (m : Str → Option Value) (nx : List (Addr × Obj)) : Prop
  | mk : m (Str.ofString "found") = some (.ref l) → m (Str.ofString "trait") = some (.str tr.str ut) → m (Str.ofString "told") = some vt → ∀ (vs : List Value), ∀ (c : Nat), ∀ (tl : List (Addr × Obj)), ∀ (oK : Obj), ∀ (oB : Obj), ∀ (oR : Obj), nx = (l, listOf (List.toArray vs) c) :: (cK, oK) :: (cB, oB) :: (cR, oR) :: (tl ++ N) → (∃ x, oK.data = .cell x) → oB.data = .cell (some (.ref bd)) → oR.data = .cell (some (.ref rl)) → HitsIn w (tl ++ N) t vs ((e.rows.take i).filter (cand e tr t)) → (∀ p ∈ tl, l < p.1) → hiJ w e tr t N vt ut rl bd l cK cB cR i m nx
section
variable {w : World} {p : Program} {loose : List Str} {mean : ExcName → Option Value} {mg mb : Str → Option Value}
   {dp un : Nat} {gd : Option (List Code)} {cn : Str} {cs : Scope} {a : Addr} {ccd : Value} {cl : List (Str × Addr)} {outer : List Env} {A₀ : Around} {base h₀ : Heap} {L : Addr} {m : Str → Option Value} {N : List (Addr × Obj)} {g₁ : Array GenState} {d₁ : Drawn} {o₁ : OsState} {h₁ : Heap} {t₁ : Nat} {Q E : Value → Shared → Prop}
set_option maxHeartbeats 4000000 in
theorem hi_call {e : Env9} {t : Ty} {tr : Tr} {vt : Value} {ut : Tok} {rl bd : Addr}
   (B : Below A₀ base outer h₀) (F : Fr h₀ L h₁ m) (X : Frag.In (hd.heap_1 w.params) h₀) (Nw : News h₀ L h₁ N) (T : Top p loose mean mg mb h₀) (hk : cs.kind = .function)
   (hA : ∀ u, u.size < t.size → HoldC w e u) (hRB : RbIn w N rl bd e) (R : TyIn N vt t) (hc : t.cl = true) (hdep : t.dep ≤ 4) (hsz : t.size ≤ 12) (hro : ∀ r ∈ e.rows, RowOk r) (hrl : e.rows.length ≤ 100)
   (hdd : dp + 20 * t.size + 50 < recursionLimit) (hu : un + 300 * t.size + 1000 < cLine)
   (ret : ∀ h' tk' l vs c tl, Fr h₀ L h' m → News h₀ L h' ((l, listOf (List.toArray vs) c) :: (tl ++ N)) → (∀ q ∈ N, q.1 < l) → (∀ p ∈ tl, l < p.1) → HitsIn w (tl ++ N) t vs (e.rows.filter (cand e tr t)) → Q (.ref l) ⟨h', g₁, d₁, tk', o₁⟩) :
   wpAny (model PySem.Challenge.pw_nu0382_01 w) (ktrTop dp un gd cn cs L a ccd cl outer) (call (.ref 263) [.ref rl, .ref bd, .str tr.str ut, vt]) Q E ⟨h₁, g₁, d₁, t₁, o₁⟩ := by
  have hRB0 := hRB
  obtain ⟨⟨vs9, c9, hr1, hr2⟩, -⟩ := hRB
  refine wpAny_call ?_
  walk_at "mine_enterC"
  k_steps
  refine stop_elim ?_
  rename (∀ p ∈ N, p.1 < _) => l9
  rename (_ ∧ _ ∧ _ ∧ AllLt _ N) => l8
  refine it_list (hiJ w e tr t N vt ut rl bd _ (L' + 1 + 1 + 1) (L' + 1 + 1) (L' + 1)) rfl (by k_asm) (by k_asm) (by k_mem) ⟨rfl, rfl, rfl, [], _, [], _, _, _, rfl, ⟨_, by assumption⟩, by assumption, by assumption, .nil, fun _ h => nomatch h⟩ ?_ ?_
  · intro i v m₁ nx h tk I o9 hx J₁ hw hIl F₁ N₁
    refine abs_turn fun R9 hR9 => ?_
    obtain ⟨e1, e2, e3, vs, c, tl, oK, oB, oR, rfl, ⟨xK, dK⟩, dB, dR, hH, hlt⟩ := J₁
    rw [kn1 e1, kn1 e2, kn1 e3] at F₁
    clear e1 e2 e3
    obtain ⟨num, tr2, hd2, asks, hr, Ri⟩ := hr2.at hx
    have hro9 := hro _ (List.mem_of_getElem? hr)
    have Ri2 := Ri
    obtain ⟨rfl, r1, r2, r3, r4, r5, -, r6⟩ := Ri.v
    obtain ⟨y, hF⟩ := headF hro9.hd hc hdep
    simp only [List.forall_mem_cons, List.mem_singleton] at hw
    have q1 := hw.1
    have q2 := hw.2.1
    have q3 := hw.2.2.1
    have q4 := hw.2.2.2.1
    have q5 := hw.2.2.2.2
    have q6 := ktn_ltOf l8.2.2.2
    have q7 : ∀ p ∈ N, p.1 ≠ L' + 1 + 1 + 1 := fun p hp => Nat.ne_of_lt (Nat.lt_succ_of_lt (Nat.lt_succ_of_lt (Nat.lt_succ_of_lt (l9 p hp))))
    have q8 : ∀ p ∈ tl, p.1 ≠ L' + 1 + 1 + 1 := fun p hp => Nat.ne_of_gt (Nat.lt_trans l8.1 (hlt p hp))
    have q9 := q7 _ hr1
    have q10 := q6 _ hr1
    have q11 : L' + 1 + 1 ≠ L' + 1 + 1 + 1 := Nat.ne_of_lt (Nat.lt_succ_self _)
    have q12 : L' + 1 ≠ L' + 1 + 1 + 1 := Nat.ne_of_lt (Nat.lt_succ_of_lt (Nat.lt_succ_self _))
    have g1 := (heads_ok _ hro9.hd).1
    have g2 := (heads_ok _ hro9.hd).2.1
    have g3 := (heads_ok _ hro9.hd).2.2
    have hz9 : (List.toArray vs).size ≤ sizeLine := by
      have h4 := sizeLine_ge
      have h5 := hH.len
      have h6 := List.length_filter_le (cand e tr t) (e.rows.take i)
      have h7 := List.length_take_le' i e.rows
      rw [List.size_toArray]
      omega
    by_cases htr : tr2 = tr
    · subst htr
      k_steps
      refine stop_elim ?_
      with_unfolding_all refine' lf_all 3 hd2 g3 ?k1 ?k2 ?k3 (Pull.news ?k4 ?kp) ?k5 ?k6 r5 R ?sb ?off (.inl ⟨rfl, rfl⟩) g1 g2 hdep ?k8 ?k9 ?_
      walk_at "mine_calm"
      case kp => repeat (first | exact Pull.head | apply Pull.tail)
      case sb => walk_at "mine_sub"
      case off => k_all
      intro h' tk' c8 kv F' N' hK
      have hfh := fit_head hro9.hd hc
      rw [hfh.1]
      by_cases hm : m1 hd2 t = .yes
      · rw [hfh.2 hm] at hK
        rw [decide_eq_true hm]
        have hcy := cand_yes (e := e) hro9 hF hm
        dsimp only at hcy
        obtain ⟨hT, hu9, hyc, hy2⟩ | ⟨hT, hu9⟩ := hF.v hm
        · dsimp only at hu9 hT
          rw [hu9] at hK
          obtain ⟨x9, rfl, hx9, hx8⟩ := hK.some
          obtain ⟨-, pt, aa, tT, vsA, n4, n5, rfl, hp1, hp2, hp3⟩ := prm_yes r6 hT
          have hla : vsA.length ≤ 2 := by have := hp3.len_eq; rw [List.length_map] at this; rw [this]; exact hro9.asks
          k_steps
          refine ⟨_, _, _, _, vsA, _, _, _, _, rfl, by k_asm, by k_asm, by k_mem, by k_mem, by k_mem, Nat.le_trans hla (by decide), fun D h tk F₂ N₂ lD => ?_⟩
          k_steps
          refine ⟨_, vsA, _, _, fun i ys nx => ys.isEmpty = (asks.take i).all (fun a => ok e a y) ∧ nx = _, rfl, by k_asm, by k_asm, by k_mem, Nat.le_trans hla (by decide), ⟨rfl, rfl⟩, ?_, ?_⟩
          · rintro C oC D I9 oI i v ys nx h tk mc E' hv ⟨hys, rfl⟩ hC hxa hoff hCI hDI hCD F₃ N₃
            obtain ⟨a9, tq, rfl, ha9⟩ := tr_at hp3 hv
            have hb9 := hcy.2 (by rw [if_pos hT]; rintro rfl; simp at ha9)
            have b1 := hb9.1
            have b2 := hb9.2.1
            have b3 := hb9.2.2
            k_steps
            refine stop_elim ?_
            with_unfolding_all refine' hA _ b1 ?k1 ?k2 ?k3 ?k4 ?k5 ?k6 (RbIn.mono ?m1 hRB0) (TyIn.mono ?m2 hx9) b2 (Nat.le_trans b3 hdep) (by omega) ?k8 ?k9 ?_
            walk_at "mine_calm"
            case m1 => walk_at "mine_sub"
            case m2 => walk_at "mine_sub"
            intro h' tk' F' N'
            k_steps
            exact ⟨_, _, _, rfl, by k_asm, by k_asm, hoff, hi_ask ha9 hys, rfl⟩
          · rintro D h tk ys nx F₂ N₂ off₂ ⟨hys, rfl⟩
            simp only [List.forall_mem_cons, List.forall_mem_append] at off₂
            rw [List.take_of_length_le (by rw [hp3.len_eq, List.length_map]; exact Nat.le_refl _)] at hys
            replace N₂ := news_erase 1 N₂
            simp only [List.eraseIdx_cons_succ, List.eraseIdx_cons_zero] at N₂
            rw [if_pos hT] at hcy
            rcases ys with _ | ⟨y0, ys⟩
            · have hall : (asks.all fun a => ok e a y) = true := hys.symm
              k_steps
              rename (_ == sysModules) = false => lo9
              rename Obj.IsDictOf _ _ (strPairs _) => hd9
              refine dict_named lo9 (P := fun o => Obj.IsDictOf _ o _) hd9 fun fd8 o8 z1 z2 => ?_
              subst z1 z2
              refine hR9 _ _ ?_
              exact FStep.intro ((_, listOf (List.toArray (vs ++ [.ref _])) _) :: (L' + 1 + 1 + 1, _) :: (L' + 1 + 1, oB) :: (L' + 1, oR) :: (((_, tupObj [.int num _, .ref fd8] _) :: (fd8, o8) :: tl) ++ N)) (.inl rfl) rfl (by k_asm) (by k_asm) (by walk_at "mine_sub") (notin1 (by k_all)) ⟨rfl, rfl, rfl, vs ++ [.ref _], _, _ :: _ :: tl, _, _, _, rfl, ⟨_, by assumption⟩, dB, dR, by rw [take_yes hr (hcy.1.trans hall)]; exact (hH.mono (fun p hp => List.mem_cons_of_mem _ (List.mem_cons_of_mem _ hp))).snoc (.mk (by k_mem) (by k_mem) (f := some x9) lo9 hd9 (by rw [hu9]; exact ⟨_, rfl, hx9.mono (by walk_at "mine_sub")⟩)), List.forall_mem_cons.mpr ⟨by walk_at "mine_lt", List.forall_mem_cons.mpr ⟨by walk_at "mine_lt", hlt⟩⟩⟩
            · have hall : ¬ (asks.all fun a => ok e a y) = true := fun e9 => nomatch hys.trans e9
              k_steps
              refine hR9 _ _ ?_
              exact FStep.intro ((_, listOf (List.toArray vs) c) :: (L' + 1 + 1 + 1, _) :: (L' + 1 + 1, oB) :: (L' + 1, oR) :: (tl ++ N)) (.inl rfl) rfl (by k_asm) (by k_asm) (by walk_at "mine_sub") (notin1 (by k_all)) ⟨rfl, rfl, rfl, vs, c, tl, _, _, _, rfl, ⟨_, by assumption⟩, dB, dR, by rw [take_no hr (hcy.1.trans (Bool.eq_false_iff.mpr hall))]; exact hH, hlt⟩
        · dsimp only at hu9 hT
          rw [hu9] at hK
          · obtain rfl := hK.none
            k_steps
            refine ⟨_, [], _, _, fun i ys nx => ys = [] ∧ nx = _, rfl, by k_asm, by k_asm, by k_mem, Nat.zero_le _, ⟨rfl, rfl⟩, ?_, ?_⟩
            · intro C oC D I9 oI i v ys nx h tk mc E' hv
              simp at hv
            · rintro D h tk ys nx F₂ N₂ off₂ ⟨rfl, rfl⟩
              simp only [List.forall_mem_cons, List.forall_mem_append] at off₂
              replace N₂ := news_erase 1 N₂
              simp only [List.eraseIdx_cons_succ, List.eraseIdx_cons_zero] at N₂
              have hall : cand e tr2 t ⟨num, tr2, hd2, asks⟩ = true := by rw [hcy.1, if_neg (by rw [hT]; decide)]; rfl
              k_steps
              rename (_ == sysModules) = false => lo9
              rename Obj.IsDictOf (PySem.strKind _ _) _ [] => hd9
              refine dict_named lo9 (P := fun o => Obj.IsDictOf _ o _) hd9 fun fd8 o8 z1 z2 => ?_
              subst z1 z2
              refine hR9 _ _ ?_
              exact FStep.intro ((_, listOf (List.toArray (vs ++ [.ref _])) _) :: (L' + 1 + 1 + 1, _) :: (L' + 1 + 1, oB) :: (L' + 1, oR) :: (((_, tupObj [.int num _, .ref fd8] _) :: (fd8, o8) :: tl) ++ N)) (.inl rfl) rfl (by k_asm) (by k_asm) (by walk_at "mine_sub") (notin1 (by k_all)) ⟨rfl, rfl, rfl, vs ++ [.ref _], _, _ :: _ :: tl, _, _, _, rfl, ⟨_, by assumption⟩, dB, dR, by rw [take_yes hr hall]; exact (hH.mono (fun p hp => List.mem_cons_of_mem _ (List.mem_cons_of_mem _ hp))).snoc (.mk (by k_mem) (by k_mem) (f := none) lo9 hd9 (by rw [hu9])), List.forall_mem_cons.mpr ⟨by walk_at "mine_lt", List.forall_mem_cons.mpr ⟨by walk_at "mine_lt", hlt⟩⟩⟩
      · rw [decide_eq_false hm]
        k_steps
        refine hR9 _ _ ?_
        exact FStep.intro ((_, listOf (List.toArray vs) c) :: (L' + 1 + 1 + 1, _) :: (L' + 1 + 1, oB) :: (L' + 1, oR) :: (tl ++ N)) (.inl rfl) rfl (by k_asm) (by k_asm) (by walk_at "mine_sub") (notin1 (by k_all)) ⟨rfl, rfl, rfl, vs, c, tl, _, _, _, rfl, ⟨_, by assumption⟩, dB, dR, by rw [take_no hr (cand_nm hm)]; exact hH, hlt⟩
    · have htn := Tr.str_ne htr
      k_steps
      refine hR9 _ _ ?_
      exact FStep.intro ((_, listOf (List.toArray vs) c) :: (L' + 1 + 1 + 1, _) :: (L' + 1 + 1, oB) :: (L' + 1, oR) :: (tl ++ N)) (.inl rfl) rfl (by k_asm) (by k_asm) (by walk_at "mine_sub") (notin1 (by k_all)) ⟨rfl, rfl, rfl, vs, c, tl, _, _, _, rfl, ⟨_, by assumption⟩, dB, dR, by rw [take_no hr (cand_ne htr)]; exact hH, hlt⟩
  · rintro m₁ nx h tk ⟨e1, e2, e3, vs, c, tl, oK, oB, oR, rfl, dK, dB, dR, hH, hlt⟩ F₁ N₁
    rw [kn1 e1] at F₁
    rw [List.take_of_length_le (Nat.le_of_eq hr2.len.symm)] at hH
    k_steps
    exact ret _ _ _ vs _ tl (by k_asm) (news_sub (by k_asm) (by walk_at "mine_sub")) (ktn_ltOf l8.2.2.2) hlt hH
end

-- part LH
-- needs HI
theorem HitsIn.emp {w : World} {N : List (Addr × Obj)} {t : Ty} {vs : List Value} {rs : List Rw} (h : HitsIn w N t vs rs) : vs.isEmpty = rs.isEmpty := by cases h <;> rfl
set_option maxHeartbeats 4000000 in
theorem lh_all {w : World} {e : Env9} (hro : ∀ r ∈ e.rows, RowOk r) (hrl : e.rows.length ≤ 100) (n : Nat) : ∀ t : Ty, t.size ≤ n → HoldC w e t := by
  induction n with
  | zero => intro t h; exact absurd t.size_pos (by omega)
  | succ n ih =>
    intro t hn
    unfold HoldC
    intro tr p loose mean mg mb dp un gd cn cs a ccd cl outer A₀ base h₀ L m N g₁ d₁ o₁ h₁ t₁ Q E vt ut rl bd B F X Nw T hk hRB R hc hdep hsz hdd hu ret
    have hA : ∀ u, u.size < t.size → HoldC w e u := fun u h => @ih u (by omega)
    have hok : ok e tr t = ((t == .X && e.bs.contains tr) || !(e.rows.filter (cand e tr t)).isEmpty) := by
      rw [ok_eq]
      congr 1
      cases hf : e.rows.any (cand e tr t) with
      | true => obtain ⟨r, h1, h2⟩ := List.any_eq_true.mp hf; cases hg : e.rows.filter (cand e tr t) with
        | nil => exact absurd (List.mem_filter.mpr ⟨h1, h2⟩) (by rw [hg]; exact List.not_mem_nil)
        | cons _ _ => rfl
      | false => rw [List.filter_eq_nil_iff.mpr fun r h1 h2 => by rw [List.any_eq_true.mpr ⟨r, h1, h2⟩] at hf; cases hf]; rfl
    have hRB0 := hRB
    have R0 := R
    obtain ⟨-, o9, kvs, i4, i5, i6, i7⟩ := hRB
    by_cases ht : t = .X
    · subst ht
      cases R
      rename _ ∈ N => mX
      rcases i7 with ⟨rfl, i7⟩ | ⟨ba, vs, n, rfl, i8, i9⟩
      · have hb0 : (Ty.X == .X && e.bs.contains tr) = false := by rw [i7]; rfl
        refine wpAny_call ?_
        walk_at "mine_enter"
        k_steps
        refine stop_elim ?_
        with_unfolding_all refine' hi_call (e := e) ?k1 ?k2 ?k3 ?k4 ?k5 ?k6 hA (RbIn.mono ?m1 hRB0) (TyIn.mono ?m2 R0) hc hdep hsz hro hrl ?k8 ?k9 ?_
        walk_at "mine_calm"
        case m1 => walk_at "mine_sub"
        case m2 => walk_at "mine_sub"
        intro h' tk' l vs c tl F' N' hl htl hH
        have hz : ok e tr .X = !vs.isEmpty := by rw [hok, hb0, Bool.false_or, hH.emp]
        rw [hz] at ret
        k_steps
        exact ret _ _ (by k_asm) (news_sub (by k_asm) (by walk_at "mine_sub"))
      · rcases hb : e.bs.contains tr with _ | _
        · have hb0 : (Ty.X == .X && e.bs.contains tr) = false := by rw [hb]; rfl
          refine wpAny_call ?_
          walk_at "mine_enter"
          k_steps
          refine stop_elim ?_
          with_unfolding_all refine' hi_call (e := e) ?k1 ?k2 ?k3 ?k4 ?k5 ?k6 hA (RbIn.mono ?m1 hRB0) (TyIn.mono ?m2 R0) hc hdep hsz hro hrl ?k8 ?k9 ?_
          walk_at "mine_calm"
          case m1 => walk_at "mine_sub"
          case m2 => walk_at "mine_sub"
          intro h' tk' l vs c tl F' N' hl htl hH
          have hz : ok e tr .X = !vs.isEmpty := by rw [hok, hb0, Bool.false_or, hH.emp]
          rw [hz] at ret
          k_steps
          exact ret _ _ (by k_asm) (news_sub (by k_asm) (by walk_at "mine_sub"))
        · refine wpAny_call ?_
          walk_at "mine_enter"
          k_steps
          rw [hok, hb] at ret
          exact ret _ _ (by k_asm) (news_sub (by k_asm) (by walk_at "mine_sub"))
    · have hk : t.kind ≠ Str.ofString "param" := kind_cl ht hc
      have hb0 : (t == .X && e.bs.contains tr) = false := by rw [show (t == .X) = false by simpa using ht]; rfl
      obtain ⟨a1, n1, k1, r1, rfl, m1⟩ := R.first
      refine wpAny_call ?_
      walk_at "mine_enter"
      k_steps
      refine stop_elim ?_
      with_unfolding_all refine' hi_call (e := e) ?k1 ?k2 ?k3 ?k4 ?k5 ?k6 hA (RbIn.mono ?m1 hRB0) (TyIn.mono ?m2 R0) hc hdep hsz hro hrl ?k8 ?k9 ?_
      walk_at "mine_calm"
      case m1 => walk_at "mine_sub"
      case m2 => walk_at "mine_sub"
      intro h' tk' l vs c tl F' N' hl htl hH
      have hz : ok e tr t = !vs.isEmpty := by rw [hok, hb0, Bool.false_or, hH.emp]
      rw [hz] at ret
      k_steps
      exact ret _ _ (by k_asm) (news_sub (by k_asm) (by walk_at "mine_sub"))

-- part TQ
theorem words_TQ : True := by
  k_with "execs cons If" => (first | ((have m9 : Mark7 := by assumption); clear m9; refine stop_intro ?_) | fail "no")
  k_with "execs cons Return" => (first | ((have m9 : Mark8 := by assumption); clear m9; refine stop_intro ?_) | fail "no")
  k_with "compareOp NotEq ref ref" => (first | ((have m9 : Mark8 := by assumption); clear m9; refine stop_intro ?_) | fail "no")
  k_with "exec For Name Call cons nil" => (first | ((have m9 : Mark9 := by assumption); k_here; k_dflt (refine For_turns (by k_asm) ?_); clear m9) | fail "no")
  k_with "call type:range" => (first | ((have m9 : Mark9 := by assumption); clear m9; refine stop_intro ?_) | fail "no")
  k_with "pyIter ref" => (first | ((have m9 : Mark9 := by assumption); clear m9; refine stop_intro ?_) | fail "no")
  trivial
-- needs HI
theorem ut_dep : ∀ (p t u : Ty), ut p t = some u → u.dep ≤ t.dep := by
  intro p
  induction p with
  | T => intro t u h; cases h; exact Nat.le_refl _
  | box p ih => intro t u h; induction t using Ty.casesOn <;> first | exact no_some h | exact Nat.le_succ_of_le (ih _ _ h)
  | ref p ih => intro t u h; induction t using Ty.casesOn <;> first | exact no_some h | exact Nat.le_succ_of_le (ih _ _ h)
  | W p ih => intro t u h; induction t using Ty.casesOn <;> first | exact no_some h | exact Nat.le_succ_of_le (ih _ _ h)
  | tup p q ih ih' =>
    intro t u h
    induction t using Ty.casesOn <;> first | exact no_some h | skip
    rename_i a b
    have h : (ut p a).orElse (fun _ => ut q b) = some u := h
    show u.dep ≤ max a.dep b.dep + 1
    cases hp : ut p a with
    | some v => rw [hp] at h; cases h; have := ih _ _ hp; omega
    | none => rw [hp] at h; have := ih' _ _ h; omega
  | _ => intro t u h; induction t using Ty.casesOn <;> exact no_some h
structure Mark7 : Prop
structure Mark8 : Prop
theorem rest_cut {M : Model} {A : Around} {Q : Flow → Shared → Prop} {E : Value → Shared → Prop} {s : Shared} {env : Env} {a b : Stmt} {rest : List Stmt} (P : Shared → Prop) (h1 : (∀ s', P s' → wpAny M A (execs rest env) Q E s') → wpAny M A (execs (a :: b :: rest) env) Q E s)
    (h2 : ∀ s', P s' → wpAny M A (execs rest env) Q E s') : wpAny M A (execs (a :: b :: rest) env) Q E s := h1 h2
theorem tst_cutf {M : Model} {A : Around} {E : Value → Shared → Prop} {s : Shared} {tree : Sem Bool} {Q : Bool → Shared → Prop} {g : Heap} {L : Addr} {m : Str → Option Value} (_F : Fr g L s.heap m) (b : Bool) (N : List (Addr × Obj))
    (h1 : ∀ Q' : Bool → Shared → Prop, (∀ h tk, Fr g L h m → News g L h N → Q' b { s with heap := h, toks := tk }) → wpAny M A tree Q' E s) (h2 : ∀ h tk, Fr g L h m → News g L h N → Q b { s with heap := h, toks := tk }) : wpAny M A tree Q E s := h1 Q h2
section
open PySem.SeqAt PySem.AutoSeq1 PyProof.V
variable {prog : Program} {w : World} {A : Around} {E : Value → Shared → Prop} {s : Shared} {Q : Value → Shared → Prop}
theorem tup_same {l b : Addr} {items items2 : Array Value} (hl : s.heap.IsTuple l items) (hb : s.heap.IsTuple b items2) (hsz : items.size = items2.size) (hu : A.units < cLine)
    (he : ∀ j (h1 : j < items.size) (h2 : j < items2.size) (E : Value → Shared → Prop) (Q : Bool → Shared → Prop), Q true s → wpAny (model prog w) A.in1 (eqBool items[j] items2[j]) Q E s) (h : Q (.bool false) s) :
    wpAny (model prog w) A (compareOp .NotEq (.ref l) (.ref b)) Q E s := by
  refine wpAny_richCompare_same_room (op := .NotEq) hl.typeIs hb.typeIs F.slot_tuple_ne (wpAny_call_entry F.slot_tuple_ne hl.typeIs F.entry_tuple_ne ?_ (F.args_tuple_ne_2 _ _)) hu
  obtain ⟨⟨cls, dd, data, sl⟩, ho, hc, n, hd⟩ := id hl
  obtain ⟨⟨cls2, dd2, data2, sl2⟩, ho2, hc2, n2, hd2⟩ := id hb
  simp only at hc hd hc2 hd2
  subst hc hd hc2 hd2
  obtain ⟨hp, g, d, tk, os⟩ := s
  have f2 := AutoSeq1.sub_tuple_tuple
  have hZ : (items.toList.zip items2.toList).length = items.size := by simp [hsz]
  unfold Builtin.«tuple.__ne__»
  wp_walk using wpAny_loadPart' ho, wpAny_loadPart' ho2, wpAny_forIn_list _ (fun rest b s' => b.1 = none ∧ s' = ⟨hp, g, d, tk, os⟩ ∧ ∃ i, rest = (items.toList.zip items2.toList).drop i) _
  case turn =>
    rintro ⟨y, x⟩ rest b s' ⟨hb', rfl, i, hz⟩
    have hlt : i < (items.toList.zip items2.toList).length := by
      rcases Nat.lt_or_ge i (items.toList.zip items2.toList).length with h' | h'
      · exact h'
      · rw [List.drop_of_length_le h'] at hz; cases hz
    have h1 : i < items.size := hZ ▸ hlt
    have h2 : i < items2.size := hsz ▸ h1
    rw [List.drop_eq_getElem_cons hlt] at hz
    injection hz with hyx hrest
    have hy : y = items[i] := by have := congrArg Prod.fst hyx; simpa using this
    have hx : x = items2[i] := by have := congrArg Prod.snd hyx; simpa using this
    subst hy hx
    refine wpAny_bind (he i h1 h2 _ _ ?_)
    wp_walk
    exact ⟨rfl, rfl, i + 1, hrest⟩
  case fin =>
    rintro ⟨b1, b2⟩ s' ⟨hb', rfl, i, hz⟩
    simp only at hb'
    subst hb'
    wp_walk
    have e : Builtin.Tuple.tupleCompareSizes CmpOp.NotEq items.size items2.size = .bool false := by simp [Builtin.Tuple.tupleCompareSizes, hsz]
    rw [e]
    exact ⟨_, rfl, nofun, h⟩
  case h => exact ⟨rfl, rfl, 0, rfl⟩
/-- two dicts with the same one item, or none -/
theorem dict_same {a b : Addr} {h₀ : Heap} {L : Addr} {news : List (Addr × Obj)} {oa ob : Obj} {f g : Option Value} (N : News h₀ L s.heap news) (pa : (a, oa) ∈ news) (pb : (b, ob) ∈ news) (la : (a == sysModules) = false) (lb : (b == sysModules) = false)
    (da : oa.IsDictOf (strKind prog w) (fnd f)) (db : ob.IsDictOf (strKind prog w) (fnd g)) (hu : A.units < cLine)
    (hv : (f = none ∧ g = none) ∨ ∃ x y, f = some x ∧ g = some y ∧ EqAt A.in1 s x y true) (E : Value → Shared → Prop) (Q : Bool → Shared → Prop) (h : Q true s) : wpAny (model prog w) A (eqBool (.ref a) (.ref b)) Q E s := by
  unfold eqBool
  refine wpAny_holding ?_
  refine wpAny_ite_split (fun _ => wpAny_bind (wpAny_rule (wpAny_pure h))) (fun _ => ?_)
  refine wpAny_bind (?_ : wpAny _ _ (compareOp .Eq (.ref a) (.ref b)) _ _ _)
  rcases hv with ⟨rfl, rfl⟩ | ⟨x, y, rfl, rfl, hxy⟩
  · exact keq_pairs N pa pb da db la lb rfl hu .nil (wpAny_truthy_bool h)
  · exact keq_pairs N pa pb da db la lb rfl hu (.hit (by simp [fnd, valueAt]) hxy .nil) (wpAny_truthy_bool h)
theorem ne_impl {h₀ : Heap} {L : Addr} {news : List (Addr × Obj)} {D D' a b : Addr} {k1 k2 k3 k4 : Tok} {num : Int} {n n' : Nat} {oa ob : Obj} {f g : Option Value} (N : News h₀ L s.heap news)
    (m1 : (D, tupObj [.str (Str.ofString "impl") k1, .int num k2, .ref a] n) ∈ news) (m2 : (D', tupObj [.str (Str.ofString "impl") k3, .int num k4, .ref b] n') ∈ news) (pa : (a, oa) ∈ news) (pb : (b, ob) ∈ news) (la : (a == sysModules) = false) (lb : (b == sysModules) = false)
    (da : oa.IsDictOf (strKind prog w) (fnd f)) (db : ob.IsDictOf (strKind prog w) (fnd g)) (hu : A.units + 100 < cLine)
    (hv : (f = none ∧ g = none) ∨ ∃ x y u M M', f = some x ∧ g = some y ∧ TyIn M x u ∧ TyIn M' y u ∧ (∀ p ∈ M, p ∈ news) ∧ (∀ p ∈ M', p ∈ news) ∧ u.dep ≤ 4) (h : Q (.bool false) s) : wpAny (model prog w) A (compareOp .NotEq (.ref D) (.ref D')) Q E s := by
  refine tup_same (News.isTup N m1) (News.isTup N m2) rfl (by omega) (fun j h1 h2 E Q hq => ?_) h
  match j, h1, h2 with
  | 0, _, _ => exact EqAt.str_str _ _ _ _ prog w E Q (by rw [beq_self_eq_true]; exact hq)
  | 1, _, _ => exact EqAt.int_int _ _ _ _ prog w E Q (by rw [beq_self_eq_true]; exact hq)
  | 2, _, _ =>
    refine dict_same N pa pb la lb da db (by show A.units + 1 < cLine; omega) ?_ E Q hq
    rcases hv with h | ⟨x, y, u, M, M', rfl, rfl, R1, R2, s1, s2, hd⟩
    · exact .inl h
    · refine .inr ⟨x, y, rfl, rfl, ?_⟩
      have e := eqAt_reads u.data u.data A.in1.in1 s x y [] [] ((R1.mono s1).reads N) ((R2.mono s2).reads N) u.lay_data u.lay_data (by
        have := u.depth_data
        have := Nat.min_le_left u.data.depth u.data.depth
        show A.units + 1 + 1 + min u.data.depth u.data.depth < cLine
        omega)
      rwa [Ty.eqv_data, decide_eq_true rfl] at e
  | j + 3, h1, _ => exact absurd h1 (by simp)
theorem ne_bound {h₀ : Heap} {L : Addr} {news : List (Addr × Obj)} {D D' : Addr} {k1 k2 k3 k4 : Tok} {n n' : Nat} (N : News h₀ L s.heap news)
    (m1 : (D, tupObj [.str (Str.ofString "bound") k1, .str (Str.ofString "X") k2] n) ∈ news) (m2 : (D', tupObj [.str (Str.ofString "bound") k3, .str (Str.ofString "X") k4] n') ∈ news) (hu : A.units + 100 < cLine) (h : Q (.bool false) s) : wpAny (model prog w) A (compareOp .NotEq (.ref D) (.ref D')) Q E s := by
  refine tup_same (News.isTup N m1) (News.isTup N m2) rfl (by omega) (fun j h1 h2 E Q hq => ?_) h
  match j, h1, h2 with
  | 0, _, _ => exact EqAt.str_str _ _ _ _ prog w E Q (by rw [beq_self_eq_true]; exact hq)
  | 1, _, _ => exact EqAt.str_str _ _ _ _ prog w E Q (by rw [beq_self_eq_true]; exact hq)
  | j + 2, h1, _ => exact absurd h1 (by simp)
end

-- part OR
-- needs TQ
theorem seq_cutf {M : Model} {A : Around} {Q : Flow → Shared → Prop} {E : Value → Shared → Prop} {g₁ : Array GenState} {d₁ : Drawn} {o₁ : OsState} {h₁ : Heap} {t₁ : Nat} {env : Env} {a : Stmt} {rest : List Stmt} {g : Heap} {L : Addr} {m : Str → Option Value} (_F : Fr g L h₁ m) (N : List (Addr × Obj))
    (h1 : ∀ Q' : Flow → Shared → Prop, (∀ h tk, Fr g L h m → News g L h N → Q' .next ⟨h, g₁, d₁, tk, o₁⟩) → wpAny M A (exec a env) Q' E ⟨h₁, g₁, d₁, t₁, o₁⟩)
    (h2 : ∀ h tk, Fr g L h m → News g L h N → wpAny M A (execs rest env) Q E ⟨h, g₁, d₁, tk, o₁⟩) : wpAny M A (execs (a :: rest) env) Q E ⟨h₁, g₁, d₁, t₁, o₁⟩ :=
  wpAny_execs_cons (h1 _ h2)
inductive BoxF (N : List (Addr × Obj)) (b : Addr) (q : Ty) : Prop
  | mk {b2 : Addr} {n n2 : Nat} {t k2 : Tok} {j2 : List Value} : (b, tupObj [.str (Str.ofString "box") t, .ref b2] n) ∈ N → TyIn N (.ref b2) q → (b2, tupObj (.str q.kind k2 :: j2) n2) ∈ N → BoxF N b q
theorem TyIn.boxf {N : List (Addr × Obj)} {b : Addr} {q : Ty} (h : TyIn N (.ref b) (.box q)) : BoxF N b q := by
  cases h with
  | box m r =>
    obtain ⟨b2, n2, k2, j2, rfl, i2⟩ := r.first
    exact .mk m r i2
theorem open_V {p : Ty} (h : p ∈ heads) : PG p.hasT .V p .V ∧ m1 p .V = (if p = .T then .yes else .maybe) := by
  simp only [heads, List.mem_cons, List.not_mem_nil, or_false] at h
  rcases h with rfl | rfl | rfl | rfl | rfl | rfl | rfl | rfl | rfl | rfl | rfl <;> exact ⟨⟨rfl, by decide, by decide, fun h => h, by first | exact rfl | exact trivial⟩, rfl⟩
theorem open_I {p : Ty} (h : p ∈ heads) : PG p.hasT .I p .I ∧ m1 p .I = (if p = .T then .yes else if p = .int then .maybe else .no) := by
  simp only [heads, List.mem_cons, List.not_mem_nil, or_false] at h
  rcases h with rfl | rfl | rfl | rfl | rfl | rfl | rfl | rfl | rfl | rfl | rfl <;> exact ⟨⟨rfl, by decide, by decide, fun h => h, by first | exact rfl | exact trivial⟩, rfl⟩
theorem open_B {q : Ty} (h : Ty.box q ∈ heads) : PG (Ty.box q).hasT .V (.box q) (.box .V) ∧ m1 (.box q) (.box .V) = (if q = .T then .yes else .maybe) := by
  simp only [heads, List.mem_cons, List.not_mem_nil, or_false, Ty.box.injEq, reduceCtorEq, false_or] at h
  rcases h with rfl | rfl <;> exact ⟨⟨rfl, by decide, by decide, fun h => h, by first | exact rfl | exact trivial⟩, rfl⟩
theorem lk3 {k : Str} (h1 : k ≠ Str.ofString "param") (h2 : k ≠ Str.ofString "int") : (PySem.Spec.lookup (.str k) [(.str (Str.ofString "param"), .str (Str.ofString "yes")), (.str (Str.ofString "int"), .str (Str.ofString "maybe"))]).getD (.str (Str.ofString "no")) = PyData.str (Str.ofString "no") := by
  have e1 : (Str.ofString "param" == k) = false := by simpa using Ne.symm h1
  have e2 : (Str.ofString "int" == k) = false := by simpa using Ne.symm h2
  have e3 : (k == Str.ofString "param") = false := by simpa using h1
  have e4 : (k == Str.ofString "int") = false := by simpa using h2
  simp [PySem.Spec.lookup, PySem.Spec.same, e1, e2, e3, e4, h1, h2]
theorem flat_str {v : Value} {x : Str} (f : PyProof.V.Flat v (.str x)) : ∃ t, v = .str x t := by
  have p : Reads {} v (.str x) [] := f {}
  cases p
  exact ⟨_, rfl⟩
section
variable {w : World} {p : Program} {loose : List Str} {mean : ExcName → Option Value} {mg mb : Str → Option Value}
   {dp un : Nat} {gd : Option (List Code)} {cn : Str} {cs : Scope} {a : Addr} {ccd : Value} {cl : List (Str × Addr)} {outer : List Env} {A₀ : Around} {base h₀ : Heap} {L : Addr} {m : Str → Option Value} {N : List (Addr × Obj)} {g₁ : Array GenState} {d₁ : Drawn} {o₁ : OsState} {h₁ : Heap} {t₁ : Nat} {Q E : Value → Shared → Prop}
set_option maxHeartbeats 4000000 in
theorem or_call {rl : Addr} {vs : List Value} {c : Nat} {rows : List Rw}
   (B : Below A₀ base outer h₀) (F : Fr h₀ L h₁ m) (X : Frag.In (hd.heap_1 w.params) h₀) (Nw : News h₀ L h₁ N) (T : Top p loose mean mg mb h₀) (hk : cs.kind = .function)
   (hr1 : (rl, listOf (List.toArray vs) c) ∈ N) (hr2 : RowsIn w.params N vs rows) (hro : ∀ r ∈ rows, RowOk r)
   (hdd : dp + 40 < recursionLimit) (hu : un + 700 < cLine)
   (ret : ∀ h' tk', Fr h₀ L h' m → News h₀ L h' N → Q (.bool true) ⟨h', g₁, d₁, tk', o₁⟩) :
   wpAny (model PySem.Challenge.pw_nu0382_01 w) (ktrTop dp un gd cn cs L a ccd cl outer) (call (.ref 291) [.ref rl]) Q E ⟨h₁, g₁, d₁, t₁, o₁⟩ := by
  refine wpAny_call ?_
  walk_at "mine_enter"
  k_steps
  refine stop_elim ?_
  refine it_list (fun i m nx => N = nx) rfl (by k_asm) (by k_asm) (by k_mem) rfl ?_ ?_
  · rintro i v m₁ _ h tk I o9 hx rfl hw hIl F₁ N₁
    refine abs_turn fun R9 hR9 => ?_
    obtain ⟨num, tr2, hd2, asks, hr, Ri⟩ := hr2.at hx
    have hro9 := hro _ (List.mem_of_getElem? hr)
    have Ri2 := Ri
    obtain ⟨rfl, r1, r2, r3, r4, r5, i1, r6⟩ := Ri.v
    have g1 := (heads_ok _ hro9.hd).1
    have g2 := (heads_ok _ hro9.hd).2.1
    have g3 := (heads_ok _ hro9.hd).2.2
    have hq := hw _ hr1
    have v1 := (open_V hro9.hd).1
    have v2 := (open_V hro9.hd).2
    have v3 := (open_I hro9.hd).1
    have v4 := (open_I hro9.hd).2
    dsimp only at v1 v2 v3 v4 g1 g2 g3
    have mk7 : Mark7 := ⟨⟩
    k_steps
    refine stop_elim ?_
    refine seq_cutf (by k_asm) ((I, o9) :: N) ?_ ?_
    · intro Q8 q8
      clear mk7
      k_steps
      refine stop_elim ?_
      with_unfolding_all refine' mi_call (y := .V) ?k1 ?k2 ?k3 ?k4 ?k5 ?k6 (Ri2.mono ?m1) ?k7 (TyIn.V ?m2) (fun _ h => h) v1 ?z ?k8 ?k9 ?_
      walk_at "mine_calm"
      case k7 => k_mem
      case m2 => k_mem
      case m1 => walk_at "mine_sub"
      case z => exact Nat.le_trans (Nat.add_le_add_right g3 _) (by decide)
      intro h' tk' tku D fd o' f n F' N' hfs hfl hfD hND hd' hFO
      dsimp only at N'
      rw [v2] at N'
      by_cases hT : hd2 = .T
      · subst hT
        rw [if_pos rfl] at N'
        k_steps
        exact q8 _ _ (by k_asm) (news_sub (by k_asm) (by walk_at "mine_sub"))
      · rw [if_neg hT] at N'
        have hkp : hd2.kind ≠ Str.ofString "param" := (plain_kind (Ty.okp_plain g1 hT)).1
        k_steps
        exact q8 _ _ (by k_asm) (news_sub (by k_asm) (by walk_at "mine_sub"))
    intro h tk F₁ N₁
    refine seq_cutf (by k_asm) ((I, o9) :: N) ?_ ?_
    · intro Q8 q8
      clear mk7
      k_steps
      refine stop_elim ?_
      with_unfolding_all refine' mi_call (y := .I) ?k1 ?k2 ?k3 ?k4 ?k5 ?k6 (Ri2.mono ?m1) ?k7 (TyIn.I ?m2) (fun _ h => h) v3 ?z ?k8 ?k9 ?_
      walk_at "mine_calm"
      case k7 => k_mem
      case m2 => k_mem
      case m1 => walk_at "mine_sub"
      case z => exact Nat.le_trans (Nat.add_le_add_right g3 _) (by decide)
      intro h' tk' tku D fd o' f n F' N' hfs hfl hfD hND hd' hFO
      dsimp only at N'
      rw [v4] at N'
      by_cases hT : hd2 = .T
      · subst hT
        rw [if_pos rfl] at N'
        k_steps
        exact q8 _ _ (by k_asm) (news_sub (by k_asm) (by walk_at "mine_sub"))
      · rw [if_neg hT] at N'
        by_cases hI : hd2 = .int
        · subst hI
          rw [if_pos rfl] at N'
          k_steps
          exact q8 _ _ (by k_asm) (news_sub (by k_asm) (by walk_at "mine_sub"))
        · rw [if_neg hI] at N'
          have hkp : hd2.kind ≠ Str.ofString "param" := (plain_kind (Ty.okp_plain g1 hT)).1
          have hki : hd2.kind ≠ Str.ofString "int" := kind_int hI
          k_steps
          rename PyProof.V.Flat _ _ => hv9
          have hv8 : PyProof.V.Flat _ (.str (Str.ofString "no")) := lk3 hkp hki ▸ hv9
          obtain ⟨tk9, rfl⟩ := flat_str hv8
          k_steps
          exact q8 _ _ (by k_asm) (news_sub (by k_asm) (by walk_at "mine_sub"))
    intro h tk F₁ N₁
    clear mk7
    by_cases hB : ∃ q, hd2 = .box q
    · obtain ⟨q, rfl⟩ := hB
      have v5 := (open_B hro9.hd).1
      have v6 := (open_B hro9.hd).2
      obtain ⟨rm, r7, i2⟩ := r5.boxf
      clear i1
      by_cases hq9 : q = .T
      · subst hq9
        k_steps
        refine stop_elim ?_
        with_unfolding_all refine' mi_call (y := .V) ?k1 ?k2 ?k3 ?k4 ?k5 ?k6 (Ri2.mono ?m1) ?k7 (TyIn.box ?m2 (TyIn.V ?m3)) (fun _ h => h) v5 ?z ?k8 ?k9 ?_
        walk_at "mine_calm"
        case k7 => k_mem
        case m2 => k_mem
        case m3 => k_mem
        case m1 => walk_at "mine_sub"
        case z => exact Nat.le_trans (Nat.add_le_add_right g3 _) (by decide)
        intro h' tk' tku D fd o' f n F' N' hfs hfl hfD hND hd' hFO
        dsimp only at N'
        rw [v6, if_pos rfl] at N'
        k_steps
        refine hR9 _ _ ?_
        exact FStep.intro N (.inl rfl) rfl (by k_asm) (by k_asm) (by walk_at "mine_sub") hw rfl
      · have hkp : q.kind ≠ Str.ofString "param" := (plain_kind (Ty.okp_plain (p := q) g1 hq9)).1
        k_steps
        refine stop_elim ?_
        with_unfolding_all refine' mi_call (y := .V) ?k1 ?k2 ?k3 ?k4 ?k5 ?k6 (Ri2.mono ?m1) ?k7 (TyIn.box ?m2 (TyIn.V ?m3)) (fun _ h => h) v5 ?z ?k8 ?k9 ?_
        walk_at "mine_calm"
        case k7 => k_mem
        case m2 => k_mem
        case m3 => k_mem
        case m1 => walk_at "mine_sub"
        case z => exact Nat.le_trans (Nat.add_le_add_right g3 _) (by decide)
        intro h' tk' tku D fd o' f n F' N' hfs hfl hfD hND hd' hFO
        dsimp only at N'
        rw [v6, if_neg hq9] at N'
        k_steps
        refine hR9 _ _ ?_
        exact FStep.intro N (.inl rfl) rfl (by k_asm) (by k_asm) (by walk_at "mine_sub") hw rfl
    · have hkb : hd2.kind ≠ Str.ofString "box" := kind_box hB
      k_steps
      refine hR9 _ _ ?_
      exact FStep.intro N (.inl rfl) rfl (by k_asm) (by k_asm) (by walk_at "mine_sub") hw rfl
  · rintro m₁ _ h tk rfl F₁ N₁
    k_steps
    exact ret _ _ (by k_asm) (news_sub (by k_asm) (by walk_at "mine_sub"))
end

-- part AR
theorem words_AR : True := by
  k_with "call ref" => ((with_reducible show wpAny _ _ (call (Value.ref 277) [_, _, _, _]) _ _ _); refine stop_intro ?_)
  k_with "call ref" => ((with_reducible show wpAny _ _ (call (Value.ref 167) [_, _, _, _, _]) _ _ _); refine stop_intro ?_)
  trivial
-- needs LH TQ
inductive ArP (g : Array GenState) (d : Drawn) (o : OsState) (v1 v2 v3 v4 v5 : Value) (P : Heap → Heap → (Str → Option Value) → Prop) (s' : Shared) : Prop
  | mk (h : Heap) (tk : Nat) (h₀' : Heap) (mm : Str → Option Value) : s' = ⟨h, g, d, tk, o⟩ → mm (Str.ofString "world") = some v1 → mm (Str.ofString "rows") = some v2 → mm (Str.ofString "bounds") = some v3 → mm (Str.ofString "trait") = some v4 → mm (Str.ofString "told") = some v5 → P h h₀' mm → ArP g d o v1 v2 v3 v4 v5 P s'
section
variable {w : World} {p : Program} {loose : List Str} {mean : ExcName → Option Value} {mg mb : Str → Option Value}
   {dp un : Nat} {gd : Option (List Code)} {cn : Str} {cs : Scope} {a : Addr} {ccd : Value} {outer : List Env} {A₀ : Around} {base h₀ g₀ : Heap} {L : Addr} {m : Str → Option Value} {N : List (Addr × Obj)} {g₁ : Array GenState} {d₁ : Drawn} {o₁ : OsState} {h₁ : Heap} {t₁ : Nat} {Q E : Value → Shared → Prop}
set_option maxHeartbeats 4000000 in
theorem ar_call {wv vt : Value} {e : Env9} {t : Ty} {tr : Tr} {ut : Tok} {rl bd : Addr}
   (B : Below A₀ base outer h₀) (F : Fr h₀ L h₁ m) (X : Frag.In (hd.heap_1 w.params) h₀) (Nw : News h₀ L h₁ N) (T : Top p loose mean mg mb h₀) (hk : cs.kind = .function)
   (XB : Frag.In (hd.heap_1 w.params) base) (TB : Top p loose mean mg mb base) (D : KtsDicts (outer.filterMap (·.frame)) h₀) (T0 : KtsTurn (outer.filterMap (·.frame)) g₀ h₀)
   (Wi : WorldIn w.params N wv e.rows) (hRB : RbIn w N rl bd e)
   (R : TyIn N vt t) (hc : t.cl = true) (hdep : t.dep ≤ 4) (hsz : t.size ≤ 12) (hro : ∀ r ∈ e.rows, RowOk r) (hrl : e.rows.length ≤ 100)
   (hdd : dp + 25 * t.size + 90 < recursionLimit) (hu : un + 400 * t.size + 1500 < cLine)
   (ret : ∀ h' tk' h₀', Back A₀ base outer w p loose mean mg mb g₀ h₀' L m N h' → Q (.bool true) ⟨h', g₁, d₁, tk', o₁⟩) :
   wpAny (model PySem.Challenge.pw_nu0382_01 w) (ktrTop dp un gd cn cs L a ccd [] outer) (call (.ref 284) [wv, .ref rl, .ref bd, .str tr.str ut, vt]) Q E ⟨h₁, g₁, d₁, t₁, o₁⟩ := by
  have hRB0 := hRB
  have R0 := R
  obtain ⟨⟨vs9, c9, i1, i2⟩, o9, kvs, i4, i5, i6, i7⟩ := hRB
  refine wpAny_call ?_
  walk_at "mine_enterS"
  have DK := D'
  k_steps
  refine stop_elim ?_
  with_unfolding_all refine' hi_call (e := e) (t := t) ?k1 ?k2 ?k3 ?k4 ?k5 ?k6 (fun u h => lh_all hro hrl u.size u (Nat.le_refl _)) (RbIn.mono ?m1 hRB0) (TyIn.mono ?m2 R0) hc hdep hsz hro hrl ?k8 ?k9 ?_
  walk_at "mine_calm"
  case m1 => walk_at "mine_sub"
  case m2 => walk_at "mine_sub"
  intro h' tk' l vs c tl F' N' hl htl hH
  have mk7 : Mark7 := ⟨⟩
  obtain ⟨a1, n1, k1, r1, rfl, m1⟩ := R.first
  k_steps
  refine stop_elim ?_
  clear mk7
  refine rest_cut (P := ArP g₁ d₁ o₁ wv (.ref rl) (.ref bd) (.str tr.str ut) (.ref a1) fun h h₀' mm => Back (ktrTop dp un gd cn cs L a ccd [] outer) base (envOf cn cs L a ccd :: outer) w p loose mean mg mb g' h₀' L' mm N h) (fun tail => ?_) ?_
  · have mk : Mark9 := ⟨⟩
    k_steps
    refine stop_elim ?_
    clear mk
    refine tst_cutf (by k_asm) (t == .X && e.bs.contains tr) ((l, listOf (List.toArray vs) c) :: (tl ++ N)) ?_ ?_
    · intro Q8 q8
      by_cases ht : t = .X
      · subst ht
        obtain ⟨_, _, _, _, hX9, mX⟩ := R0.X_at
        cases hX9
        clear m1
        rcases i7 with ⟨rfl, i7⟩ | ⟨ba, vb, n, rfl, i8, i9⟩
        · rw [i7] at q8
          k_steps
          exact q8 _ _ (by k_asm) (news_sub (by k_asm) (by walk_at "mine_sub"))
        · rcases hb : e.bs.contains tr with _ | _
          · rw [hb] at q8
            k_steps
            exact q8 _ _ (by k_asm) (news_sub (by k_asm) (by walk_at "mine_sub"))
          · rw [hb] at q8
            k_steps
            exact q8 _ _ (by k_asm) (news_sub (by k_asm) (by walk_at "mine_sub"))
      · have hk : t.kind ≠ Str.ofString "param" := kind_cl ht hc
        rw [show (t == .X) = false by simpa using ht] at q8
        k_steps
        exact q8 _ _ (by k_asm) (news_sub (by k_asm) (by walk_at "mine_sub"))
    intro h tk F₁ N₁
    cases hb : (t == .X && e.bs.contains tr)
    · have nB : ∀ {P : Prop}, (t == .X && e.bs.contains tr) = true → P := fun h => by rw [hb] at h; cases h
      have hlen := hH.len
      generalize hf : e.rows.filter (cand e tr t) = rs at hH hlen
      rcases vs with _ | ⟨v, _ | ⟨v', vs⟩⟩
      · cases hH
        k_steps
        refine stop_elim ?_
        with_unfolding_all refine' lt_call (e := e) (t := t) ?k1 ?k2 ?k3 ?k4 ?k5 ?k6 XB TB DK KtsTurn.refl (Wi.mono ?w1) ?w3 i5 i6 (i7.mono ?w2) (TyIn.mono ?m2 R) hc hdep hsz hro hrl ?k8 ?k9 ?_ ?_ ?_ ?_
        walk_at "mine_calm"
        case w1 => walk_at "mine_sub"
        case w2 => walk_at "mine_sub"
        case m2 => walk_at "mine_sub"
        case w3 => k_mem
        · exact fun h => nB h
        · intro _ _ h' tk' h₀' BK
          obtain ⟨b1, b2, b3, b4, b5, b6, b7⟩ := BK
          have mk8 : Mark8 := ⟨⟩
          k_steps
          exact tail _ ⟨_, _, _, _, rfl, rfl, rfl, rfl, rfl, rfl, ⟨b1, by k_asm, news_sub (by k_asm) (by walk_at "mine_sub"), b4, b5, b6, b7⟩⟩
        · intro _ r hr
          rw [hf] at hr; cases hr
        · intro _ hr
          rw [hf] at hr; exact absurd hr (by simp)
      · cases hH with
        | cons hh hn =>
        cases hn
        obtain @⟨D9, fd9, n9, kn9, o9, f9, r9, h9, h8, h5, h7, h6⟩ := hh
        k_steps
        refine stop_elim ?_
        with_unfolding_all refine' lt_call (e := e) (t := t) ?k1 ?k2 ?k3 ?k4 ?k5 ?k6 XB TB DK KtsTurn.refl (Wi.mono ?w1) ?w3 i5 i6 (i7.mono ?w2) (TyIn.mono ?m2 R) hc hdep hsz hro hrl ?k8 ?k9 ?_ ?_ ?_ ?_
        walk_at "mine_calm"
        case w1 => walk_at "mine_sub"
        case w2 => walk_at "mine_sub"
        case m2 => walk_at "mine_sub"
        case w3 => k_mem
        · exact fun h => nB h
        · intro _ hr
          rw [hf] at hr; cases hr
        · intro _ r hr h' tk' D k1 k2 n fd o' f M h₀' BK hM hfs hfd hfu
          rw [hf] at hr
          cases hr
          obtain ⟨b1, b2, b3, b4, b5, b6, b7⟩ := BK
          have mk8 : Mark8 := ⟨⟩
          k_steps
          refine stop_elim ?_
          refine' ne_impl (by k_asm) List.mem_cons_self (List.mem_cons_of_mem _ (List.mem_cons_of_mem _ (hM _ ?g1))) (List.mem_cons_of_mem _ List.mem_cons_self) (List.mem_cons_of_mem _ (List.mem_cons_of_mem _ (hM _ ?g2))) hfs h5 hfd h7 (by walk_at "mine_units") ?g3 ?g4
          case g1 => k_mem
          case g2 => walk_at "mine_up"
          case g3 =>
            generalize hu9 : Mine.ut _ t = z at hfu h6
            cases z with
            | none => exact .inl ⟨hfu, h6⟩
            | some u =>
              obtain ⟨x, rfl, hx⟩ := hfu
              obtain ⟨y, rfl, hy⟩ := h6
              exact .inr ⟨x, y, u, M, tl ++ N, rfl, rfl, hx, hy, fun p hp => List.mem_cons_of_mem _ (List.mem_cons_of_mem _ hp), fun p hp => List.mem_cons_of_mem _ (List.mem_cons_of_mem _ (hM p (by walk_at "mine_up"))), Nat.le_trans (ut_dep _ _ _ hu9) hdep⟩
          k_steps
          exact tail _ ⟨_, _, _, _, rfl, rfl, rfl, rfl, rfl, rfl, ⟨b1, by k_asm, news_sub (by k_asm) (fun p hp => by have := hM p (by walk_at "mine_up"); walk_at "mine_up"), b4, b5, b6, b7⟩⟩
        · intro _ hr
          rw [hf] at hr; exact absurd hr (by simp)
      · have hn9 : (((v :: v' :: vs).toArray.size : Nat) : Int) < 2 ^ 63 := by
          have := List.length_filter_le (cand e tr t) e.rows
          rw [hf, ← hlen] at this
          simp only [List.size_toArray]; omega
        have hn8 : (1 : Int) < (((v :: v' :: vs).toArray.size : Nat) : Int) := by simp only [List.size_toArray, List.length_cons]; omega
        k_steps
        refine stop_elim ?_
        with_unfolding_all refine' lt_call (e := e) (t := t) ?k1 ?k2 ?k3 ?k4 ?k5 ?k6 XB TB DK KtsTurn.refl (Wi.mono ?w1) ?w3 i5 i6 (i7.mono ?w2) (TyIn.mono ?m2 R) hc hdep hsz hro hrl ?k8 ?k9 ?_ ?_ ?_ ?_
        walk_at "mine_calm"
        case w1 => walk_at "mine_sub"
        case w2 => walk_at "mine_sub"
        case m2 => walk_at "mine_sub"
        case w3 => k_mem
        · exact fun h => nB h
        · intro _ hr
          rw [hf] at hr
          rw [hr] at hlen; cases hlen
        · intro _ r hr
          rw [hf] at hr
          rw [hr] at hlen; cases hlen
        · intro _ hr h' tk' k9 h₀' BK
          obtain ⟨b1, b2, b3, b4, b5, b6, b7⟩ := BK
          have mk8 : Mark8 := ⟨⟩
          k_steps
          exact tail _ ⟨_, _, _, _, rfl, rfl, rfl, rfl, rfl, rfl, ⟨b1, by k_asm, news_sub (by k_asm) (by walk_at "mine_sub"), b4, b5, b6, b7⟩⟩
    · have hX : t = .X := by simpa using (Bool.and_eq_true_iff.mp hb).1
      have mX : ∃ n u u', (a1, tupObj [.str (Str.ofString "param") u, .str (Str.ofString "X") u'] n) ∈ N := by
        clear m1
        subst hX
        cases R0
        exact ⟨_, _, _, by assumption⟩
      obtain ⟨nX, uX, uX', mX⟩ := mX
      clear m1
      k_steps
      refine stop_elim ?_
      with_unfolding_all refine' lt_call (e := e) (t := t) ?k1 ?k2 ?k3 ?k4 ?k5 ?k6 XB TB DK KtsTurn.refl (Wi.mono ?w1) ?w3 i5 i6 (i7.mono ?w2) (TyIn.mono ?m2 R) hc hdep hsz hro hrl ?k8 ?k9 ?_ ?_ ?_ ?_
      walk_at "mine_calm"
      case w1 => walk_at "mine_sub"
      case w2 => walk_at "mine_sub"
      case m2 => walk_at "mine_sub"
      case w3 => k_mem
      · intro _ h' tk' D k1 k2 n h₀' BK
        obtain ⟨b1, b2, b3, b4, b5, b6, b7⟩ := BK
        have mk8 : Mark8 := ⟨⟩
        k_steps
        refine stop_elim ?_
        refine ne_bound (by k_asm) (by k_mem) (by k_mem) (by walk_at "mine_units") ?_
        k_steps
        exact tail _ ⟨_, _, _, _, rfl, rfl, rfl, rfl, rfl, rfl, ⟨b1, by k_asm, news_sub (by k_asm) (by walk_at "mine_sub"), b4, b5, b6, b7⟩⟩
      · intro h; rw [hb] at h; cases h
      · intro h; rw [hb] at h; cases h
      · intro h; rw [hb] at h; cases h
  · rintro _ ⟨h, tk, h₀', mm, rfl, e1, e2, e3, e4, e5, BK⟩
    obtain ⟨b1, b2, b3, b4, b5, b6, b7⟩ := BK
    rw [kn1 e1, kn1 e2, kn1 e3, kn1 e4, kn1 e5] at b2
    k_steps
    refine stop_elim ?_
    with_unfolding_all refine' ho_call (e := e) (t := t) ?k1 ?k2 ?k3 ?k4 ?k5 ?k6 (Wi.mono ?w1) ?w3 i5 i6 (i7.mono ?w2) ?mt (TyIn.mono ?m2 R) hc hdep hsz hro hrl ?k8 ?k9 ?_
    walk_at "mine_calm"
    case w1 => walk_at "mine_sub"
    case w2 => walk_at "mine_sub"
    case m2 => walk_at "mine_sub"
    case w3 => k_mem
    case mt => k_mem
    intro h' tk' F' N'
    k_steps
    refine stop_elim ?_
    with_unfolding_all refine' lh_all hro hrl t.size t (Nat.le_refl _) ?k1 ?k2 ?k3 ?k4 ?k5 ?k6 (RbIn.mono ?m1 hRB0) (TyIn.mono ?m2 R) hc hdep hsz ?k8 ?k9 ?_
    walk_at "mine_calm"
    case m1 => walk_at "mine_sub"
    case m2 => walk_at "mine_sub"
    intro h' tk' F' N'
    k_steps
    rw [beq_self_eq_true]
    exact ret _ _ _ ⟨by assumption, by k_asm, news_sub (by k_asm) (by walk_at "mine_sub"), by assumption, by assumption, by assumption, by assumption⟩
end

-- part RG
-- needs LT
section
variable {prog : Program} {w : World} {A : Around} {E : Value → Shared → Prop} {s : Shared} {env : Env} {h₀ : Heap} {target : Expr} {body : List Stmt} {Q : Flow → Shared → Prop} {m₀ : Str → Option Value} {news : List (Addr × Obj)}
theorem letGo_range {x : Str} {px : Pos} {it : Value} {v : Value} {Q : Unit → Shared → Prop} (h : Q () s) : wpAny (model prog w) A (letOwnedTupleGo (.Name x px) it v) Q E s := wpAny_pure h
theorem it_range {r : Addr} {n : Nat} {z : Int} {t u v : Tok} {x : Str} {px : Pos} (J : Nat → (Str → Option Value) → List (Addr × Obj) → Prop) (hh : A.handled = none) (F : Fr h₀ env.locals s.heap m₀) (N : News h₀ env.locals s.heap news) (hr : IsRange s.heap r 0 z 1 t u v) (hz : z = (n : Int)) (hn : n ≤ 100) (hj : J 0 m₀ news)
    (turn : ∀ i m₁ nx h tk tk1 I o, o.cls = .type "range_iterator" → i < n → J i m₁ nx → (∀ p ∈ nx, p.1 ∉ [I]) → Fr h₀ env.locals h m₁ → News h₀ env.locals h ((I, o) :: nx) →
      wpAny (model prog w) A (assign (.Name x px) env (.int (i : Int) tk1)) (fun _ s₃ => wpAny (model prog w) A (execs body env) (FStep h₀ env.locals (J (i + 1)) [(I, o)] [I] { s with heap := h, toks := tk } Q) E s₃) E { s with heap := h, toks := tk })
    (done : ∀ m₁ nx h tk, J n m₁ nx → Fr h₀ env.locals h m₁ → News h₀ env.locals h nx → Q .next { s with heap := h, toks := tk }) :
    wpAny (model prog w) A (pyIter (.ref r)) (fun it s₂ => TurnsAt prog w A h₀ env (.Name x px) body Q E it s₂) E s := by
  subst hz
  have hsz : Builtin.Range.rangeSize 0 (n : Int) 1 = n := by unfold Builtin.Range.rangeSize; by_cases h : n = 0 <;> simp [h] <;> omega
  refine wpAny_pyIter_range hr (by unfold Builtin.Range.small Builtin.Range.rangeFitsLong; rw [hsz]; simp; omega) ?_
  rw [hsz]
  have W := KTurns.ofWalks (target := .Name x px) (Walks.range (prog := prog) (w := w) hh s.heap.objs.size 0 1 n) fun i v s Q E st q => letGo_range q
  refine ⟨s.heap.objs.size, [s.heap.objs.size], [s.heap.objs.size], n, _, _, _, m₀, news, J, rfl, W, ?_, ?_, ?_, ?_, F.push _, (fun p hp => ⟨Heap.get?_push_of_some _ (N p hp).1, (N p hp).2⟩), hj, ?_, ?_⟩
  · intro hI
    exact absurd F.ns.lt ((List.mem_singleton.mp hI) ▸ Nat.lt_irrefl _)
  · intro b hb
    rw [List.mem_singleton.mp hb]
    exact next_is_new F
  · intro p hp hI
    exact absurd (Heap.lt_size (N p hp).1) ((List.mem_singleton.mp hI) ▸ Nat.lt_irrefl _)
  · show IsRangeIter _ _ _ _ _
    have e := Heap.get?_push_size s.heap (o := { cls := .type "range_iterator", data := .fields #[rawInt 0, rawInt n, rawInt 1] }) rfl
    simpa using e
  · rintro i v m₁ news₁ h₁ tk₁ own hi hP hJ hoff hown hval hall hst F₁ N₁
    obtain ⟨tk1, rfl⟩ := hP
    have hIown : (s.heap.objs.size, _) ∈ own := hall _ (by simp) (next_is_new F) _ hst
    generalize hoI : ({ cls := .type "range_iterator", dict := none, data := _, slots := #[] } : Obj) = oI at hIown
    have hsub : ∀ p ∈ own, p ∈ [(s.heap.objs.size, oI)] := fun p hp => by
      obtain ⟨a, o⟩ := p
      have e1 := hval _ hp
      have h : a = s.heap.objs.size := List.mem_singleton.mp (hown _ hp)
      subst h
      have e2 := hval _ hIown
      have : o = oI := Option.some.inj (e1.symm.trans e2)
      subst this; exact List.mem_cons_self
    have e : (0 : Int) + (i : Int) * 1 = (i : Int) := by omega
    rw [e]
    refine wpAny_mono (turn i m₁ news₁ h₁ tk₁ tk1 s.heap.objs.size oI (hoI ▸ rfl) hi hJ hoff F₁ ?_) (fun _ s₃ h₃ => wpAny_mono h₃ (fun f s₄ h₄ => ?_) fun _ _ e => e) fun _ _ e => e
    · intro p hp
      rcases List.mem_cons.mp hp with rfl | hp
      · exact N₁ _ (List.mem_append_left _ hIown)
      · exact N₁ _ (List.mem_append_right _ hp)
    · exact fstep_v hsub (fun m nx' hj' hw' => ⟨nx', hj', fun p hp => List.mem_append_right _ hp, hw'⟩) h₄
  · rintro h' tk m' news' F' N' hoff hJ
    exact done m' news' h' tk hJ F' N'
/-- what comes back stands upon the old ground where no frame lies above -/
theorem Back.nil {A₀ : Around} {base : Heap} {w : World} {p : Program} {loose : List Str} {mean : ExcName → Option Value} {mg mb : Str → Option Value} {h₀ h₀' : Heap} {L : Addr} {m : Str → Option Value} {N : List (Addr × Obj)} {h : Heap}
    (B : Back A₀ base [] w p loose mean mg mb h₀ h₀' L m N h) : Fr h₀ L h m ∧ News h₀ L h N := by
  obtain ⟨b1, b2, b3, -, -, -, -⟩ := B
  have up : ∀ b o, h₀.get? b = some o → h₀'.get? b = some o := fun b o e => b1.other b o e (fun q => nomatch q)
  refine ⟨⟨b2.ns, fun b o e => b2.keep b o (up b o e), b1.size ▸ b2.above⟩, fun q hq => ⟨(b3 q hq).1, (b3 q hq).2.1, ?_⟩⟩
  cases e : h₀.get? q.1 with
  | none => rfl
  | some o => have := up _ _ e; rw [(b3 q hq).2.2] at this; cases this
end

-- part IR
-- needs LT
theorem Pull.news2 {h₀ h : Heap} {L : Addr} {e e' : Addr × Obj} {l r r' : List (Addr × Obj)} (N : News h₀ L h l) (h1 : Pull e' l r) (h2 : Pull e r r') : News h₀ L h (e :: e' :: r') := news_sub N fun p hp => h1.mem p (by
  rcases List.mem_cons.mp hp with rfl | hp
  · exact List.mem_cons_of_mem _ (h2.mem _ List.mem_cons_self)
  rcases List.mem_cons.mp hp with rfl | hp
  · exact List.mem_cons_self
  · exact List.mem_cons_of_mem _ (h2.mem _ (List.mem_cons_of_mem _ hp)))
/-- a ledger without the row of I -/
noncomputable def offI (I : Addr) (M : List (Addr × Obj)) : List (Addr × Obj) := M.filter fun q => !decide (q.1 = I)
theorem offI_mem {I : Addr} {M : List (Addr × Obj)} {q : Addr × Obj} (h : q ∈ M) (hI : q.1 ≠ I) : q ∈ offI I M := List.mem_filter.mpr ⟨h, by rw [decide_eq_false hI]; rfl⟩
theorem offI_sub {I : Addr} {M : List (Addr × Obj)} : ∀ q ∈ offI I M, q ∈ M := fun _ h => (List.mem_filter.mp h).1
theorem offI_ne {I : Addr} {M : List (Addr × Obj)} : ∀ q ∈ offI I M, q.1 ≠ I := fun q h e => by
  have := (List.mem_filter.mp h).2
  rw [decide_eq_true e] at this; cases this
theorem pull_go {h₀ h : Heap} {L : Addr} {e : Addr × Obj} {l r : List (Addr × Obj)} (N : News h₀ L h l) (hp : Pull e l r) {G : Prop} (k : News h₀ L h (e :: r) → G) : G := k (Pull.news N hp)
section
variable {w : World} {p : Program} {loose : List Str} {mean : ExcName → Option Value} {mg mb : Str → Option Value}
   {dp un : Nat} {gd : Option (List Code)} {cn : Str} {cs : Scope} {a : Addr} {ccd : Value} {cl : List (Str × Addr)} {outer : List Env} {A₀ : Around} {base h₀ : Heap} {L : Addr} {m : Str → Option Value} {N : List (Addr × Obj)} {g : Array GenState} {d : Drawn} {os : OsState} {h : Heap} {t : Nat} {Q E : Value → Shared → Prop}
set_option maxHeartbeats 4000000 in
theorem ir_call {v1 v2 v3 v4 v5 v6 v7 : Value}
   (B : Below A₀ base outer h₀) (F : Fr h₀ L h m) (X : Frag.In (hd.heap_1 w.params) h₀) (Nw : News h₀ L h N) (T : Top p loose mean mg mb h₀) (hk : cs.kind = .function)
   (hdd : dp + 20 < recursionLimit) (hu : un + 300 < cLine)
   (ret : ∀ h' tk' x dx k1 k2 k3 k4 k5 k6 k7 k8 v8 n, Fr h₀ L h' m → News h₀ L h' ((x, instObj 185 dx) :: (dx, dictOf [ent w.params "number" k1 v1, ent w.params "regions" k2 v2, ent w.params "params" k3 v3, ent w.params "trait" k4 v4, ent w.params "trait_args" k5 v5, ent w.params "self_type" k6 v6, ent w.params "methods" k7 v7, ent w.params "spot" k8 v8] n) :: N) →
      (∀ q ∈ N, q.1 < dx) → dx < x → Q (.ref x) ⟨h', g, d, tk', os⟩) :
   wpAny (model PySem.Challenge.pw_nu0382_01 w) (ktrTop dp un gd cn cs L a ccd cl outer) (call (.ref 185) [v1, v2, v3, v4, v5, v6, v7]) Q E ⟨h, g, d, t, os⟩ := by
  walk_at "mine_cls"
  k_steps
  generalize Value.int 0 444 = v8
  k_dflt (refine' set_dict ?k1 ?k2 ?k3 ?k4 ?k5 ?k6 ?k7 ?k8 ?k9 ?k10 ?k11 ?k12 ?k13 ?_; (case k1 => k_asm); (case k2 => k_asm); (case k3 => k_asm); (case k4 => k_inst); (case k5 => exact rfl); (case k6 => k_is); (case k7 => k_is); (case k8 => k_is); (case k9 => k_is))
  case k10 => k_dflt k_get
  case k11 => k_dflt k_put
  case k12 => k_dflt k_upd
  case k13 => exact Nat.le_of_ble_eq_true rfl
  intro h' F' N'
  k_steps
  exact ret _ _ _ _ _ _ _ _ _ _ _ _ v8 _ (by k_asm) (by k_asm) (by assumption) (by assumption)
theorem wo_new
   (B : Below A₀ base outer h₀) (F : Fr h₀ L h m) (X : Frag.In (hd.heap_1 w.params) h₀) (Nw : News h₀ L h N) (T : Top p loose mean mg mb h₀) (hk : cs.kind = .function)
   (hdd : dp + 20 < recursionLimit) (hu : un + 300 < cLine)
   (ret : ∀ h' tk' x dx k1 k2 k3 k4 k5 k6 k7 k8 v1 v2 v3 v4 v5 v6 v7 v8 n M, (x, instObj 214 dx) ∈ M → Fr h₀ L h' m → News h₀ L h' ((dx, dictOf [ent w.params "modules" k1 v1, ent w.params "adts" k2 v2, ent w.params "variants" k3 v3, ent w.params "sigs" k4 v4, ent w.params "traits" k5 v5, ent w.params "impls" k6 v6, ent w.params "consts" k7 v7, ent w.params "bodies" k8 v8] n) :: M) →
      (∀ q ∈ N, q ∈ M) → (∀ q ∈ M, q.1 ≠ dx) → (∀ q ∈ N, q.1 < dx) → (∀ q ∈ N, q.1 < x) → (∀ q ∈ M, q ∈ N ∨ ∀ r ∈ N, r.1 < q.1) → Q (.ref x) ⟨h', g, d, tk', os⟩) :
   wpAny (model PySem.Challenge.pw_nu0382_01 w) (ktrTop dp un gd cn cs L a ccd cl outer) (call (.ref 214) [.none]) Q E ⟨h, g, d, t, os⟩ := by
  walk_at "mine_cls"
  k_steps
  rename (∀ q ∈ N, q.1 < _) => la
  rename LT.lt (α := Addr) _ _ => lb
  have lc := fun r hr => Nat.lt_trans (la r hr) lb
  rename News _ _ _ _ => N9
  rename Fr _ _ _ _ => F9
  refine' pull_go (e := (_, dictOf _ _)) N9 ?p1 fun N9 => ?_
  case p1 => repeat (first | exact Pull.head | apply Pull.tail)
  refine' ret _ _ _ _ _ _ _ _ _ _ _ _ _ _ _ _ _ _ _ _ _ _ ?m1 F9 N9 ?m5 ?m6 la lc ?m8
  case m1 => k_mem
  case m5 => walk_at "mine_sub"
  case m6 => k_all
  case m8 =>
    repeat (refine List.forall_mem_cons.mpr ⟨.inr (ktn_ltOf (by first | exact And.right (by assumption) | exact And.right (And.right (by assumption)) | exact And.right (And.right (And.right (by assumption))) | exact And.right (And.right (And.right (And.right (by assumption)))) | exact And.right (And.right (And.right (And.right (And.right (by assumption))))) | exact And.right (And.right (And.right (And.right (And.right (And.right (by assumption)))))) | exact And.right (And.right (And.right (And.right (And.right (And.right (And.right (by assumption))))))) | exact And.right (And.right (And.right (And.right (And.right (And.right (And.right (And.right (by assumption)))))))) | exact And.right (And.right (And.right (And.right (And.right (And.right (And.right (And.right (And.right (by assumption))))))))))), ?_⟩)
    exact List.forall_mem_cons.mpr ⟨.inr lc, fun q hq => .inl hq⟩
theorem wo_call {sa : Addr} {osa : Obj}
   (B : Below A₀ base outer h₀) (F : Fr h₀ L h m) (X : Frag.In (hd.heap_1 w.params) h₀) (Nw : News h₀ L h ((sa, osa) :: N)) (T : Top p loose mean mg mb h₀) (hk : cs.kind = .function)
   (off : ∀ q ∈ N, q.1 ≠ sa) (hdd : dp + 20 < recursionLimit) (hu : un + 300 < cLine)
   (ret : ∀ h' tk' x dx k1 k2 k3 k4 k5 k6 k7 k8 v1 v2 v3 v4 v5 v6 v7 v8 n M, (x, instObj 214 dx) ∈ M → Fr h₀ L h' m → News h₀ L h' ((dx, dictOf [ent w.params "modules" k1 v1, ent w.params "adts" k2 v2, ent w.params "variants" k3 v3, ent w.params "sigs" k4 v4, ent w.params "traits" k5 v5, ent w.params "impls" k6 v6, ent w.params "consts" k7 v7, ent w.params "bodies" k8 v8] n) :: (sa, osa) :: M) →
      (∀ q ∈ N, q ∈ M) → (∀ q ∈ M, q.1 ≠ dx) → (∀ q ∈ M, q.1 ≠ sa) → sa ≠ dx → Q (.ref x) ⟨h', g, d, tk', os⟩) :
   wpAny (model PySem.Challenge.pw_nu0382_01 w) (ktrTop dp un gd cn cs L a ccd cl outer) (call (.ref 214) [.none]) Q E ⟨h, g, d, t, os⟩ :=
  wo_new B F X Nw T hk hdd hu fun h' tk' x dx k1 k2 k3 k4 k5 k6 k7 k8 v1 v2 v3 v4 v5 v6 v7 v8 n M hx F' N' sub hM lt1 lt2 _ =>
    ret h' tk' x dx k1 k2 k3 k4 k5 k6 k7 k8 v1 v2 v3 v4 v5 v6 v7 v8 n (offI sa M) (offI_mem hx (Nat.ne_of_gt (lt2 _ List.mem_cons_self))) F'
      (news_sub N' (List.forall_mem_cons.mpr ⟨List.mem_cons_self, List.forall_mem_cons.mpr ⟨List.mem_cons_of_mem _ (sub _ List.mem_cons_self), fun q hq => List.mem_cons_of_mem _ (offI_sub q hq)⟩⟩))
      (fun q hq => offI_mem (sub q (List.mem_cons_of_mem _ hq)) (off q hq)) (fun q hq => hM q (offI_sub q hq)) offI_ne (Nat.ne_of_lt (lt1 _ List.mem_cons_self))
theorem wi_set {wa dw : Addr} {v z1 z2 z3 z4 z5 z6 z7 z8 : Value} {w1 w2 w3 w4 w5 w6 w7 w8 : Tok} {n : Nat} {A : Around} {Q : Unit → Shared → Prop}
   (F : Fr h₀ L h m) (X : Frag.In (hd.heap_1 w.params) h₀) (Nw : News h₀ L h ((dw, dictOf [ent w.params "modules" w1 z1, ent w.params "adts" w2 z2, ent w.params "variants" w3 z3, ent w.params "sigs" w4 z4, ent w.params "traits" w5 z5, ent w.params "impls" w6 z6, ent w.params "consts" w7 z7, ent w.params "bodies" w8 z8] n) :: N))
   (hwa : (wa, instObj 214 dw) ∈ N) (off : ∀ q ∈ N, q.1 ≠ dw)
   (ret : ∀ h' tk', Fr h₀ L h' m → News h₀ L h' ((dw, dictOf [ent w.params "modules" w1 z1, ent w.params "adts" w2 z2, ent w.params "variants" w3 z3, ent w.params "sigs" w4 z4, ent w.params "traits" w5 z5, ent w.params "impls" w6 v, ent w.params "consts" w7 z7, ent w.params "bodies" w8 z8] n) :: N) → Q () ⟨h', g, d, tk', os⟩) :
   wpAny (model PySem.Challenge.pw_nu0382_01 w) A (setAttr (.ref wa) (Str.ofString "impls") v) Q E ⟨h, g, d, t, os⟩ := by
  k_dflt (refine' set_dict (es' := [ent w.params "modules" w1 z1, ent w.params "adts" w2 z2, ent w.params "variants" w3 z3, ent w.params "sigs" w4 z4, ent w.params "traits" w5 z5, ent w.params "impls" w6 v, ent w.params "consts" w7 z7, ent w.params "bodies" w8 z8]) (n' := n) ?k1 ?k2 ?k3 ?k4 ?k5 ?k6 ?k7 ?k8 ?k9 ?k10 ?k11 ?k12 ?k13 ?_; (case k1 => k_asm); (case k2 => k_asm); (case k3 => k_asm); (case k4 => k_inst); (case k5 => exact rfl); (case k6 => k_is); (case k7 => k_is); (case k8 => k_is); (case k9 => k_is))
  case k10 => k_dflt k_get
  case k11 => first | rfl | with_unfolding_all rfl | kernel_rfl
  case k12 => k_dflt k_upd
  case k13 => exact Nat.le_of_ble_eq_true rfl
  intro h' F' N'
  exact ret _ _ F' N'
end

-- part TK
-- needs LT
section
variable {w : World} {p : Program} {loose : List Str} {mean : ExcName → Option Value} {mg mb : Str → Option Value}
   {dp un : Nat} {gd : Option (List Code)} {cn : Str} {cs : Scope} {a : Addr} {ccd : Value} {cl : List (Str × Addr)} {outer : List Env} {A₀ : Around} {base h₀ : Heap} {L : Addr} {m : Str → Option Value} {N : List (Addr × Obj)} {g : Array GenState} {d : Drawn} {os : OsState} {h : Heap} {t : Nat} {Q E : Value → Shared → Prop}
set_option maxHeartbeats 4000000 in
theorem tk_call {sa : Addr} {x y top : Int} {k1 k2 kt : Tok} {c : Nat}
   (B : Below A₀ base outer h₀) (F : Fr h₀ L h m) (X : Frag.In (hd.heap_1 w.params) h₀) (Nw : News h₀ L h ((sa, listOf #[.int x k1, .int y k2] c) :: N)) (T : Top p loose mean mg mb h₀) (hk : cs.kind = .function)
   (off : ∀ q ∈ N, q.1 ≠ sa) (hx : 0 ≤ x) (hy0 : 0 ≤ y) (hy : y < 2147483647) (ht0 : 0 < top) (ht : top ≤ 100)
   (hdd : dp + 20 < recursionLimit) (hu : un + 300 < cLine)
   (ret : ∀ h' tk' r kr x' y' k1' k2' c', 0 ≤ r → r < top → 0 ≤ x' → 0 ≤ y' → y' < 2147483647 → Fr h₀ L h' m → News h₀ L h' ((sa, listOf #[.int x' k1', .int y' k2'] c') :: N) → Q (.int r kr) ⟨h', g, d, tk', os⟩) :
   wpAny (model PySem.Challenge.pw_nu0382_01 w) (ktrTop dp un gd cn cs L a ccd cl outer) (call (.ref 232) [.ref sa, .int top kt]) Q E ⟨h, g, d, t, os⟩ := by
  by_cases hx0 : 0 < x
  · have h9 : decide (0 < [x, y].getD (Int.toNat 0) 0) = true := decide_eq_true hx0
    refine wpAny_call ?_
    walk_at "mine_enter"
    k_steps
    exact ret _ _ _ _ _ _ _ _ _ (Int.fmod_nonneg_of_pos _ ht0) (Int.fmod_lt_of_pos _ ht0) (Int.fdiv_nonneg (Int.le_of_lt hx0) (Int.le_of_lt ht0)) hy0 hy (by k_asm) (news_sub (by k_asm) (by walk_at "mine_sub"))
  · have h9 : ¬ decide (0 < [x, y].getD (Int.toNat 0) 0) = true := fun e => hx0 (of_decide_eq_true e)
    refine wpAny_call ?_
    walk_at "mine_enter"
    k_steps
    exact ret _ _ _ _ _ _ _ _ _ (Int.fmod_nonneg_of_pos _ ht0) (Int.fmod_lt_of_pos _ ht0) hx (Int.fmod_nonneg_of_pos _ (by decide)) (Int.fmod_lt_of_pos _ (by decide)) (by k_asm) (news_sub (by k_asm) (by walk_at "mine_sub"))
end

-- part ON
theorem words_ON : True := by
  k_with "call ref" => ((with_reducible show wpAny _ _ (call (Value.ref 232) [_, _]) _ _ _); refine stop_intro ?_)
  k_with "subscriptTail Name Call ref int" => (first | (k_here; (with_reducible show wpAny _ _ (subscriptTail _ _ (Value.ref _) (Value.int _ _)) _ _ _); k_dflt (with_unfolding_all refine' item_list ?k1 ?k2 ?k3 ?k4 ?k5 ?_; (case k1 => k_asm); (case k2 => k_mem); (case k3 => assumption); (case k4 => assumption); (case k5 => assumption); k_whole)) | fail "no")
  trivial
-- needs TK
section
variable {w : World} {p : Program} {loose : List Str} {mean : ExcName → Option Value} {mg mb : Str → Option Value}
   {dp un : Nat} {gd : Option (List Code)} {cn : Str} {cs : Scope} {a : Addr} {ccd : Value} {cl : List (Str × Addr)} {outer : List Env} {A₀ : Around} {base h₀ : Heap} {L : Addr} {m : Str → Option Value} {N : List (Addr × Obj)} {g : Array GenState} {d : Drawn} {os : OsState} {h : Heap} {t : Nat} {Q E : Value → Shared → Prop}
set_option maxHeartbeats 4000000 in
theorem on_call {sa la : Addr} {x y : Int} {k1 k2 : Tok} {c c2 : Nat} {vs : List Value}
   (B : Below A₀ base outer h₀) (F : Fr h₀ L h m) (X : Frag.In (hd.heap_1 w.params) h₀) (Nw : News h₀ L h ((sa, listOf #[.int x k1, .int y k2] c) :: N)) (T : Top p loose mean mg mb h₀) (hk : cs.kind = .function)
   (off : ∀ q ∈ N, q.1 ≠ sa) (hx : 0 ≤ x) (hy0 : 0 ≤ y) (hy : y < 2147483647) (hl : (la, listOf vs.toArray c2) ∈ N) (hv0 : 0 < vs.length) (hv : vs.length ≤ 100)
   (hdd : dp + 30 < recursionLimit) (hu : un + 600 < cLine)
   (ret : ∀ h' tk' (i : Nat) (v : Value) x' y' k1' k2' c', vs[i]? = some v → 0 ≤ x' → 0 ≤ y' → y' < 2147483647 → Fr h₀ L h' m → News h₀ L h' ((sa, listOf #[.int x' k1', .int y' k2'] c') :: N) → Q v ⟨h', g, d, tk', os⟩) :
   wpAny (model PySem.Challenge.pw_nu0382_01 w) (ktrTop dp un gd cn cs L a ccd cl outer) (call (.ref 239) [.ref sa, .ref la]) Q E ⟨h, g, d, t, os⟩ := by
  refine wpAny_call ?_
  walk_at "mine_enter"
  have hn9 : (((vs.toArray.size : Nat) : Int)) < 2 ^ 63 := by simp only [List.size_toArray]; omega
  k_steps
  refine stop_elim ?_
  with_unfolding_all refine' tk_call ?k1 ?k2 ?k3 ?k4 ?k5 ?k6 off hx hy0 hy (by simp only [List.size_toArray]; omega) (by simp only [List.size_toArray]; omega) ?k8 ?k9 ?_
  walk_at "mine_calm"
  intro h' tk' r kr x' y' k1' k2' c' hr0 hr1 hx' hy0' hy' F' N'
  have hi : r.toNat < vs.length := by simp only [List.size_toArray] at hr1; omega
  have hg : vs[r.toNat]? = some vs[r.toNat] := List.getElem?_eq_getElem hi
  have hr2 : r < 2 ^ 63 := by simp only [List.size_toArray] at hr1; omega
  generalize vs[r.toNat] = v9 at hg
  k_steps
  exact ret _ _ _ _ _ _ _ _ _ hg hx' hy0' hy' (by k_asm) (news_sub (by k_asm) (by walk_at "mine_sub"))
end

-- part PL
-- needs LT
theorem pl_x (c : Int) (b : Prop) [Decidable b] : 0 ≤ (if -1 - c > c then -1 - c else c) * if b then 1 else 0 := by
  refine Int.mul_nonneg ?_ ?_ <;> split <;> omega
theorem pl_y (c : Int) : 0 ≤ c.fmod 2147483647 := Int.fmod_nonneg_of_pos _ (by decide)
theorem pl_z (c : Int) : c.fmod 2147483647 < 2147483647 := Int.fmod_lt_of_pos _ (by decide)
section
variable {w : World} {p : Program} {loose : List Str} {mean : ExcName → Option Value} {mg mb : Str → Option Value}
   {dp un : Nat} {gd : Option (List Code)} {cn : Str} {cs : Scope} {a : Addr} {ccd : Value} {cl : List (Str × Addr)} {outer : List Env} {A₀ : Around} {base h₀ : Heap} {L : Addr} {m : Str → Option Value} {N : List (Addr × Obj)} {g : Array GenState} {d : Drawn} {os : OsState} {h : Heap} {t : Nat} {Q E : Value → Shared → Prop}
set_option maxHeartbeats 4000000 in
theorem pl_call {sc : Addr} {vs : List Value} {ns : List Int} {k : Int} {kt : Tok}
   (B : Below A₀ base outer h₀) (F : Fr h₀ L h m) (X : Frag.In (hd.heap_1 w.params) h₀) (Nw : News h₀ L h N) (T : Top p loose mean mg mb h₀) (hk : cs.kind = .function)
   (hL : h₀.IsList sc vs.toArray) (hI : IntsAre vs ns) (hl : ns.length ≤ 63) (hk0 : 0 ≤ k) (hk1 : k ≤ 2)
   (hdd : dp + 20 < recursionLimit) (hu : un + 300 < cLine)
   (ret : ∀ h' tk' sa x y k1 k2 c, 0 ≤ x → 0 ≤ y → y < 2147483647 → Fr h₀ L h' m → News h₀ L h' ((sa, listOf #[.int x k1, .int y k2] c) :: N) → (∀ q ∈ N, q.1 ≠ sa) → Q (.ref sa) ⟨h', g, d, tk', os⟩) :
   wpAny (model PySem.Challenge.pw_nu0382_01 w) (ktrTop dp un gd cn cs L a ccd cl outer) (call (.ref 225) [.ref sc, .int k kt]) Q E ⟨h, g, d, t, os⟩ := by
  by_cases hx0 : k < ns.length
  · have h9 : decide (k < (ns.length : Int)) = true := decide_eq_true hx0
    refine wpAny_call ?_
    walk_at "mine_enter"
    replace hL := hL.at fun o e => FG'.keep _ _ e
    k_steps
    exact ret _ _ _ _ _ _ _ _ (pl_x _ _) (pl_y _) (pl_z _) (by k_asm) (by k_asm) (fun q hq => Nat.ne_of_lt ((by assumption : ∀ p ∈ N, p.1 < _) q hq))
  · have h9 : ¬ decide (k < (ns.length : Int)) = true := fun e => hx0 (of_decide_eq_true e)
    refine wpAny_call ?_
    walk_at "mine_enter"
    replace hL := hL.at fun o e => FG'.keep _ _ e
    k_steps
    exact ret _ _ _ _ _ _ _ _ (pl_x _ _) (pl_y _) (pl_z _) (by k_asm) (by k_asm) (fun q hq => Nat.ne_of_lt ((by assumption : ∀ p ∈ N, p.1 < _) q hq))
end

-- part MK
theorem words_MK : True := by
  k_with "mk" => (first | with_reducible exact mk_int | with_reducible exact mk_bool1 | with_reducible exact mk_S | with_reducible exact mk_T | with_reducible exact mk_X | ((with_reducible show MkT _ _ _ _ _ _ _ (Expr.Name _ _) _); refine' mk_name ?kq_v ?kq_r ?kq_k; (case kq_k => exact rfl); (case kq_v => exact rfl); (case kq_r => first | exact TyIn.T (by k_mem) | assumption | (refine' TyIn.mono ?kq_z ?kq_y; (case kq_y => assumption); (case kq_z => k_extra "mine_sub")))) | ((with_reducible refine' mk_box ?kq_a ?kq_s); (case kq_s => exact fun _ _ => rfl); (case kq_a => k_extra "mk")) | ((with_reducible refine' mk_ref ?kq_a ?kq_s); (case kq_s => exact fun _ _ => rfl); (case kq_a => k_extra "mk")) | ((with_reducible refine' mk_W ?kq_a ?kq_s); (case kq_s => exact fun _ _ => rfl); (case kq_a => k_extra "mk")) | ((with_reducible refine' mk_tup ?kq_a ?kq_s ?kq_c ?kq_u); (case kq_s => exact fun _ _ => rfl); (case kq_u => exact fun _ _ => rfl); (case kq_a => k_extra "mk"); (case kq_c => k_extra "mk")) | fail "no")
  k_with "mks" => (first | exact mkt_nil | (refine' mkt_cons ?kq_a ?kq_b ?kq_s; (case kq_s => exact fun _ => rfl); (case kq_a => k_extra "mk"); (case kq_b => k_extra "mks")) | fail "no")
  k_with "eval List" => ((first | (with_reducible show wpAny _ _ (eval (Expr.List (Expr.Tuple (Expr.Constant (Const.str _) _ _ :: Expr.Constant (Const.str _) _ _ :: _) _ _ :: _) _) _) _ _ _) | (with_reducible show wpAny _ _ (eval (Expr.List (Expr.Tuple [Expr.Constant (Const.str _) _ _, Expr.Name _ _] _ _ :: _) _) _) _ _ _)); refine stop_intro ?_)
  trivial
-- needs LT
inductive TsIn (N : List (Addr × Obj)) : List Value → List Ty → Prop
  | nil : TsIn N [] []
  | cons {v : Value} {t : Ty} {vs : List Value} {ts : List Ty} : TyIn N v t → TsIn N vs ts → TsIn N (v :: vs) (t :: ts)
theorem TsIn.len {N : List (Addr × Obj)} {vs : List Value} {ts : List Ty} (h : TsIn N vs ts) : vs.length = ts.length := by
  induction h with
  | nil => rfl
  | cons _ _ ih => exact congrArg Nat.succ ih
theorem TsIn.pick {N : List (Addr × Obj)} {vs : List Value} {ts : List Ty} (h : TsIn N vs ts) {i : Nat} {v : Value} (hi : vs[i]? = some v) {G : Prop} (k : ∀ ty, ty ∈ ts → TyIn N v ty → G) : G := by
  induction h generalizing i with
  | nil => cases hi
  | cons a _ ih =>
    induction i using Nat.casesOn with
    | zero => cases hi; exact k _ List.mem_cons_self a
    | succ i => exact ih (i := i) hi fun ty h => k ty (List.mem_cons_of_mem _ h)
theorem TsIn.mono {N N' : List (Addr × Obj)} (hs : ∀ p ∈ N, p ∈ N') {vs : List Value} {ts : List Ty} (h : TsIn N vs ts) : TsIn N' vs ts := by
  induction h with
  | nil => exact .nil
  | cons a _ ih => exact .cons (a.mono hs) ih
section
variable {w : World} {A : Around} {env : Env} {h₀ : Heap} {L : Addr} {m : Str → Option Value} {N : List (Addr × Obj)}
noncomputable abbrev VP : Type := Value → List (Addr × Obj) → Prop
noncomputable abbrev LP : Type := List Value → List (Addr × Obj) → Prop
/-- e makes a value of the kind R; what it lays down lies behind all that N tells of -/
structure Mk (w : World) (A : Around) (env : Env) (h₀ : Heap) (L : Addr) (m : Str → Option Value) (N : List (Addr × Obj)) (e : Expr) (R : VP) : Prop where
  mono : ∀ v M M', (∀ p ∈ M, p ∈ M') → R v M → R v M'
  go : ∀ (tl : List (Addr × Obj)) (s : Shared) (Q E : Value → Shared → Prop), Fr h₀ L s.heap m → News h₀ L s.heap (tl ++ N) → Lts N tl →
    (∀ h' tk v tl', (∀ p ∈ tl ++ N, p ∈ tl' ++ N) → Fr h₀ L h' m → News h₀ L h' (tl' ++ N) → Lts N tl' → R v (tl' ++ N) → Q v { s with heap := h', toks := tk }) → wpAny (model PySem.Challenge.pw_nu0382_01 w) A (eval e env) Q E s
structure MkL (w : World) (A : Around) (env : Env) (h₀ : Heap) (L : Addr) (m : Str → Option Value) (N : List (Addr × Obj)) (es : List Expr) (R : LP) : Prop where
  mono : ∀ v M M', (∀ p ∈ M, p ∈ M') → R v M → R v M'
  go : ∀ (tl : List (Addr × Obj)) (s : Shared) (pos : Pos) (Q : List Value → Shared → Prop) (E : Value → Shared → Prop), Fr h₀ L s.heap m → News h₀ L s.heap (tl ++ N) → Lts N tl →
    (∀ h' tk v tl', (∀ p ∈ tl ++ N, p ∈ tl' ++ N) → Fr h₀ L h' m → News h₀ L h' (tl' ++ N) → Lts N tl' → R v (tl' ++ N) → Q v { s with heap := h', toks := tk }) → wpAny (model PySem.Challenge.pw_nu0382_01 w) A (spliced (backTo pos (starEach es env))) Q E s
theorem Mk.imp {e : Expr} {R R' : VP} (h : Mk w A env h₀ L m N e R) (mono : ∀ v M M', (∀ p ∈ M, p ∈ M') → R' v M → R' v M') (hi : ∀ v M, R v M → R' v M) : Mk w A env h₀ L m N e R' :=
  ⟨mono, fun tl s Q E F Nw hl q => h.go tl s Q E F Nw hl fun h' tk v tl' a b c d r => q h' tk v tl' a b c d (hi _ _ r)⟩
theorem mk_str {x : Str} {k : Nat} {pos : Pos} : Mk w A env h₀ L m N (.Constant (.str x) k pos) fun v _ => ∃ t, v = .str x t :=
  ⟨fun _ _ _ _ h => h, fun tl s _ _ F Nw hl q => Constant_str (q _ _ _ tl (fun _ h => h) F Nw hl ⟨_, rfl⟩)⟩
theorem mk_none {k : Nat} {pos : Pos} : Mk w A env h₀ L m N (.Constant .none k pos) fun v _ => v = .none :=
  ⟨fun _ _ _ _ h => h, fun tl s _ _ F Nw hl q => wpAny_Constant_none (q _ s.toks _ tl (fun _ h => h) F Nw hl rfl)⟩
theorem mk_bool {b : Bool} {k : Nat} {pos : Pos} : Mk w A env h₀ L m N (.Constant (.bool b) k pos) fun v _ => v = .bool b :=
  ⟨fun _ _ _ _ h => h, fun tl s _ _ F Nw hl q => wpAny_Constant_bool (q _ s.toks _ tl (fun _ h => h) F Nw hl rfl)⟩
theorem mkl_nil : MkL w A env h₀ L m N [] fun vs _ => vs = [] :=
  ⟨fun _ _ _ _ h => h, fun tl s _ _ _ F Nw hl q => args_nil (q _ s.toks _ tl (fun _ h => h) F Nw hl rfl)⟩
inductive Cs (R : VP) (RL : LP) (vs : List Value) (M : List (Addr × Obj)) : Prop
  | mk (v : Value) (r : List Value) : vs = v :: r → R v M → RL r M → Cs R RL vs M
theorem mkl_cons {e : Expr} {es : List Expr} {R : VP} {RL : LP} (h1 : Mk w A env h₀ L m N e R) (h2 : MkL w A env h₀ L m N es RL) (he : ∀ env', starEach (e :: es) env' = (false, eval e env') :: starEach es env') : MkL w A env h₀ L m N (e :: es) (Cs R RL) :=
  ⟨fun _ M M' s ⟨v, r, e, a, b⟩ => ⟨v, r, e, h1.mono _ _ _ s a, h2.mono _ _ _ s b⟩, fun tl s pos Q E F Nw hl q => args_cons (h1.go tl s _ _ F Nw hl fun h' tk v tl' a b c d r =>
    h2.go tl' _ pos _ _ b c d fun h'' tk' vs tl'' a' b' c' d' r' => q h'' tk' (v :: vs) tl'' (fun p hp => a' p (a p hp)) b' c' d' ⟨v, vs, rfl, h1.mono _ _ _ a' r, r'⟩) (he env)⟩
inductive Tp (RL : LP) (v : Value) (M : List (Addr × Obj)) : Prop
  | mk (D : Addr) (vs : List Value) (n : Nat) : v = .ref D → (D, tupObj vs n) ∈ M → RL vs M → Tp RL v M
inductive Lp (RL : LP) (v : Value) (M : List (Addr × Obj)) : Prop
  | mk (D : Addr) (vs : List Value) (n : Nat) : v = .ref D → (D, listOf (List.toArray vs) n) ∈ M → RL vs M → Lp RL v M
theorem mk_sub {N tl : List (Addr × Obj)} {x : Addr × Obj} : ∀ p ∈ tl ++ N, p ∈ x :: tl ++ N := fun _ h => List.mem_cons_of_mem _ h
theorem lts_new {N tl : List (Addr × Obj)} {D : Addr} {o : Obj} (hl : Lts N tl) (h : ∀ p ∈ tl ++ N, p.1 < D) : Lts N ((D, o) :: tl) := fun q hq p hp => (List.mem_cons.mp hp).elim (fun e => e ▸ h q (List.mem_append_right _ hq)) (hl q hq p)
theorem mk_tuple {es : List Expr} {k : Nat} {pos : Pos} {RL : LP} (h : MkL w A env h₀ L m N es RL) (hz : ∀ vs M, RL vs M → vs.length ≤ sizeLine) : Mk w A env h₀ L m N (.Tuple es k pos) (Tp RL) :=
  ⟨fun _ M M' s ⟨D, vs, n, e, a, b⟩ => ⟨D, vs, n, e, s _ a, h.mono _ _ _ s b⟩, fun tl s Q E F Nw hl q => Tuple_ (h.go tl s pos _ _ F Nw hl fun h' tk vs tl' a b c d r =>
    kup_newTuple b c (fun D h'' F' N' lt => q h'' tk (.ref D) ((D, tupObj vs 0) :: tl') (fun p hp => mk_sub p (a p hp)) F' N' (lts_new d lt) ⟨D, vs, 0, rfl, List.mem_cons_self, h.mono _ _ _ mk_sub r⟩) (hz _ _ r))⟩
theorem mk_list {es : List Expr} {pos : Pos} {RL : LP} (h : MkL w A env h₀ L m N es RL) (hz : ∀ vs M, RL vs M → vs.length ≤ sizeLine) : Mk w A env h₀ L m N (.List es pos) (Lp RL) :=
  ⟨fun _ M M' s ⟨D, vs, n, e, a, b⟩ => ⟨D, vs, n, e, s _ a, h.mono _ _ _ s b⟩, fun tl s Q E F Nw hl q => List_ (h.go tl s pos _ _ F Nw hl fun h' tk vs tl' a b c d r =>
    newList_K b c (fun D h'' F' N' lt => q h'' tk (.ref D) ((D, listOf (List.toArray vs) 0) :: tl') (fun p hp => mk_sub p (a p hp)) F' N' (lts_new d lt) ⟨D, vs, 0, rfl, List.mem_cons_self, h.mono _ _ _ mk_sub r⟩) (hz _ _ r))⟩
/-- the expression makes the type t -/
noncomputable abbrev MkT (w : World) (A : Around) (env : Env) (h₀ : Heap) (L : Addr) (m : Str → Option Value) (N : List (Addr × Obj)) (e : Expr) (t : Ty) : Prop := Mk w A env h₀ L m N e fun v M => TyIn M v t
theorem ty_mono {t : Ty} : ∀ v M M', (∀ p ∈ M, p ∈ M') → TyIn M v t → TyIn M' v t := fun _ _ _ s h => h.mono s
noncomputable abbrev cst (x : String) (k : Nat) (p : Pos) : Expr := .Constant (.str (Str.ofString x)) k p
theorem cs_len {R : VP} {RL : LP} {n : Nat} (h : ∀ vs M, RL vs M → vs.length = n) : ∀ vs M, Cs R RL vs M → vs.length = n + 1 := fun _ M ⟨_, r, e, _, b⟩ => by rw [e, List.length_cons, h r M b]
theorem nil_len : ∀ (vs : List Value) (M : List (Addr × Obj)), (fun vs _ => vs = [] : LP) vs M → vs.length = 0 := fun _ _ h => by rw [h]; rfl
theorem len_ok {RL : LP} {n : Nat} (h : ∀ vs M, RL vs M → vs.length = n) (hn : n ≤ 100000) : ∀ vs M, RL vs M → vs.length ≤ sizeLine := fun vs M r => by rw [h vs M r]; exact Nat.le_trans hn sizeLine_ge
theorem mk_t2 {x y : String} {k k1 k2 : Nat} {p p1 p2 : Pos} : Mk w A env h₀ L m N (.Tuple [cst x k1 p1, cst y k2 p2] k p) fun v M => ∃ D n t u, v = .ref D ∧ (D, tupObj [.str (Str.ofString x) t, .str (Str.ofString y) u] n) ∈ M :=
  (mk_tuple (mkl_cons mk_str (mkl_cons mk_str mkl_nil fun _ => rfl) fun _ => rfl) (len_ok (cs_len (cs_len nil_len)) (Nat.le_of_ble_eq_true rfl))).imp (fun _ _ _ s ⟨D, n, t, u, e, h⟩ => ⟨D, n, t, u, e, s _ h⟩)
    fun _ _ ⟨D, _, n, e, h, ⟨_, _, e1, ⟨t, e2⟩, ⟨_, _, e3, ⟨u, e4⟩, e5⟩⟩⟩ => ⟨D, n, t, u, e, by rw [e1, e2, e3, e4, e5] at h; exact h⟩
theorem mk_int {k k1 k2 : Nat} {p p1 p2 : Pos} : MkT w A env h₀ L m N (.Tuple [cst "int" k1 p1, cst "i32" k2 p2] k p) .int := mk_t2.imp ty_mono fun _ _ ⟨_, _, _, _, e, h⟩ => e ▸ .int h
theorem mk_T {k k1 k2 : Nat} {p p1 p2 : Pos} : MkT w A env h₀ L m N (.Tuple [cst "param" k1 p1, cst "T" k2 p2] k p) .T := mk_t2.imp ty_mono fun _ _ ⟨_, _, _, _, e, h⟩ => e ▸ .T h
theorem mk_X {k k1 k2 : Nat} {p p1 p2 : Pos} : MkT w A env h₀ L m N (.Tuple [cst "param" k1 p1, cst "X" k2 p2] k p) .X := mk_t2.imp ty_mono fun _ _ ⟨_, _, _, _, e, h⟩ => e ▸ .X h
theorem mk_bool1 {k k1 : Nat} {p p1 : Pos} : MkT w A env h₀ L m N (.Tuple [cst "bool" k1 p1] k p) .bool :=
  (mk_tuple (mkl_cons mk_str mkl_nil fun _ => rfl) (len_ok (cs_len nil_len) (Nat.le_of_ble_eq_true rfl))).imp ty_mono
    fun _ _ ⟨D, _, n, e, h, ⟨_, _, e1, ⟨t, e2⟩, e5⟩⟩ => by rw [e1, e2, e5] at h; rw [e]; exact .bool h
theorem mk_S {k k1 k2 k3 k4 : Nat} {p p1 p2 p3 p4 : Pos} : MkT w A env h₀ L m N (.Tuple [cst "adt" k1 p1, cst "S" k2 p2, .Tuple [] k3 p3, .Tuple [] k4 p4] k p) .S :=
  (mk_tuple (mkl_cons mk_str (mkl_cons mk_str (mkl_cons (mk_tuple mkl_nil (len_ok nil_len (Nat.zero_le _))) (mkl_cons (mk_tuple mkl_nil (len_ok nil_len (Nat.zero_le _))) mkl_nil fun _ => rfl) fun _ => rfl) fun _ => rfl) fun _ => rfl)
    (len_ok (cs_len (cs_len (cs_len (cs_len nil_len)))) (Nat.le_of_ble_eq_true rfl))).imp ty_mono
    fun _ _ ⟨D, _, n, e, h, ⟨_, _, e1, ⟨t, e2⟩, ⟨_, _, e3, ⟨u, e4⟩, ⟨_, _, e5, ⟨b, _, n1, e6, h1, e7⟩, ⟨_, _, e8, ⟨c, _, n2, e9, h2, e10⟩, e11⟩⟩⟩⟩⟩ => by
      rw [e7] at h1; rw [e10] at h2; rw [e1, e2, e3, e4, e5, e6, e8, e9, e11] at h; rw [e]; exact .S h h1 h2
theorem mk_box {e : Expr} {t : Ty} {k k1 : Nat} {p p1 : Pos} (he : MkT w A env h₀ L m N e t) (hs : ∀ es env', starEach (e :: es) env' = (false, eval e env') :: starEach es env') : MkT w A env h₀ L m N (.Tuple [cst "box" k1 p1, e] k p) (.box t) :=
  (mk_tuple (mkl_cons mk_str (mkl_cons he mkl_nil (hs _)) fun _ => rfl) (len_ok (cs_len (cs_len nil_len)) (Nat.le_of_ble_eq_true rfl))).imp ty_mono
    fun _ _ ⟨D, _, n, e, h, ⟨_, _, e1, ⟨t, e2⟩, ⟨_, _, e3, r, e5⟩⟩⟩ => by rw [e1, e2, e3, e5] at h; rw [e]; exact .box h r
theorem mk_ref {e : Expr} {t : Ty} {k k1 k2 k3 : Nat} {p p1 p2 p3 : Pos} (he : MkT w A env h₀ L m N e t) (hs : ∀ es env', starEach (e :: es) env' = (false, eval e env') :: starEach es env') :
    MkT w A env h₀ L m N (.Tuple [cst "ref" k1 p1, .Constant .none k2 p2, .Constant (.bool false) k3 p3, e] k p) (.ref t) :=
  (mk_tuple (mkl_cons mk_str (mkl_cons mk_none (mkl_cons mk_bool (mkl_cons he mkl_nil (hs _)) fun _ => rfl) fun _ => rfl) fun _ => rfl) (len_ok (cs_len (cs_len (cs_len (cs_len nil_len)))) (Nat.le_of_ble_eq_true rfl))).imp ty_mono
    fun _ _ ⟨D, _, n, e, h, ⟨_, _, e1, ⟨t, e2⟩, ⟨_, _, e3, e4, ⟨_, _, e5, e6, ⟨_, _, e7, r, e8⟩⟩⟩⟩⟩ => by rw [e1, e2, e3, e4, e5, e6, e7, e8] at h; rw [e]; exact .ref h r
theorem mk_W {e : Expr} {t : Ty} {k k1 k2 k3 k4 : Nat} {p p1 p2 p3 p4 : Pos} (he : MkT w A env h₀ L m N e t) (hs : ∀ es env', starEach (e :: es) env' = (false, eval e env') :: starEach es env') :
    MkT w A env h₀ L m N (.Tuple [cst "adt" k1 p1, cst "W" k2 p2, .Tuple [] k3 p3, .Tuple [e] k4 p4] k p) (.W t) :=
  (mk_tuple (mkl_cons mk_str (mkl_cons mk_str (mkl_cons (mk_tuple mkl_nil (len_ok nil_len (Nat.zero_le _))) (mkl_cons (mk_tuple (mkl_cons he mkl_nil (hs _)) (len_ok (cs_len nil_len) (Nat.le_of_ble_eq_true rfl))) mkl_nil fun _ => rfl) fun _ => rfl) fun _ => rfl) fun _ => rfl)
    (len_ok (cs_len (cs_len (cs_len (cs_len nil_len)))) (Nat.le_of_ble_eq_true rfl))).imp ty_mono
    fun _ _ ⟨D, _, n, e, h, ⟨_, _, e1, ⟨t, e2⟩, ⟨_, _, e3, ⟨u, e4⟩, ⟨_, _, e5, ⟨b, _, n1, e6, h1, e7⟩, ⟨_, _, e8, ⟨c, _, n2, e9, h2, ⟨_, _, e10, r, e12⟩⟩, e11⟩⟩⟩⟩⟩ => by
      rw [e7] at h1; rw [e10, e12] at h2; rw [e1, e2, e3, e4, e5, e6, e8, e9, e11] at h; rw [e]; exact .W h h1 h2 r
theorem mk_tup {e e' : Expr} {t u : Ty} {k k1 k2 : Nat} {p p1 p2 : Pos} (he : MkT w A env h₀ L m N e t) (hs : ∀ es env', starEach (e :: es) env' = (false, eval e env') :: starEach es env') (he' : MkT w A env h₀ L m N e' u) (hs' : ∀ es env', starEach (e' :: es) env' = (false, eval e' env') :: starEach es env') :
    MkT w A env h₀ L m N (.Tuple [cst "tuple" k1 p1, .Tuple [e, e'] k2 p2] k p) (.tup t u) :=
  (mk_tuple (mkl_cons mk_str (mkl_cons (mk_tuple (mkl_cons he (mkl_cons he' mkl_nil (hs' _)) (hs _)) (len_ok (cs_len (cs_len nil_len)) (Nat.le_of_ble_eq_true rfl))) mkl_nil fun _ => rfl) fun _ => rfl)
    (len_ok (cs_len (cs_len nil_len)) (Nat.le_of_ble_eq_true rfl))).imp ty_mono
    fun _ _ ⟨D, _, n, e, h, ⟨_, _, e1, ⟨t, e2⟩, ⟨_, _, e3, ⟨b, _, n1, e4, h1, ⟨_, _, e5, r1, ⟨_, _, e6, r2, e7⟩⟩⟩, e8⟩⟩⟩ => by
      rw [e5, e6, e7] at h1; rw [e1, e2, e3, e4, e8] at h; rw [e]; exact .tup h h1 r1 r2
end
theorem mk_name {w : World} {A : Around} {h₀ : Heap} {L : Addr} {m : Str → Option Value} {N : List (Addr × Obj)} {cn : Str} {cs : Scope} {a : Addr} {ccd : Value} {cl : List (Str × Addr)} {x : Str} {pos : Pos} {v : Value} {t : Ty} (hv : m x = some v) (r : TyIn N v t) (hk : isLoc (envX cn cs L a ccd cl) x = true) :
    MkT w A (envX cn cs L a ccd cl) h₀ L m N (.Name x pos) t :=
  ⟨ty_mono, fun tl s Q E F Nw hl q => let ⟨k1, k2, k3⟩ := isLoc_is hk; nameX_L F hv (q _ s.toks _ tl (fun _ h => h) F Nw hl (r.mono fun p hp => List.mem_append_right _ hp)) k1 k2 k3⟩
section
variable {w : World} {A : Around} {env : Env} {h₀ : Heap} {L : Addr} {m : Str → Option Value} {N : List (Addr × Obj)}
noncomputable abbrev MkTs (w : World) (A : Around) (env : Env) (h₀ : Heap) (L : Addr) (m : Str → Option Value) (N : List (Addr × Obj)) (es : List Expr) (ts : List Ty) : Prop := MkL w A env h₀ L m N es fun vs M => TsIn M vs ts
theorem mkt_nil : MkTs w A env h₀ L m N [] [] := ⟨fun _ _ _ s h => h.mono s, fun tl s _ _ _ F Nw hl q => args_nil (q _ s.toks _ tl (fun _ h => h) F Nw hl .nil)⟩
theorem mkt_cons {e : Expr} {es : List Expr} {t : Ty} {ts : List Ty} (h1 : MkT w A env h₀ L m N e t) (h2 : MkTs w A env h₀ L m N es ts) (he : ∀ env', starEach (e :: es) env' = (false, eval e env') :: starEach es env') : MkTs w A env h₀ L m N (e :: es) (t :: ts) :=
  ⟨fun _ _ _ s h => h.mono s, fun tl s pos Q E F Nw hl q => (mkl_cons h1 h2 he).go tl s pos Q E F Nw hl fun h' tk v tl' a b c d ⟨_, _, e, r, rs⟩ => q h' tk v tl' a b c d (e ▸ .cons r rs)⟩
/-- a list of types, laid down -/
theorem mkt_list {es : List Expr} {pos : Pos} {ts : List Ty} {g : Array GenState} {d : Drawn} {t : Nat} {o : OsState} {h : Heap} {Q E : Value → Shared → Prop} (H : MkTs w A env h₀ L m N es ts) (hn : ts.length ≤ 100) (F : Fr h₀ L h m) (Nw : News h₀ L h N)
    (q : ∀ h' tk l vs c tl, Fr h₀ L h' m → News h₀ L h' (N ++ tl) → Lts N tl → (l, listOf (List.toArray vs) c) ∈ tl → TsIn (N ++ tl) vs ts → Q (.ref l) ⟨h', g, d, tk, o⟩) : wpAny (model PySem.Challenge.pw_nu0382_01 w) A (eval (.List es pos) env) Q E ⟨h, g, d, t, o⟩ :=
  have sb : ∀ {tl : List (Addr × Obj)}, ∀ p ∈ tl ++ N, p ∈ N ++ tl := fun p hp => (List.mem_append.mp hp).elim (List.mem_append_right _) (List.mem_append_left _)
  have sb' : ∀ {tl : List (Addr × Obj)}, ∀ p ∈ N ++ tl, p ∈ tl ++ N := fun p hp => (List.mem_append.mp hp).elim (List.mem_append_right _) (List.mem_append_left _)
  List_ (H.go [] ⟨h, g, d, t, o⟩ pos _ _ F Nw (fun _ _ _ h => nomatch h) fun h' tk vs tl _ b c l r => newList_K b c (fun D h'' F' N' lt =>
    q h'' tk D vs 0 ((D, listOf (List.toArray vs) 0) :: tl) F' (news_sub N' sb') (lts_new l lt) List.mem_cons_self (r.mono fun p hp => sb p (mk_sub p hp))) (by rw [r.len]; exact Nat.le_trans hn (Nat.le_trans (Nat.le_of_ble_eq_true rfl) sizeLine_ge)))
end
theorem off_app {N tl : List (Addr × Obj)} {sa : Addr} {o : Obj} (off : ∀ q ∈ N, q.1 ≠ sa) (lt : Lts ((sa, o) :: N) tl) : ∀ q ∈ N ++ tl, q.1 ≠ sa := fun q hq => (List.mem_append.mp hq).elim (off q) fun h => Nat.ne_of_gt (lt _ List.mem_cons_self q h)
theorem TyIn.strip {M M' : List (Addr × Obj)} (hs : ∀ b vs n, (b, tupObj vs n) ∈ M' → (b, tupObj vs n) ∈ M) {v : Value} {t : Ty} (h : TyIn M' v t) : TyIn M v t := by
  induction h with
  | int h => exact .int (hs _ _ _ h)
  | bool h => exact .bool (hs _ _ _ h)
  | S h h1 h2 => exact .S (hs _ _ _ h) (hs _ _ _ h1) (hs _ _ _ h2)
  | T h => exact .T (hs _ _ _ h)
  | X h => exact .X (hs _ _ _ h)
  | V h => exact .V (hs _ _ _ h)
  | I h => exact .I (hs _ _ _ h)
  | box h _ ih => exact .box (hs _ _ _ h) ih
  | ref h _ ih => exact .ref (hs _ _ _ h) ih
  | W h h1 h2 _ ih => exact .W (hs _ _ _ h) (hs _ _ _ h1) (hs _ _ _ h2) ih
  | tup h h1 _ _ ih1 ih2 => exact .tup (hs _ _ _ h) (hs _ _ _ h1) ih1 ih2
theorem strip_src {M : List (Addr × Obj)} {sa : Addr} {xs : Array Value} {c : Nat} : ∀ b vs n, (b, tupObj vs n) ∈ (sa, listOf xs c) :: M → (b, tupObj vs n) ∈ M := fun b vs n h => (List.mem_cons.mp h).elim (fun e => by
  have : (Value.type "tuple" : Value) = .type "list" := congrArg (fun q : Addr × Obj => q.2.cls) e
  exact absurd this (by decide)) id

-- part HE
-- needs MK
theorem TsIn.app {N : List (Addr × Obj)} {vs ws : List Value} {ts us : List Ty} (h : TsIn N vs ts) (h' : TsIn N ws us) : TsIn N (vs ++ ws) (ts ++ us) := by
  induction h with
  | nil => exact h'
  | cons a _ ih => exact .cons a ih
section
variable {w : World} {p : Program} {loose : List Str} {mean : ExcName → Option Value} {mg mb : Str → Option Value}
   {dp un : Nat} {gd : Option (List Code)} {cn : Str} {cs : Scope} {a : Addr} {ccd : Value} {cl : List (Str × Addr)} {outer : List Env} {A₀ : Around} {base h₀ : Heap} {L : Addr} {m : Str → Option Value} {N : List (Addr × Obj)} {g : Array GenState} {d : Drawn} {os : OsState} {h : Heap} {t : Nat} {Q E : Value → Shared → Prop}
set_option maxHeartbeats 200000 in
theorem he_call
   (B : Below A₀ base outer h₀) (F : Fr h₀ L h m) (X : Frag.In (hd.heap_1 w.params) h₀) (Nw : News h₀ L h N) (T : Top p loose mean mg mb h₀) (hk : cs.kind = .function)
   (hdd : dp + 20 < recursionLimit) (hu : un + 300 < cLine)
   (ret : ∀ h' tk' l (vs : List Value) c tl, Fr h₀ L h' m → News h₀ L h' (N ++ tl) → Lts N tl → (l, listOf (List.toArray vs) c) ∈ tl → TsIn (N ++ tl) vs heads → Q (.ref l) ⟨h', g, d, tk', os⟩) :
   wpAny (model PySem.Challenge.pw_nu0382_01 w) (ktrTop dp un gd cn cs L a ccd cl outer) (call (.ref 253) []) Q E ⟨h, g, d, t, os⟩ := by
  refine wpAny_call ?_
  walk_at "mine_enter"
  k_steps
  rename (∀ q ∈ N, q.1 < _) => l9
  refine stop_elim ?_
  k_dflt (refine' mkt_list ?kq_h ?kq_n ?kq_F ?kq_N ?_)
  (case kq_F => k_asm); (case kq_N => k_asm); (case kq_h => walk_at "mks"); (case kq_n => exact Nat.le_of_ble_eq_true rfl)
  intro h' tk' l1 vs1 c1 tl1 F' N' lt1 ml1 ts1
  dsimp only [List.cons_append] at N' ts1
  k_steps
  refine stop_elim ?_
  k_dflt (refine' mkt_list ?kq_h ?kq_n ?kq_F ?kq_N ?_)
  (case kq_F => k_asm); (case kq_N => k_asm); (case kq_h => walk_at "mks"); (case kq_n => exact Nat.le_of_ble_eq_true rfl)
  intro h' tk' l2 vs2 c2 tl2 F' N' lt2 ml2 ts2
  dsimp only [List.cons_append] at N' ts2
  k_steps
  k_dflt (refine' kmk_add_lit (zs := vs1 ++ vs2) ?kq_F ?kq_N ?kq_a ?kq_b rfl ?_ ?kq_z)
  (case kq_F => k_asm); (case kq_N => k_asm); (case kq_a => exact News.isList (by k_asm) (List.mem_cons_of_mem _ (List.mem_append_left tl2 (List.mem_append_right _ ml1)))); (case kq_b => exact News.isList (by k_asm) (List.mem_cons_of_mem _ (List.mem_append_right _ ml2)))
  case kq_z => show vs1.length + vs2.length ≤ sizeLine; rw [ts1.len, ts2.len]; exact Nat.le_trans (Nat.le_of_ble_eq_true rfl) sizeLine_ge
  intro D h' F' N' lt3
  k_steps
  rename News _ _ _ _ => N9
  exact ret _ _ D _ 0 ((D, listOf (List.toArray (vs1 ++ vs2)) 0) ::  ((_, _) :: (tl1 ++ tl2))) (by k_asm) (news_sub N9 (by walk_at "mine_sub")) (lts_cons (fun q hq => lt3 q (List.mem_cons_of_mem _ (List.mem_append_left _ (List.mem_append_left _ hq)))) (lts_cons l9 (lts_app (lts_sub lt1 fun q hq => List.mem_cons_of_mem _ hq) (lts_sub lt2 fun q hq => List.mem_cons_of_mem _ (List.mem_append_left _ hq)))))
    List.mem_cons_self (TsIn.app (ts1.mono (by walk_at "mine_sub")) (ts2.mono (by walk_at "mine_sub")))
end

-- part CL
theorem words_CL : True := by
  k_with "call ref" => ((with_reducible show wpAny _ _ (call (Value.ref 239) [_, _]) _ _ _); refine stop_intro ?_)
  k_with "call ref" => ((with_reducible show wpAny _ _ (call (Value.ref 246) [_, _]) _ _ _); refine stop_intro ?_)
  k_with "mine_pull" => (first | exact Pull.head | (refine' Pull.tail ?_; k_extra "mine_pull"))
  trivial
-- needs ON HE
theorem leaf_ok {ty : Ty} (this : ty ∈ [Ty.int, .bool, .S, .X]) : ty.cl = true ∧ ty.dep = 0 ∧ ty.size = 1 := by
  simp only [List.mem_cons, List.not_mem_nil, or_false] at this
  rcases this with rfl | rfl | rfl | rfl <;> exact ⟨rfl, rfl, rfl⟩
theorem over_ok {n : Nat} {ty z : Ty} (this : ty ∈ [Ty.box z, .ref z, .W z, .tup z z]) (hc : z.cl = true) (hd : z.dep ≤ n) (hs : z.size + 1 ≤ 2 ^ (n + 1)) : ty.cl = true ∧ ty.dep ≤ n + 1 ∧ ty.size + 1 ≤ 2 ^ (n + 1 + 1) := by
  have h1 := z.size_pos
  rw [Nat.pow_succ]
  simp only [List.mem_cons, List.not_mem_nil, or_false] at this
  rcases this with rfl | rfl | rfl | rfl
  · exact ⟨hc, Nat.succ_le_succ hd, by simp only [Ty.size]; omega⟩
  · exact ⟨hc, Nat.succ_le_succ hd, by simp only [Ty.size]; omega⟩
  · exact ⟨hc, Nat.succ_le_succ hd, by simp only [Ty.size]; omega⟩
  · exact ⟨by simp [Ty.cl, hc], by simp only [Ty.dep]; omega, by simp only [Ty.size]; omega⟩
/-- the contract of _law_closed -/
noncomputable def ClC (w : World) (n : Nat) : Prop :=
  ∀ {p : Program} {loose : List Str} {mean : ExcName → Option Value} {mg mb : Str → Option Value} {dp un : Nat} {gd : Option (List Code)} {cn : Str} {cs : Scope} {a : Addr} {ccd : Value} {cl : List (Str × Addr)} {outer : List Env} {A₀ : Around} {base h₀ : Heap} {L : Addr} {m : Str → Option Value} {N : List (Addr × Obj)} {g : Array GenState} {d : Drawn} {os : OsState} {h : Heap} {t : Nat} {Q E : Value → Shared → Prop}
    {sa : Addr} {x y k : Int} {k1 k2 kt : Tok} {c : Nat},
    Below A₀ base outer h₀ → Fr h₀ L h m → Frag.In (hd.heap_1 w.params) h₀ → News h₀ L h ((sa, listOf #[.int x k1, .int y k2] c) :: N) → Top p loose mean mg mb h₀ → cs.kind = .function →
    (∀ q ∈ N, q.1 ≠ sa) → 0 ≤ x → 0 ≤ y → y < 2147483647 → k = n → n ≤ 2 → dp + 40 + 10 * n < recursionLimit → un + 700 + 200 * n < cLine →
    (∀ h' tk' v ty M x' y' k1' k2' c', TyIn M v ty → ty.cl = true → ty.dep ≤ n → ty.size + 1 ≤ 2 ^ (n + 1) → (∀ q ∈ N, q ∈ M) → (∀ q ∈ M, q.1 ≠ sa) → 0 ≤ x' → 0 ≤ y' → y' < 2147483647 → Fr h₀ L h' m → News h₀ L h' ((sa, listOf #[.int x' k1', .int y' k2'] c') :: M) → Q v ⟨h', g, d, tk', os⟩) →
    wpAny (model PySem.Challenge.pw_nu0382_01 w) (ktrTop dp un gd cn cs L a ccd cl outer) (call (.ref 246) [.ref sa, .int k kt]) Q E ⟨h, g, d, t, os⟩
theorem val_ty {N : List (Addr × Obj)} {v : Value} {t : Ty} (h : TyIn N v t) {G : Value → Prop} (k : ∀ a, TyIn N (.ref a) t → G (.ref a)) : G v := by
  obtain ⟨a, n, k1, r, rfl, m⟩ := h.first
  exact k a h
/-- one of some types, laid down and drawn -/
theorem one_ty {w : World} {p : Program} {loose : List Str} {mean : ExcName → Option Value} {mg mb : Str → Option Value} {dp un : Nat} {gd : Option (List Code)} {cn : Str} {cs : Scope} {a : Addr} {ccd : Value} {cl : List (Str × Addr)} {outer : List Env} {A₀ : Around} {base h₀ : Heap} {L : Addr} {m : Str → Option Value} {N tl : List (Addr × Obj)} {g : Array GenState} {d : Drawn} {os : OsState} {h : Heap} {t : Nat} {Q E : Value → Shared → Prop}
    {sa l : Addr} {x y : Int} {k1 k2 : Tok} {c c2 : Nat} {vs : List Value} {ts : List Ty} (B : Below A₀ base outer h₀) (F : Fr h₀ L h m) (X : Frag.In (hd.heap_1 w.params) h₀) (Nw : News h₀ L h ((sa, listOf #[.int x k1, .int y k2] c) :: (N ++ tl))) (T : Top p loose mean mg mb h₀) (hk : cs.kind = .function)
    (off : ∀ q ∈ N, q.1 ≠ sa) (lt : Lts ((sa, listOf #[.int x k1, .int y k2] c) :: N) tl) (hx : 0 ≤ x) (hy0 : 0 ≤ y) (hy : y < 2147483647) (ml : (l, listOf (List.toArray vs) c2) ∈ tl) (r : TsIn ((sa, listOf #[.int x k1, .int y k2] c) :: (N ++ tl)) vs ts) (hn0 : 0 < ts.length) (hn : ts.length ≤ 100)
    (hdd : dp + 30 < recursionLimit) (hu : un + 600 < cLine)
    (ret : ∀ h' tk' v ty x' y' k1' k2' c', ty ∈ ts → TyIn (N ++ tl) v ty → 0 ≤ x' → 0 ≤ y' → y' < 2147483647 → Fr h₀ L h' m → News h₀ L h' ((sa, listOf #[.int x' k1', .int y' k2'] c') :: (N ++ tl)) → Q v ⟨h', g, d, tk', os⟩) :
    wpAny (model PySem.Challenge.pw_nu0382_01 w) (ktrTop dp un gd cn cs L a ccd cl outer) (call (.ref 239) [.ref sa, .ref l]) Q E ⟨h, g, d, t, os⟩ :=
  on_call B F X Nw T hk (off_app off lt) hx hy0 hy (List.mem_append_right _ ml) (by rw [r.len]; exact hn0) (by rw [r.len]; exact hn) hdd hu fun h' tk' i v x' y' k1' k2' c' hi b1 b2 b3 F' N' => r.pick hi fun ty hty h => ret h' tk' v ty x' y' k1' k2' c' hty (h.strip strip_src) b1 b2 b3 F' N'
set_option maxHeartbeats 4000000 in
theorem cl_call {w : World} (n : Nat) : ClC w n := by
  induction n with
  | zero =>
    unfold ClC
    intro p loose mean mg mb dp un gd cn cs a ccd cl outer A₀ base h₀ L m N g d os h t Q E sa x y k k1 k2 kt c B F X Nw T hk off hx hy0 hy hkn hn hdd hu ret
    subst hkn
    refine wpAny_call ?_
    walk_at "mine_enter"
    k_steps
    refine stop_elim ?_
    k_dflt (refine' mkt_list ?kq_h ?kq_n ?kq_F ?kq_N ?_)
    (case kq_F => k_asm); (case kq_N => k_asm); (case kq_h => walk_at "mks"); (case kq_n => exact Nat.le_of_ble_eq_true rfl)
    intro h' tk' l1 vs1 c1 tl1 F' N' lt1 ml1 ts1
    dsimp only [List.cons_append] at N' ts1
    k_steps
    refine stop_elim ?_
    with_unfolding_all refine' one_ty ?k1 ?k2 ?k3 ?k4 ?k5 ?k6 off lt1 hx hy0 hy ml1 ts1 (Nat.succ_pos _) (Nat.le_of_ble_eq_true rfl) ?k8 ?k9 ?_
    walk_at "mine_calm"
    intro h' tk' v9 ty x' y' k1' k2' c' hg hty hx hy0 hy F' N'
    k_steps
    exact ret _ _ _ ty _ _ _ _ _ _ hty (leaf_ok hg).1 (Nat.le_of_eq (leaf_ok hg).2.1) (by rw [(leaf_ok hg).2.2]; exact Nat.le_of_ble_eq_true rfl) (fun q hq => List.mem_append_left _ hq) (off_app off lt1) hx hy0 hy (by k_asm) (by k_asm)
  | succ n ih =>
    unfold ClC
    intro p loose mean mg mb dp un gd cn cs a ccd cl outer A₀ base h₀ L m N g d os h t Q E sa x y k k1 k2 kt c B F X Nw T hk off hx hy0 hy hkn hn hdd hu ret
    have hk0 : ¬ k = 0 := by omega
    refine wpAny_call ?_
    walk_at "mine_enter"
    k_steps
    refine stop_elim ?_
    with_unfolding_all refine' tk_call ?k1 ?k2 ?k3 ?k4 ?k5 ?k6 off hx hy0 hy (by decide) (by decide) ?k8 ?k9 ?_
    walk_at "mine_calm"
    intro h' tk' r kr x' y' k1' k2' c' hr0 hr1 hx hy0 hy F' N'
    by_cases hr : r = 0
    · k_steps
      refine stop_elim ?_
      k_dflt (refine' mkt_list ?kq_h ?kq_n ?kq_F ?kq_N ?_)
      (case kq_F => k_asm); (case kq_N => k_asm); (case kq_h => walk_at "mks"); (case kq_n => exact Nat.le_of_ble_eq_true rfl)
      intro h' tk' l1 vs1 c1 tl1 F' N' lt1 ml1 ts1
      dsimp only [List.cons_append] at N' ts1
      k_steps
      refine stop_elim ?_
      with_unfolding_all refine' one_ty ?k1 ?k2 ?k3 ?k4 ?k5 ?k6 off lt1 hx hy0 hy ml1 ts1 (Nat.succ_pos _) (Nat.le_of_ble_eq_true rfl) ?k8 ?k9 ?_
      walk_at "mine_calm"
      intro h' tk' v9 ty x' y' k1' k2' c' hg hty hx hy0 hy F' N'
      k_steps
      exact ret _ _ _ ty _ _ _ _ _ _ hty (leaf_ok hg).1 (by rw [(leaf_ok hg).2.1]; exact Nat.zero_le _) (by rw [(leaf_ok hg).2.2]; exact Nat.pow_le_pow_right (n := 2) (by decide) (Nat.succ_le_succ (Nat.zero_le _))) (fun q hq => List.mem_append_left _ hq) (off_app off lt1) hx hy0 hy (by k_asm) (by k_asm)
    · k_steps
      refine stop_elim ?_
      with_unfolding_all refine' ih ?k1 ?k2 ?k3 ?k4 ?k5 ?k6 off hx hy0 hy (by omega) (by omega) ?k8 ?k9 ?_
      walk_at "mine_calm"
      intro h' tk' v ty9 M x' y' k1' k2' c' hty9 hc hd hs sub off9 hx hy0 hy F' N'
      k_steps
      refine stop_elim ?_
      k_dflt (refine' mkt_list ?kq_h ?kq_n ?kq_F ?kq_N ?_)
      (case kq_F => k_asm); (case kq_N => k_asm); (case kq_h => walk_at "mks"); (case kq_n => exact Nat.le_of_ble_eq_true rfl)
      intro h' tk' l1 vs1 c1 tl1 F' N' lt1 ml1 ts1
      dsimp only [List.cons_append] at N' ts1
      k_steps
      refine stop_elim ?_
      with_unfolding_all refine' one_ty ?k1 ?k2 ?k3 ?k4 ?k5 ?k6 off9 lt1 hx hy0 hy ml1 ts1 (Nat.succ_pos _) (Nat.le_of_ble_eq_true rfl) ?k8 ?k9 ?_
      walk_at "mine_calm"
      intro h' tk' v9 ty x' y' k1' k2' c' hg hty hx hy0 hy F' N'
      k_steps
      exact ret _ _ _ ty _ _ _ _ _ _ hty (over_ok hg hc hd hs).1 (over_ok hg hc hd hs).2.1 (over_ok hg hc hd hs).2.2 (fun q hq => List.mem_append_left _ (sub q hq)) (off_app off9 lt1) hx hy0 hy (by k_asm) (by k_asm)

-- part LW
-- needs TQ CL PL HE RG IR
inductive TrsIn (N : List (Addr × Obj)) : List Value → List (List Tr) → Prop
  | nil : TrsIn N [] []
  | cons {aa : Addr} {vb : List Value} {n : Nat} {asks : List Tr} {vs : List Value} {as : List (List Tr)} : (aa, tupObj vb n) ∈ N → StrsAre vb (asks.map Tr.str) → TrsIn N vs as → TrsIn N (.ref aa :: vs) (asks :: as)
theorem TrsIn.pick {N : List (Addr × Obj)} {vs : List Value} {as : List (List Tr)} (h : TrsIn N vs as) {i : Nat} {v : Value} (hi : vs[i]? = some v) {G : Prop} (k : ∀ aa vb n asks, v = .ref aa → asks ∈ as → (aa, tupObj vb n) ∈ N → StrsAre vb (asks.map Tr.str) → G) : G := by
  induction h generalizing i with
  | nil => simp at hi
  | cons m s _ ih =>
    induction i using Nat.casesOn with
    | zero => simp at hi; exact k _ _ _ _ hi.symm List.mem_cons_self m s
    | succ i => exact ih (i := i) (by simpa using hi) fun aa vb n asks e h => k aa vb n asks e (List.mem_cons_of_mem _ h)
theorem tr_pick {vs : List Value} {ts : List Tr} (h : StrsAre vs (ts.map Tr.str)) {i : Nat} {v : Value} (hi : vs[i]? = some v) {G : Prop} (k : ∀ (tr : Tr) (t : Tok), v = .str tr.str t → G) : G := by
  obtain ⟨y, t, rfl, hy⟩ := h.item i v hi
  rw [List.getElem?_map] at hy
  obtain ⟨tr, -, rfl⟩ := Option.map_eq_some_iff.mp hy
  exact k tr t rfl
theorem head_txt : ∀ p ∈ heads, (!(Builtin.Str.occurrences p.data.shown (Str.ofString "T") 0 p.data.shown.length 1).isEmpty) = p.hasT ∧ p.data.showable = true ∧ p.data.hasDict = false ∧ p.data.shown.length ≤ 100 ∧ p.data.depth ≤ 5 := by decide +kernel
/-- what stands between the turns of the loop that makes the rows -/
inductive ceJ (w : World) (sc sa rl dw wa : Addr) (od : Obj) (i : Nat) (m : Str → Option Value) (nx : List (Addr × Obj)) : Prop
  | mk : m (Str.ofString "script") = some (.ref sc) → m (Str.ofString "source") = some (.ref sa) → m (Str.ofString "world") = some (.ref wa) → m (Str.ofString "rows") = some (.ref rl) → ∀ (vs : List Value), ∀ (c : Nat), ∀ (x : Int), ∀ (y : Int), ∀ (k1 : Tok), ∀ (k2 : Tok), ∀ (c2 : Nat), ∀ (R : List (Addr × Obj)), ∀ (rows : List Rw), nx = (sa, listOf #[.int x k1, .int y k2] c2) :: (rl, listOf (List.toArray vs) c) :: (dw, od) :: R → RowsIn w.params R vs rows → rows.length = i → (∀ r ∈ rows, RowOk r) → 0 ≤ x → 0 ≤ y → y < 2147483647 → (wa, instObj 214 dw) ∈ R → (∀ q ∈ R, q.1 ≠ sa) → (∀ q ∈ R, q.1 ≠ rl) → (∀ q ∈ R, q.1 ≠ dw) → rl ≠ sa → dw ≠ sa → dw ≠ rl → ceJ w sc sa rl dw wa od i m nx

-- part ST
theorem words_ST : True := by
  k_with "call type:str" => (first | (k_here; (with_reducible show wpAny _ _ (call (Value.type "str") [Value.ref _]) _ _ _); k_dflt (refine' str_ty ?k1 ?k2 ?k3 ?k4 ?k5 ?k6 ?k7 ?_; (case k1 => k_asm); (case k2 => k_asm); (case k3 => assumption); (case k4 => k_extra "mine_sub"); (case k5 => assumption); (case k6 => with_unfolding_all rfl); (case k7 => k_extra "mine_units")); intro h' u' tk' F' N'; (try dsimp only)) | fail "no")
  k_with "compareOp NotEq ref ref" => (first | (k_here; (with_reducible show wpAny _ _ (compareOp CmpOp.NotEq _ _) _ _ _); k_dflt (refine' ty_ne ?k1 ?k2 ?k3 ?k4 ?k5 ?k6 ?_; (case k1 => k_asm); (case k5 => exact fun _ h => h); (case k2 => assumption); (case k3 => exact TyIn.T (by k_mem)); (case k4 => k_extra "mine_sub"); (case k6 => k_extra "mine_units"); k_whole)) | fail "no")
  trivial
-- needs LW
section
variable {prog : Program} {w : World} {A : Around} {h₀ : Heap} {L : Addr} {m : Str → Option Value} {N M : List (Addr × Obj)} {s : Shared} {E Q : Value → Shared → Prop}
theorem str_ty (F : Fr h₀ L s.heap m) (Nw : News h₀ L s.heap M) {v : Value} {t : Ty} (R : TyIn N v t) (sn : ∀ p ∈ N, p ∈ M) (hh : t ∈ heads) (hg : A.guards = some []) (hu : A.units + 8 < cLine)
    (hQ : ∀ h' u tk, Fr h₀ L h' m → News h₀ L h' M → Q (.str t.data.shown u) { s with heap := h', toks := tk }) : wpAny (model prog w) A (call (.type "str") [v]) Q E s := by
  have H := head_txt t hh
  obtain ⟨a, n, k, rest, rfl, hm⟩ := R.first
  exact str_of_reads ((R.mono sn).reads Nw) H.2.1 (fun h => absurd (H.2.2.1 ▸ h) (by decide)) hg (Nat.lt_of_le_of_lt (Nat.add_le_add_left (Nat.add_le_add_right H.2.2.2.2 3) _) hu) (fun _ _ e => e) (fun h' u tk hk => hQ h' u tk (F.keptAll hk) (Nw.grown hk)) (Nat.le_trans H.2.2.2.1 (by decide +kernel))
theorem ty_ne (Nw : News h₀ L s.heap M) {N N' : List (Addr × Obj)} {v u : Value} {t t' : Ty} (R : TyIn N v t) (R2 : TyIn N' u t') (sn : ∀ p ∈ N, p ∈ M) (sn' : ∀ p ∈ N', p ∈ M) (hu : A.units + 2 * t.dep + 2 < cLine) (h : Q (.bool (!decide (t = t'))) s) :
    wpAny (model prog w) A (compareOp .NotEq v u) Q E s := by
  refine SeqAt.compareNe_reads ((R.mono sn).reads Nw) ((R2.mono sn').reads Nw) t.lay_data t'.lay_data ?_ (by rw [Ty.eqv_data]; exact h)
  exact Nat.lt_of_le_of_lt (Nat.add_le_add_left (Nat.le_trans (Nat.min_le_left _ _) t.depth_data) _) (by rw [← Nat.add_assoc]; exact hu)
end
theorem TrsIn.pickN {h₀ h : Heap} {L : Addr} {N : List (Addr × Obj)} (_ : News h₀ L h N) {vs : List Value} {as : List (List Tr)} (h : TrsIn N vs as) {i : Nat} {v : Value} (hi : vs[i]? = some v) {G : Prop} (k : ∀ aa vb n asks, v = .ref aa → asks ∈ as → (aa, tupObj vb n) ∈ N → StrsAre vb (asks.map Tr.str) → G) : G := h.pick hi k
/-- what stands between the four questions -/
inductive tuJ (sc sa wa rl bd : Addr) (N : List (Addr × Obj)) (m : Str → Option Value) (nx : List (Addr × Obj)) : Prop
  | mk : m (Str.ofString "script") = some (.ref sc) → m (Str.ofString "source") = some (.ref sa) → m (Str.ofString "world") = some (.ref wa) → m (Str.ofString "rows") = some (.ref rl) → m (Str.ofString "bounds") = some (.ref bd) →
    ∀ (x y : Int) (k1 k2 : Tok) (c : Nat) (R : List (Addr × Obj)), nx = (sa, listOf #[.int x k1, .int y k2] c) :: R → (∀ q ∈ N, q ∈ R) → 0 ≤ x → 0 ≤ y → y < 2147483647 → (∀ q ∈ R, q.1 ≠ sa) → tuJ sc sa wa rl bd N m nx
/-- what the four questions need of the ledger -/
structure TuF (w : World) (wa rl bd sa : Addr) (e : Env9) (N M : List (Addr × Obj)) : Prop where
  wi : WorldIn w.params M (.ref wa) e.rows
  rb : RbIn w M rl bd e
  sub : ∀ q ∈ N, q ∈ M
  off : ∀ q ∈ M, q.1 ≠ sa
/-- the ledger behind its first row, under one name -/
theorem tu_gen {w : World} {h₀ h : Heap} {L : Addr} {e : Addr × Obj} {N M : List (Addr × Obj)} (N8 : News h₀ L h (e :: M)) {wa dw rl sa bd aa : Addr} {k1 k2 k3 k4 k5 k6 k7 k8 tk : Tok} {v1 v2 v3 v4 v5 v7 v8 : Value} {n n2 na : Nat} {vs vb : List Value} {rows : List Rw} {bs : List Tr} {o : Obj}
    (s : ∀ q ∈ N, q ∈ M) (w1 : (wa, instObj 214 dw) ∈ M) (w2 : (dw, dictOf [ent w.params "modules" k1 v1, ent w.params "adts" k2 v2, ent w.params "variants" k3 v3, ent w.params "sigs" k4 v4, ent w.params "traits" k5 v5, ent w.params "impls" k6 (.ref rl), ent w.params "consts" k7 v7, ent w.params "bodies" k8 v8] n) ∈ M)
    (w3 : (rl, listOf vs.toArray n2) ∈ M) (hR : RowsIn w.params N vs rows) (b1 : (bd, o) ∈ M) (hs : (bd == sysModules) = false) (hd : o.IsDictOf (strKind PySem.Challenge.pw_nu0382_01 w) (strPairs [(.str (Str.ofString "X") tk, .ref aa)])) (ma : (aa, tupObj vb na) ∈ M) (hst : StrsAre vb (bs.map Tr.str))
    (off : ∀ q ∈ M, q.1 ≠ sa) {G : Prop} (k : ∀ M, News h₀ L h (e :: M) → TuF w wa rl bd sa ⟨rows, bs⟩ N M → G) : G :=
  k M N8 ⟨.mk w1 w2 w3 (hR.mono s), ⟨⟨vs, n2, w3, hR.mono s⟩, o, _, b1, hs, hd, .inr (.mk aa vb na rfl ma hst)⟩, s, off⟩
theorem asks_len : ∀ a ∈ [[], [Tr.A], [.B], [.A, .B]], a.length ≤ 2 := by decide

-- part LB
theorem words_LB : True := by
  k_with "call ref" => ((with_reducible show wpAny _ _ (call (Value.ref 225) [_, _]) _ _ _); refine stop_intro ?_)
  k_with "call ref" => ((with_reducible show wpAny _ _ (call (Value.ref 253) _) _ _ _); refine stop_intro ?_)
  k_with "call ref" => ((with_reducible show wpAny _ _ (call (Value.ref 284) [_, _, _, _, _]) _ _ _); refine stop_intro ?_)
  k_with "call ref" => ((with_reducible show wpAny _ _ (call (Value.ref 291) [_]) _ _ _); refine stop_intro ?_)
  k_with "call ref" => ((with_reducible show wpAny _ _ (call (Value.ref 214) [_]) _ _ _); refine stop_intro ?_)
  k_with "call ref" => ((with_reducible show wpAny _ _ (call (Value.ref 185) [_, _, _, _, _, _, _]) _ _ _); refine stop_intro ?_)
  k_with "execs cons Assign" => ((with_reducible show wpAny _ _ (execs (Stmt.Assign [Expr.Name _ _] (Expr.IfExp _ _ _ _) _ :: _) _) _ _ _); refine stop_intro ?_)
  trivial
-- needs ST
noncomputable def defOf (n : Str) : List Stmt → Option (List Stmt × Scope)
  | [] => none
  | s :: r => match s with
    | .FunctionDef m _ b _ _ _ sc _ _ _ => if m = n then some (b, sc) else defOf n r
    | _ => defOf n r
noncomputable def forOf (l : List Stmt) (k : Nat) : List Stmt := match l[k]? with | some (.For _ _ b _ _) => b | _ => []
noncomputable def lawAll : List Stmt × Scope := (defOf (Str.ofString "law") PySem.Challenge.pw_nu0382_01.main.body).getD ([], { kind := .function, names := [], isGenerator := false, isCoroutine := false })
noncomputable def lawSc : Scope := lawAll.2
noncomputable def lawFor : List Stmt := forOf lawAll.1 0
noncomputable def rowFor : List Stmt := forOf lawFor 2
theorem fm4 {P : Str → Prop} {a b c d : Str} (h1 : P a) (h2 : P b) (h3 : P c) (h4 : P d) : ∀ z ∈ [a, b, c, d], P z :=
  List.forall_mem_cons.mpr ⟨h1, List.forall_mem_cons.mpr ⟨h2, List.forall_mem_cons.mpr ⟨h3, List.forall_mem_cons.mpr ⟨h4, List.forall_mem_nil _⟩⟩⟩⟩
theorem fm6 {P : Str → Prop} {a b c d e f : Str} (h1 : P a) (h2 : P b) (h3 : P c) (h4 : P d) (h5 : P e) (h6 : P f) : ∀ z ∈ [a, b, c, d, e, f], P z :=
  List.forall_mem_cons.mpr ⟨h1, List.forall_mem_cons.mpr ⟨h2, fm4 h3 h4 h5 h6⟩⟩
noncomputable abbrev nm4 : List Str := [Str.ofString "script", Str.ofString "source", Str.ofString "world", Str.ofString "rows"]
noncomputable abbrev nm6 : List Str := [Str.ofString "head", Str.ofString "number", Str.ofString "script", Str.ofString "source", Str.ofString "world", Str.ofString "rows"]
theorem Prm.mono {N N' : List (Addr × Obj)} (hs : ∀ p ∈ N, p ∈ N') {b : Bool} {ps : List Value} {asks : List Tr} (h : Prm N b ps asks) : Prm N' b ps asks := by
  obtain ⟨e, pt, aa, tT, vs, n4, n5, e1, m1, m2, h⟩ := h
  exact ⟨e, pt, aa, tT, vs, n4, n5, e1, hs _ m1, hs _ m2, h⟩
theorem stm_cut {M : Model} {A : Around} {Q : Flow → Shared → Prop} {E : Value → Shared → Prop} {s : Shared} {env : Env} {a : Stmt} {rest : List Stmt} (P : Shared → Prop) (h1 : ∀ Q' : Flow → Shared → Prop, (∀ s', P s' → Q' .next s') → wpAny M A (exec a env) Q' E s)
    (h2 : ∀ s', P s' → wpAny M A (execs rest env) Q E s') : wpAny M A (execs (a :: rest) env) Q E s := wpAny_execs_cons (h1 _ h2)
theorem off_tl {M tl : List (Addr × Obj)} {e : Addr × Obj} (lt : Lts M tl) (hm : e ∈ M) : ∀ q ∈ tl, q.1 ≠ e.1 := fun q hq => Nat.ne_of_gt (lt _ hm q hq)
theorem strip_obj {M : List (Addr × Obj)} {d : Addr} {o : Obj} (h : ∀ vs n, o ≠ tupObj vs n) : ∀ b vs n, (b, tupObj vs n) ∈ (d, o) :: M → (b, tupObj vs n) ∈ M := fun b vs n hm => (List.mem_cons.mp hm).elim (fun e => absurd (congrArg Prod.snd e).symm (h vs n)) id
section
variable {w : World} {p : Program} {loose : List Str} {mean : ExcName → Option Value} {mg mb : Str → Option Value}
   {dp un : Nat} {cn : Str} {a : Addr} {ccd : Value} {outer : List Env} {A₀ : Around} {base h₀ : Heap} {L : Addr} {m : Str → Option Value} {N : List (Addr × Obj)} {g : Array GenState} {d : Drawn} {os : OsState} {h : Heap} {t : Nat} {E : Value → Shared → Prop} {R : Flow → Shared → Prop}
inductive ParEnd (h₀ : Heap) (L : Addr) (m : Str → Option Value) (sa rl dw : Addr) (osa orl od : Obj) (ty : Ty) (N : List (Addr × Obj)) (g : Array GenState) (d : Drawn) (os : OsState) (s' : Shared) : Prop
  | mk (h' : Heap) (tk : Nat) (m' : Str → Option Value) (par : Addr) (n : Nat) (ps : List Value) (asks : List Tr) (M : List (Addr × Obj)) : s' = ⟨h', g, d, tk, os⟩ → m' (Str.ofString "params") = some (.ref par) → (∀ z ∈ nm6, m' z = m z) → Fr h₀ L h' m' →
    News h₀ L h' ((sa, osa) :: (rl, orl) :: (dw, od) :: M) → (∀ q ∈ N, q ∈ M) → (par, listOf (List.toArray ps) n) ∈ M → ((ty.hasT = false ∧ ps = []) ∨ Prm M ty.hasT ps asks) → asks.length ≤ 2 → (ty = .T → asks = []) → (∀ q ∈ M, q.1 ≠ sa) → (∀ q ∈ M, q.1 ≠ rl) → (∀ q ∈ M, q.1 ≠ dw) →
    ParEnd h₀ L m sa rl dw osa orl od ty N g d os s'
inductive RowEnd (w : World) (h₀ : Heap) (L : Addr) (m : Str → Option Value) (sa rl dw : Addr) (od : Obj) (i : Nat) (vs : List Value) (N : List (Addr × Obj)) (h' : Heap) : Prop
  | mk (m' : Str → Option Value) (x y : Int) (k1 k2 : Tok) (c c2 : Nat) (v : Value) (r : Rw) (M : List (Addr × Obj)) : (∀ z ∈ nm4, m' z = m z) → 0 ≤ x → 0 ≤ y → y < 2147483647 → Fr h₀ L h' m' →
    News h₀ L h' ((sa, listOf #[.int x k1, .int y k2] c) :: (rl, listOf (List.toArray (vs ++ [v])) c2) :: (dw, od) :: M) → (∀ q ∈ N, q ∈ M) → RowIn w.params M v r → RowOk r → r.num = i → (∀ q ∈ M, q.1 ≠ sa) → (∀ q ∈ M, q.1 ≠ rl) → (∀ q ∈ M, q.1 ≠ dw) → RowEnd w h₀ L m sa rl dw od i vs N h'
set_option maxHeartbeats 4000000 in
theorem row_app {sa rl dw par b9 : Addr} {x y : Int} {k1 k2 : Tok} {c c2 i tk1 n : Nat} {vs ps : List Value} {od : Obj} {asks : List Tr} {ty : Ty}
   (B : Below A₀ base outer h₀) (F : Fr h₀ L h m) (X : Frag.In (hd.heap_1 w.params) h₀) (Nw : News h₀ L h ((sa, listOf #[.int x k1, .int y k2] c) :: (rl, listOf (List.toArray vs) c2) :: (dw, od) :: N)) (T : Top p loose mean mg mb h₀)
   (e1 : m (Str.ofString "params") = some (.ref par)) (e2 : m (Str.ofString "head") = some (.ref b9)) (e3 : m (Str.ofString "number") = some (.int i tk1)) (e4 : m (Str.ofString "source") = some (.ref sa)) (e5 : m (Str.ofString "rows") = some (.ref rl))
   (n1 : ∀ q ∈ N, q.1 ≠ sa) (n2 : ∀ q ∈ N, q.1 ≠ rl) (n3 : ∀ q ∈ N, q.1 ≠ dw) (n4 : rl ≠ sa) (n5 : dw ≠ sa) (n6 : dw ≠ rl)
   (hx : 0 ≤ x) (hy0 : 0 ≤ y) (hy : y < 2147483647) (hpar : (par, listOf (List.toArray ps) n) ∈ N) (hps : (ty.hasT = false ∧ ps = []) ∨ Prm N ty.hasT ps asks) (has : asks.length ≤ 2) (hat : ty = .T → asks = []) (hty : TyIn N (.ref b9) ty) (hhd : ty ∈ heads)
   (hvs : vs.toArray.size ≤ sizeLine) (hdd : dp + 40 < recursionLimit) (hu : un + 700 < cLine)
   (ret : ∀ h' tk', RowEnd w h₀ L m sa rl dw od i vs N h' → R .next ⟨h', g, d, tk', os⟩) :
   wpAny (model PySem.Challenge.pw_nu0382_01 w) (ktrTop dp un (some []) cn lawSc L a ccd [] outer) (execs (rowFor.drop 3) (envX cn lawSc L a ccd [])) R E ⟨h, g, d, t, os⟩ := by
  conv in rowFor.drop 3 => whnf
  conv in (List.cons _ _ : List Stmt) => arg 2; whnf
  have hsc : lawSc.kind = .function := rfl
  rw [kn1 e1, kn1 e2, kn1 e3, kn1 e4, kn1 e5] at F
  k_steps
  refine stop_elim ?_
  with_unfolding_all refine' on_call (vs := [_, _, _]) ?k1 ?k2 ?k3 (Pull.news (e := (sa, _)) ?k4 ?kp) ?k5 ?k6 ?off hx hy0 hy ?hl (Nat.succ_pos _) (Nat.le_of_ble_eq_true rfl) ?k8 ?k9 ?_
  walk_at "mine_calm"
  case kp => repeat (first | exact Pull.head | apply Pull.tail)
  case off => k_all
  case hl => k_mem
  intro h' tk' ia va x y k3 k4 c3 hia hx hy0 hy F' N'
  refine tr_pick (ts := [.A, .B, .C]) (.cons _ _ (.cons _ _ (.cons _ _ .nil))) hia fun tr t9 e9 => ?_
  subst e9
  k_steps
  refine stop_elim ?_
  with_unfolding_all refine' ir_call ?k1 ?k2 ?k3 ?k4 ?k5 ?k6 ?k8 ?k9 ?_
  walk_at "mine_calm"
  intro h' tk' xr dx j1 j2 j3 j4 j5 j6 j7 j8 v8 n8 F' N' lt1 lt2
  have g1 : rl < dx := lt1 (rl, _) (by k_mem)
  have g2 : sa < dx := lt1 (sa, _) (by k_mem)
  have g3 : dw < dx := lt1 (dw, _) (by k_mem)
  have g4 : rl < xr := Nat.lt_trans g1 lt2
  have g5 : sa < xr := Nat.lt_trans g2 lt2
  have g6 : dw < xr := Nat.lt_trans g3 lt2
  k_steps
  rename News _ _ _ _ => N9
  rename Fr _ _ _ _ => F9
  refine' pull_go (e := (dw, _)) N9 ?p1 fun N9 => ?_
  case p1 => repeat (first | exact Pull.head | apply Pull.tail)
  refine' pull_go (e := (rl, _)) N9 ?p1 fun N9 => ?_
  case p1 => repeat (first | exact Pull.head | apply Pull.tail)
  refine' pull_go (e := (sa, _)) N9 ?p1 fun N9 => ?_
  case p1 => repeat (first | exact Pull.head | apply Pull.tail)
  exact ret _ _ (.mk _ x y k3 k4 _ _ _ ⟨i, tr, ty, asks⟩ _ (by exact fm4 rfl e4.symm rfl e5.symm) hx hy0 hy F9 N9 (by walk_at "mine_sub") (.mk (by k_mem) (by k_mem) (by k_mem) (by k_mem) (hty.mono (by walk_at "mine_sub")) (hps.imp id fun h => h.mono (by walk_at "mine_sub")))
    ⟨hhd, has, hat⟩ rfl (by k_all) (by k_all) (by k_all))
set_option maxHeartbeats 4000000 in
theorem row_par {sa rl dw aa b9 : Addr} {osa orl od : Obj} {i tk1 na : Nat} {vb : List Value} {asks : List Tr} {ty : Ty}
   (B : Below A₀ base outer h₀) (F : Fr h₀ L h m) (X : Frag.In (hd.heap_1 w.params) h₀) (Nw : News h₀ L h ((sa, osa) :: (rl, orl) :: (dw, od) :: N)) (T : Top p loose mean mg mb h₀)
   (e1 : m (Str.ofString "asks") = some (.ref aa)) (e2 : m (Str.ofString "head") = some (.ref b9)) (e3 : m (Str.ofString "number") = some (.int i tk1)) (e4 : m (Str.ofString "source") = some (.ref sa)) (e5 : m (Str.ofString "rows") = some (.ref rl))
   (n1 : ∀ q ∈ N, q.1 ≠ sa) (n2 : ∀ q ∈ N, q.1 ≠ rl) (n3 : ∀ q ∈ N, q.1 ≠ dw)
   (maa : (aa, tupObj vb na) ∈ N) (hst : StrsAre vb (asks.map Tr.str)) (has : asks.length ≤ 2) (hty : TyIn N (.ref b9) ty) (hhd : ty ∈ heads)
   (hdd : dp + 40 < recursionLimit) (hu : un + 700 < cLine) {st : Stmt} (hs : rowFor[2]? = some st)
   (ret : ∀ s', ParEnd h₀ L m sa rl dw osa orl od ty N g d os s' → R .next s') :
   wpAny (model PySem.Challenge.pw_nu0382_01 w) (ktrTop dp un (some []) cn lawSc L a ccd [] outer) (exec st (envX cn lawSc L a ccd [])) R E ⟨h, g, d, t, os⟩ := by
  conv at hs => lhs; whnf
  cases hs
  have hsc : lawSc.kind = .function := rfl
  rw [kn1 e1, kn1 e2, kn1 e3, kn1 e4, kn1 e5] at F
  have hdt := (head_txt _ hhd).1
  have hdp := (heads_ok _ hhd).2.1
  by_cases hT : ty.hasT = true
  · rw [hT] at hdt
    by_cases hT2 : ty = .T
    · have z9 : ¬ (!decide (ty = .T)) = true := by rw [decide_eq_true hT2]; decide
      k_steps
      rename News _ _ _ _ => N9
      rename Fr _ _ _ _ => F9
      refine' pull_go (e := (dw, _)) N9 ?p1 fun N9 => ?_
      case p1 => repeat (first | exact Pull.head | apply Pull.tail)
      refine' pull_go (e := (rl, _)) N9 ?p1 fun N9 => ?_
      case p1 => repeat (first | exact Pull.head | apply Pull.tail)
      refine' pull_go (e := (sa, _)) N9 ?p1 fun N9 => ?_
      case p1 => repeat (first | exact Pull.head | apply Pull.tail)
      exact ret _ (.mk _ _ _ _ _ [.ref _] [] _ rfl (by exact rfl) (by exact fm6 e2.symm e3.symm rfl e4.symm rfl e5.symm) F9 N9 (by walk_at "mine_sub") (by k_mem) (.inr (.mk hT _ _ _ [] _ _ rfl (by k_mem) (by k_mem) .nil)) (Nat.zero_le _) (fun _ => rfl) (by k_all) (by k_all) (by k_all))
    · have z9 : (!decide (ty = .T)) = true := by rw [decide_eq_false hT2]; rfl
      k_steps
      rename News _ _ _ _ => N9
      rename Fr _ _ _ _ => F9
      refine' pull_go (e := (dw, _)) N9 ?p1 fun N9 => ?_
      case p1 => repeat (first | exact Pull.head | apply Pull.tail)
      refine' pull_go (e := (rl, _)) N9 ?p1 fun N9 => ?_
      case p1 => repeat (first | exact Pull.head | apply Pull.tail)
      refine' pull_go (e := (sa, _)) N9 ?p1 fun N9 => ?_
      case p1 => repeat (first | exact Pull.head | apply Pull.tail)
      exact ret _ (.mk _ _ _ _ _ [.ref _] asks _ rfl (by exact rfl) (by exact fm6 e2.symm e3.symm rfl e4.symm rfl e5.symm) F9 N9 (by walk_at "mine_sub") (by k_mem) (.inr (.mk hT _ _ _ vb _ _ rfl (by k_mem) (by k_mem) hst)) has (fun h => absurd h hT2) (by k_all) (by k_all) (by k_all))
  · rw [Bool.eq_false_iff.mpr hT] at hdt
    k_steps
    rename News _ _ _ _ => N9
    rename Fr _ _ _ _ => F9
    refine' pull_go (e := (dw, _)) N9 ?p1 fun N9 => ?_
    case p1 => repeat (first | exact Pull.head | apply Pull.tail)
    refine' pull_go (e := (rl, _)) N9 ?p1 fun N9 => ?_
    case p1 => repeat (first | exact Pull.head | apply Pull.tail)
    refine' pull_go (e := (sa, _)) N9 ?p1 fun N9 => ?_
    case p1 => repeat (first | exact Pull.head | apply Pull.tail)
    exact ret _ (.mk _ _ _ _ _ [] [] _ rfl (by exact rfl) (by exact fm6 e2.symm e3.symm rfl e4.symm rfl e5.symm) F9 N9 (by walk_at "mine_sub") (by k_mem) (.inl ⟨Bool.eq_false_iff.mpr hT, rfl⟩) (Nat.zero_le _) (fun _ => rfl) (by k_all) (by k_all) (by k_all))
end

-- part LC
-- needs LB
section
variable {w : World} {p : Program} {loose : List Str} {mean : ExcName → Option Value} {mg mb : Str → Option Value}
   {dp un : Nat} {cn : Str} {a : Addr} {ccd : Value} {outer : List Env} {A₀ : Around} {base h₀ : Heap} {L : Addr} {m : Str → Option Value} {N : List (Addr × Obj)} {g : Array GenState} {d : Drawn} {os : OsState} {h : Heap} {t : Nat} {E : Value → Shared → Prop} {R : Flow → Shared → Prop}
theorem RowEnd.weak {m m' : Str → Option Value} {sa rl dw : Addr} {od : Obj} {i : Nat} {vs : List Value} {M N : List (Addr × Obj)} {h' : Heap} (H : RowEnd w h₀ L m' sa rl dw od i vs M h') (hm : ∀ z ∈ nm4, m' z = m z) (hs : ∀ q ∈ N, q ∈ M) : RowEnd w h₀ L m sa rl dw od i vs N h' := by
  obtain ⟨m'', x, y, k1, k2, c, c2, v, r, M', a1, a2, a3, a4, a5, a6, a7, a8, a9, b1, b2, b3, b4⟩ := H
  exact ⟨m'', x, y, k1, k2, c, c2, v, r, M', fun z hz => (a1 z hz).trans (hm z hz), a2, a3, a4, a5, a6, fun q hq => a7 q (hs q hq), a8, a9, b1, b2, b3, b4⟩
theorem nm46 : ∀ z ∈ nm4, z ∈ nm6 := fun z hz => List.mem_cons_of_mem _ (List.mem_cons_of_mem _ hz)
set_option maxHeartbeats 4000000 in
theorem row_turn {sa rl dw : Addr} {x y : Int} {k1 k2 : Tok} {c c2 i tk1 : Nat} {vs : List Value} {od : Obj}
   (B : Below A₀ base outer h₀) (F : Fr h₀ L h m) (X : Frag.In (hd.heap_1 w.params) h₀) (Nw : News h₀ L h ((sa, listOf #[.int x k1, .int y k2] c) :: (rl, listOf (List.toArray vs) c2) :: (dw, od) :: N)) (T : Top p loose mean mg mb h₀)
   (e3 : m (Str.ofString "number") = some (.int i tk1)) (e4 : m (Str.ofString "source") = some (.ref sa)) (e5 : m (Str.ofString "rows") = some (.ref rl))
   (n1 : ∀ q ∈ N, q.1 ≠ sa) (n2 : ∀ q ∈ N, q.1 ≠ rl) (n3 : ∀ q ∈ N, q.1 ≠ dw) (n4 : rl ≠ sa) (n5 : dw ≠ sa) (n6 : dw ≠ rl)
   (hx : 0 ≤ x) (hy0 : 0 ≤ y) (hy : y < 2147483647) (hod : ∀ vs n, od ≠ tupObj vs n) (hvs : vs.toArray.size ≤ sizeLine) (hdd : dp + 50 < recursionLimit) (hu : un + 900 < cLine)
   (ret : ∀ h' tk', RowEnd w h₀ L m sa rl dw od i vs N h' → R .next ⟨h', g, d, tk', os⟩) :
   wpAny (model PySem.Challenge.pw_nu0382_01 w) (ktrTop dp un (some []) cn lawSc L a ccd [] outer) (execs rowFor (envX cn lawSc L a ccd [])) R E ⟨h, g, d, t, os⟩ := by
  conv in rowFor => whnf
  have hsc : lawSc.kind = .function := rfl
  rw [kn1 e3, kn1 e4, kn1 e5] at F
  k_steps
  refine stop_elim ?_
  with_unfolding_all refine' he_call ?k1 ?k2 ?k3 ?k4 ?k5 ?k6 ?k8 ?k9 ?_
  walk_at "mine_calm"
  intro h' tk' hl vh ch tl F' N' lt1 hm1 hts1
  dsimp only [List.cons_append] at N' hts1
  have o1 : ∀ q ∈ tl, q.1 ≠ sa := off_tl lt1 (e := (sa, _)) List.mem_cons_self
  have o2 : ∀ q ∈ tl, q.1 ≠ rl := off_tl lt1 (e := (rl, _)) (List.mem_cons_of_mem _ List.mem_cons_self)
  have o3 : ∀ q ∈ tl, q.1 ≠ dw := off_tl lt1 (e := (dw, _)) (List.mem_cons_of_mem _ (List.mem_cons_of_mem _ List.mem_cons_self))
  k_steps
  refine stop_elim ?_
  with_unfolding_all refine' on_call (vs := vh) ?k1 ?k2 ?k3 ?k4 ?k5 ?k6 ?off hx hy0 hy ?hl ?v0 ?v1 ?k8 ?k9 ?_
  walk_at "mine_calm"
  case off => k_all
  case hl => exact List.mem_cons_of_mem _ (List.mem_cons_of_mem _ (List.mem_append_right _ hm1))
  case v0 => rw [hts1.len]; exact Nat.le_of_ble_eq_true rfl
  case v1 => rw [hts1.len]; exact Nat.le_of_ble_eq_true rfl
  intro h' tk' ih vhd x y k3 k4 c3 hih hx hy0 hy F' N'
  refine hts1.pick hih fun ty hhd hty => ?_
  replace hty := ((hty.strip strip_src).strip strip_src).strip (strip_obj hod)
  obtain ⟨b9, n9, k9, r9, rfl, m9⟩ := hty.first
  k_steps
  refine stop_elim ?_
  with_unfolding_all refine' on_call (vs := [_, _, _, _]) ?k1 ?k2 ?k3 (Pull.news (e := (sa, _)) ?k4 ?kp) ?k5 ?k6 ?off hx hy0 hy ?hl (Nat.succ_pos _) (Nat.le_of_ble_eq_true rfl) ?k8 ?k9 ?_
  walk_at "mine_calm"
  case kp => repeat (first | exact Pull.head | apply Pull.tail)
  case off => k_all
  case hl => k_mem
  intro h' tk' ia va x y k3 k4 c3 hia hx hy0 hy F' N'
  refine' pull_go (e := (dw, _)) N' ?p1 fun N' => ?_
  case p1 => repeat (first | exact Pull.head | apply Pull.tail)
  refine' pull_go (e := (rl, _)) N' ?p1 fun N' => ?_
  case p1 => repeat (first | exact Pull.head | apply Pull.tail)
  refine' pull_go (e := (sa, _)) N' ?p1 fun N' => ?_
  case p1 => repeat (first | exact Pull.head | apply Pull.tail)
  refine' TrsIn.pickN N' (as := [[], [.A], [.B], [.A, .B]]) ?hT hia fun aa vb na asks e9 hasks maa hst => ?_
  case hT => exact .cons (by k_mem) .nil <| .cons (by k_mem) (.cons _ _ .nil) <| .cons (by k_mem) (.cons _ _ .nil) <| .cons (by k_mem) (.cons _ _ (.cons _ _ .nil)) .nil
  subst e9
  replace maa := strip_obj hod _ _ _ (strip_src _ _ _ (strip_src _ _ _ maa))
  have p1 : ∀ q ∈ N, q.1 ≠ sa := n1
  k_steps
  rename News _ _ _ _ => N9
  rename Fr _ _ _ _ => F9
  refine stop_elim ?_
  refine stm_cut (ParEnd h₀ L _ sa rl dw _ _ od ty _ g d os) (fun Q' q' => row_par B F9 X N9 T rfl rfl rfl rfl rfl ?o1 ?o2 ?o3 maa hst (asks_len _ hasks) (hty.mono ?s1) hhd (Nat.lt_of_le_of_lt (Nat.add_le_add_left (Nat.le_of_ble_eq_true rfl) _) hdd) (Nat.lt_of_le_of_lt (Nat.add_le_add_left (Nat.le_of_ble_eq_true rfl) _) hu) rfl q') ?_
  case o1 => k_all
  case o2 => k_all
  case o3 => k_all
  case s1 => walk_at "mine_sub"
  rintro _ ⟨h', tk', m', par, n, ps, asks', M, rfl, q1, hz, F', N', sub, hpar, hps, has, hat, o1, o2, o3⟩
  refine row_app B F' X N' T q1 (hz _ (by simp)) (hz _ (by simp)) (hz _ (by simp)) (hz _ (by simp)) o1 o2 o3 n4 n5 n6 hx hy0 hy hpar hps has hat ((hty.mono ?s1).mono sub) hhd hvs (Nat.lt_of_le_of_lt (Nat.add_le_add_left (Nat.le_of_ble_eq_true rfl) _) hdd) (Nat.lt_of_le_of_lt (Nat.add_le_add_left (Nat.le_of_ble_eq_true rfl) _) hu) fun h' tk' H => ret _ _ (H.weak (fm4 (P := fun z => m' z = m z) (hz _ (by simp)) ((hz _ (by simp)).trans e4.symm) (hz _ (by simp)) ((hz _ (by simp)).trans e5.symm)) fun q hq => sub q ((?s3 : ∀ q ∈ N, q ∈ _) q hq))
  case s1 => walk_at "mine_sub"
  case s3 => walk_at "mine_sub"
end

-- part LD
-- needs LC AR OR
noncomputable def turnFor : List Stmt := forOf lawFor 5
section
variable {w : World} {p : Program} {loose : List Str} {mean : ExcName → Option Value} {mg mb : Str → Option Value}
   {dp un : Nat} {cn : Str} {a : Addr} {ccd : Value} {A₀ : Around} {base h₀ : Heap} {L : Addr} {m : Str → Option Value} {N : List (Addr × Obj)} {g : Array GenState} {d : Drawn} {os : OsState} {h : Heap} {t : Nat} {E : Value → Shared → Prop} {R : Flow → Shared → Prop}
theorem ne_append {N tl : List (Addr × Obj)} : ∀ p ∈ N, p ∈ N ++ tl := fun _ h => List.mem_append_left _ h
set_option maxHeartbeats 4000000 in
theorem tu_turn {sa wa rl bd : Addr} {x y : Int} {k1 k2 : Tok} {c : Nat} {e : Env9}
   (B : Below A₀ base [] h₀) (F : Fr h₀ L h m) (X : Frag.In (hd.heap_1 w.params) h₀) (Nw : News h₀ L h ((sa, listOf #[.int x k1, .int y k2] c) :: N)) (T : Top p loose mean mg mb h₀)
   (XB : Frag.In (hd.heap_1 w.params) base) (TB : Top p loose mean mg mb base)
   (e1 : m (Str.ofString "world") = some (.ref wa)) (e2 : m (Str.ofString "rows") = some (.ref rl)) (e3 : m (Str.ofString "bounds") = some (.ref bd)) (e4 : m (Str.ofString "source") = some (.ref sa))
   (n1 : ∀ q ∈ N, q.1 ≠ sa) (Wi : WorldIn w.params N (.ref wa) e.rows) (hRB : RbIn w N rl bd e) (hro : ∀ r ∈ e.rows, RowOk r) (hrl : e.rows.length ≤ 100)
   (hx : 0 ≤ x) (hy0 : 0 ≤ y) (hy : y < 2147483647) (hdd : dp + 300 < recursionLimit) (hu : un + 4500 < cLine)
   (ret : ∀ h' tk' x y k1 k2 c M, 0 ≤ x → 0 ≤ y → y < 2147483647 → Fr h₀ L h' m → News h₀ L h' ((sa, listOf #[.int x k1, .int y k2] c) :: M) → (∀ q ∈ N, q ∈ M) → (∀ q ∈ M, q.1 ≠ sa) → R .next ⟨h', g, d, tk', os⟩) :
   wpAny (model PySem.Challenge.pw_nu0382_01 w) (ktrTop dp un (some []) cn lawSc L a ccd [] []) (execs turnFor (envX cn lawSc L a ccd [])) R E ⟨h, g, d, t, os⟩ := by
  conv in turnFor => whnf
  have hsc : lawSc.kind = .function := rfl
  rw [kn1 e1, kn1 e2, kn1 e3, kn1 e4] at F
  k_steps
  refine stop_elim ?_
  with_unfolding_all refine' on_call (vs := [_, _, _]) ?k1 ?k2 ?k3 (Pull.news (e := (sa, _)) ?k4 ?kp) ?k5 ?k6 ?off hx hy0 hy ?hl (Nat.succ_pos _) (Nat.le_of_ble_eq_true rfl) ?k8 ?k9 ?_
  walk_at "mine_calm"
  case kp => repeat (first | exact Pull.head | apply Pull.tail)
  case off => k_all
  case hl => k_mem
  intro h' tk' ia va x y k3 k4 c3 hia hx hy0 hy F' N'
  refine tr_pick (ts := [.A, .B, .C]) (.cons _ _ (.cons _ _ (.cons _ _ .nil))) hia fun tr t9 e9 => ?_
  subst e9
  k_steps
  refine stop_elim ?_
  with_unfolding_all refine' cl_call 2 ?k1 ?k2 ?k3 ?k4 ?k5 ?k6 ?off hx hy0 hy rfl (Nat.le_refl _) ?k8 ?k9 ?_
  walk_at "mine_calm"
  case off => k_all
  intro h' tk' v ty M x y k3 k4 c3 hty hc hdp hsz sub off hx hy0 hy F' N'
  k_steps
  refine stop_elim ?_
  have sb : ∀ q ∈ N, q ∈ (sa, listOf #[.int x k3, .int y k4] c3) :: M := fun q hq => List.mem_cons_of_mem _ (sub q (List.mem_cons_of_mem _ hq))
  have hs7 : ty.size ≤ 7 := Nat.le_of_succ_le_succ hsz
  with_unfolding_all refine' ar_call (e := e) (t := ty) B ?k2 X ?k4 T ?k6 XB TB ktsDicts_nil KtsTurn.refl (Wi.mono sb) (hRB.mono sb) (hty.mono fun q hq => List.mem_cons_of_mem _ hq) hc (Nat.le_trans hdp (by decide)) (Nat.le_trans hs7 (by decide)) hro hrl ?k8 ?k9 ?_
  (case k2 => k_asm); (case k4 => k_asm); (case k6 => exact rfl)
  case k8 => exact Nat.lt_of_le_of_lt (Nat.add_le_add_right (Nat.add_le_add_left (Nat.mul_le_mul_left 25 hs7) dp) 90) (Nat.lt_of_le_of_lt (by rw [Nat.add_assoc]; exact Nat.add_le_add_left (Nat.le_of_ble_eq_true rfl) _) hdd)
  case k9 => exact Nat.lt_of_le_of_lt (Nat.add_le_add_right (Nat.add_le_add_left (Nat.mul_le_mul_left 400 hs7) un) 1500) (Nat.lt_of_le_of_lt (by rw [Nat.add_assoc]; exact Nat.add_le_add_left (Nat.le_of_ble_eq_true rfl) _) hu)
  intro h' tk' h₀' BK
  have F' := (Back.nil BK).1
  have N' := (Back.nil BK).2
  clear BK
  k_steps
  exact ret _ _ x y k3 k4 c3 M hx hy0 hy (by rw [kn1 e1, kn1 e2, kn1 e3, kn1 e4]; k_asm) (by k_asm) (fun q hq => sub q (List.mem_cons_of_mem _ hq)) off
end

-- part LE
theorem words_LE : True := by
  k_with "execs cons If" => ((with_reducible show wpAny _ _ (execs [Stmt.If (Expr.UnaryOp UnaryOp.Not _ _) _ _ _] _) _ _ _); refine stop_intro ?_)
  trivial
-- needs LD
section
variable {w : World} {p : Program} {loose : List Str} {mean : ExcName → Option Value} {mg mb : Str → Option Value}
   {dp un : Nat} {cn : Str} {a : Addr} {ccd : Value} {A₀ : Around} {base h₀ : Heap} {L : Addr} {m : Str → Option Value} {N : List (Addr × Obj)} {g : Array GenState} {d : Drawn} {os : OsState} {h : Heap} {t : Nat} {E : Value → Shared → Prop} {R : Flow → Shared → Prop}
set_option maxHeartbeats 4000000 in
theorem law_tail {sc sa wa rl dw : Addr} {x y : Int} {k1 k2 : Tok} {c c2 n : Nat} {vs : List Value} {rows : List Rw} {z1 z2 z3 z4 z5 z6 z7 z8 : Value} {w1 w2 w3 w4 w5 w6 w7 w8 : Tok}
   (B : Below A₀ base [] h₀) (F : Fr h₀ L h m) (X : Frag.In (hd.heap_1 w.params) h₀) (T : Top p loose mean mg mb h₀)
   (Nw : News h₀ L h ((sa, listOf #[.int x k1, .int y k2] c) :: (rl, listOf (List.toArray vs) c2) :: (dw, dictOf [ent w.params "modules" w1 z1, ent w.params "adts" w2 z2, ent w.params "variants" w3 z3, ent w.params "sigs" w4 z4, ent w.params "traits" w5 z5, ent w.params "impls" w6 z6, ent w.params "consts" w7 z7, ent w.params "bodies" w8 z8] n) :: N))
   (XB : Frag.In (hd.heap_1 w.params) base) (TB : Top p loose mean mg mb base)
   (e1 : m (Str.ofString "world") = some (.ref wa)) (e2 : m (Str.ofString "rows") = some (.ref rl)) (e3 : m (Str.ofString "script") = some (.ref sc)) (e4 : m (Str.ofString "source") = some (.ref sa))
   (n1 : ∀ q ∈ N, q.1 ≠ sa) (n2 : ∀ q ∈ N, q.1 ≠ rl) (n3 : ∀ q ∈ N, q.1 ≠ dw) (n4 : rl ≠ sa) (n5 : dw ≠ sa) (n6 : dw ≠ rl)
   (hwa : (wa, instObj 214 dw) ∈ N) (hR : RowsIn w.params N vs rows) (hro : ∀ r ∈ rows, RowOk r) (hrl : rows.length ≤ 100)
   (hx : 0 ≤ x) (hy0 : 0 ≤ y) (hy : y < 2147483647) (hdd : dp + 300 < recursionLimit) (hu : un + 4500 < cLine)
   (hE : PassesOwn (model PySem.Challenge.pw_nu0382_01 w) (ktrTop dp un (some []) cn lawSc L a ccd [] []) (envX cn lawSc L a ccd []) E)
   (ret : ∀ h' tk' m', m' (Str.ofString "script") = some (.ref sc) → Fr h₀ L h' m' → News h₀ L h' N → R .next ⟨h', g, d, tk', os⟩) :
   wpAny (model PySem.Challenge.pw_nu0382_01 w) (ktrTop dp un (some []) cn lawSc L a ccd [] []) (execs (lawFor.drop 3) (envX cn lawSc L a ccd [])) R E ⟨h, g, d, t, os⟩ := by
  conv in lawFor.drop 3 => whnf
  conv in (List.cons _ _ : List Stmt) => arg 2; whnf
  have hsc : lawSc.kind = .function := rfl
  rw [kn1 e1, kn1 e2, kn1 e3, kn1 e4] at F
  k_steps
  with_unfolding_all refine' wi_set ?k2 ?k3 (Pull.news (e := (dw, _)) ?k4 ?kp) ?wa ?off ?_
  (case k2 => k_asm); (case k3 => k_asm); (case k4 => k_asm)
  case kp => repeat (first | exact Pull.head | apply Pull.tail)
  case wa => k_mem
  case off => k_all
  intro h' tk' F' N'
  k_steps
  refine stop_elim ?_
  with_unfolding_all refine' on_call (vs := [_, _, _]) ?k1 ?k2 ?k3 (Pull.news (e := (sa, _)) ?k4 ?kp) ?k5 ?k6 ?off hx hy0 hy ?hl (Nat.succ_pos _) (Nat.le_of_ble_eq_true rfl) ?k8 ?k9 ?_
  walk_at "mine_calm"
  case kp => repeat (first | exact Pull.head | apply Pull.tail)
  case off => k_all
  case hl => k_mem
  intro h' tk' ia va x y k3 k4 c3 hia hx hy0 hy F' N'
  have mk9 : Mark9 := ⟨⟩
  k_steps
  refine stop_elim ?_
  rename News _ _ _ _ => N8
  rename Fr _ _ _ _ => F8
  rename Obj.IsDictOf _ _ (strPairs _) => hdb
  rename (_ == sysModules) = false => hds
  refine' TrsIn.pickN N8 (as := [[], [.A], [.A, .C]]) ?hT hia fun aa vb na bs e9 hbs maa hst => ?_
  case hT => exact .cons (by k_mem) .nil <| .cons (by k_mem) (.cons _ _ .nil) <| .cons (by k_mem) (.cons _ _ (.cons _ _ .nil)) .nil
  subst e9
  replace maa := strip_src _ _ _ maa
  refine' tu_gen (sa := sa) N8 ?s ?w1 ?w2 ?w3 hR ?b1 hds hdb maa hst ?off fun N1 N8 fu => ?_
  case s => walk_at "mine_sub"
  case w1 => k_mem
  case w2 => k_mem
  case w3 => k_mem
  case b1 => k_mem
  case off => k_all
  with_unfolding_all refine range1_rows F8 N8 ?_
  intro h' tk' t1 u1 v1 R' F' N' up'
  k_steps
  refine stop_elim ?_
  clear mk9
  refine it_range (n := 4) (fun _ m nx => tuJ sc sa wa rl _ N1 m nx) rfl F' N' R' rfl (by decide) ⟨rfl, rfl, rfl, rfl, rfl, x, y, k3, k4, c3, N1, rfl, fun _ h => h, hx, hy0, hy, fu.off⟩ ?_ ?_
  · rintro i m₁ _ h tk tk1 I o - hi ⟨e1, e2, e3, e4, e5, x, y, k3, k4, c3, M, rfl, sub, hx, hy0, hy, off⟩ hw F₁ N₁
    rw [kn1 e1, kn1 e2, kn1 e3, kn1 e4, kn1 e5] at F₁
    k_steps
    refine stop_elim ?_
    rename News _ _ _ _ => N9
    rename Fr _ _ _ _ => F9
    have hI : I ≠ sa := fun e => hw _ List.mem_cons_self (e ▸ List.mem_cons_self)
    have hM : ∀ q ∈ M, q.1 ≠ I := fun q hq e => hw q (List.mem_cons_of_mem _ hq) (e ▸ List.mem_cons_self)
    have sI : ∀ q ∈ N1, q ∈ (I, o) :: M := fun q hq => List.mem_cons_of_mem _ (sub q hq)
    refine tu_turn (e := ⟨rows, bs⟩) B F9 X (Pull.news N9 (.tail .head)) T XB TB rfl rfl rfl rfl (List.forall_mem_cons.mpr ⟨hI, off⟩) (fu.wi.mono sI) (fu.rb.mono sI) hro hrl hx hy0 hy hdd hu ?_
    intro h' tk' x y k3 k4 c3 M' hx hy0 hy F' N' sub' off'
    exact FStep.intro ((sa, _) :: offI I M') (.inl rfl) rfl F' N' (by
      intro q hq
      rcases List.mem_cons.mp hq with rfl | hq
      · exact List.mem_cons_of_mem _ (sub' _ List.mem_cons_self)
      · exact (List.mem_cons.mp hq).elim (fun e => e ▸ List.mem_cons_self) fun hq => List.mem_cons_of_mem _ (offI_sub q hq)) (List.forall_mem_cons.mpr ⟨fun e => hI (List.mem_singleton.mp e).symm, fun q hq e => offI_ne q hq (List.mem_singleton.mp e)⟩)
      ⟨rfl, rfl, rfl, rfl, rfl, x, y, k3, k4, c3, _, rfl, fun q hq => offI_mem (sub' q (sI q hq)) (hM q (sub q hq)), hx, hy0, hy, fun q hq => off' q (offI_sub q hq)⟩
  · rintro m₁ _ h tk ⟨e1, e2, e3, e4, e5, x, y, k3, k4, c3, M, rfl, sub, hx, hy0, hy, off⟩ F₁ N₁
    rw [kn1 e1, kn1 e2, kn1 e3, kn1 e4, kn1 e5] at F₁
    k_steps
    refine stop_elim ?_
    with_unfolding_all refine' lt_var (tr := .A) B ?k2 X ?k4 T ?k6 XB TB ktsDicts_nil KtsTurn.refl ?m9 ?k8 ?k9 ?_
    (case k2 => k_asm); (case k4 => k_asm); (case k6 => exact rfl); (case m9 => k_mem); (case k8 => walk_at "mine_rm"); (case k9 => walk_at "mine_rm")
    intro h' tk' kf h₀' BK
    have F' := (Back.nil BK).1
    have N' := (Back.nil BK).2
    clear BK
    k_steps
    refine stop_elim ?_
    obtain ⟨vs9, c9, r1, r2⟩ := fu.rb.rows
    with_unfolding_all refine' or_call B ?k2 X ?k4 T ?k6 ?m9 (RowsIn.mono ?s9 r2) hro ?k8 ?k9 ?_
    (case k2 => k_asm); (case k4 => k_asm); (case k6 => exact rfl); (case m9 => exact List.mem_cons_of_mem _ (List.mem_cons_of_mem _ (sub _ r1))); (case s9 => exact fun q hq => List.mem_cons_of_mem _ (List.mem_cons_of_mem _ (sub q hq))); (case k8 => walk_at "mine_rm"); (case k9 => walk_at "mine_rm")
    intro h' tk' F' N'
    k_steps
    rename News _ _ _ _ => N9
    exact ret _ _ _ rfl (by k_asm) (news_sub N9 fun q hq => List.mem_cons_of_mem _ (List.mem_cons_of_mem _ (sub q (fu.sub q hq))))
end

-- part LG
theorem words_LG : True := by
  k_with "execs cons Assign" => ((with_reducible show wpAny _ _ (execs (Stmt.Assign [Expr.Name _ _] (Expr.Call (Expr.Name _ _) [Expr.Name _ _, Expr.Call _ _ _ _] _ _) _ :: _) _) _ _ _); refine stop_intro ?_)
  k_with "execs cons Assign" => ((with_reducible show wpAny _ _ (execs (Stmt.Assign [Expr.Attribute _ _ _] (Expr.Name _ _) _ :: _) _) _ _ _); refine stop_intro ?_)
  trivial
-- needs LE
inductive rwJ (w : World) (sc sa rl dw wa : Addr) (od : Obj) (N : List (Addr × Obj)) (i : Nat) (m : Str → Option Value) (nx : List (Addr × Obj)) : Prop
  | mk : m (Str.ofString "script") = some (.ref sc) → m (Str.ofString "source") = some (.ref sa) → m (Str.ofString "world") = some (.ref wa) → m (Str.ofString "rows") = some (.ref rl) →
    ∀ (vs : List Value) (c : Nat) (x y : Int) (k1 k2 : Tok) (c2 : Nat) (R : List (Addr × Obj)) (rows : List Rw), nx = (sa, listOf #[.int x k1, .int y k2] c2) :: (rl, listOf (List.toArray vs) c) :: (dw, od) :: R → RowsIn w.params R vs rows → rows.length = i → (∀ r ∈ rows, RowOk r) → 0 ≤ x → 0 ≤ y → y < 2147483647 →
    (∀ q ∈ N, q ∈ R) → (∀ q ∈ R, q.1 ≠ sa) → (∀ q ∈ R, q.1 ≠ rl) → (∀ q ∈ R, q.1 ≠ dw) → rwJ w sc sa rl dw wa od N i m nx
theorem RowIn.strip {P : Params} {M M' : List (Addr × Obj)} (hs : ∀ q ∈ M', q.2.cls ≠ .type "range_iterator" → q ∈ M) {v : Value} {r : Rw} (h : RowIn P M' v r) : RowIn P M v r := by
  have ht : ∀ b vs n, (b, tupObj vs n) ∈ M' → (b, tupObj vs n) ∈ M := fun b vs n h => hs _ h (fun e => absurd (Value.type.inj e) (by decide))
  have hl : ∀ b (xs : Array Value) n, (b, listOf xs n) ∈ M' → (b, listOf xs n) ∈ M := fun b vs n h => hs _ h (fun e => absurd (Value.type.inj e) (by decide))
  obtain ⟨h1, h2, h3, h4, h5, h6⟩ := h
  refine .mk (hs _ h1 nofun) (hs _ h2 (fun e => absurd (Value.type.inj e) (by decide))) (hl _ _ _ h3) (ht _ _ _ h4) (h5.strip ht) (h6.imp id fun ⟨e, pt, aa, tT, vs, n4, n5, e1, m1, m2, s⟩ => ⟨e, pt, aa, tT, vs, n4, n5, e1, ht _ _ _ m1, ht _ _ _ m2, s⟩)
theorem RowsIn.snoc {P : Params} {N : List (Addr × Obj)} {vs : List Value} {rs : List Rw} {v : Value} {r : Rw} (h : RowsIn P N vs rs) (g : RowIn P N v r) : RowsIn P N (vs ++ [v]) (rs ++ [r]) := by
  induction h with
  | nil => exact .cons g .nil
  | cons a _ ih => exact .cons a ih
theorem row_sb {I : Addr} {o : Obj} {e1 e2 e3 : Addr × Obj} {M : List (Addr × Obj)} (h : (I, o) ∈ M) : ∀ p ∈ [(I, o)] ++ (e1 :: e2 :: e3 :: offI I M), p ∈ e1 :: e2 :: e3 :: M := by
  have c : ∀ {p : Addr × Obj}, p ∈ M → p ∈ e1 :: e2 :: e3 :: M := fun h => List.mem_cons_of_mem _ (List.mem_cons_of_mem _ (List.mem_cons_of_mem _ h))
  exact List.forall_mem_cons.mpr ⟨c h, List.forall_mem_cons.mpr ⟨List.mem_cons_self, List.forall_mem_cons.mpr ⟨List.mem_cons_of_mem _ List.mem_cons_self, List.forall_mem_cons.mpr ⟨List.mem_cons_of_mem _ (List.mem_cons_of_mem _ List.mem_cons_self), fun p hp => c (offI_sub p hp)⟩⟩⟩⟩
theorem row_wr {I : Addr} {e1 e2 e3 : Addr × Obj} {M : List (Addr × Obj)} (h1 : I ≠ e1.1) (h2 : I ≠ e2.1) (h3 : I ≠ e3.1) : ∀ p ∈ e1 :: e2 :: e3 :: offI I M, p.1 ∉ [I] := by
  have c : ∀ {x : Addr}, I ≠ x → x ∉ [I] := fun h e => h (List.mem_singleton.mp e).symm
  exact List.forall_mem_cons.mpr ⟨c h1, List.forall_mem_cons.mpr ⟨c h2, List.forall_mem_cons.mpr ⟨c h3, fun p hp => c (Ne.symm (offI_ne p hp))⟩⟩⟩
theorem row_cls {h₀ h : Heap} {L I : Addr} {o : Obj} {e1 e2 e3 : Addr × Obj} {M : List (Addr × Obj)} (N : News h₀ L h (e1 :: e2 :: e3 :: M)) (hm : (I, o) ∈ M) (hri : o.cls = .type "range_iterator") : ∀ q ∈ M, q.2.cls ≠ .type "range_iterator" → q ∈ offI I M := by
  have c : ∀ {p : Addr × Obj}, p ∈ M → p ∈ e1 :: e2 :: e3 :: M := fun h => List.mem_cons_of_mem _ (List.mem_cons_of_mem _ (List.mem_cons_of_mem _ h))
  exact fun q hq hc => offI_mem hq fun e => hc (by
    have h1 := (N q (c hq)).1
    rw [e, (N (I, o) (c hm)).1] at h1
    rw [← Option.some.inj h1]
    exact hri)
section
variable {w : World} {p : Program} {loose : List Str} {mean : ExcName → Option Value} {mg mb : Str → Option Value}
   {dp un : Nat} {cn : Str} {a : Addr} {ccd : Value} {A₀ : Around} {base h₀ : Heap} {L : Addr} {m : Str → Option Value} {N : List (Addr × Obj)} {g : Array GenState} {d : Drawn} {os : OsState} {h : Heap} {t : Nat} {E : Value → Shared → Prop} {R : Flow → Shared → Prop}
set_option maxHeartbeats 4000000 in
theorem law_k {sc : Addr} {k : Nat} {kt : Tok} {vs0 : List Value} {ns : List Int}
   (B : Below A₀ base [] h₀) (F : Fr h₀ L h m) (X : Frag.In (hd.heap_1 w.params) h₀) (T : Top p loose mean mg mb h₀) (Nw : News h₀ L h N)
   (XB : Frag.In (hd.heap_1 w.params) base) (TB : Top p loose mean mg mb base)
   (e1 : m (Str.ofString "script") = some (.ref sc)) (e2 : m (Str.ofString "k") = some (.int k kt)) (hL : h₀.IsList sc vs0.toArray) (hI : IntsAre vs0 ns) (hl : ns.length ≤ 63) (hk : k ≤ 1)
   (hdd : dp + 300 < recursionLimit) (hu : un + 4500 < cLine)
   (hE : PassesOwn (model PySem.Challenge.pw_nu0382_01 w) (ktrTop dp un (some []) cn lawSc L a ccd [] []) (envX cn lawSc L a ccd []) E)
   (ret : ∀ h' tk' m', m' (Str.ofString "script") = some (.ref sc) → Fr h₀ L h' m' → News h₀ L h' N → R .next ⟨h', g, d, tk', os⟩) :
   wpAny (model PySem.Challenge.pw_nu0382_01 w) (ktrTop dp un (some []) cn lawSc L a ccd [] []) (execs lawFor (envX cn lawSc L a ccd [])) R E ⟨h, g, d, t, os⟩ := by
  conv in lawFor => whnf
  have hsc : lawSc.kind = .function := rfl
  rw [kn1 e1, kn1 e2] at F
  k_steps
  refine stop_elim ?_
  with_unfolding_all refine' pl_call ?k1 ?k2 ?k3 ?k4 ?k5 ?k6 hL hI hl (Int.natCast_nonneg k) ?h2 ?k8 ?k9 ?_
  walk_at "mine_calm"
  case h2 => exact Int.ofNat_le.mpr (Nat.le_succ_of_le hk)
  intro h' tk' sa x y k1 k2 c hx hy0 hy F' N' off
  k_steps
  refine stop_elim ?_
  with_unfolding_all refine' wo_call ?k1 ?k2 ?k3 ?k4 ?k5 ?k6 ?off ?k8 ?k9 ?_
  walk_at "mine_calm"
  case off => k_all
  intro h' tk' wa dw w1 w2 w3 w4 w5 w6 w7 w8 z1 z2 z3 z4 z5 z6 z7 z8 n M hwa F' N' hM hMd hMs hsd
  have mk9 : Mark9 := ⟨⟩
  k_steps
  refine stop_elim ?_
  with_unfolding_all refine' tk_call ?k1 ?k2 ?k3 (Pull.news ?k4 ?kp) ?k5 ?k6 ?off hx hy0 hy (by decide) (by decide) ?k8 ?k9 ?_
  walk_at "mine_calm"
  case kp => repeat (first | exact Pull.head | apply Pull.tail)
  case off => k_all
  intro h' tk' r kr x y k3 k4 c3 hr0 hr1 hx hy0 hy F' N'
  k_steps
  refine stop_elim ?_
  rename Fr _ _ _ _ => F8
  rename dw < _ ∧ sa < _ ∧ AllLt _ M => lr
  have n4 := Nat.ne_of_gt lr.2.1
  have n6 := Nat.ne_of_lt lr.1
  refine' pull_go (e := (dw, _)) N' ?p1 fun N' => ?_
  case p1 => repeat (first | exact Pull.head | apply Pull.tail)
  refine' pull_go (e := (_, listOf #[] 0)) N' ?p2 fun N' => ?_
  case p2 => repeat (first | exact Pull.head | apply Pull.tail)
  refine' pull_go (e := (sa, _)) N' ?p3 fun N' => ?_
  case p3 => repeat (first | exact Pull.head | apply Pull.tail)
  with_unfolding_all refine range1_rows F8 N' ?_
  intro h' tk' t1 u1 v1 R' F' N' up'
  k_steps
  refine stop_elim ?_
  clear mk9
  refine it_range (n := Int.toNat _) (rwJ w sc sa _ dw wa _ M) rfl F' N' R' (Int.toNat_of_nonneg ?hz).symm ?hn ⟨rfl, rfl, rfl, rfl, [], _, _, _, _, _, _, _, [], rfl, .nil, rfl, (fun _ h => nomatch h), hx, hy0, hy, (fun _ h => List.mem_cons_of_mem _ h), ?g2, ?g3, ?g4⟩ ?_ ?_
  case hz => omega
  case hn => omega
  case g2 => k_all
  case g3 => k_all
  case g4 => k_all
  · rintro i m₁ _ h tk tk1 I o hri hi ⟨e1, e2, e3, e4, vs, c2, x, y, k3, k4, c3, R, rows, rfl, hR, hlen, hro, hx, hy0, hy, sub, n1, n2, n3⟩ hw F₁ N₁
    rw [kn1 e1, kn1 e2, kn1 e3, kn1 e4] at F₁
    k_steps
    refine stop_elim ?_
    rename News _ _ _ _ => N9
    rename Fr _ _ _ _ => F9
    refine' pull_go N9 (.tail (.tail (.tail .head))) fun N9 => ?_
    refine' pull_go N9 (.tail (.tail (.tail .head))) fun N9 => ?_
    refine' pull_go N9 (.tail (.tail (.tail .head))) fun N9 => ?_
    have i1 : I ≠ sa := fun e => hw _ List.mem_cons_self (e ▸ List.mem_cons_self)
    have i2 := fun e => hw _ (List.mem_cons_of_mem _ List.mem_cons_self) (List.mem_singleton.mpr (Eq.symm e))
    have i3 : I ≠ dw := fun e => hw _ (List.mem_cons_of_mem _ (List.mem_cons_of_mem _ List.mem_cons_self)) (e ▸ List.mem_cons_self)
    have i4 : ∀ q ∈ R, q.1 ≠ I := fun q hq e => hw q (List.mem_cons_of_mem _ (List.mem_cons_of_mem _ (List.mem_cons_of_mem _ hq))) (e ▸ List.mem_cons_self)
    have hvs : vs.toArray.size ≤ sizeLine := by
      rw [List.size_toArray, hR.len, hlen]
      exact Nat.le_trans (Nat.le_of_lt (Nat.lt_of_lt_of_le hi (by omega))) (Nat.le_trans (Nat.le_of_ble_eq_true rfl : 100 ≤ 100000) sizeLine_ge)
    refine row_turn B F9 X N9 T rfl rfl rfl (List.forall_mem_cons.mpr ⟨i1, n1⟩) (List.forall_mem_cons.mpr ⟨i2, n2⟩) (List.forall_mem_cons.mpr ⟨i3, n3⟩) n4 (Ne.symm hsd) n6 hx hy0 hy (fun vs n e => absurd (Value.type.inj (congrArg Obj.cls e)) (by decide)) hvs (Nat.lt_of_le_of_lt (Nat.add_le_add_left (Nat.le_of_ble_eq_true rfl) _) hdd) (Nat.lt_of_le_of_lt (Nat.add_le_add_left (Nat.le_of_ble_eq_true rfl) _) hu) ?_
    rintro h' tk' ⟨m', x, y, k1, k2, c, c2, v, r, M', hz, hx, hy0, hy, F', N', sub', hr, hok, hnum, o1, o2, o3⟩
    have hIo : (I, o) ∈ M' := sub' _ List.mem_cons_self
    exact FStep.intro ((sa, _) :: (_, _) :: (dw, _) :: offI I M') (.inl rfl) rfl F' N' (row_sb hIo) (row_wr i1 i2 i3)
      ⟨hz _ List.mem_cons_self, hz _ (List.mem_cons_of_mem _ List.mem_cons_self), hz _ (List.mem_cons_of_mem _ (List.mem_cons_of_mem _ List.mem_cons_self)), hz _ (List.mem_cons_of_mem _ (List.mem_cons_of_mem _ (List.mem_cons_of_mem _ List.mem_cons_self))),
        vs ++ [v], c2, x, y, k1, k2, c, offI I M', rows ++ [r], rfl, (hR.mono fun q hq => offI_mem (sub' q (List.mem_cons_of_mem _ hq)) (i4 q hq)).snoc (hr.strip (row_cls N' hIo hri)), by rw [List.length_append, hlen]; rfl,
        fun r' h' => (List.mem_append.mp h').elim (hro r') fun h' => List.mem_singleton.mp h' ▸ hok, hx, hy0, hy, fun q hq => offI_mem (sub' q (List.mem_cons_of_mem _ (sub q hq))) (i4 q (sub q hq)), fun q hq => o1 q (offI_sub q hq), fun q hq => o2 q (offI_sub q hq), fun q hq => o3 q (offI_sub q hq)⟩
  · rintro m₁ _ h tk ⟨e1, e2, e3, e4, vs, c2, x, y, k3, k4, c3, R, rows, rfl, hR, hlen, hro, hx, hy0, hy, sub, n1, n2, n3⟩ F₁ N₁
    rw [kn1 e1, kn1 e2, kn1 e3, kn1 e4] at F₁
    k_steps
    refine stop_elim ?_
    refine law_tail (sc := sc) B F₁ X T N₁ XB TB rfl rfl rfl rfl n1 n2 n3 n4 (Ne.symm hsd) n6 (sub _ hwa) hR hro (by rw [hlen]; omega) hx hy0 hy hdd hu hE ?_
    intro h' tk' m' e F' N'
    exact ret h' tk' m' e F' (news_sub N' fun q hq => sub q (hM q hq))
end

-- part LI
-- needs LG
noncomputable def row9 : Rw := ⟨0, .A, .box .T, [.B]⟩
noncomputable def env9 : Env9 := ⟨[row9], []⟩
theorem end_f : env9.rows.filter (cand env9 .A (.box .bool)) = [] := by
  have h : ok env9 .B .bool = false := by
    rw [ok_eq]
    show (false || (cand env9 .B .bool row9 || false)) = false
    rw [cand_ne (by decide)]; rfl
  have h2 : cand env9 .A (.box .bool) row9 = false := by
    unfold cand
    show (true && true && (if _ then (([Tr.B].all fun a => ok env9 a .bool)) else true)) = false
    rw [if_pos (by decide)]
    show (true && (ok env9 .B .bool && true)) = false
    rw [h]; rfl
  show (match cand env9 .A (.box .bool) row9 with | true => _ | false => _) = []
  rw [h2]; rfl
section
variable {w : World} {p : Program} {loose : List Str} {mean : ExcName → Option Value} {mg mb : Str → Option Value}
   {dp un : Nat} {cn : Str} {a : Addr} {ccd : Value} {A₀ : Around} {base h₀ : Heap} {L : Addr} {m : Str → Option Value} {N : List (Addr × Obj)} {g : Array GenState} {d : Drawn} {os : OsState} {h : Heap} {t : Nat} {E : Value → Shared → Prop} {R : Flow → Shared → Prop}
set_option maxHeartbeats 4000000 in
theorem law_end
   (B : Below A₀ base [] h₀) (F : Fr h₀ L h m) (X : Frag.In (hd.heap_1 w.params) h₀) (T : Top p loose mean mg mb h₀) (Nw : News h₀ L h N)
   (hdd : dp + 300 < recursionLimit) (hu : un + 4500 < cLine)
   (ret : ∀ h' tk' m', Fr h₀ L h' m' → News h₀ L h' N → R (.ret (.bool true)) ⟨h', g, d, tk', os⟩) :
   wpAny (model PySem.Challenge.pw_nu0382_01 w) (ktrTop dp un (some []) cn lawSc L a ccd [] []) (execs (lawAll.1.drop 1) (envX cn lawSc L a ccd [])) R E ⟨h, g, d, t, os⟩ := by
  conv in lawAll.1.drop 1 => whnf
  conv in (List.cons _ _ : List Stmt) => arg 2; whnf
  have hsc : lawSc.kind = .function := rfl
  k_steps
  refine stop_elim ?_
  with_unfolding_all refine' wo_new ?k1 ?k2 ?k3 ?k4 ?k5 ?k6 ?k8 ?k9 ?_
  walk_at "mine_calm"
  intro h' tk' wa dw w1 w2 w3 w4 w5 w6 w7 w8 z1 z2 z3 z4 z5 z6 z7 z8 n M hwa F' N' sub hM lt1 lt2 _
  k_steps
  refine stop_elim ?_
  with_unfolding_all refine' ir_call ?k1 ?k2 ?k3 ?k4 ?k5 ?k6 ?k8 ?k9 ?_
  walk_at "mine_calm"
  intro h' tk' xr dx j1 j2 j3 j4 j5 j6 j7 j8 v8 n8 F' N' lt3 lt4
  have g1 : dw < dx := lt3 (dw, _) (by k_mem)
  have g2 : dw < xr := Nat.lt_trans g1 lt4
  k_steps
  with_unfolding_all refine' wi_set ?k2 ?k3 (Pull.news (e := (dw, _)) ?k4 ?kp) ?wa ?off ?_
  (case k2 => k_asm); (case k3 => k_asm); (case k4 => k_asm)
  case kp => repeat (first | exact Pull.head | apply Pull.tail)
  case wa => k_mem
  case off => k_all
  intro h' tk' F' N'
  k_steps
  refine stop_elim ?_
  with_unfolding_all refine' se_call (e := env9) (t := .box .bool) (tr := .A) ?k1 ?k2 ?k3 ?k4 ?k5 ?k6 ?wi ?b1 ?b2 ?b3 (.inl ⟨rfl, rfl⟩) ?mt ?ty rfl (Nat.le_of_ble_eq_true rfl) (Nat.le_of_ble_eq_true rfl) ?ro (Nat.le_of_ble_eq_true rfl) ?k8 ?k9 ?_ ?_ ?_ ?_
  (case k1 => k_asm); (case k2 => k_asm); (case k3 => k_asm); (case k4 => k_asm); (case k5 => k_asm); (case k6 => exact rfl)
  case k8 => show dp + 25 * 2 + 60 < recursionLimit; omega
  case k9 => show un + 400 * 2 + 1000 < cLine; omega
  case b1 => k_mem
  case b2 => assumption
  case b3 => assumption
  case mt => k_mem
  case ty => exact .box (by k_mem) (.bool (by k_mem))
  case ro => exact List.forall_mem_cons.mpr ⟨⟨by decide, by decide, fun h => absurd h (by decide)⟩, fun _ h => nomatch h⟩
  case wi => exact .mk (by k_mem) (by k_mem) (by k_mem) (.cons (.mk (by k_mem) (by k_mem) (by k_mem) (by k_mem) (.box (by k_mem) (.T (by k_mem))) (.inr (.mk rfl _ _ _ _ _ _ rfl (by k_mem) (by k_mem) (.cons _ _ .nil)))) .nil)
  · intro h; exact absurd h (by decide)
  · intro _ _ h' tk' F' N'
    k_steps
    exact ret _ _ _ F' (news_sub N' (by intro q9 hq9; replace hq9 := sub q9 hq9; walk_at "mine_up"))
  · intro _ r h; rw [end_f] at h; cases h
  · intro _ h; rw [end_f] at h; exact absurd h (by decide)
end

-- part FI
theorem words_FI : True := by
  k_with "execs cons Assign" => ((first | (with_reducible show wpAny _ _ (execs (Stmt.Assign [Expr.Name _ _] (Expr.Call (Expr.Name _ _) [Expr.Name _ _, Expr.Name _ _] _ _) _ :: _) _) _ _ _) | (with_reducible show wpAny _ _ (execs (Stmt.Assign [Expr.Name _ _] (Expr.Call (Expr.Name _ _) [Expr.Constant _ _ _] _ _) _ :: _) _) _ _ _)); refine stop_intro ?_)
  trivial
-- needs LI
set_option maxHeartbeats 4000000 in
theorem fin9 : PySem.Challenge.rw_nu0382_01.Holds := hd (by
  k_fill
  intro w s₀ s₁ mg mb G Y fa o pm cd doc dV kV ho hd hcd hD hmg hg args vals as hpre hlay hrd hwl hlo
  have KX := kIn_of Y
  have X := (Ground.X G).1
  have V := (Ground.X G).2
  refine Ground.open G ?_
  intro T B D TE TW
  try (refine guard_noD D (by decide +kernel) ?_; clear D)
  obtain ⟨_, _, M⟩ := bmod_of_top T
  have TA := at_of_top T
  try (obtain ⟨_, _, he, B0⟩ := based_of_top T rfl hmg ho hd; have he' : cd = _ := he; subst he'; clear he)
  clear hmg
  wrow_args hpre hlay hrd hwl hlo
  all_goals (
    first | refine callC_kw (enter_call ?_) | refine enter_call ?_ | refine callC_kw (enter_callW ?_) | refine enter_callW ?_ | w_how
    w_top on
    try refine codeAny_mono ?_ (fun _ _ g => GoodW.toG g)
    have K0 := below_caller (Top.heap T)
    w_call any ho hd hcd hD T F
    clear hd TA
    k_drop
    skip)
  all_goals (try k_fold)
  have mk9 : Mark9 := ⟨⟩
  k_steps
  refine stop_elim ?_
  rename Fr _ _ _ _ => F8
  rename News _ _ _ _ => N8
  with_unfolding_all refine range1_rows F8 N8 ?_
  intro h' tk' t1 u1 v1 R' F' N' up'
  k_steps
  refine stop_elim ?_
  rename Heap.IsList _ _ _ => hL9
  rename IntsAre _ _ => hI9
  rename Top _ _ _ _ _ _ => T9
  rename Frag.In _ _ => X9
  rename World => w9
  refine it_range (n := Int.toNat _) (fun i m nx => m (Str.ofString "script") = some (.ref _)) rfl F' N' R' (Int.toNat_of_nonneg ?hz).symm ?hn rfl ?_ ?_
  case hz => split <;> (try split) <;> omega
  case hn => split <;> (try split) <;> omega
  · intro i m₁ nx h tk tk1 I o hri hi e1 hw F₁ N₁
    replace hi : i ≤ 1 := by revert hi; split <;> (try split) <;> omega
    rw [kn1 e1] at F₁
    k_steps
    refine stop_elim ?_
    rename News _ _ _ _ => N9
    rename Fr _ _ _ _ => F9
    with_unfolding_all refine' law_k (below_caller _) F9 X9 T9 N9 X9 T9 rfl rfl hL9 hI9 ?hl hi ?hd ?hu ?hE ?_
    case hl => omega
    case hd => decide
    case hu => decide
    case hE => with_unfolding_all passes_own
    intro h' tk' m' e F' N'
    exact FStep.intro [] (.inl rfl) rfl F' N' (fun q hq => List.mem_singleton.mp hq ▸ List.mem_cons_self) (fun _ h => nomatch h) e
  · intro m₁ nx h tk e1 F₁ N₁
    k_steps
    refine stop_elim ?_
    with_unfolding_all refine' law_end (below_caller _) F₁ X9 T9 N₁ ?hd ?hu ?_
    case hd => decide
    case hu => decide
    intro h' tk' m' F' N'
    k_steps)

end Mine

theorem PySem.Challenge.cw_nu0382_01_holds : PySem.Challenge.rw_nu0382_01.Holds :=
  Mine.fin9
